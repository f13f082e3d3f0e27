import PyProof.Rows.All
import Wide.All
import OpenK.AllK
import Wide.FinOn
import HandS.ForDict
import HandS.ForMost
import HandS.Text
import HandS.RaiseMore
import PyProof.ReprRoads
import HandS.Conv
import HandS.Iter
import HandS.ForExc
import HandS.Flow
import HandS.Deep
import HandS.IsInst
import HandS.TupAny
import HandS.TupLen
import HandS.Small
import HandS.Style
import HandS.Wide
import HandS.ListEq
import PySem.Challenge.RW_lentwise_k01_care_and_needs
set_option Elab.async false
set_option linter.all false
set_option maxRecDepth 100000
/-! A small language of its own: data, heap, expressions, statements, and what they compute. -/
namespace Lw
open PySem (Str)

/-- data: tuples and lists that nobody changes are values; ref n: the n-th object of the heap; sct: the script; ktp: a tuple that the top has made -/
inductive D where
  | non | bl (b : Bool) | int (i : Int) | str (s : Str) | tup (l : List D) | lst (l : List D) | ref (n : Nat) | exn (c : Nat)
  | sct (l : List D)
  | ktp (l : List D)
  deriving Inhabited

abbrev Key := L2.Key
/-- the heap's objects -/
inductive O where
  | lst (l : List D)
  | dK (kvs : List (Key × D))
  | dT (kvs : List (List Key × D))
  | ins (c : Nat) (fs : List (Str × D))
  deriving Inhabited
abbrev Hs := List O
abbrev Env := List (Option D)
/-- an exception: its class by number, what it was made with -/
structure Xn where
  cls : Nat
  val : D

inductive R (α : Type) where
  | ok (a : α) (m : Hs)
  | exc (x : Xn) (m : Hs)
  | stuck
def R.bind {α β : Type} : R α → (α → Hs → R β) → R β
  | .ok a m, f => f a m
  | .exc x m, _ => .exc x m
  | .stuck, _ => .stuck
@[simp] theorem R.bind_ok {α β : Type} (a : α) (m : Hs) (f : α → Hs → R β) : (R.ok a m).bind f = f a m := rfl
@[simp] theorem R.bind_exc {α β : Type} (x : Xn) (m : Hs) (f : α → Hs → R β) : (R.exc x m : R α).bind f = .exc x m := rfl
@[simp] theorem R.bind_stuck {α β : Type} (f : α → Hs → R β) : (R.stuck : R α).bind f = .stuck := rfl
def R.of {α : Type} (o : Option α) (m : Hs) : R α := match o with | some a => .ok a m | none => .stuck
@[simp] theorem R.of_some {α : Type} (a : α) (m : Hs) : R.of (some a) m = .ok a m := rfl
@[simp] theorem R.of_none {α : Type} (m : Hs) : R.of (none : Option α) m = .stuck := rfl
/-- a statement's end -/
inductive RS where
  | nx (ρ : Env) (m : Hs)
  | rt (d : D) (m : Hs)
  | bk (ρ : Env) (m : Hs)
  | ct (ρ : Env) (m : Hs)
  | xc (x : Xn) (ρ : Env) (m : Hs)
  | st
def R.thn {α : Type} (r : R α) (ρ : Env) (f : α → Hs → RS) : RS := match r with
  | .ok a m => f a m
  | .exc x m => .xc x ρ m
  | .stuck => .st
@[simp] theorem R.thn_ok {α : Type} (a : α) (m : Hs) (ρ : Env) (f : α → Hs → RS) : (R.ok a m).thn ρ f = f a m := rfl
@[simp] theorem R.thn_exc {α : Type} (x : Xn) (m : Hs) (ρ : Env) (f : α → Hs → RS) : (R.exc x m : R α).thn ρ f = .xc x ρ m := rfl
@[simp] theorem R.thn_stuck {α : Type} (ρ : Env) (f : α → Hs → RS) : (R.stuck : R α).thn ρ f = .st := rfl
def RS.thn : RS → (Env → Hs → RS) → RS
  | .nx ρ m, f => f ρ m
  | r, _ => r

inductive Bop where | add | sub | mul | fdiv | mod | pow
  deriving DecidableEq
inductive Cop where | lt | le | gt | ge | eq | ne | isin | notin
  deriving DecidableEq
inductive Ty where | int | bool | str | tuple | list | dict
  deriving DecidableEq
/-- built-in functions -/
inductive Bi where | len | all | any | sum | min2 | max2 | int1 | bool1 | str1 | tup1 | repr1
  deriving DecidableEq
/-- methods of one argument that change nothing and tell nothing new -/
inductive M1 where | join
  deriving DecidableEq

mutual
inductive E where
  | cst (d : D)
  | glob (k : Nat)
  | var (i : Nat)
  | tup (es : Es)
  | fz (l : L)
  | alc (l : L)
  | bin (op : Bop) (a b : E)
  | neg (a : E)
  | cmp (op : Cop) (a b : E)
  | chain (o1 o2 : Cop) (a b c : E)
  | isN (ng : Bool) (a : E)
  | isB (ng : Bool) (a b : E)
  | and (a : E) (es : Es)
  | or (a : E) (es : Es)
  | not (a : E)
  | ife (c a b : E)
  | idx (a b : E)
  | slc (a : E) (lo hi : Oe)
  | call (f : Nat) (es : Es)
  | bi (b : Bi) (es : Es)
  | isi (t : Ty) (a : E)
  | append (o e : E)
  | dsp (kvs : Ks)
  | dnw (tk : Bool)
  | m1 (k : M1) (o e : E)
inductive Es where
  | nil
  | cons (e : E) (es : Es)
inductive Oe where
  | no
  | so (e : E)
inductive Ks where
  | nil
  | cons (k : Str) (e : E) (ks : Ks)
/-- new lists -/
inductive L where
  | disp (es : Es)
  | lc (own : List Nat) (t : T) (it : I) (elt : E)
  | lcIf (own : List Nat) (t : T) (it : I) (c elt : E)
  | rng3 (a b c : E)
  | lstOf (e : E)
/-- what is walked -/
inductive I where
  | seq (e : E)
  | rng1 (a : E)
  | rng2 (a b : E)
/-- targets -/
inductive T where
  | nm (i : Nat)
  | tp (ts : Ts)
inductive Ts where
  | nil
  | cons (t : T) (ts : Ts)
end
mutual
inductive S where
  | expr (e : E)
  | asg (t : T) (e : E)
  | sub (o i e : E)
  | par (ts : List Nat) (es : Es)
  | ret (e : E)
  | retN
  | iff (c : E) (a b : Ss)
  | forS (t : T) (it : I) (b : Ss)
  | pass
inductive Ss where
  | nil
  | cons (s : S) (ss : Ss)
end

/-! ### values -/
/-! plain data of a value; g tells what stands at a reference -/
mutual
def dpW (g : Nat → Option PySem.PyData) : D → Option PySem.PyData
  | .non => some .none
  | .bl b => some (.bool b)
  | .int i => some (.int i)
  | .str s => some (.str s)
  | .tup l => (dpAll g l).map .tuple
  | .lst l => (dpAll g l).map .list
  | .ref n => g n
  | .exn _ => none
  | .sct l => (dpAll g l).map .list
  | .ktp l => (dpAll g l).map .tuple
def dpAll (g : Nat → Option PySem.PyData) : List D → Option (List PySem.PyData)
  | [] => some []
  | x :: xs => match dpW g x, dpAll g xs with
    | some d, some ds => some (d :: ds)
    | _, _ => none
end
def drf (m : Hs) : Nat → Nat → Option PySem.PyData
  | 0, _ => none
  | k + 1, n => match m[n]? with
    | some (.lst l) => (dpAll (drf m k) l).map .list
    | _ => none
def dp (m : Hs) (d : D) : Option PySem.PyData := dpW (drf m 3) d
def eqD (m : Hs) (a b : D) : Option Bool := match dp m a, dp m b with
  | some x, some y => if PySem.SeqAt.shaped x && PySem.SeqAt.shaped y then some (PySem.PyData.eqv x y) else none
  | _, _ => none

/-- a list's items -/
def lstD (m : Hs) : D → Option (List D)
  | .lst l => some l
  | .sct l => some l
  | .ref n => match m[n]? with | some (.lst l) => some l | _ => none
  | _ => none
/-- a list's items, the script aside -/
def ownD (m : Hs) : D → Option (List D)
  | .lst l => some l
  | .ref n => match m[n]? with | some (.lst l) => some l | _ => none
  | _ => none
/-- a list's or tuple's items -/
def seqD (m : Hs) : D → Option (List D)
  | .tup l => some l
  | .ktp l => some l
  | d => lstD m d
def keyD : D → Option Key
  | .int i => some (.inl i)
  | .str s => some (.inr s)
  | _ => none
def keysD : List D → Option (List Key)
  | [] => some []
  | x :: xs => match keyD x, keysD xs with | some k, some ks => some (k :: ks) | _, _ => none
def lkp {κ : Type} [DecidableEq κ] (kvs : List (κ × D)) (k : κ) : Option D := (kvs.find? fun kv => decide (kv.1 = k)).map (·.2)
def idxD (m : Hs) (a i : D) : Option D := match a, i with
  | .tup l, .int i => L2.atI l i
  | .lst l, .int i => L2.atI l i
  | .sct l, .int i => L2.atI l i
  | .ktp l, .int i => L2.atI l i
  | .str s, .int i => if s.length ≤ PySem.sizeLine then (L2.atI s.cps.toList i).map fun c => .str ⟨#[c]⟩ else none
  | .ref n, i => match m[n]? with
    | some (.lst l) => (match i with | .int i => L2.atI l i | _ => none)
    | some (.dK kvs) => (keyD i).bind fun k => lkp kvs k
    | some (.dT kvs) => (match i with | .tup l => (keysD l).bind fun k => lkp kvs k | _ => none)
    | _ => none
  | _, _ => none
def cut (l : List D) (lo hi : Option Int) : List D := (l.drop (HT.sIx l.length 0 lo)).take (HT.sIx l.length l.length hi - HT.sIx l.length 0 lo)
def slcD (m : Hs) (a : D) (lo hi : Option Int) : Option D := match a with
  | .tup l => some (.tup (cut l lo hi))
  | .str s => if s.length ≤ PySem.sizeLine then some (.str (L2.cutS s lo hi)) else none
  | a => (lstD m a).map fun l => .lst (cut l lo hi)
instance (i j : Int) : Decidable (L2.CMul i j) := by unfold L2.CMul; infer_instance
instance (i j : Int) : Decidable (L2.CDivW i j) := by unfold L2.CDivW; infer_instance
instance (i j : Int) : Decidable (L2.CPow i j) := by unfold L2.CPow; infer_instance
def binD (m : Hs) (op : Bop) (a b : D) : Option D := match op, a, b with
  | .add, .int i, .int j => some (.int (i + j))
  | .sub, .int i, .int j => some (.int (i - j))
  | .mul, .int i, .int j => if L2.CMul i j then some (.int (i * j)) else none
  | .fdiv, .int i, .int j => if L2.CDivW i j then some (.int (i / j)) else none
  | .mod, .int i, .int j => if 0 < j then some (.int (i % j)) else none
  | .pow, .int i, .int j => if L2.CPow i j then some (.int (i ^ j.toNat)) else none
  | .add, .str i, .str j => if i.length + j.length ≤ PySem.sizeLine then some (.str (i ++ j)) else none
  | .add, .tup i, .tup j => if i.length + j.length ≤ PySem.sizeLine then some (.tup (i ++ j)) else none
  | .add, a, b => match ownD m a, ownD m b with
    | some i, some j => if i.length + j.length ≤ PySem.sizeLine then some (.lst (i ++ j)) else none
    | _, _ => none
  | _, _, _ => none
def hasD (m : Hs) (x c : D) : Option Bool := match c with
  | .str z => (match x with
    | .str y => (match y.cps.toList with | [c] => some (decide (c ∈ z.cps.toList)) | _ => none)
    | _ => none)
  | .ref n => (match m[n]? with
    | some (.dK kvs) => (keyD x).map fun k => (lkp kvs k).isSome
    | some (.dT kvs) => (match x with | .tup l => (keysD l).map fun k => (lkp kvs k).isSome | _ => none)
    | _ => (match dp m x, dp m c with
      | some d, some (.list ds) => if PySem.SeqAt.shaped d && PySem.SeqAt.shaped (.list ds) then some (ds.any fun z => PySem.PyData.eqv z d) else none
      | _, _ => none))
  | c => (match dp m x, dp m c with
    | some d, some (.list ds) => if PySem.SeqAt.shaped d && PySem.SeqAt.shaped (.list ds) then some (ds.any fun z => PySem.PyData.eqv z d) else none
    | some d, some (.tuple ds) => if PySem.SeqAt.shaped d && PySem.SeqAt.shaped (.tuple ds) then some (ds.any fun z => PySem.PyData.eqv z d) else none
    | _, _ => none)
/-- the same, and two lists of unlike lengths whatever they hold -/
def eqL (m : Hs) (a b : D) : Option Bool := match eqD m a b with
  | some r => some r
  | none => match lstD m a, lstD m b with
    | some l, some l' => if l.length = l'.length then none else some false
    | _, _ => none
def cmpD (m : Hs) (op : Cop) (a b : D) : Option Bool := match op with
  | .eq => eqL m a b
  | .ne => (eqD m a b).map (!·)
  | .isin => hasD m a b
  | .notin => (hasD m a b).map (!·)
  | .lt => match a, b with | .int i, .int j => some (decide (i < j)) | _, _ => none
  | .le => match a, b with | .int i, .int j => some (decide (i ≤ j)) | _, _ => none
  | .gt => match a, b with | .int i, .int j => some (decide (j < i)) | _, _ => none
  | .ge => match a, b with | .int i, .int j => some (decide (j ≤ i)) | _, _ => none
def blD : D → Option Bool
  | .bl b => some b
  | _ => none
def intD : D → Option Int
  | .int i => some i
  | _ => none
def blsD : List D → Option (List Bool)
  | [] => some []
  | x :: xs => match blD x, blsD xs with | some b, some bs => some (b :: bs) | _, _ => none
def intsD : List D → Option (List Int)
  | [] => some []
  | x :: xs => match intD x, intsD xs with | some b, some bs => some (b :: bs) | _, _ => none
def isNonD : D → Bool
  | .non => true
  | _ => false
def isiD (m : Hs) (t : Ty) : D → Option Bool
  | .non => some false
  | .bl _ => some (t == .bool || t == .int)
  | .int _ => some (t == .int)
  | .str _ => some (t == .str)
  | .tup _ => some (t == .tuple)
  | .lst _ => some (t == .list)
  | .sct _ => some (t == .list)
  | .ktp _ => some (t == .tuple)
  | .ref n => match m[n]? with
    | some (.lst _) => some (t == .list)
    | some (.dK _) => some (t == .dict)
    | some (.dT _) => some (t == .dict)
    | _ => none
  | .exn _ => none
/-- a thing's text, as repr tells it -/
def shD (m : Hs) (x : D) : Option Str := match dp m x with
  | some d => if PySem.SeqAt.shaped d && d.showable && decide (d.depth ≤ 60) && decide (d.shown.length ≤ PySem.sizeLine) then some d.shown else none
  | none => none
def isRefD : D → Bool
  | .tup _ => true | .lst _ => true | .ref _ => true | .sct _ => true | .ktp _ => true
  | _ => false
def strD : D → Option Str
  | .str s => some s
  | _ => none
def strsD : List D → Option (List Str)
  | [] => some []
  | x :: xs => match strD x, strsD xs with | some b, some bs => some (b :: bs) | _, _ => none
/-- the method is there -/
def rcv (m : Hs) : M1 → D → Bool
  | .join, .str _ => true
  | .join, _ => false
def m1D (m : Hs) : M1 → D → D → Option D
  | .join, x, y => match x with
    | .str a => ((seqD m y).bind strsD).bind fun ys => if (ys.map (·.length)).sum + ys.length * a.length ≤ 16777216 then some (.str (PySem.Txt.join a ys)) else none
    | _ => none
def biD (m : Hs) (b : Bi) (xs : List D) : Option D := match b, xs with
  | .len, [.str s] => if s.length ≤ PySem.sizeLine then some (.int s.length) else none
  | .len, [.ref n] => (match m[n]? with
    | some (.lst l) => some (.int l.length)
    | some (.dK l) => some (.int l.length)
    | some (.dT l) => some (.int l.length)
    | _ => none)
  | .len, [.tup l] => some (.int l.length)
  | .len, [.lst l] => some (.int l.length)
  | .len, [.sct l] => some (.int l.length)
  | .len, [.ktp l] => some (.int l.length)
  | .all, [x] => ((lstD m x).bind blsD).map fun bs => .bl (bs.all id)
  | .any, [x] => ((lstD m x).bind blsD).map fun bs => .bl (bs.any id)
  | .sum, [x] => ((lstD m x).bind intsD).map fun is => .int is.sum
  | .min2, [.int i, .int j] => some (.int (if j < i then j else i))
  | .max2, [.int i, .int j] => some (.int (if j > i then j else i))
  | .int1, [.int i] => some (.int i)
  | .int1, [.bl b] => some (.int (if b then 1 else 0))
  | .bool1, [.int i] => some (.bl (i != 0))
  | .bool1, [.bl b] => some (.bl b)
  | .str1, [.int i] => if i.natAbs.log2 < 1920 then some (.str (toString i)) else none
  | .str1, [.str s] => some (.str s)
  | .str1, [x] => if isRefD x then (shD m x).map .str else none
  | .repr1, [x] => if isRefD x then (shD m x).map .str else none
  | .tup1, [.tup l] => some (.tup l)
  | .tup1, [x] => (lstD m x).map .tup
  | _, _ => none

/-! ### what it computes -/
def wipe (ρ : Env) : List Nat → Env
  | [] => ρ
  | v :: vs => (wipe ρ vs).set v none
/-- a call of a def of the program, by its number -/
structure Calls where
  fn : Nat → List D → Hs → R D
  gs : Nat → Option D
mutual
def evT : T → D → Hs → Env → Option Env
  | .nm i, d, _, ρ => some (ρ.set i (some d))
  | .tp ts, d, m, ρ => match d with
    | .tup l => evTs ts l m ρ
    | _ => none
def evTs : Ts → List D → Hs → Env → Option Env
  | .nil, [], _, ρ => some ρ
  | .cons t ts, d :: ds, m, ρ => match evT t d m ρ with
    | some ρ' => evTs ts ds m ρ'
    | none => none
  | _, _, _, _ => none
end
/-- no exception goes through -/
def R.noX {α : Type} : R α → R α
  | .exc _ _ => .stuck
  | r => r
@[simp] theorem R.noX_ok {α : Type} (a : α) (m : Hs) : (R.ok a m).noX = .ok a m := rfl
/-- a comprehension's turns: f tells the new item, none where a test leaves it out -/
def lcGo (f : D → Hs → R (Option D)) : List D → Hs → R (List D)
  | [], m => .ok [] m
  | x :: xs, m => (f x m).noX.bind fun o m1 => (lcGo f xs m1).bind fun r m2 => .ok (match o with | some d => d :: r | none => r) m2
/-- a for's turns -/
def forGo (f : D → Env → Hs → RS) : List D → Env → Hs → RS
  | [], ρ, m => .nx ρ m
  | x :: xs, ρ, m => match f x ρ m with
    | .nx ρ' m' => forGo f xs ρ' m'
    | .ct ρ' m' => forGo f xs ρ' m'
    | .bk ρ' m' => .nx ρ' m'
    | r => r
def rngL (a : Int) (n : Nat) : List D := (List.range n).map fun (i : Nat) => D.int (a + (i : Int))
def rng3D (a b c : Int) : Option (List D) :=
  if c ≠ 0 ∧ c.natAbs < 1073741824 ∧ PySem.Builtin.Range.small a b c = true ∧ 0 ≤ PySem.Builtin.Range.rangeSize a b c ∧ PySem.Builtin.Range.rangeSize a b c ≤ 2 ^ 24 then
    some ((List.range (PySem.Builtin.Range.rangeSize a b c).toNat).map fun (i : Nat) => D.int (a + (i : Int) * c))
  else none
def putL {κ : Type} [DecidableEq κ] (kvs : List (κ × D)) (k : κ) (v : D) : List (κ × D) :=
  if (kvs.any fun kv => decide (kv.1 = k)) = true then kvs.map (fun kv => if kv.1 = k then (kv.1, v) else kv) else kvs ++ [(k, v)]
def mergeL (kvs more : List (Key × D)) : List (Key × D) := more.foldl (fun acc kv => putL acc kv.1 kv.2) kvs
/-- 62 bits -/
def small (i : Int) : Bool := decide (-(2 ^ 62) ≤ i ∧ i < 2 ^ 62)
mutual
def evE (C : Calls) : E → Env → Hs → R D
  | .cst d, _, m => .ok d m
  | .glob k, _, m => R.of (C.gs k) m
  | .var i, ρ, m => match ρ[i]? with
    | some (some d) => .ok d m
    | _ => .stuck
  | .tup es, ρ, m => (evEs C es ρ m).bind fun ds m => if ds.length ≤ PySem.sizeLine then .ok (.tup ds) m else .stuck
  | .fz l, ρ, m => (evL C l ρ m).bind fun ds m => .ok (.lst ds) m
  | .alc l, ρ, m => (evL C l ρ m).bind fun ds m => .ok (.ref m.length) (m ++ [.lst ds])
  | .bin op a b, ρ, m => (evE C a ρ m).bind fun x m => (evE C b ρ m).bind fun y m => R.of (binD m op x y) m
  | .neg a, ρ, m => (evE C a ρ m).bind fun x m => R.of ((intD x).map fun i => .int (-i)) m
  | .cmp op a b, ρ, m => (evE C a ρ m).bind fun x m => (evE C b ρ m).bind fun y m => R.of ((cmpD m op x y).map .bl) m
  | .chain o1 o2 a b c, ρ, m => (evE C a ρ m).bind fun x m => (evE C b ρ m).bind fun y m => match cmpD m o1 x y with
    | some true => (evE C c ρ m).bind fun z m => R.of ((cmpD m o2 y z).map .bl) m
    | some false => .ok (.bl false) m
    | none => .stuck
  | .isN ng a, ρ, m => (evE C a ρ m).bind fun x m => .ok (.bl (if ng then !isNonD x else isNonD x)) m
  | .isB ng a b, ρ, m => (evE C a ρ m).bind fun x m => (evE C b ρ m).bind fun y m => match x, y with
    | .bl x, .bl y => .ok (.bl (if ng then !decide (x = y) else decide (x = y))) m
    | _, _ => .stuck
  | .and a es, ρ, m => (evE C a ρ m).bind fun x m => match x with
    | .bl true => evAnd C es ρ m
    | .bl false => .ok (.bl false) m
    | _ => .stuck
  | .or a es, ρ, m => (evE C a ρ m).bind fun x m => match x with
    | .bl false => evOr C es ρ m
    | .bl true => .ok (.bl true) m
    | _ => .stuck
  | .not a, ρ, m => (evE C a ρ m).bind fun x m => match x with
    | .bl b => .ok (.bl (!b)) m
    | _ => .stuck
  | .ife c a b, ρ, m => (evE C c ρ m).bind fun x m => match x with
    | .bl true => evE C a ρ m
    | .bl false => evE C b ρ m
    | _ => .stuck
  | .idx a b, ρ, m => (evE C a ρ m).bind fun x m => (evE C b ρ m).bind fun y m => R.of (idxD m x y) m
  | .slc a lo hi, ρ, m => (evE C a ρ m).bind fun x m => (evOe C lo ρ m).bind fun l m => (evOe C hi ρ m).bind fun h m => R.of (slcD m x l h) m
  | .call f es, ρ, m => (evEs C es ρ m).bind fun ds m => C.fn f ds m
  | .bi b es, ρ, m => (evEs C es ρ m).bind fun ds m => R.of (biD m b ds) m
  | .isi t a, ρ, m => (evE C a ρ m).bind fun x m => R.of ((isiD m t x).map .bl) m
  | .append o e, ρ, m => (evE C o ρ m).bind fun x m => match x with
    | .ref n => (match m[n]? with
      | some (.lst _) => (evE C e ρ m).bind fun y m => (match m[n]? with
        | some (.lst l) => if l.length < PySem.sizeLine then .ok .non (m.set n (.lst (l ++ [y]))) else .stuck
        | _ => .stuck)
      | _ => .stuck)
    | _ => .stuck
  | .dsp ks, ρ, m => (evKs C ks ρ m).bind fun kvs m => .ok (.ref m.length) (m ++ [.dK (mergeL [] kvs)])
  | .dnw tk, _, m => .ok (.ref m.length) (m ++ [if tk then .dT [] else .dK []])
  | .m1 k o e, ρ, m => (evE C o ρ m).bind fun x m => if rcv m k x = true then (evE C e ρ m).bind fun y m => R.of (m1D m k x y) m else .stuck
def evEs (C : Calls) : Es → Env → Hs → R (List D)
  | .nil, _, m => .ok [] m
  | .cons e es, ρ, m => (evE C e ρ m).bind fun x m => (evEs C es ρ m).bind fun xs m => .ok (x :: xs) m
def evAnd (C : Calls) : Es → Env → Hs → R D
  | .nil, _, _ => .stuck
  | .cons e .nil, ρ, m => (evE C e ρ m).bind fun x m => match x with
    | .bl b => .ok (.bl b) m
    | _ => .stuck
  | .cons e es, ρ, m => (evE C e ρ m).bind fun x m => match x with
    | .bl true => evAnd C es ρ m
    | .bl false => .ok (.bl false) m
    | _ => .stuck
def evOr (C : Calls) : Es → Env → Hs → R D
  | .nil, _, _ => .stuck
  | .cons e .nil, ρ, m => (evE C e ρ m).bind fun x m => match x with
    | .bl b => .ok (.bl b) m
    | _ => .stuck
  | .cons e es, ρ, m => (evE C e ρ m).bind fun x m => match x with
    | .bl false => evOr C es ρ m
    | .bl true => .ok (.bl true) m
    | _ => .stuck
def evOe (C : Calls) : Oe → Env → Hs → R (Option Int)
  | .no, _, m => .ok none m
  | .so e, ρ, m => (evE C e ρ m).bind fun x m => R.of ((intD x).map some) m
def evKs (C : Calls) : Ks → Env → Hs → R (List (Key × D))
  | .nil, _, m => .ok [] m
  | .cons k e ks, ρ, m => (evE C e ρ m).bind fun x m => (evKs C ks ρ m).bind fun r m => .ok ((.inr k, x) :: r) m
def evL (C : Calls) : L → Env → Hs → R (List D)
  | .disp es, ρ, m => (evEs C es ρ m).bind fun ds m => if ds.length ≤ PySem.sizeLine then .ok ds m else .stuck
  | .lc own t it elt, ρ, m => (evI C it ρ m).bind fun xs m => if xs.length ≤ PySem.sizeLine then lcGo (fun x m => match evT t x m (wipe ρ own) with
      | some ρ' => (evE C elt ρ' m).bind fun y m => .ok (some y) m
      | none => .stuck) xs m else .stuck
  | .lcIf own t it c elt, ρ, m => (evI C it ρ m).bind fun xs m => if xs.length ≤ PySem.sizeLine then lcGo (fun x m => match evT t x m (wipe ρ own) with
      | some ρ' => (evE C c ρ' m).bind fun b m => (match b with
        | .bl true => (evE C elt ρ' m).bind fun y m => .ok (some y) m
        | .bl false => .ok none m
        | _ => .stuck)
      | none => .stuck) xs m else .stuck
  | .rng3 a b c, ρ, m => (evE C a ρ m).bind fun x m => (evE C b ρ m).bind fun y m => (evE C c ρ m).bind fun z m => match x, y, z with
    | .int i, .int j, .int k => R.of (rng3D i j k) m
    | _, _, _ => .stuck
  | .lstOf e, ρ, m => (evE C e ρ m).bind fun x m => R.of (seqD m x) m
def evI (C : Calls) : I → Env → Hs → R (List D)
  | .seq e, ρ, m => (evE C e ρ m).bind fun x m => match x with
    | .tup l => .ok l m
    | .lst l => .ok l m
    | .sct l => .ok l m
    | .ktp l => .ok l m
    | .str s => .ok (s.cps.toList.map fun c => .str ⟨#[c]⟩) m
    | _ => .stuck
  | .rng1 a, ρ, m => (evE C a ρ m).bind fun x m => match x with
    | .int i => if small i then .ok (rngL 0 i.toNat) m else .stuck
    | _ => .stuck
  | .rng2 a b, ρ, m => (evE C a ρ m).bind fun x m => (evE C b ρ m).bind fun y m => match x, y with
    | .int i, .int j => if small i && small j then .ok (rngL i (j - i).toNat) m else .stuck
    | _, _ => .stuck
end
def setAll : List Nat → List D → Env → Env
  | i :: is, d :: ds, ρ => setAll is ds (ρ.set i (some d))
  | _, _, ρ => ρ
/-- o[i] = e -/
def subD (m : Hs) (o i d : D) : Option Hs := match o with
  | .ref n => (match m[n]? with
    | some (.lst l) => (match i with
      | .int i => (L2.ixN l.length i).map fun j => m.set n (.lst (l.set j d))
      | _ => none)
    | some (.dK kvs) => (keyD i).bind fun k => if kvs.length < PySem.sizeLine then some (m.set n (.dK (putL kvs k d))) else none
    | some (.dT kvs) => (match i with
      | .tup l => (keysD l).bind fun k => if kvs.length < PySem.sizeLine then some (m.set n (.dT (putL kvs k d))) else none
      | _ => none)
    | _ => none)
  | _ => none
mutual
def evS (C : Calls) : S → Env → Hs → RS
  | .expr e, ρ, m => (evE C e ρ m).thn ρ fun _ m => .nx ρ m
  | .asg t e, ρ, m => (evE C e ρ m).thn ρ fun d m => match evT t d m ρ with
    | some ρ' => .nx ρ' m
    | none => .st
  | .sub o i e, ρ, m => (evE C e ρ m).thn ρ fun d m => (evE C o ρ m).thn ρ fun x m => (evE C i ρ m).thn ρ fun y m => match subD m x y d with
    | some m' => .nx ρ m'
    | none => .st
  | .par ts es, ρ, m => (evEs C es ρ m).thn ρ fun ds m => if ds.length = ts.length then .nx (setAll ts ds ρ) m else .st
  | .ret e, ρ, m => (evE C e ρ m).thn ρ fun d m => .rt d m
  | .retN, _, m => .rt .non m
  | .iff c a b, ρ, m => (evE C c ρ m).thn ρ fun x m => match x with
    | .bl true => evSs C a ρ m
    | .bl false => evSs C b ρ m
    | _ => .st
  | .forS t it b, ρ, m => (evI C it ρ m).thn ρ fun xs m => forGo (fun x ρ m => match evT t x m ρ with
      | some ρ' => evSs C b ρ' m
      | none => .st) xs ρ m
  | .pass, ρ, m => .nx ρ m
def evSs (C : Calls) : Ss → Env → Hs → RS
  | .nil, ρ, m => .nx ρ m
  | .cons s ss, ρ, m => (evS C s ρ m).thn fun ρ m => evSs C ss ρ m
end

/-! ### what is left of a call: the objects that it made are dropped where nothing tells of them -/
mutual
def closedD (n : Nat) : D → Bool
  | .tup l => closedA n l
  | .lst l => closedA n l
  | .sct l => closedA n l
  | .ktp l => closedA n l
  | .ref i => decide (i < n)
  | _ => true
def closedA (n : Nat) : List D → Bool
  | [] => true
  | x :: xs => closedD n x && closedA n xs
end
def closedO (n : Nat) : O → Bool
  | .lst l => closedA n l
  | .dK kvs => kvs.all fun p => closedD n p.2
  | .dT kvs => kvs.all fun p => closedD n p.2
  | .ins _ fs => fs.all fun p => closedD n p.2
/-- a value that was returned: what it holds of the call's own lists is held as a list that nobody changes -/
def thaw (m : Hs) (n : Nat) : D → Option D
  | .ref i => if i < n then some (.ref i) else match m[i]? with
    | some (.lst l) => if closedA n l then some (.lst l) else none
    | _ => none
  | d => if closedD n d then some d else none
/-- the mode of a def: keep: nothing is dropped; drop: the call's own objects go, a list that is told is one that nobody changes -/
inductive Mode where | keep | drop
  deriving DecidableEq
def leave (mode : Mode) (n : Nat) : RS → R D
  | .nx _ m => match mode with
    | .keep => .ok .non m
    | .drop => if (m.take n).all (closedO n) && decide (n ≤ m.length) then .ok .non (m.take n) else .ok .non m
  | .rt d m => match mode with
    | .keep => .ok d m
    | .drop => if (m.take n).all (closedO n) && decide (n ≤ m.length) then (match thaw m n d with
      | some d' => .ok d' (m.take n)
      | none => .ok d m) else .ok d m
  | .xc x _ m => .exc x m
  | _ => .stuck
structure Fn where
  name : Str
  arity : Nat
  slots : Nat
  mode : Mode
  body : Ss
def start (slots : Nat) (ds : List D) : Env := ds.map some ++ List.replicate (slots - ds.length) none
/-- the program's defs, by their numbers; the first number is how deep calls may go -/
def runFn (P : List Fn) (gs : Nat → Option D) : Nat → Nat → List D → Hs → R D
  | 0, _, _, _ => .stuck
  | k + 1, f, ds, m => match P[f]? with
    | some F => if ds.length = F.arity then leave F.mode m.length (evSs ⟨runFn P gs k, gs⟩ F.body (start F.slots ds) m) else .stuck
    | none => .stuck
end Lw

set_option Elab.async false
set_option linter.all false
set_option maxRecDepth 100000
/-! How the small language's data lie in the layer's abstract heap; steps of it; what a reading is. -/
namespace Lw
open PySem PySem.Spec PyProof.Rows L2

structure Gc where
  K : PySem.W.Frag
  cl : Nat → Addr
  fld : Nat → Option PySem.Str

/-- a frozen list (the script), or one of the module's -/
def SqS (K : PySem.W.Frag) (ι : List Addr) (H : Hp) (a : Addr) (vs : List V) : Prop :=
  ((∃ o, H a = some (.frz o (.lst vs))) ∧ a ∉ ι) ∨
    ∃ (o : Obj) (its : Array Value) (n : Nat), K.lookup a = some o ∧ o.cls = .type "list" ∧ o.dict = none ∧ o.data = .seq its n ∧ its.size ≤ sizeLine ∧ Vals vs its.toList
/-- a tuple of the module's -/
def KTup (K : PySem.W.Frag) (a : Addr) (vs : List V) : Prop :=
  ∃ (o : Obj) (its : Array Value) (n : Nat), K.lookup a = some o ∧ o.cls = .type "tuple" ∧ o.data = .seq its n ∧ its.size ≤ sizeLine ∧ Vals vs its.toList

mutual
inductive Rp (K : PySem.W.Frag) (ξ ι : List Addr) (H : Hp) : D → V → Prop where
  | non : Rp K ξ ι H .non .non
  | bl (b : Bool) : Rp K ξ ι H (.bl b) (.bl b)
  | int (i : Int) : Rp K ξ ι H (.int i) (.int i)
  | str (s : PySem.Str) : Rp K ξ ι H (.str s) (.str s)
  | tup {a : Addr} {vs : List V} {ds : List D} (h : H a = some (.tup vs)) (n : a ∉ ι) (r : RpAll K ξ ι H ds vs) : Rp K ξ ι H (.tup ds) (.ref a)
  | lst {a : Addr} {vs : List V} {ds : List D} (h : H a = some (.lst vs)) (n : a ∉ ι) (z : a ∉ ξ) (r : RpAll K ξ ι H ds vs) : Rp K ξ ι H (.lst ds) (.ref a)
  | ref {i : Nat} {a : Addr} (h : ι[i]? = some a) : Rp K ξ ι H (.ref i) (.ref a)
  | exn (c : Nat) (a : Addr) : Rp K ξ ι H (.exn c) (.ref a)
  | sct {a : Addr} {vs : List V} {ds : List D} (h : SqS K ι H a vs) (r : RpAll K ξ ι H ds vs) : Rp K ξ ι H (.sct ds) (.ref a)
  | ktp {a : Addr} {vs : List V} {ds : List D} (h : KTup K a vs) (r : RpAll K ξ ι H ds vs) : Rp K ξ ι H (.ktp ds) (.ref a)
inductive RpAll (K : PySem.W.Frag) (ξ ι : List Addr) (H : Hp) : List D → List V → Prop where
  | nil : RpAll K ξ ι H [] []
  | cons {d : D} {ds : List D} {v : V} {vs : List V} (h : Rp K ξ ι H d v) (r : RpAll K ξ ι H ds vs) : RpAll K ξ ι H (d :: ds) (v :: vs)
end

/-- a step of the heap: more objects are known, nothing that isn't known changes -/
structure Stp (ι : List Addr) (H : Hp) (ι' : List Addr) (H' : Hp) : Prop where
  ex : ∃ t, ι' = ι ++ t ∧ ∀ a ∈ t, H a = none
  keep : ∀ b o, b ∉ ι → H b = some o → H' b = some o
  dom : ∀ b, H b ≠ none → H' b ≠ none
theorem Stp.refl (ι : List Addr) (H : Hp) : Stp ι H ι H := ⟨⟨[], by simp, by simp⟩, fun _ _ _ h => h, fun _ h => h⟩
theorem Stp.nin {ι ι' : List Addr} {H H' : Hp} (s : Stp ι H ι' H') {b : Addr} (n : b ∉ ι) (h : H b ≠ none) : b ∉ ι' := by
  obtain ⟨t, rfl, ht⟩ := s.ex
  intro hb
  rcases List.mem_append.mp hb with z | z
  · exact n z
  · exact h (ht b z)
theorem Stp.trans {ι ι1 ι2 : List Addr} {H H1 H2 : Hp} (a : Stp ι H ι1 H1) (b : Stp ι1 H1 ι2 H2) : Stp ι H ι2 H2 := by
  obtain ⟨t, rfl, ht⟩ := a.ex
  obtain ⟨u, rfl, hu⟩ := b.ex
  refine ⟨⟨t ++ u, by rw [List.append_assoc], fun x hx => ?_⟩, fun x o n h => ?_, fun x h => b.dom x (a.dom x h)⟩
  · rcases List.mem_append.mp hx with z | z
    · exact ht x z
    · refine Classical.byContradiction fun q => a.dom x q (hu x z)
  · exact b.keep x o (a.nin n (by rw [h]; simp)) (a.keep x o n h)
theorem Stp.get {ι ι' : List Addr} {H H' : Hp} (s : Stp ι H ι' H') {i : Nat} {a : Addr} (h : ι[i]? = some a) : ι'[i]? = some a := by
  obtain ⟨t, rfl, _⟩ := s.ex
  rw [List.getElem?_append_left (List.getElem?_eq_some_iff.mp h).1]
  exact h

section
variable {K : PySem.W.Frag} {ξ ι ι' : List Addr} {H H' : Hp}
theorem SqS.mono (s : Stp ι H ι' H') {a : Addr} {vs : List V} : SqS K ι H a vs → SqS K ι' H' a vs
  | .inl ⟨⟨o, h⟩, n⟩ => .inl ⟨⟨o, s.keep a _ n h⟩, s.nin n (by rw [h]; simp)⟩
  | .inr h => .inr h
mutual
theorem Rp.mono (s : Stp ι H ι' H') : ∀ {d : D} {v : V}, Rp K ξ ι H d v → Rp K ξ ι' H' d v
  | _, _, .non => .non
  | _, _, .bl b => .bl b
  | _, _, .int i => .int i
  | _, _, .str x => .str x
  | _, _, .tup h n r => .tup (s.keep _ _ n h) (s.nin n (by rw [h]; simp)) (RpAll.mono s r)
  | _, _, .lst h n z r => .lst (s.keep _ _ n h) (s.nin n (by rw [h]; simp)) z (RpAll.mono s r)
  | _, _, .ref h => .ref (s.get h)
  | _, _, .exn c a => .exn c a
  | _, _, .sct h r => .sct (h.mono s) (RpAll.mono s r)
  | _, _, .ktp h r => .ktp h (RpAll.mono s r)
theorem RpAll.mono (s : Stp ι H ι' H') : ∀ {ds : List D} {vs : List V}, RpAll K ξ ι H ds vs → RpAll K ξ ι' H' ds vs
  | _, _, .nil => .nil
  | _, _, .cons h r => .cons (Rp.mono s h) (RpAll.mono s r)
end
theorem RpAll.length {ds : List D} {vs : List V} : RpAll K ξ ι H ds vs → ds.length = vs.length := by
  induction ds generalizing vs with
  | nil => intro h; cases h; rfl
  | cons d ds ih => intro h; cases h with | cons _ r => rw [List.length_cons, List.length_cons, ih r]
theorem RpAll.get {ds : List D} {vs : List V} {i : Nat} {d : D} (h : RpAll K ξ ι H ds vs) (e : ds[i]? = some d) : ∃ v, vs[i]? = some v ∧ Rp K ξ ι H d v := by
  induction ds generalizing vs i with
  | nil => simp at e
  | cons x xs ih =>
    cases h with
    | cons a r =>
      cases i with
      | zero => simp at e; subst e; exact ⟨_, rfl, a⟩
      | succ j => obtain ⟨v, h1, h2⟩ := ih r (by simpa using e); exact ⟨v, by simpa using h1, h2⟩
theorem RpAll.append {ds es : List D} {vs ws : List V} (h : RpAll K ξ ι H ds vs) (g : RpAll K ξ ι H es ws) : RpAll K ξ ι H (ds ++ es) (vs ++ ws) := by
  induction ds generalizing vs with
  | nil => cases h; exact g
  | cons x xs ih => cases h with | cons a r => exact .cons a (ih r)
theorem RpAll.take {ds : List D} {vs : List V} (n : Nat) (h : RpAll K ξ ι H ds vs) : RpAll K ξ ι H (ds.take n) (vs.take n) := by
  induction n generalizing ds vs with
  | zero => simpa using RpAll.nil
  | succ n ih => cases h with
    | nil => exact .nil
    | cons a r => exact .cons a (ih r)
theorem RpAll.drop {ds : List D} {vs : List V} (n : Nat) (h : RpAll K ξ ι H ds vs) : RpAll K ξ ι H (ds.drop n) (vs.drop n) := by
  induction n generalizing ds vs with
  | zero => simpa using h
  | succ n ih => cases h with
    | nil => exact .nil
    | cons a r => exact ih r
theorem RpAll.set {ds : List D} {vs : List V} {d : D} {v : V} (i : Nat) (h : RpAll K ξ ι H ds vs) (r : Rp K ξ ι H d v) : RpAll K ξ ι H (ds.set i d) (vs.set i v) := by
  induction ds generalizing vs i with
  | nil => cases h; simpa using RpAll.nil
  | cons x xs ih => cases h with
    | cons a t => cases i with
      | zero => exact .cons r t
      | succ j => exact .cons a (ih j t)
theorem RpAll.one {d : D} {vs : List V} (h : RpAll K ξ ι H [d] vs) : ∃ v, vs = [v] ∧ Rp K ξ ι H d v := by
  cases h with | cons a r => cases r; exact ⟨_, rfl, a⟩
theorem RpAll.two {d e : D} {vs : List V} (h : RpAll K ξ ι H [d, e] vs) : ∃ v w, vs = [v, w] ∧ Rp K ξ ι H d v ∧ Rp K ξ ι H e w := by
  cases h with | cons a r => cases r with | cons b r => cases r; exact ⟨_, _, rfl, a, b⟩
/-- nothing known changes, nothing more is known -/
theorem Stp.new {p : Addr} {o : HO} (n : H p = none) : Stp ι H ι (upd H p o) :=
  ⟨⟨[], by simp, by simp⟩, fun b u _ h => by rw [upd_ne (ne_of_none h n)]; exact h, fun b h => by unfold upd; split <;> simp_all⟩
theorem Stp.newRef {p : Addr} {o : HO} (n : H p = none) : Stp ι H (ι ++ [p]) (upd H p o) :=
  ⟨⟨[p], rfl, by simpa using n⟩, fun b u _ h => by rw [upd_ne (ne_of_none h n)]; exact h, fun b h => by unfold upd; split <;> simp_all⟩
theorem Stp.write {p : Addr} {o : HO} (n : p ∈ ι) : Stp ι H ι (upd H p o) :=
  ⟨⟨[], by simp, by simp⟩, fun b u q h => by rw [upd_ne (show b ≠ p from fun e => q (by rw [e]; exact n))]; exact h, fun b h => by unfold upd; split <;> simp_all⟩
end

mutual
/-- fewer are kept out -/
theorem Rp.weak {K : PySem.W.Frag} {ξ ξ' ι : List Addr} {H : Hp} (hs : ∀ a, a ∈ ξ → a ∈ ξ') : ∀ {d : D} {v : V}, Rp K ξ' ι H d v → Rp K ξ ι H d v
  | _, _, .non => .non
  | _, _, .bl b => .bl b
  | _, _, .int i => .int i
  | _, _, .str x => .str x
  | _, _, .tup h n r => .tup h n (RpAll.weak hs r)
  | _, _, .lst h n z r => .lst h n (fun q => z (hs _ q)) (RpAll.weak hs r)
  | _, _, .ref h => .ref h
  | _, _, .exn c a => .exn c a
  | _, _, .sct h r => .sct h (RpAll.weak hs r)
  | _, _, .ktp h r => .ktp h (RpAll.weak hs r)
theorem RpAll.weak {K : PySem.W.Frag} {ξ ξ' ι : List Addr} {H : Hp} (hs : ∀ a, a ∈ ξ → a ∈ ξ') : ∀ {ds : List D} {vs : List V}, RpAll K ξ' ι H ds vs → RpAll K ξ ι H ds vs
  | _, _, .nil => .nil
  | _, _, .cons h r => .cons (Rp.weak hs h) (RpAll.weak hs r)
end
mutual
/-- what stands nowhere is told of nowhere -/
theorem Rp.outs {K : PySem.W.Frag} {ξ ξ' ι : List Addr} {H : Hp} (hp : ∀ a ∈ ξ', a ∈ ξ ∨ H a = none) : ∀ {d : D} {v : V}, Rp K ξ ι H d v → Rp K ξ' ι H d v
  | _, _, .non => .non
  | _, _, .bl b => .bl b
  | _, _, .int i => .int i
  | _, _, .str x => .str x
  | _, _, .tup h n r => .tup h n (RpAll.outs hp r)
  | _, _, .lst h n z r => .lst h n (fun q => by
      rcases hp _ q with q | q
      · exact z q
      · rw [q] at h; cases h) (RpAll.outs hp r)
  | _, _, .ref h => .ref h
  | _, _, .exn c a => .exn c a
  | _, _, .sct h r => .sct h (RpAll.outs hp r)
  | _, _, .ktp h r => .ktp h (RpAll.outs hp r)
theorem RpAll.outs {K : PySem.W.Frag} {ξ ξ' ι : List Addr} {H : Hp} (hp : ∀ a ∈ ξ', a ∈ ξ ∨ H a = none) : ∀ {ds : List D} {vs : List V}, RpAll K ξ ι H ds vs → RpAll K ξ' ι H ds vs
  | _, _, .nil => .nil
  | _, _, .cons h r => .cons (Rp.outs hp h) (RpAll.outs hp r)
end
theorem Rp.out {K : PySem.W.Frag} {ξ ι : List Addr} {H : Hp} {p : Addr} (hp : H p = none) {d : D} {v : V} (h : Rp K ξ ι H d v) : Rp K (p :: ξ) ι H d v := h.outs fun a ha => by
  rcases List.mem_cons.mp ha with rfl | ha
  · exact .inr hp
  · exact .inl ha
theorem RpAll.out {K : PySem.W.Frag} {ξ ι : List Addr} {H : Hp} {p : Addr} (hp : H p = none) {ds : List D} {vs : List V} (h : RpAll K ξ ι H ds vs) : RpAll K (p :: ξ) ι H ds vs := h.outs fun a ha => by
  rcases List.mem_cons.mp ha with rfl | ha
  · exact .inr hp
  · exact .inl ha
mutual
/-- one that was kept out is known from here on -/
theorem Rp.adopt {K : PySem.W.Frag} {ξ ι : List Addr} {H : Hp} {p : Addr} {ws : List V} (hp : H p = some (.lst ws)) : ∀ {d : D} {v : V}, Rp K (p :: ξ) ι H d v → Rp K ξ (ι ++ [p]) H d v
  | _, _, .non => .non
  | _, _, .bl b => .bl b
  | _, _, .int i => .int i
  | _, _, .str x => .str x
  | _, _, .tup h n r => .tup h (fun q => by
      rcases List.mem_append.mp q with q | q
      · exact n q
      · simp at q; subst q; rw [hp] at h; cases h) (RpAll.adopt hp r)
  | _, _, .lst h n z r => .lst h (fun q => by
      rcases List.mem_append.mp q with q | q
      · exact n q
      · simp at q; subst q; exact z List.mem_cons_self) (fun q => z (List.mem_cons_of_mem _ q)) (RpAll.adopt hp r)
  | _, _, .ref h => .ref (by rw [List.getElem?_append_left (List.getElem?_eq_some_iff.mp h).1]; exact h)
  | _, _, .exn c a => .exn c a
  | _, _, .sct h r => .sct (by
      rcases h with ⟨⟨o, h⟩, n⟩ | h
      · refine .inl ⟨⟨o, h⟩, fun q => ?_⟩
        rcases List.mem_append.mp q with q | q
        · exact n q
        · simp at q; subst q; rw [hp] at h; cases h
      · exact .inr h) (RpAll.adopt hp r)
  | _, _, .ktp h r => .ktp h (RpAll.adopt hp r)
theorem RpAll.adopt {K : PySem.W.Frag} {ξ ι : List Addr} {H : Hp} {p : Addr} {ws : List V} (hp : H p = some (.lst ws)) : ∀ {ds : List D} {vs : List V}, RpAll K (p :: ξ) ι H ds vs → RpAll K ξ (ι ++ [p]) H ds vs
  | _, _, .nil => .nil
  | _, _, .cons h r => .cons (Rp.adopt hp h) (RpAll.adopt hp r)
end

/-- the heap without what stands at p -/
def rmv (H : Hp) (p : Addr) : Hp := fun b => if b = p then none else H b
theorem rmv_same {H : Hp} {p : Addr} : rmv H p p = none := if_pos rfl
theorem rmv_ne {H : Hp} {p b : Addr} (h : b ≠ p) : rmv H p b = H b := if_neg h
theorem rmv_upd {H : Hp} {p : Addr} {o : HO} : rmv (upd H p o) p = rmv H p := by
  funext b; unfold rmv upd; split <;> rfl
theorem rmv_some {H : Hp} {p b : Addr} {o : HO} (h : rmv H p b = some o) : b ≠ p ∧ H b = some o := by
  unfold rmv at h
  split at h
  · cases h
  · rename_i n; exact ⟨n, h⟩
theorem Stp.put {ι ι' : List Addr} {H H' : Hp} {p : Addr} {o : HO} (s : Stp ι H ι' H') (n : H p = none) : Stp ι H ι' (upd H' p o) :=
  ⟨s.ex, fun b u q h => by rw [upd_ne (ne_of_none h n)]; exact s.keep b u q h, fun b h => by
    unfold upd; split
    · simp
    · exact s.dom b h⟩
/-- a removed thing stands again -/
theorem Stp.ofRmv {ι ι' : List Addr} {H H' : Hp} {p : Addr} (s : Stp ι H ι' H') : Stp ι (rmv H p) ι' H' := by
  obtain ⟨t, e, ht⟩ := s.ex
  refine ⟨⟨t, e, fun a ha => ?_⟩, fun b o q h => s.keep b o q (rmv_some h).2, fun b h => ?_⟩
  · unfold rmv; split
    · rfl
    · exact ht a ha
  · by_cases hb : b = p
    · subst hb; rw [rmv_same] at h; exact absurd rfl h
    · rw [rmv_ne hb] at h; exact s.dom b h
theorem Stp.rmv {ι ι' : List Addr} {H H' : Hp} {p : Addr} (s : Stp ι H ι' H') : Stp ι (rmv H p) ι' (rmv H' p) := by
  obtain ⟨t, e, ht⟩ := s.ex
  refine ⟨⟨t, e, fun a ha => ?_⟩, fun b o q h => ?_, fun b h => ?_⟩
  · unfold Lw.rmv; split
    · rfl
    · exact ht a ha
  · obtain ⟨h1, h2⟩ := rmv_some h
    rw [rmv_ne h1]; exact s.keep b o q h2
  · by_cases hb : b = p
    · subst hb; rw [rmv_same] at h; exact absurd rfl h
    · rw [rmv_ne hb] at h ⊢; exact s.dom b h
mutual
theorem Rp.rmv {K : PySem.W.Frag} {ξ ι : List Addr} {H : Hp} {p : Addr} {ws : List V} : ∀ {d : D} {v : V}, Rp K (p :: ξ) ι H d v → H p = some (.lst ws) → Rp K ξ ι (rmv H p) d v
  | _, _, .non, _ => .non
  | _, _, .bl b, _ => .bl b
  | _, _, .int i, _ => .int i
  | _, _, .str x, _ => .str x
  | _, _, .tup h n r, c => .tup (by rw [rmv_ne (fun e => by rw [e, c] at h; cases h)]; exact h) n (RpAll.rmv r c)
  | _, _, .lst h n z r, c => .lst (by rw [rmv_ne (fun e => z (by rw [e]; exact List.mem_cons_self))]; exact h) n (fun q => z (List.mem_cons_of_mem _ q)) (RpAll.rmv r c)
  | _, _, .ref h, _ => .ref h
  | _, _, .exn c a, _ => .exn c a
  | _, _, .sct h r, c => .sct (by
      rcases h with ⟨⟨o, h⟩, n⟩ | h
      · exact .inl ⟨⟨o, by rw [rmv_ne (fun e => by rw [e, c] at h; cases h)]; exact h⟩, n⟩
      · exact .inr h) (RpAll.rmv r c)
  | _, _, .ktp h r, c => .ktp h (RpAll.rmv r c)
theorem RpAll.rmv {K : PySem.W.Frag} {ξ ι : List Addr} {H : Hp} {p : Addr} {ws : List V} : ∀ {ds : List D} {vs : List V}, RpAll K (p :: ξ) ι H ds vs → H p = some (.lst ws) → RpAll K ξ ι (rmv H p) ds vs
  | _, _, .nil, _ => .nil
  | _, _, .cons h r, c => .cons (Rp.rmv h c) (RpAll.rmv r c)
end
mutual
/-- a thing that is kept out changes -/
theorem Rp.other {K : PySem.W.Frag} {ξ ι : List Addr} {H : Hp} {p : Addr} {ws : List V} {o : HO} : ∀ {d : D} {v : V}, Rp K ξ ι H d v → p ∉ ι → p ∈ ξ → H p = some (.lst ws) → Rp K ξ ι (upd H p o) d v
  | _, _, .non, _, _, _ => .non
  | _, _, .bl b, _, _, _ => .bl b
  | _, _, .int i, _, _, _ => .int i
  | _, _, .str x, _, _, _ => .str x
  | _, _, .tup h n r, a, b, c => .tup (by rw [upd_ne (fun e => by rw [e, c] at h; cases h)]; exact h) n (RpAll.other r a b c)
  | _, _, .lst h n z r, a, b, c => .lst (by rw [upd_ne (fun e => z (by rw [e]; exact b))]; exact h) n z (RpAll.other r a b c)
  | _, _, .ref h, _, _, _ => .ref h
  | _, _, .exn c a, _, _, _ => .exn c a
  | _, _, .sct h r, a, b, c => .sct (by
      rcases h with ⟨⟨o, h⟩, n⟩ | h
      · exact .inl ⟨⟨o, by rw [upd_ne (fun e => by rw [e, c] at h; cases h)]; exact h⟩, n⟩
      · exact .inr h) (RpAll.other r a b c)
  | _, _, .ktp h r, a, b, c => .ktp h (RpAll.other r a b c)
theorem RpAll.other {K : PySem.W.Frag} {ξ ι : List Addr} {H : Hp} {p : Addr} {ws : List V} {o : HO} : ∀ {ds : List D} {vs : List V}, RpAll K ξ ι H ds vs → p ∉ ι → p ∈ ξ → H p = some (.lst ws) → RpAll K ξ ι (upd H p o) ds vs
  | _, _, .nil, _, _, _ => .nil
  | _, _, .cons h r, a, b, c => .cons (Rp.other h a b c) (RpAll.other r a b c)
end
mutual
/-- a dict is known from here on, and changes -/
theorem Rp.grow {K : PySem.W.Frag} {ξ ι : List Addr} {H : Hp} {p : Addr} {ws : List (Key × V)} {o : HO} (hp : H p = some (.dK ws)) : ∀ {d : D} {v : V}, Rp K ξ ι H d v → Rp K ξ (ι ++ [p]) (upd H p o) d v
  | _, _, .non => .non
  | _, _, .bl b => .bl b
  | _, _, .int i => .int i
  | _, _, .str x => .str x
  | _, _, .tup h n r => .tup (by rw [upd_ne (fun e => by rw [e, hp] at h; cases h)]; exact h) (fun q => by
      rcases List.mem_append.mp q with q | q
      · exact n q
      · simp at q; subst q; rw [hp] at h; cases h) (RpAll.grow hp r)
  | _, _, .lst h n z r => .lst (by rw [upd_ne (fun e => by rw [e, hp] at h; cases h)]; exact h) (fun q => by
      rcases List.mem_append.mp q with q | q
      · exact n q
      · simp at q; subst q; rw [hp] at h; cases h) z (RpAll.grow hp r)
  | _, _, .ref h => .ref (by rw [List.getElem?_append_left (List.getElem?_eq_some_iff.mp h).1]; exact h)
  | _, _, .exn c a => .exn c a
  | _, _, .sct h r => .sct (by
      rcases h with ⟨⟨o, h⟩, n⟩ | h
      · refine .inl ⟨⟨o, by rw [upd_ne (fun e => by rw [e, hp] at h; cases h)]; exact h⟩, fun q => ?_⟩
        rcases List.mem_append.mp q with q | q
        · exact n q
        · simp at q; subst q; rw [hp] at h; cases h
      · exact .inr h) (RpAll.grow hp r)
  | _, _, .ktp h r => .ktp h (RpAll.grow hp r)
theorem RpAll.grow {K : PySem.W.Frag} {ξ ι : List Addr} {H : Hp} {p : Addr} {ws : List (Key × V)} {o : HO} (hp : H p = some (.dK ws)) : ∀ {ds : List D} {vs : List V}, RpAll K ξ ι H ds vs → RpAll K ξ (ι ++ [p]) (upd H p o) ds vs
  | _, _, .nil => .nil
  | _, _, .cons h r => .cons (Rp.grow hp h) (RpAll.grow hp r)
end
/-- a dict's pairs -/
def PrAll {κ : Type} (K : PySem.W.Frag) (ξ ι : List Addr) (H : Hp) : List (κ × D) → List (κ × V) → Prop := Paired fun p q => p.1 = q.1 ∧ Rp K ξ ι H p.2 q.2
def RpO (Γ : Gc) (ξ ι : List Addr) (H : Hp) (a : Addr) : O → Prop
  | .lst l => ∃ vs, H a = some (.lst vs) ∧ RpAll Γ.K ξ ι H l vs
  | .dK kvs => ∃ ws, H a = some (.dK ws) ∧ PrAll Γ.K ξ ι H kvs ws
  | .dT kvs => ∃ ws, H a = some (.dT ws) ∧ PrAll Γ.K ξ ι H kvs ws
  | .ins c fs => ∃ dx ws, H a = some (.ins (Γ.cl c) dx ws) ∧ PrAll Γ.K ξ ι H fs ws
theorem PrAll.mono {κ : Type} {K : PySem.W.Frag} {ξ ι ι' : List Addr} {H H' : Hp} (s : Stp ι H ι' H') {l : List (κ × D)} {ws : List (κ × V)} (h : PrAll K ξ ι H l ws) : PrAll K ξ ι' H' l ws :=
  Paired.mapP h fun _ _ z => ⟨z.1, z.2.mono s⟩
/-- from a heap in which a stands as it stood -/
theorem RpO.mono {Γ : Gc} {ξ ι ι' : List Addr} {H H' : Hp} (s : Stp ι H ι' H') {a : Addr} {o : O} (e : H' a = H a) (h : RpO Γ ξ ι H a o) : RpO Γ ξ ι' H' a o := by
  cases o with
  | lst l => obtain ⟨vs, h1, h2⟩ := h; exact ⟨vs, by rw [e]; exact h1, h2.mono s⟩
  | dK l => obtain ⟨vs, h1, h2⟩ := h; exact ⟨vs, by rw [e]; exact h1, h2.mono s⟩
  | dT l => obtain ⟨vs, h1, h2⟩ := h; exact ⟨vs, by rw [e]; exact h1, h2.mono s⟩
  | ins c l => obtain ⟨dx, vs, h1, h2⟩ := h; exact ⟨dx, vs, by rw [e]; exact h1, h2.mono s⟩
theorem RpO.there {Γ : Gc} {ξ ι : List Addr} {H : Hp} {a : Addr} {o : O} (h : RpO Γ ξ ι H a o) : H a ≠ none := by
  cases o with
  | lst l => obtain ⟨vs, h1, h2⟩ := h; rw [h1]; simp
  | dK l => obtain ⟨vs, h1, h2⟩ := h; rw [h1]; simp
  | dT l => obtain ⟨vs, h1, h2⟩ := h; rw [h1]; simp
  | ins c l => obtain ⟨dx, vs, h1, h2⟩ := h; rw [h1]; simp
theorem RpO.mut {Γ : Gc} {ξ ι : List Addr} {H : Hp} {a : Addr} {o : O} (h : RpO Γ ξ ι H a o) : Mut (H a) := by
  cases o with
  | lst l => obtain ⟨vs, h1, h2⟩ := h; rw [h1]; trivial
  | dK l => obtain ⟨vs, h1, h2⟩ := h; rw [h1]; trivial
  | dT l => obtain ⟨vs, h1, h2⟩ := h; rw [h1]; trivial
  | ins c l => obtain ⟨dx, vs, h1, h2⟩ := h; rw [h1]; trivial
structure RpH (Γ : Gc) (ξ ι : List Addr) (H : Hp) (m : Hs) : Prop where
  len : ι.length = m.length
  nd : ι.Nodup
  ob : ∀ (i : Nat) (a : Addr) (o : O), ι[i]? = some a → m[i]? = some o → RpO Γ ξ ι H a o
  res : ∀ b ∈ ξ, H b ≠ none ∧ b ∉ ι
section
variable {Γ : Gc} {ξ ι ι' : List Addr} {H H' : Hp} {m : Hs}
theorem RpH.at (r : RpH Γ ξ ι H m) {i : Nat} {a : Addr} (e : ι[i]? = some a) : ∃ o, m[i]? = some o ∧ RpO Γ ξ ι H a o := by
  have hl := (List.getElem?_eq_some_iff.mp e).1
  rw [r.len] at hl
  exact ⟨m[i], List.getElem?_eq_getElem hl, r.ob i a _ e (List.getElem?_eq_getElem hl)⟩
theorem RpH.addr (r : RpH Γ ξ ι H m) {i : Nat} {o : O} (e : m[i]? = some o) : ∃ a, ι[i]? = some a ∧ a ∈ ι ∧ RpO Γ ξ ι H a o := by
  have hl := (List.getElem?_eq_some_iff.mp e).1
  rw [← r.len] at hl
  exact ⟨ι[i], List.getElem?_eq_getElem hl, List.getElem_mem hl, r.ob i _ o (List.getElem?_eq_getElem hl) e⟩
theorem RpH.there (r : RpH Γ ξ ι H m) {a : Addr} (h : a ∈ ι) : H a ≠ none := by
  obtain ⟨i, e⟩ := List.mem_iff_getElem?.mp h
  obtain ⟨o, _, q⟩ := r.at e
  exact q.there
theorem RpH.freshx (r : RpH Γ ξ ι H m) {p : Addr} (n : H p = none) : p ∉ ξ := fun h => (r.res p h).1 n
theorem RpH.fresh (r : RpH Γ ξ ι H m) {p : Addr} (n : H p = none) : p ∉ ι := fun h => r.there h n
/-- the heap grows by a thing that isn't known -/
theorem RpH.new (r : RpH Γ ξ ι H m) {p : Addr} {o : HO} (n : H p = none) : RpH Γ ξ ι (upd H p o) m :=
  ⟨r.len, r.nd, fun i a u h1 h2 => (r.ob i a u h1 h2).mono (.new n) (upd_ne fun e => r.fresh n (e ▸ List.mem_of_getElem? h1)), fun b hb => ⟨(Stp.new (ι := ι) n).dom b (r.res b hb).1, (r.res b hb).2⟩⟩
/-- by any steps that leave the known objects as they are -/
theorem RpH.mono (r : RpH Γ ξ ι H m) (s : Stp ι H ι H') (k : ∀ a ∈ ι, H' a = H a) : RpH Γ ξ ι H' m :=
  ⟨r.len, r.nd, fun i a u h1 h2 => (r.ob i a u h1 h2).mono s (k a (List.mem_of_getElem? h1)), fun b hb => ⟨s.dom b (r.res b hb).1, (r.res b hb).2⟩⟩
/-- a known object is new -/
theorem RpH.newRef (r : RpH Γ ξ ι H m) {p : Addr} {o : HO} {u : O} (n : H p = none) (h : RpO Γ ξ (ι ++ [p]) (upd H p o) p u) : RpH Γ ξ (ι ++ [p]) (upd H p o) (m ++ [u]) := by
  refine ⟨by simp [r.len], ?_, fun i a w h1 h2 => ?_, fun b hb => ⟨(Stp.new (ι := ι) n).dom b (r.res b hb).1, fun z => ?_⟩⟩
  rotate_left 2
  · rcases List.mem_append.mp z with z | z
    · exact (r.res b hb).2 z
    · simp at z; subst z; exact (r.res b hb).1 n
  · rw [List.nodup_append]
    exact ⟨r.nd, by simp, fun a ha b hb => by simp at hb; subst hb; exact fun e => r.fresh n (e ▸ ha)⟩
  · by_cases hi : i < ι.length
    · rw [List.getElem?_append_left hi] at h1
      rw [List.getElem?_append_left (by rw [← r.len]; exact hi)] at h2
      exact (r.ob i a w h1 h2).mono (.newRef n) (upd_ne fun e => r.fresh n (e ▸ List.mem_of_getElem? h1))
    · rw [List.getElem?_append_right (by omega)] at h1
      rw [List.getElem?_append_right (by rw [← r.len]; omega)] at h2
      have e1 := (List.getElem?_eq_some_iff.mp h1).1
      have e0 : i - ι.length = 0 := by simp at e1; omega
      rw [e0] at h1
      rw [← r.len, e0] at h2
      simp at h1 h2
      subst h1 h2
      exact h
/-- a known object changes -/
theorem RpH.write (r : RpH Γ ξ ι H m) {i : Nat} {a : Addr} {o : HO} {u : O} (e : ι[i]? = some a) (h : RpO Γ ξ ι (upd H a o) a u) : RpH Γ ξ ι (upd H a o) (m.set i u) := by
  have ha := List.mem_of_getElem? e
  refine ⟨by simp [r.len], r.nd, fun j b w h1 h2 => ?_, fun b hb => ⟨(Stp.write (ι := ι) (H := H) ha).dom b (r.res b hb).1, (r.res b hb).2⟩⟩
  by_cases hij : j = i
  · subst hij
    have : a = b := by rw [e] at h1; exact Option.some.inj h1
    subst this
    have hl : j < m.length := by rw [← r.len]; exact (List.getElem?_eq_some_iff.mp e).1
    rw [List.getElem?_set_self hl] at h2
    cases h2
    exact h
  · rw [List.getElem?_set_ne (Ne.symm hij)] at h2
    have hne : b ≠ a := fun q => by
      subst q
      have h3 := (List.getElem?_eq_some_iff.mp h1)
      have h4 := (List.getElem?_eq_some_iff.mp e)
      exact hij ((List.getElem_inj r.nd).mp (h3.2.trans h4.2.symm))
    exact (r.ob j b w h1 h2).mono (.write ha) (upd_ne hne)
end
theorem RpO.weak {Γ : Gc} {ξ ξ' ι : List Addr} {H : Hp} (hs : ∀ a, a ∈ ξ → a ∈ ξ') {a : Addr} {o : O} (h : RpO Γ ξ' ι H a o) : RpO Γ ξ ι H a o := by
  cases o with
  | lst l => obtain ⟨vs, h1, h2⟩ := h; exact ⟨vs, h1, h2.weak hs⟩
  | dK l => obtain ⟨vs, h1, h2⟩ := h; exact ⟨vs, h1, Paired.mapP h2 fun _ _ z => ⟨z.1, z.2.weak hs⟩⟩
  | dT l => obtain ⟨vs, h1, h2⟩ := h; exact ⟨vs, h1, Paired.mapP h2 fun _ _ z => ⟨z.1, z.2.weak hs⟩⟩
  | ins c l => obtain ⟨dx, vs, h1, h2⟩ := h; exact ⟨dx, vs, h1, Paired.mapP h2 fun _ _ z => ⟨z.1, z.2.weak hs⟩⟩
theorem RpO.adopt {Γ : Gc} {ξ ι : List Addr} {H : Hp} {p : Addr} {ws : List V} (hp : H p = some (.lst ws)) {a : Addr} {o : O} (h : RpO Γ (p :: ξ) ι H a o) : RpO Γ ξ (ι ++ [p]) H a o := by
  cases o with
  | lst l => obtain ⟨vs, h1, h2⟩ := h; exact ⟨vs, h1, h2.adopt hp⟩
  | dK l => obtain ⟨vs, h1, h2⟩ := h; exact ⟨vs, h1, Paired.mapP h2 fun _ _ z => ⟨z.1, z.2.adopt hp⟩⟩
  | dT l => obtain ⟨vs, h1, h2⟩ := h; exact ⟨vs, h1, Paired.mapP h2 fun _ _ z => ⟨z.1, z.2.adopt hp⟩⟩
  | ins c l => obtain ⟨dx, vs, h1, h2⟩ := h; exact ⟨dx, vs, h1, Paired.mapP h2 fun _ _ z => ⟨z.1, z.2.adopt hp⟩⟩
theorem RpH.weak {Γ : Gc} {ξ ξ' ι : List Addr} {H : Hp} {m : Hs} (hs : ∀ a, a ∈ ξ → a ∈ ξ') (r : RpH Γ ξ' ι H m) : RpH Γ ξ ι H m :=
  ⟨r.len, r.nd, fun i a o h1 h2 => (r.ob i a o h1 h2).weak hs, fun b hb => r.res b (hs b hb)⟩
theorem RpO.out {Γ : Gc} {ξ ι : List Addr} {H : Hp} {p : Addr} (hp : H p = none) {a : Addr} {o : O} (h : RpO Γ ξ ι H a o) : RpO Γ (p :: ξ) ι H a o := by
  cases o with
  | lst l => obtain ⟨vs, h1, h2⟩ := h; exact ⟨vs, h1, h2.out hp⟩
  | dK l => obtain ⟨vs, h1, h2⟩ := h; exact ⟨vs, h1, Paired.mapP h2 fun _ _ z => ⟨z.1, z.2.out hp⟩⟩
  | dT l => obtain ⟨vs, h1, h2⟩ := h; exact ⟨vs, h1, Paired.mapP h2 fun _ _ z => ⟨z.1, z.2.out hp⟩⟩
  | ins c l => obtain ⟨dx, vs, h1, h2⟩ := h; exact ⟨dx, vs, h1, Paired.mapP h2 fun _ _ z => ⟨z.1, z.2.out hp⟩⟩
/-- a thing is laid, and kept out -/
theorem RpH.lay {Γ : Gc} {ξ ι : List Addr} {H : Hp} {m : Hs} {p : Addr} {o : HO} (r : RpH Γ ξ ι H m) (n : H p = none) : RpH Γ (p :: ξ) ι (upd H p o) m := by
  refine ⟨r.len, r.nd, fun i a u h1 h2 => ((r.ob i a u h1 h2).out n).mono (.new n) (upd_ne fun e => r.fresh n (e ▸ List.mem_of_getElem? h1)), fun b hb => ?_⟩
  rcases List.mem_cons.mp hb with rfl | hb
  · exact ⟨by rw [upd_same]; simp, r.fresh n⟩
  · exact ⟨(Stp.new (ι := ι) n).dom b (r.res b hb).1, (r.res b hb).2⟩
theorem RpO.other {Γ : Gc} {ξ ι : List Addr} {H : Hp} {p : Addr} {ws : List V} {u : HO} (hn : p ∉ ι) (hx : p ∈ ξ) (hp : H p = some (.lst ws)) {a : Addr} (ha : a ∈ ι) {o : O} (h : RpO Γ ξ ι H a o) : RpO Γ ξ ι (upd H p u) a o := by
  have e : upd H p u a = H a := upd_ne fun e => hn (e ▸ ha)
  cases o with
  | lst l => obtain ⟨vs, h1, h2⟩ := h; exact ⟨vs, by rw [e]; exact h1, h2.other hn hx hp⟩
  | dK l => obtain ⟨vs, h1, h2⟩ := h; exact ⟨vs, by rw [e]; exact h1, Paired.mapP h2 fun _ _ z => ⟨z.1, z.2.other hn hx hp⟩⟩
  | dT l => obtain ⟨vs, h1, h2⟩ := h; exact ⟨vs, by rw [e]; exact h1, Paired.mapP h2 fun _ _ z => ⟨z.1, z.2.other hn hx hp⟩⟩
  | ins c l => obtain ⟨dx, vs, h1, h2⟩ := h; exact ⟨dx, vs, by rw [e]; exact h1, Paired.mapP h2 fun _ _ z => ⟨z.1, z.2.other hn hx hp⟩⟩
theorem RpH.other {Γ : Gc} {ξ ι : List Addr} {H : Hp} {m : Hs} {p : Addr} {ws : List V} {u : HO} (hx : p ∈ ξ) (hp : H p = some (.lst ws)) (r : RpH Γ ξ ι H m) : RpH Γ ξ ι (upd H p u) m :=
  have hn := (r.res p hx).2
  ⟨r.len, r.nd, fun i a o h1 h2 => (r.ob i a o h1 h2).other hn hx hp (List.mem_of_getElem? h1), fun b hb => ⟨by unfold upd; split <;> simp [(r.res b hb).1], (r.res b hb).2⟩⟩
theorem RpH.rmv {Γ : Gc} {ξ ι : List Addr} {H : Hp} {m : Hs} {p : Addr} {ws : List V} (nx : p ∉ ξ) (hp : H p = some (.lst ws)) (r : RpH Γ (p :: ξ) ι H m) : RpH Γ ξ ι (rmv H p) m := by
  have hn := (r.res p List.mem_cons_self).2
  refine ⟨r.len, r.nd, fun i a o h1 h2 => ?_, fun b hb => ⟨?_, (r.res b (List.mem_cons_of_mem _ hb)).2⟩⟩
  · have h := r.ob i a o h1 h2
    have e : Lw.rmv H p a = H a := rmv_ne fun e => hn (e ▸ List.mem_of_getElem? h1)
    cases o with
    | lst l => obtain ⟨vs, h1, h2⟩ := h; exact ⟨vs, by rw [e]; exact h1, h2.rmv hp⟩
    | dK l => obtain ⟨vs, h1, h2⟩ := h; exact ⟨vs, by rw [e]; exact h1, Paired.mapP h2 fun _ _ z => ⟨z.1, z.2.rmv hp⟩⟩
    | dT l => obtain ⟨vs, h1, h2⟩ := h; exact ⟨vs, by rw [e]; exact h1, Paired.mapP h2 fun _ _ z => ⟨z.1, z.2.rmv hp⟩⟩
    | ins c l => obtain ⟨dx, vs, h1, h2⟩ := h; exact ⟨dx, vs, by rw [e]; exact h1, Paired.mapP h2 fun _ _ z => ⟨z.1, z.2.rmv hp⟩⟩
  · rw [rmv_ne (fun e => nx (by rw [← e]; exact hb))]; exact (r.res b (List.mem_cons_of_mem _ hb)).1
/-- the new list becomes a known object -/
theorem RpH.adopt {Γ : Gc} {ξ ι : List Addr} {H : Hp} {m : Hs} {p : Addr} {ws : List V} {ds : List D} (hp : H p = some (.lst ws)) (r : RpH Γ (p :: ξ) ι H m) (ra : RpAll Γ.K (p :: ξ) ι H ds ws) (nx : p ∉ ξ) : RpH Γ ξ (ι ++ [p]) H (m ++ [O.lst ds]) := by
  have hn : p ∉ ι := (r.res p List.mem_cons_self).2
  refine ⟨by simp [r.len], ?_, fun i a w h1 h2 => ?_, fun b hb => ⟨(r.res b (List.mem_cons_of_mem _ hb)).1, fun z => ?_⟩⟩
  · rw [List.nodup_append]
    exact ⟨r.nd, by simp, fun a ha b hb => by simp at hb; subst hb; exact fun e => hn (e ▸ ha)⟩
  · by_cases hi : i < ι.length
    · rw [List.getElem?_append_left hi] at h1
      rw [List.getElem?_append_left (by rw [← r.len]; exact hi)] at h2
      exact (r.ob i a w h1 h2).adopt hp
    · rw [List.getElem?_append_right (by omega)] at h1
      rw [List.getElem?_append_right (by rw [← r.len]; omega)] at h2
      have e1 := (List.getElem?_eq_some_iff.mp h1).1
      have e0 : i - ι.length = 0 := by simp at e1; omega
      rw [e0] at h1
      rw [← r.len, e0] at h2
      simp at h1 h2
      subst h1 h2
      exact ⟨ws, hp, ra.adopt hp⟩
  · rcases List.mem_append.mp z with z | z
    · exact (r.res b (List.mem_cons_of_mem _ hb)).2 z
    · simp at z; subst z; exact nx hb
/-- a new dict becomes a known object -/
theorem RpH.growD {Γ : Gc} {ξ ι : List Addr} {H : Hp} {m : Hs} {p : Addr} {ws us : List (Key × V)} {kvs : List (Key × D)} (hp : H p = some (.dK ws)) (hn : p ∉ ι) (hx : p ∉ ξ) (r : RpH Γ ξ ι H m) (ra : PrAll Γ.K ξ ι H kvs us) : RpH Γ ξ (ι ++ [p]) (upd H p (.dK us)) (m ++ [O.dK kvs]) := by
  refine ⟨by simp [r.len], ?_, fun i a w h1 h2 => ?_, fun b hb => ⟨?_, fun z => ?_⟩⟩
  · rw [List.nodup_append]
    exact ⟨r.nd, by simp, fun a ha b hb => by simp at hb; subst hb; exact fun e => hn (e ▸ ha)⟩
  · by_cases hi : i < ι.length
    · rw [List.getElem?_append_left hi] at h1
      rw [List.getElem?_append_left (by rw [← r.len]; exact hi)] at h2
      have h := r.ob i a w h1 h2
      have e : upd H p (.dK us) a = H a := upd_ne fun e => hn (e ▸ List.mem_of_getElem? h1)
      cases w with
      | lst l => obtain ⟨vs, h1, h2⟩ := h; exact ⟨vs, by rw [e]; exact h1, h2.grow hp⟩
      | dK l => obtain ⟨vs, h1, h2⟩ := h; exact ⟨vs, by rw [e]; exact h1, Paired.mapP h2 fun _ _ z => ⟨z.1, z.2.grow hp⟩⟩
      | dT l => obtain ⟨vs, h1, h2⟩ := h; exact ⟨vs, by rw [e]; exact h1, Paired.mapP h2 fun _ _ z => ⟨z.1, z.2.grow hp⟩⟩
      | ins c l => obtain ⟨dx, vs, h1, h2⟩ := h; exact ⟨dx, vs, by rw [e]; exact h1, Paired.mapP h2 fun _ _ z => ⟨z.1, z.2.grow hp⟩⟩
    · rw [List.getElem?_append_right (by omega)] at h1
      rw [List.getElem?_append_right (by rw [← r.len]; omega)] at h2
      have e1 := (List.getElem?_eq_some_iff.mp h1).1
      have e0 : i - ι.length = 0 := by simp at e1; omega
      rw [e0] at h1
      rw [← r.len, e0] at h2
      simp at h1 h2
      subst h1 h2
      exact ⟨us, upd_same, Paired.mapP ra fun _ _ z => ⟨z.1, z.2.grow hp⟩⟩
  · unfold upd; split
    · simp
    · exact (r.res b hb).1
  · rcases List.mem_append.mp z with z | z
    · exact (r.res b hb).2 z
    · simp at z; subst z; exact hx hb
/-- a new object that tells of nothing becomes known -/
theorem RpH.newO {Γ : Gc} {ξ ι : List Addr} {H : Hp} {m : Hs} {p : Addr} {ho : HO} {o : O} (r : RpH Γ ξ ι H m) (n : H p = none) (ro : RpO Γ ξ (ι ++ [p]) (upd H p ho) p o) : RpH Γ ξ (ι ++ [p]) (upd H p ho) (m ++ [o]) := by
  have hn := r.fresh n
  refine ⟨by simp [r.len], ?_, fun i a w h1 h2 => ?_, fun b hb => ⟨(Stp.newRef (ι := ι) n).dom b (r.res b hb).1, fun z => ?_⟩⟩
  · rw [List.nodup_append]
    exact ⟨r.nd, by simp, fun a ha b hb => by simp at hb; subst hb; exact fun e => hn (e ▸ ha)⟩
  · by_cases hi : i < ι.length
    · rw [List.getElem?_append_left hi] at h1
      rw [List.getElem?_append_left (by rw [← r.len]; exact hi)] at h2
      exact (r.ob i a w h1 h2).mono (.newRef n) (upd_ne fun e => hn (e ▸ List.mem_of_getElem? h1))
    · rw [List.getElem?_append_right (by omega)] at h1
      rw [List.getElem?_append_right (by rw [← r.len]; omega)] at h2
      have e1 := (List.getElem?_eq_some_iff.mp h1).1
      have e0 : i - ι.length = 0 := by simp at e1; omega
      rw [e0] at h1
      rw [← r.len, e0] at h2
      simp at h1 h2
      subst h1 h2
      exact ro
  · rcases List.mem_append.mp z with z | z
    · exact (r.res b hb).2 z
    · simp at z; subst z; exact r.freshx n hb
/-- an exception -/
def RpX (Γ : Gc) (ξ ι : List Addr) (H : Hp) (x : Xn) (cls : Value) (dd : Option Addr) : Prop :=
  cls = .ref (Γ.cl x.cls) ∧ match Γ.fld x.cls with
    | none => dd = none
    | some f => ∃ a v, dd = some a ∧ H a = some (.xd [(f, v)]) ∧ Rp Γ.K ξ ι H x.val v
/-- the slots -/
def RpS (K : PySem.W.Frag) (ξ ι : List Addr) (H : Hp) (σ : L2.St) (ρ : Env) : Prop :=
  σ.length = ρ.length ∧ ∀ (i : Nat) (d : D), ρ[i]? = some (some d) → ∃ v, σ[i]? = some (some v) ∧ Rp K ξ ι H d v
theorem RpS.mono {K : PySem.W.Frag} {ξ ι ι' : List Addr} {H H' : Hp} {σ : L2.St} {ρ : Env} (s : Stp ι H ι' H') (h : RpS K ξ ι H σ ρ) : RpS K ξ ι' H' σ ρ :=
  ⟨h.1, fun i d e => let ⟨v, h1, h2⟩ := h.2 i d e; ⟨v, h1, h2.mono s⟩⟩
theorem RpS.set {K : PySem.W.Frag} {ξ ι : List Addr} {H : Hp} {σ : L2.St} {ρ : Env} (h : RpS K ξ ι H σ ρ) {i : Nat} {d : D} {v : V} (r : Rp K ξ ι H d v) : RpS K ξ ι H (σ.set i (some v)) (ρ.set i (some d)) := by
  refine ⟨by simp [h.1], fun j e q => ?_⟩
  by_cases hij : j = i
  · subst hij
    have hl : j < ρ.length := by have := (List.getElem?_eq_some_iff.mp q).1; simpa using this
    rw [List.getElem?_set_self hl] at q
    cases q
    exact ⟨v, List.getElem?_set_self (by rw [h.1]; exact hl), r⟩
  · rw [List.getElem?_set_ne (Ne.symm hij)] at q
    obtain ⟨w, h1, h2⟩ := h.2 j e q
    exact ⟨w, by rw [List.getElem?_set_ne (Ne.symm hij)]; exact h1, h2⟩
theorem wipe_len (ρ : Env) : ∀ vs, (wipe ρ vs).length = ρ.length
  | [] => rfl
  | v :: vs => by unfold wipe; rw [List.length_set, wipe_len ρ vs]
theorem RpS.wipe {K : PySem.W.Frag} {ξ ι : List Addr} {H : Hp} {σ : L2.St} {ρ : Env} (h : RpS K ξ ι H σ ρ) : ∀ vs, RpS K ξ ι H (L2.wipe σ vs) (Lw.wipe ρ vs)
  | [] => h
  | v :: vs => by
    have ih := RpS.wipe h vs
    unfold L2.wipe Lw.wipe
    refine ⟨by simp [ih.1], fun j e q => ?_⟩
    by_cases hij : j = v
    · subst hij
      have hl : j < (Lw.wipe ρ vs).length := by have := (List.getElem?_eq_some_iff.mp q).1; simpa using this
      rw [List.getElem?_set_self hl] at q
      cases q
    · rw [List.getElem?_set_ne (Ne.symm hij)] at q
      obtain ⟨w, h1, h2⟩ := ih.2 j e q
      exact ⟨w, by rw [List.getElem?_set_ne (Ne.symm hij)]; exact h1, h2⟩

theorem RpS.out {K : PySem.W.Frag} {ξ ι : List Addr} {H : Hp} {p : Addr} (hp : H p = none) {σ : L2.St} {ρ : Env} (h : RpS K ξ ι H σ ρ) : RpS K (p :: ξ) ι H σ ρ :=
  ⟨h.1, fun i d e => let ⟨v, h1, h2⟩ := h.2 i d e; ⟨v, h1, h2.out hp⟩⟩
/-! ### what is wanted behind a computation -/
/-- W: the wish about exceptions, at the slots σ -/
def wpR {α : Type} (Γ : Gc) (ξ : List Addr) (W : WX) (σ : L2.St) (ι : List Addr) (H : Hp) (r : R α) (Q : List Addr → Hp → α → Hs → Prop) : Prop :=
  match r with
  | .ok a m => ∀ ι' H', Stp ι H ι' H' → RpH Γ ξ ι' H' m → Q ι' H' a m
  | .exc x m => ∀ ι' H' cls dd, Stp ι H ι' H' → RpH Γ ξ ι' H' m → RpX Γ ξ ι' H' x cls dd → W cls dd σ H'
  | .stuck => False
section
variable {α β : Type} {Γ : Gc} {W : WX} {σ : L2.St} {ξ ι ι1 : List Addr} {H H1 : Hp} {r : R α} {Q Q' : List Addr → Hp → α → Hs → Prop}
theorem wpR.shift (s : Stp ι H ι1 H1) (h : wpR Γ ξ W σ ι H r Q) : wpR Γ ξ W σ ι1 H1 r Q := by
  cases r with
  | ok a m => exact fun ι' H' st rp => h ι' H' (s.trans st) rp
  | exc x m => exact fun ι' H' c d st rp rx => h ι' H' c d (s.trans st) rp rx
  | stuck => exact h
theorem wpR.mono (h : wpR Γ ξ W σ ι H r Q) (k : ∀ ι' H' a m, Stp ι H ι' H' → RpH Γ ξ ι' H' m → Q ι' H' a m → Q' ι' H' a m) : wpR Γ ξ W σ ι H r Q' := by
  cases r with
  | ok a m => exact fun ι' H' st rp => k ι' H' a m st rp (h ι' H' st rp)
  | exc x m => exact h
  | stuck => exact h
theorem wpR.bind {f : α → Hs → R β} {Q : List Addr → Hp → β → Hs → Prop} (h : wpR Γ ξ W σ ι H (r.bind f) Q) : wpR Γ ξ W σ ι H r (fun ι1 H1 a m => wpR Γ ξ W σ ι1 H1 (f a m) Q) := by
  cases r with
  | ok a m => exact fun ι' H' st rp => wpR.shift st h
  | exc x m => exact h
  | stuck => exact h
/-- at once: where a value is there already -/
theorem wpR.now {a : α} {m : Hs} (h : wpR Γ ξ W σ ι H (.ok a m) Q) (rp : RpH Γ ξ ι H m) : Q ι H a m := h ι H (.refl _ _) rp
end
/-- readings -/
def tE (Γ : Gc) (W : WX) (f : Env → Hs → R D) : TE := fun σ H Q => ∃ ξ ι ρ m, RpS Γ.K ξ ι H σ ρ ∧ RpH Γ ξ ι H m ∧ wpR Γ ξ W σ ι H (f ρ m) fun ι' H' d _ => ∀ v, Rp Γ.K ξ ι' H' d v → Q v H'
def tT (Γ : Gc) (W : WX) (f : Env → Hs → R D) : TT := fun σ H Q => ∃ ξ ι ρ m, RpS Γ.K ξ ι H σ ρ ∧ RpH Γ ξ ι H m ∧ wpR Γ ξ W σ ι H (f ρ m) fun _ H' d _ => ∃ b, d = .bl b ∧ Q b H'
def tEs (Γ : Gc) (W : WX) (f : Env → Hs → R (List D)) : TA := fun σ H Q => ∃ ξ ι ρ m, RpS Γ.K ξ ι H σ ρ ∧ RpH Γ ξ ι H m ∧ wpR Γ ξ W σ ι H (f ρ m) fun ι' H' ds _ => ∀ vs, RpAll Γ.K ξ ι' H' ds vs → Q vs H'
/-- a new list: it stood nowhere ahead, and nothing that is known tells of it -/
def tL (Γ : Gc) (W : WX) (f : Env → Hs → R (List D)) : TE := fun σ H Q => ∃ ξ ι ρ m, RpS Γ.K ξ ι H σ ρ ∧ RpH Γ ξ ι H m ∧
  wpR Γ ξ W σ ι H (f ρ m) fun ι' H' ds m' => ∀ p vs, H p = none → p ∉ ι' → H' p = some (.lst vs) → RpAll Γ.K (p :: ξ) ι' H' ds vs → RpH Γ (p :: ξ) ι' H' m' → Q (.ref p) H'
/-- the tests of D.bl -/
theorem PE.imp {X : Cx} {e : PySem.Expr} {t t' : TE} (h : PE X e t) (k : ∀ σ H Q, t' σ H Q → t σ H Q) : PE X e t' := ⟨fun pins s σ H Q I q => h.run pins s σ H Q I (k σ H Q q)⟩
theorem PT.imp {X : Cx} {e : PySem.Expr} {t t' : TT} (h : PT X e t) (k : ∀ σ H Q, t' σ H Q → t σ H Q) : PT X e t' := ⟨fun pins s σ H Q I q => h.run pins s σ H Q I (k σ H Q q)⟩
theorem PW.imp {X : Cx} {e : PySem.Expr} {t t' : TT} (h : PW X e t) (k : ∀ σ H Q, t' σ H Q → t σ H Q) : PW X e t' := ⟨fun wh pins s σ H Q I q => h.run wh pins s σ H Q I (k σ H Q q)⟩
theorem PA.imp {X : Cx} {e : List PySem.Expr} {t t' : TA} (h : PA X e t) (k : ∀ σ H Q, t' σ H Q → t σ H Q) : PA X e t' := ⟨fun pos pins s σ H Q I q => h.run pos pins s σ H Q I (k σ H Q q)⟩
theorem PS.imp {X : Cx} {e : PySem.Stmt} {t t' : TS} (h : PS X e t) (k : ∀ D σ H, t' D σ H → t D σ H) : PS X e t' := ⟨fun pins s σ H D I q => h.run pins s σ H D I (k D σ H q)⟩
theorem PSs.imp {X : Cx} {e : List PySem.Stmt} {t t' : TS} (h : PSs X e t) (k : ∀ D σ H, t' D σ H → t D σ H) : PSs X e t' := ⟨fun pins s σ H D I q => h.run pins s σ H D I (k D σ H q)⟩
theorem PE.or {X : Cx} {e : PySem.Expr} {t t' : TE} (h : PE X e t) (h' : PE X e t') : PE X e (fun σ H Q => t σ H Q ∨ t' σ H Q) := ⟨fun pins s σ H Q I q => q.elim (h.run pins s σ H Q I) (h'.run pins s σ H Q I)⟩
theorem PI.or {X : Cx} {tg e : PySem.Expr} {t t' : TI} (h : PI X tg e t) (h' : PI X tg e t') : PI X tg e (fun σ H Q => t σ H Q ∨ t' σ H Q) := ⟨fun pins s σ H Q I q => q.elim (h.run pins s σ H Q I) (h'.run pins s σ H Q I)⟩
theorem PI.imp {X : Cx} {tg e : PySem.Expr} {t t' : TI} (h : PI X tg e t) (k : ∀ σ H Q, t' σ H Q → t σ H Q) : PI X tg e t' := ⟨fun pins s σ H Q I q => h.run pins s σ H Q I (k σ H Q q)⟩
end Lw

set_option Elab.async false
set_option linter.all false
set_option maxRecDepth 100000
/-! Operations on values. -/
namespace Lw
open PySem PySem.Spec PyProof.Rows L2

section
variable {Γ : Gc} {ξ ι : List Addr} {H : Hp} {m : Hs}
/-! ### inversion -/
theorem Rp.int_inv {K : PySem.W.Frag} {i : Int} {v : V} (h : Rp K ξ ι H (.int i) v) : v = .int i := by cases h; rfl
theorem Rp.bl_inv {K : PySem.W.Frag} {i : Bool} {v : V} (h : Rp K ξ ι H (.bl i) v) : v = .bl i := by cases h; rfl
theorem Rp.str_inv {K : PySem.W.Frag} {i : PySem.Str} {v : V} (h : Rp K ξ ι H (.str i) v) : v = .str i := by cases h; rfl
theorem Rp.non_inv {K : PySem.W.Frag} {v : V} (h : Rp K ξ ι H .non v) : v = .non := by cases h; rfl
theorem SqS.sql {K : PySem.W.Frag} {a : Addr} {vs : List V} (h : SqS K ι H a vs) : SqL K H a vs := by
  rcases h with ⟨⟨o, h⟩, _⟩ | h
  · exact .inl (.inr ⟨o, h⟩)
  · exact .inr h
theorem KTup.sqt {K : PySem.W.Frag} {a : Addr} {vs : List V} (h : KTup K a vs) : SqT K H a vs := .inr h
/-- a list's items, by values -/
theorem lst_of (rp : RpH Γ ξ ι H m) {d : D} {v : V} {l : List D} (r : Rp Γ.K ξ ι H d v) (e : lstD m d = some l) : ∃ a vs, v = .ref a ∧ SqL Γ.K H a vs ∧ RpAll Γ.K ξ ι H l vs := by
  cases r with
  | lst h n zx r => simp [lstD] at e; subst e; exact ⟨_, _, rfl, SqL.of h, r⟩
  | sct h r => simp [lstD] at e; subst e; exact ⟨_, _, rfl, h.sql, r⟩
  | @ref i a h =>
    simp only [lstD] at e
    obtain ⟨o, ho, ro⟩ := rp.at h
    rw [ho] at e
    cases o with
    | lst l' => simp at e; subst e; obtain ⟨vs, h1, h2⟩ := ro; exact ⟨a, vs, rfl, SqL.of h1, h2⟩
    | _ => simp at e
  | _ => simp [lstD] at e
theorem own_of (rp : RpH Γ ξ ι H m) {d : D} {v : V} {l : List D} (r : Rp Γ.K ξ ι H d v) (e : ownD m d = some l) : ∃ a vs, v = .ref a ∧ H a = some (.lst vs) ∧ RpAll Γ.K ξ ι H l vs := by
  cases r with
  | lst h n zx r => simp [ownD] at e; subst e; exact ⟨_, _, rfl, h, r⟩
  | @ref i a h =>
    simp only [ownD] at e
    obtain ⟨o, ho, ro⟩ := rp.at h
    rw [ho] at e
    cases o with
    | lst l' => simp at e; subst e; obtain ⟨vs, h1, h2⟩ := ro; exact ⟨a, vs, rfl, h1, h2⟩
    | _ => simp at e
  | _ => simp [ownD] at e
theorem seq_of (rp : RpH Γ ξ ι H m) {d : D} {v : V} {l : List D} (r : Rp Γ.K ξ ι H d v) (e : seqD m d = some l) : ∃ a vs, v = .ref a ∧ (SqL Γ.K H a vs ∨ SqT Γ.K H a vs) ∧ RpAll Γ.K ξ ι H l vs := by
  by_cases ht : ∃ l', d = .tup l'
  · obtain ⟨l', rfl⟩ := ht
    cases r with
    | tup h n r => simp [seqD] at e; subst e; exact ⟨_, _, rfl, .inr (SqT.of h), r⟩
  · by_cases hk : ∃ l', d = .ktp l'
    · obtain ⟨l', rfl⟩ := hk
      cases r with
      | ktp h r => simp [seqD] at e; subst e; exact ⟨_, _, rfl, .inr h.sqt, r⟩
    · have e' : lstD m d = some l := by cases d <;> first | exact e | exact absurd ⟨_, rfl⟩ ht | exact absurd ⟨_, rfl⟩ hk
      obtain ⟨a, vs, h1, h2, h3⟩ := lst_of rp r e'
      exact ⟨a, vs, h1, .inl h2, h3⟩

/-! ### plain data -/
mutual
theorem dpW_of {g : Nat → Option PyData} (hg : ∀ n p, g n = some p → ∀ a, ι[n]? = some a → Dp Γ.K H (.ref a) p) : ∀ (d : D) (p : PyData) (v : V), dpW g d = some p → Rp Γ.K ξ ι H d v → Dp Γ.K H v p
  | .non, p, v, e, r => by cases r; simp [dpW] at e; subst e; exact .non
  | .bl b, p, v, e, r => by cases r; simp [dpW] at e; subst e; exact .bl b
  | .int b, p, v, e, r => by cases r; simp [dpW] at e; subst e; exact .int b
  | .str b, p, v, e, r => by cases r; simp [dpW] at e; subst e; exact .str b
  | .tup l, p, v, e, r => by
    cases r with
    | tup h n r =>
      simp only [dpW, Option.map_eq_some_iff] at e
      obtain ⟨ps, h1, rfl⟩ := e
      exact .tup (SqT.of h) (dpAll_of hg l ps _ h1 r)
  | .lst l, p, v, e, r => by
    cases r with
    | lst h n zx r =>
      simp only [dpW, Option.map_eq_some_iff] at e
      obtain ⟨ps, h1, rfl⟩ := e
      exact .lst (SqL.of h) (dpAll_of hg l ps _ h1 r)
  | .ref n, p, v, e, r => by
    cases r with
    | ref h => exact hg n p (by simpa [dpW] using e) _ h
  | .exn c, p, v, e, r => by simp [dpW] at e
  | .sct l, p, v, e, r => by
    cases r with
    | sct h r =>
      simp only [dpW, Option.map_eq_some_iff] at e
      obtain ⟨ps, h1, rfl⟩ := e
      exact .lst h.sql (dpAll_of hg l ps _ h1 r)
  | .ktp l, p, v, e, r => by
    cases r with
    | ktp h r =>
      simp only [dpW, Option.map_eq_some_iff] at e
      obtain ⟨ps, h1, rfl⟩ := e
      exact .tup h.sqt (dpAll_of hg l ps _ h1 r)
theorem dpAll_of {g : Nat → Option PyData} (hg : ∀ n p, g n = some p → ∀ a, ι[n]? = some a → Dp Γ.K H (.ref a) p) : ∀ (ds : List D) (ps : List PyData) (vs : List V), dpAll g ds = some ps → RpAll Γ.K ξ ι H ds vs → DpAll Γ.K H vs ps
  | [], ps, vs, e, r => by cases r; simp [dpAll] at e; subst e; exact .nil
  | d :: ds, ps, vs, e, r => by
    cases r with
    | cons a t =>
      simp only [dpAll] at e
      split at e
      · rename_i p ps' h1 h2
        simp at e; subst e
        exact .cons (dpW_of hg d _ _ h1 a) (dpAll_of hg ds _ _ h2 t)
      · cases e
end
theorem drf_of (rp : RpH Γ ξ ι H m) : ∀ (k n : Nat) (p : PyData), drf m k n = some p → ∀ a, ι[n]? = some a → Dp Γ.K H (.ref a) p
  | 0, n, p, e, a, h => by simp [drf] at e
  | k + 1, n, p, e, a, h => by
    simp only [drf] at e
    obtain ⟨o, ho, ro⟩ := rp.at h
    rw [ho] at e
    cases o with
    | lst l =>
      simp only [Option.map_eq_some_iff] at e
      obtain ⟨ps, h1, rfl⟩ := e
      obtain ⟨vs, h2, h3⟩ := ro
      exact .lst (SqL.of h2) (dpAll_of (drf_of rp k) l ps vs h1 h3)
    | _ => simp at e
theorem dp_of (rp : RpH Γ ξ ι H m) {d : D} {p : PyData} {v : V} (e : dp m d = some p) (r : Rp Γ.K ξ ι H d v) : Dp Γ.K H v p := dpW_of (drf_of rp 3) d p v e r

/-! ### keys -/
theorem keyD_of {K : PySem.W.Frag} {d : D} {k : Key} {v : V} (e : keyD d = some k) (r : Rp K ξ ι H d v) : v = kV k := by
  cases r with
  | int i => simp [keyD] at e; subst e; rfl
  | str i => simp [keyD] at e; subst e; rfl
  | _ => simp [keyD] at e
theorem keysD_of {K : PySem.W.Frag} : ∀ {ds : List D} {ks : List Key} {vs : List V}, keysD ds = some ks → RpAll K ξ ι H ds vs → vs = ks.map kV
  | [], ks, vs, e, r => by cases r; simp [keysD] at e; subst e; rfl
  | d :: ds, ks, vs, e, r => by
    cases r with
    | cons a t =>
      simp only [keysD] at e
      split at e
      · rename_i k ks' h1 h2
        simp at e; subst e
        rw [List.map_cons, keyD_of h1 a, keysD_of h2 t]
      · cases e
theorem lkp_of {κ : Type} [DecidableEq κ] {K : PySem.W.Frag} : ∀ {l : List (κ × D)} {ws : List (κ × V)} {k : κ}, PrAll K ξ ι H l ws →
    (∀ d, lkp l k = some d → ∃ v, valV ws k = some v ∧ Rp K ξ ι H d v) ∧ (lkp l k).isSome = (valV ws k).isSome := by
  intro l ws k h
  induction h with
  | nil => exact ⟨fun d e => by simp [lkp] at e, rfl⟩
  | @cons p q l ws r t ih =>
    obtain ⟨pk, pd⟩ := p
    obtain ⟨qk, qv⟩ := q
    obtain ⟨e1, r⟩ := r
    simp only at e1 r
    subst e1
    by_cases hk : pk = k
    · refine ⟨fun d e => ?_, ?_⟩
      · simp [lkp, List.find?_cons, hk] at e
        subst e
        exact ⟨qv, by simp [valV, List.find?_cons, hk], r⟩
      · simp [lkp, valV, List.find?_cons, hk]
    · refine ⟨fun d e => ?_, ?_⟩
      · have e' : lkp l k = some d := by simpa [lkp, List.find?_cons, hk] using e
        obtain ⟨v, h1, h2⟩ := ih.1 d e'
        exact ⟨v, by simpa [valV, List.find?_cons, hk] using h1, h2⟩
      · simpa [lkp, valV, List.find?_cons, hk] using ih.2
theorem PrAll.length {κ : Type} {K : PySem.W.Frag} {l : List (κ × D)} {ws : List (κ × V)} (h : PrAll K ξ ι H l ws) : l.length = ws.length := Paired.length h
theorem PrAll.app {κ : Type} {K : PySem.W.Frag} {l : List (κ × D)} {ws : List (κ × V)} (h : PrAll K ξ ι H l ws) {k : κ} {d : D} {v : V} (r : Rp K ξ ι H d v) : PrAll K ξ ι H (l ++ [(k, d)]) (ws ++ [(k, v)]) := by
  induction h with
  | nil => exact .cons ⟨rfl, r⟩ .nil
  | cons a t ih => exact .cons a ih
theorem putL_of {κ : Type} [DecidableEq κ] {K : PySem.W.Frag} {l : List (κ × D)} {ws : List (κ × V)} {k : κ} {d : D} {v : V} (h : PrAll K ξ ι H l ws) (r : Rp K ξ ι H d v) : PrAll K ξ ι H (putL l k d) (putK ws k v) := by
  have e : (l.any fun kv => decide (kv.1 = k)) = (ws.any fun kv => decide (kv.1 = k)) := by
    induction h with
    | nil => rfl
    | cons a t ih => rw [List.any_cons, List.any_cons, ih, a.1]
  unfold putL putK
  rw [e]
  split
  · rename_i z
    clear z e
    induction h with
    | nil => exact .nil
    | @cons p q l ws a t ih =>
      rw [List.map_cons, List.map_cons]
      refine .cons ?_ ih
      rw [a.1]
      split
      · exact ⟨rfl, r⟩
      · exact ⟨a.1, a.2⟩
  · exact h.app r
theorem mergeL_of {K : PySem.W.Frag} {l : List (Key × D)} {ws : List (Key × V)} (h : PrAll K ξ ι H l ws) : PrAll K ξ ι H (mergeL [] l) (mergeK [] ws) := by
  unfold mergeL mergeK
  have : ∀ (l0 : List (Key × D)) (w0 : List (Key × V)), PrAll K ξ ι H l0 w0 → PrAll K ξ ι H (l.foldl (fun acc kv => putL acc kv.1 kv.2) l0) (ws.foldl (fun acc kv => putK acc kv.1 kv.2) w0) := by
    induction h with
    | nil => exact fun _ _ h => h
    | @cons p q l ws a t ih =>
      intro l0 w0 h0
      rw [List.foldl_cons, List.foldl_cons]
      refine ih _ _ ?_
      rw [a.1]
      exact putL_of h0 a.2
  exact this [] [] .nil
end

/-! ### subscripts -/
def rIx (Γ : Gc) : R2 := fun x y H Q => ∃ ξ ι m a b, RpH Γ ξ ι H m ∧ Rp Γ.K ξ ι H a x ∧ Rp Γ.K ξ ι H b y ∧ ∃ d, idxD m a b = some d ∧ ∀ v, Rp Γ.K ξ ι H d v → Q v H
theorem atI_of {K : PySem.W.Frag} {ξ ι : List Addr} {H : Hp} {l : List D} {vs : List V} {i : Int} {d : D} (r : RpAll K ξ ι H l vs) (e : atI l i = some d) : ∃ v, atI vs i = some v ∧ Rp K ξ ι H d v := by
  unfold atI at e ⊢
  rw [← r.length]
  cases h : ixN l.length i with
  | none => rw [h] at e; cases e
  | some j =>
    rw [h] at e
    obtain ⟨v, h1, h2⟩ := r.get (show l[j]? = some d from e)
    exact ⟨v, h1, h2⟩
section
variable {X : Cx}
def rIxDict : R2 := fun x y H Q => ∃ a v, x = .ref a ∧ DGet H a y (some v) ∧ Q v H
theorem ix_dict (hu : X.A.units + 1 < cLine) : IxR X rIxDict := by
  intro value slice pins s σ H x y v u Q I rx ry h hs
  obtain ⟨a, w, rfl, g, q⟩ := h
  obtain rfl : v = Value.ref a := rx
  have ht := dict_typeIs I g
  have hg : wpAny (model X.prog X.w) X.A (getItem (.ref a) u) (EP X pins σ Q) X.xe s := d_getItem hu I g ry fun w' s3 I3 rw' => ⟨w, H, I3, rw', q⟩
  unfold subscriptTail
  refine wpAny_bind ?_
  rw [getitemInPython_of_ne ht.not_modules]
  refine wpAny_bind (wpAny_specialOf ht PySem.F.slot_dict_getitem.lookup ?_)
  have fin : wpAny (model X.prog X.w) X.A (subscripted slice false (.ref a) u) (fun r s₃ => wpAny (model X.prog X.w) X.A (letTemporaryGo value (.ref a) r >>= fun _ => pure r) (EP X pins σ Q) X.xe s₃) X.xe s := by
    rw [hs]
    exact wpAny_operating (wpAny_mono hg (fun r s₃ h₃ => wpAny_bind (wpAny_letTemporaryGo (wpAny_pure h₃))) fun _ _ x => x)
  first
    | exact wpAny_pure (wpAny_bind fin)
    | exact wpAny_bind (wpAny_pure (wpAny_bind fin))
    | exact wpAny_bind fin
theorem ixAll {Γ : Gc} (hK : X.K = Γ.K) (hu : X.A.units + 1 < cLine) : IxR X (rIx Γ) := by
  intro value slice pins s σ H x y v u Q I rx ry h hs
  obtain ⟨ξ, ι, m, a, b, rp, ra, rb, d, e, q⟩ := h
  have LI : ∀ {p : Addr} {vs : List V} {l : List D} {i : Int}, x = .ref p → SqL Γ.K H p vs → RpAll Γ.K ξ ι H l vs → y = .int i → atI l i = some d → wpAny (model X.prog X.w) X.A (subscriptTail value slice v u) (EP X pins σ Q) X.xe s := by
    intro p vs l i e1 h1 h2 e2 h3
    obtain ⟨w, h4, h5⟩ := atI_of h2 h3
    exact ix_list value slice pins s σ H x y v u Q I rx ry ⟨p, vs, i, w, e1, e2, by rw [hK]; exact h1, h4, q w h5⟩ hs
  have TI : ∀ {p : Addr} {vs : List V} {l : List D} {i : Int}, x = .ref p → SqT Γ.K H p vs → RpAll Γ.K ξ ι H l vs → y = .int i → atI l i = some d → wpAny (model X.prog X.w) X.A (subscriptTail value slice v u) (EP X pins σ Q) X.xe s := by
    intro p vs l i e1 h1 h2 e2 h3
    obtain ⟨w, h4, h5⟩ := atI_of h2 h3
    exact ix_tup value slice pins s σ H x y v u Q I rx ry ⟨p, vs, i, w, e1, e2, by rw [hK]; exact h1, h4, q w h5⟩ hs
  cases ra with
  | tup h n r => cases rb with
    | int i => exact TI rfl (SqT.of h) r rfl e
    | _ => simp [idxD] at e
  | lst h n zx r => cases rb with
    | int i => exact LI rfl (SqL.of h) r rfl e
    | _ => simp [idxD] at e
  | sct h r => cases rb with
    | int i => exact LI rfl h.sql r rfl e
    | _ => simp [idxD] at e
  | ktp h r => cases rb with
    | int i => exact TI rfl h.sqt r rfl e
    | _ => simp [idxD] at e
  | str z => cases rb with
    | int i =>
      simp only [idxD] at e
      split at e
      · rename_i hz
        simp only [Option.map_eq_some_iff] at e
        obtain ⟨c, h1, rfl⟩ := e
        exact ix_str value slice pins s σ H _ _ v u Q I rx ry ⟨z, i, c, rfl, rfl, hz, h1, q _ (.str _)⟩ hs
      · cases e
    | _ => simp [idxD] at e
  | @ref n p h =>
    simp only [idxD] at e
    obtain ⟨o, ho, ro⟩ := rp.at h
    rw [ho] at e
    cases o with
    | lst l =>
      obtain ⟨vs, h1, h2⟩ := ro
      cases rb with
      | int i => exact LI rfl (SqL.of h1) h2 rfl e
      | _ => simp at e
    | dK kvs =>
      obtain ⟨ws, h1, h2⟩ := ro
      cases hk : keyD b with
      | none => rw [hk] at e; cases e
      | some k =>
        rw [hk] at e
        obtain ⟨w, h3, h4⟩ := (lkp_of h2).1 d e
        refine ix_dict hu value slice pins s σ H _ y v u Q I rx ry ⟨p, w, rfl, ?_, q w h4⟩ hs
        rw [keyD_of hk rb, ← h3]
        exact DGet.k h1
    | dT kvs =>
      obtain ⟨ws, h1, h2⟩ := ro
      cases rb with
      | @tup b' vs l hb _ rr =>
        simp only at e
        cases hk : keysD l with
        | none => rw [hk] at e; cases e
        | some k =>
          rw [hk] at e
          obtain ⟨w, h3, h4⟩ := (lkp_of h2).1 d e
          refine ix_dict hu value slice pins s σ H _ _ v u Q I rx ry ⟨p, w, rfl, ?_, q w h4⟩ hs
          rw [← h3]
          exact DGet.t h1 (by rw [hb, keysD_of hk rr])
      | _ => simp at e
    | ins c fs => simp at e
  | _ => simp [idxD] at e
end
end Lw

set_option Elab.async false
set_option linter.all false
set_option maxRecDepth 100000
set_option maxHeartbeats 2000000
/-! A list and an empty one are compared by their lengths. -/
namespace PySem.SeqAt
open PySem PySem.Spec PyProof.Rows L2
section
variable {prog : Program} {w : World}
theorem lw_list_ne (l b : Addr) (xs ys : Array Value) (n n2 : Nat) (dd dd2 : Option Addr) (sl sl2 : Array (Option Value)) (hsz : xs.size ≠ ys.size) :
    MeetsIn prog w (Builtin.«list.__eq__» ⟨[.ref l, .ref b], []⟩)
      (fun _ R s => s.heap.get? l = some { cls := .type "list", dict := dd, data := .seq xs n, slots := sl } ∧ s.heap.get? b = some { cls := .type "list", dict := dd2, data := .seq ys n2, slots := sl2 } ∧ R (.ok (.ret (.bool false))) s) := by
  intro A R s h
  obtain ⟨hp, g, d, tk, os⟩ := s
  obtain ⟨hl, hb, h⟩ := h
  have f3 := AutoSeq1.sub_list_list
  have hne : (xs.size != ys.size) = true := by simpa using hsz
  wp_walk using wpAny_loadPart' hl, wpAny_loadPart' hb
  exact h
theorem lw_lists_ne {A : Around} {s : Shared} {l b : Addr} {xs ys : Array Value} (hl : s.heap.IsList l xs) (hb : s.heap.IsList b ys) (hsz : xs.size ≠ ys.size) (hu : A.units < cLine) (E Q : Value → Shared → Prop) (h : Q (.bool false) s) :
    wpAny (model prog w) A (richCompare .Eq (.ref l) (.ref b)) Q E s := by
  obtain ⟨⟨c1, d1, t1, s1⟩, ho, hc, n, hd⟩ := id hl
  obtain ⟨⟨c2, d2, t2, s2⟩, ho2, hc2, n2, hd2⟩ := id hb
  simp only at hc hd hc2 hd2
  subst hc hd hc2 hd2
  have ta : s.TypeIs (.ref l) "list" := ⟨_, ho, rfl⟩
  have tb : s.TypeIs (.ref b) "list" := ⟨_, ho2, rfl⟩
  refine wpAny_richCompare_same_room (op := .Eq) ta tb F.slot_list_eq (call_meetsIn F.slot_list_eq ta F.entry_list_eq (F.args_list_eq_2 _ _) (lw_list_ne l b xs ys n n2 d1 d2 s1 s2 hsz) ⟨ho, ho2, ?_⟩) hu
  exact ⟨(fun z => nomatch z), h⟩
end
end PySem.SeqAt

set_option Elab.async false
set_option linter.all false
set_option maxRecDepth 100000
/-! Operators, comparisons, built-in functions on values. -/
namespace Lw
open PySem PySem.Spec PyProof.Rows L2

/-- what an operation that tells plain data asks -/
def rBin (Γ : Gc) (op : Bop) : R2 := fun x y H Q => ∃ ξ ι m a b, RpH Γ ξ ι H m ∧ Rp Γ.K ξ ι H a x ∧ Rp Γ.K ξ ι H b y ∧ ∃ d, binD m op a b = some d ∧ ∀ H' v, Stp ι H ι H' → RpH Γ ξ ι H' m → Rp Γ.K ξ ι H' d v → Q v H'
def rCmp (Γ : Gc) (op : Cop) : R2 := fun x y H Q => ∃ ξ ι m a b, RpH Γ ξ ι H m ∧ Rp Γ.K ξ ι H a x ∧ Rp Γ.K ξ ι H b y ∧ ∃ d, cmpD m op a b = some d ∧ Q (.bl d) H
def rBi (Γ : Gc) (b : Bi) : List V → Hp → VK → Prop := fun vs H Q => ∃ ξ ι m xs, RpH Γ ξ ι H m ∧ RpAll Γ.K ξ ι H xs vs ∧ ∃ d, biD m b xs = some d ∧ ∀ H' v, Stp ι H ι H' → RpH Γ ξ ι H' m → Rp Γ.K ξ ι H' d v → Q v H'
def bopA : Bop → Operator
  | .add => .Add | .sub => .Sub | .mul => .Mult | .fdiv => .FloorDiv | .mod => .Mod | .pow => .Pow
def copA : Cop → CmpOp
  | .lt => .Lt | .le => .LtE | .gt => .Gt | .ge => .GtE | .eq => .Eq | .ne => .NotEq | .isin => .In | .notin => .NotIn
section
variable {X : Cx} {Γ : Gc}
/-- a new tuple -/
theorem newTup {ξ ι : List Addr} {H : Hp} {m : Hs} {l : List D} {vs : List V} {Q : VK} (rp : RpH Γ ξ ι H m) (r : RpAll Γ.K ξ ι H l vs) (q : ∀ H' v, Stp ι H ι H' → RpH Γ ξ ι H' m → Rp Γ.K ξ ι H' (.tup l) v → Q v H') :
    ∀ p, H p = none → Q (.ref p) (upd H p (.tup vs)) := fun p hp =>
  q _ _ (.new hp) (rp.new hp) (.tup upd_same (rp.fresh hp) (r.mono (.new hp)))
theorem newLst {ξ ι : List Addr} {H : Hp} {m : Hs} {l : List D} {vs : List V} {Q : VK} (rp : RpH Γ ξ ι H m) (r : RpAll Γ.K ξ ι H l vs) (q : ∀ H' v, Stp ι H ι H' → RpH Γ ξ ι H' m → Rp Γ.K ξ ι H' (.lst l) v → Q v H') :
    ∀ p, H p = none → Q (.ref p) (upd H p (.lst vs)) := fun p hp =>
  q _ _ (.new hp) (rp.new hp) (.lst upd_same (rp.fresh hp) (rp.freshx hp) (r.mono (.new hp)))
theorem binAll (hK : X.K = Γ.K) (op : Bop) : OpR X (binaryOp (bopA op)) (rBin Γ op) := by
  intro pins s σ H x y v u Q I rx ry h
  obtain ⟨ξ, ι, m, a, b, rp, ra, rb, d, e, q⟩ := h
  have now : ∀ w, Rp Γ.K ξ ι H d w → Q w H := fun w rw' => q H w (.refl _ _) rp rw'
  have cat : ∀ (l1 l2 : List D), ownD m a = some l1 → ownD m b = some l2 → l1.length + l2.length ≤ sizeLine → d = .lst (l1 ++ l2) → wpAny (model X.prog X.w) X.A (binaryOp .Add v u) (EP X pins σ Q) X.xe s := by
    intro l1 l2 h1 h2 h3 h4
    obtain ⟨a1, vs1, rfl, g1, r1⟩ := own_of rp ra h1
    obtain ⟨a2, vs2, rfl, g2, r2⟩ := own_of rp rb h2
    refine op_cat pins s σ H _ _ v u Q I rx ry ⟨a1, a2, vs1, vs2, rfl, rfl, g1, g2, by rw [← r1.length, ← r2.length]; exact h3, ?_⟩
    subst h4
    exact newLst rp (r1.append r2) q
  cases op with
  | add =>
    by_cases hi : ∃ i j, a = .int i ∧ b = .int j
    · obtain ⟨i, j, rfl, rfl⟩ := hi
      simp [binD] at e; subst e
      cases ra; cases rb
      exact op_add pins s σ H _ _ v u Q I rx ry ⟨i, j, rfl, rfl, now _ (.int _)⟩
    · by_cases hs : ∃ i j, a = .str i ∧ b = .str j
      · obtain ⟨i, j, rfl, rfl⟩ := hs
        simp [binD] at e
        obtain ⟨e1, rfl⟩ := e
        cases ra; cases rb
        exact op_add_str pins s σ H _ _ v u Q I rx ry ⟨i, j, rfl, rfl, e1, now _ (.str _)⟩
      · by_cases ht : ∃ i j, a = .tup i ∧ b = .tup j
        · obtain ⟨i, j, rfl, rfl⟩ := ht
          simp [binD] at e
          obtain ⟨e1, rfl⟩ := e
          cases ra with
          | tup h1 n1 r1 =>
          cases rb with
          | tup h2 n2 r2 =>
          refine op_catA pins s σ H _ _ v u Q I rx ry ⟨_, _, _, _, rfl, rfl, SqT.of h1, SqT.of h2, by rw [← r1.length, ← r2.length]; exact e1, fun z => ?_, fun z z2 => ?_, fun _ _ => newTup rp (r1.append r2) q⟩
          · subst z
            have : i = [] := List.eq_nil_of_length_eq_zero (by rw [r1.length]; rfl)
            subst this
            exact now _ (.tup h2 n2 r2)
          · subst z2
            have : j = [] := List.eq_nil_of_length_eq_zero (by rw [r2.length]; rfl)
            subst this
            rw [List.append_nil] at now
            exact now _ (.tup h1 n1 r1)
        · have e2 : (match ownD m a, ownD m b with
            | some i, some j => if i.length + j.length ≤ PySem.sizeLine then some (.lst (i ++ j)) else none
            | _, _ => none) = some d := by
            unfold binD at e
            split at e
            all_goals first
              | exact absurd ⟨_, _, rfl, rfl⟩ hi
              | exact absurd ⟨_, _, rfl, rfl⟩ hs
              | exact absurd ⟨_, _, rfl, rfl⟩ ht
              | exact e
              | (rename_i z _ _; cases z)
              | simp_all
          split at e2
          · rename_i i j g1 g2
            split at e2
            · rename_i z
              exact cat i j g1 g2 z (Option.some.inj e2).symm
            · cases e2
          · cases e2
  | sub =>
    cases ra with
    | int i => cases rb with
      | int j =>
        simp [binD] at e; subst e
        exact op_sub pins s σ H _ _ v u Q I rx ry ⟨i, j, rfl, rfl, now _ (.int _)⟩
      | _ => simp [binD] at e
    | _ => simp [binD] at e
  | mul =>
    cases ra with
    | int i => cases rb with
      | int j =>
        simp only [binD] at e
        split at e
        · rename_i z; cases e
          exact op_mul pins s σ H _ _ v u Q I rx ry ⟨i, j, rfl, rfl, z, now _ (.int _)⟩
        · cases e
      | _ => simp [binD] at e
    | _ => simp [binD] at e
  | fdiv =>
    cases ra with
    | int i => cases rb with
      | int j =>
        simp only [binD] at e
        split at e
        · rename_i z; cases e
          exact op_fdivW pins s σ H _ _ v u Q I rx ry ⟨i, j, rfl, rfl, z, now _ (.int _)⟩
        · cases e
      | _ => simp [binD] at e
    | _ => simp [binD] at e
  | mod =>
    cases ra with
    | int i => cases rb with
      | int j =>
        simp only [binD] at e
        split at e
        · rename_i z; cases e
          exact op_mod pins s σ H _ _ v u Q I rx ry ⟨i, j, rfl, rfl, z, now _ (.int _)⟩
        · cases e
      | _ => simp [binD] at e
    | _ => simp [binD] at e
  | pow =>
    cases ra with
    | int i => cases rb with
      | int j =>
        simp only [binD] at e
        split at e
        · rename_i z; cases e
          exact op_pow pins s σ H _ _ v u Q I rx ry ⟨i, j, rfl, rfl, z, now _ (.int _)⟩
        · cases e
      | _ => simp [binD] at e
    | _ => simp [binD] at e
/-- x in c -/
def InP (Γ : Gc) (x y : V) (H : Hp) (b : Bool) : Prop := (∃ (c : Nat) (z : PySem.Str), x = .str ⟨#[c]⟩ ∧ y = .str z ∧ b = decide (c ∈ z.cps.toList)) ∨
  (∃ p o, y = .ref p ∧ DGet H p x o ∧ b = o.isSome) ∨
  (∃ d ds, Dp Γ.K H x d ∧ (Dp Γ.K H y (.list ds) ∧ SeqAt.shaped (.list ds) = true ∨ Dp Γ.K H y (.tuple ds) ∧ SeqAt.shaped (.tuple ds) = true) ∧ SeqAt.shaped d = true ∧ b = ds.any fun z => PyData.eqv z d)
theorem inP {ξ ι : List Addr} {H : Hp} {m : Hs} {a b : D} {x y : V} {r : Bool} (rp : RpH Γ ξ ι H m) (ra : Rp Γ.K ξ ι H a x) (rb : Rp Γ.K ξ ι H b y) (e : hasD m a b = some r) : InP Γ x y H r := by
  have deepL : ∀ {ds : List PyData} {d : PyData}, dp m a = some d → dp m b = some (.list ds) → (if SeqAt.shaped d && SeqAt.shaped (.list ds) then some (ds.any fun z => PyData.eqv z d) else none) = some r → InP Γ x y H r := by
    intro ds d h1 h2 h3
    split at h3
    · rename_i z
      rw [Bool.and_eq_true] at z
      exact .inr (.inr ⟨d, ds, dp_of rp h1 ra, .inl ⟨dp_of rp h2 rb, z.2⟩, z.1, (Option.some.inj h3).symm⟩)
    · cases h3
  have deepT : ∀ {ds : List PyData} {d : PyData}, dp m a = some d → dp m b = some (.tuple ds) → (if SeqAt.shaped d && SeqAt.shaped (.tuple ds) then some (ds.any fun z => PyData.eqv z d) else none) = some r → InP Γ x y H r := by
    intro ds d h1 h2 h3
    split at h3
    · rename_i z
      rw [Bool.and_eq_true] at z
      exact .inr (.inr ⟨d, ds, dp_of rp h1 ra, .inr ⟨dp_of rp h2 rb, z.2⟩, z.1, (Option.some.inj h3).symm⟩)
    · cases h3
  have deep : (match dp m a, dp m b with
      | some d, some (.list ds) => if PySem.SeqAt.shaped d && PySem.SeqAt.shaped (.list ds) then some (ds.any fun z => PySem.PyData.eqv z d) else none
      | some d, some (.tuple ds) => if PySem.SeqAt.shaped d && PySem.SeqAt.shaped (.tuple ds) then some (ds.any fun z => PySem.PyData.eqv z d) else none
      | _, _ => none) = some r → InP Γ x y H r := by
    intro h
    split at h
    · rename_i g1 g2; exact deepL g1 g2 h
    · rename_i g1 g2; exact deepT g1 g2 h
    · cases h
  cases rb with
  | str z =>
    simp only [hasD] at e
    cases ra with
    | str y =>
      simp only at e
      split at e
      · rename_i c hc
        have : y = ⟨#[c]⟩ := by
          cases y with
          | mk cps => simp at hc; have := congrArg List.toArray hc; simp at this; rw [this]
        subst this
        exact .inl ⟨c, z, rfl, rfl, (Option.some.inj e).symm⟩
      · cases e
    | _ => simp at e
  | @ref n p h =>
    simp only [hasD] at e
    obtain ⟨o, ho, ro⟩ := rp.at h
    rw [ho] at e
    have deepR : (match dp m a, dp m (.ref n) with
      | some d, some (.list ds) => if PySem.SeqAt.shaped d && PySem.SeqAt.shaped (.list ds) then some (ds.any fun z => PySem.PyData.eqv z d) else none
      | _, _ => none) = some r → InP Γ x (.ref p) H r := by
      intro h
      split at h
      · rename_i g1 g2; exact deepL g1 g2 h
      · cases h
    cases o with
    | lst l => exact deepR e
    | ins c l => exact deepR e
    | dK kvs =>
      obtain ⟨ws, h1, h2⟩ := ro
      simp only [Option.map_eq_some_iff] at e
      obtain ⟨k, hk, rfl⟩ := e
      refine .inr (.inl ⟨p, valV ws k, rfl, ?_, (lkp_of h2).2⟩)
      rw [keyD_of hk ra]
      exact DGet.k h1
    | dT kvs =>
      obtain ⟨ws, h1, h2⟩ := ro
      cases ra with
      | @tup b' vs l hb _ rr =>
        simp only [Option.map_eq_some_iff] at e
        obtain ⟨k, hk, rfl⟩ := e
        exact .inr (.inl ⟨p, valV ws k, rfl, DGet.t h1 (by rw [hb, keysD_of hk rr]), (lkp_of h2).2⟩)
      | _ => simp at e
  | _ => exact deep e
theorem inAll (hK : X.K = Γ.K) (hu : X.A.units + 66 < cLine) : OpR X (compareOp .In) (fun x y H Q => ∃ b, InP Γ x y H b ∧ Q (.bl b) H) := by
  intro pins s σ H x y v u Q I rx ry h
  obtain ⟨b, h, q⟩ := h
  rcases h with ⟨c, z, rfl, rfl, rfl⟩ | ⟨p, o, rfl, g, rfl⟩ | ⟨d, ds, h1, h2, h3, rfl⟩
  · exact op_in_sign pins s σ H _ _ v u Q I rx ry ⟨c, z, rfl, rfl, q⟩
  · obtain rfl : u = Value.ref p := ry
    exact d_in (by omega) I g rx fun s3 I3 => ⟨.bl o.isSome, H, I3, rfl, q⟩
  · rw [← hK] at h1 h2
    rcases h2 with ⟨h2, h4⟩ | ⟨h2, h4⟩
    · exact op_inD (by omega) pins s σ H _ _ v u Q I rx ry ⟨d, ds, h1, h2, h3, h4, q⟩
    · obtain ⟨as, r1⟩ := Dp.reads I d x v h1 rx
      obtain ⟨bs, r2⟩ := Dp.reads I (.tuple ds) y u h2 ry
      refine SeqAt.in_tuple_reads r2 r1 (SeqAt.canLay_of_shaped h4) (SeqAt.canLay_of_shaped h3) ?_ ⟨.bl _, H, I, rfl, q⟩
      have := SeqAt.depth_of_shaped h3
      have := Nat.min_le_right (PyData.depthAll ds) d.depth
      omega
theorem notInAll (hK : X.K = Γ.K) (hu : X.A.units + 66 < cLine) : OpR X (compareOp .NotIn) (fun x y H Q => ∃ b, InP Γ x y H b ∧ Q (.bl (!b)) H) := by
  intro pins s σ H x y v u Q I rx ry h
  obtain ⟨b, h, q⟩ := h
  rcases h with ⟨c, z, rfl, rfl, rfl⟩ | ⟨p, o, rfl, g, rfl⟩ | ⟨d, ds, h1, h2, h3, rfl⟩
  · exact op_notIn_sign pins s σ H _ _ v u Q I rx ry ⟨c, z, rfl, rfl, q⟩
  · obtain rfl : u = Value.ref p := ry
    exact d_notIn (by omega) I g rx fun s3 I3 => ⟨.bl (!o.isSome), H, I3, rfl, q⟩
  · rw [← hK] at h1 h2
    rcases h2 with ⟨h2, h4⟩ | ⟨h2, h4⟩
    · exact op_notInD (by omega) pins s σ H _ _ v u Q I rx ry ⟨d, ds, h1, h2, h3, h4, q⟩
    · obtain ⟨as, r1⟩ := Dp.reads I d x v h1 rx
      obtain ⟨bs, r2⟩ := Dp.reads I (.tuple ds) y u h2 ry
      refine SeqAt.notIn_tuple_reads r2 r1 (SeqAt.canLay_of_shaped h4) (SeqAt.canLay_of_shaped h3) ?_ ⟨.bl _, H, I, rfl, q⟩
      have := SeqAt.depth_of_shaped h3
      have := Nat.min_le_right (PyData.depthAll ds) d.depth
      omega
theorem eqD_of {ξ ι : List Addr} {H : Hp} {m : Hs} {a b : D} {x y : V} {r : Bool} (rp : RpH Γ ξ ι H m) (ra : Rp Γ.K ξ ι H a x) (rb : Rp Γ.K ξ ι H b y) (e : eqD m a b = some r) :
    ∃ d e, Dp Γ.K H x d ∧ Dp Γ.K H y e ∧ SeqAt.shaped d = true ∧ SeqAt.shaped e = true ∧ r = PyData.eqv d e := by
  unfold eqD at e
  split at e
  · rename_i d d' h1 h2
    split at e
    · rename_i z
      rw [Bool.and_eq_true] at z
      exact ⟨d, d', dp_of rp h1 ra, dp_of rp h2 rb, z.1, z.2, (Option.some.inj e).symm⟩
    · cases e
  · cases e
theorem cmpAll (hK : X.K = Γ.K) (hu : X.A.units + 66 < cLine) (op : Cop) : OpR X (compareOp (copA op)) (rCmp Γ op) := by
  intro pins s σ H x y v u Q I rx ry h
  obtain ⟨ξ, ι, m, a, b, rp, ra, rb, d, e, q⟩ := h
  cases op with
  | lt =>
    cases ra with
    | int i => cases rb with
      | int j => simp [cmpD] at e; subst e; exact op_lt pins s σ H _ _ v u Q I rx ry ⟨i, j, rfl, rfl, q⟩
      | _ => simp [cmpD] at e
    | _ => simp [cmpD] at e
  | le =>
    cases ra with
    | int i => cases rb with
      | int j => simp [cmpD] at e; subst e; exact op_le pins s σ H _ _ v u Q I rx ry ⟨i, j, rfl, rfl, q⟩
      | _ => simp [cmpD] at e
    | _ => simp [cmpD] at e
  | gt =>
    cases ra with
    | int i => cases rb with
      | int j => simp [cmpD] at e; subst e; exact op_gt pins s σ H _ _ v u Q I rx ry ⟨i, j, rfl, rfl, q⟩
      | _ => simp [cmpD] at e
    | _ => simp [cmpD] at e
  | ge =>
    cases ra with
    | int i => cases rb with
      | int j => simp [cmpD] at e; subst e; exact op_ge pins s σ H _ _ v u Q I rx ry ⟨i, j, rfl, rfl, q⟩
      | _ => simp [cmpD] at e
    | _ => simp [cmpD] at e
  | eq =>
    have e : eqL m a b = some d := e
    unfold eqL at e
    split at e
    · rename_i r h0
      cases e
      obtain ⟨p, p', h1, h2, h3, h4, rfl⟩ := eqD_of rp ra rb h0
      exact op_eqD (by omega) pins s σ H _ _ v u Q I rx ry ⟨p, p', by rw [hK]; exact h1, by rw [hK]; exact h2, h3, h4, q⟩
    · split at e
      · rename_i l l' h1 h2
        split at e
        · cases e
        · rename_i hne
          cases e
          obtain ⟨p, xs, rfl, k1, k2⟩ := lst_of rp ra h1
          obtain ⟨p', ys, rfl, k3, k4⟩ := lst_of rp rb h2
          cases rx
          cases ry
          rw [← hK] at k1 k3
          obtain ⟨i1, r1, pl1, _⟩ := I.list k1
          obtain ⟨i2, r2, pl2, _⟩ := I.list k3
          refine SeqAt.lw_lists_ne pl1.isList pl2.isList ?_ (by omega) _ _ ⟨.bl false, H, I, rfl, q⟩
          rw [List.size_toArray, List.size_toArray, ← r1.length, ← r2.length, ← k2.length, ← k4.length]
          exact hne
      · cases e
  | ne =>
    have e' : (eqD m a b).map (!·) = some d := e
    rw [Option.map_eq_some_iff] at e'
    obtain ⟨r, e', rfl⟩ := e'
    obtain ⟨p, p', h1, h2, h3, h4, rfl⟩ := eqD_of rp ra rb e'
    exact op_neD (by omega) pins s σ H _ _ v u Q I rx ry ⟨p, p', by rw [hK]; exact h1, by rw [hK]; exact h2, h3, h4, q⟩
  | isin => exact inAll hK hu pins s σ H _ _ v u Q I rx ry ⟨d, inP rp ra rb e, q⟩
  | notin =>
    have e' : (hasD m a b).map (!·) = some d := e
    rw [Option.map_eq_some_iff] at e'
    obtain ⟨r, e', rfl⟩ := e'
    exact notInAll hK hu pins s σ H _ _ v u Q I rx ry ⟨r, inP rp ra rb e', q⟩
end
end Lw

set_option Elab.async false
set_option linter.all false
set_option maxRecDepth 100000
/-! Built-in functions; what is looked at in the program's text. -/
namespace Lw
open PySem PySem.Spec PyProof.Rows L2

def biName : Bi → PySem.Str
  | .len => "len" | .all => "all" | .any => "any" | .sum => "sum" | .min2 => "min" | .max2 => "max" | .int1 => "int" | .bool1 => "bool" | .str1 => "str" | .tup1 => "tuple" | .repr1 => "repr"
def biVal : Bi → Value
  | .len => .builtin "len" | .all => .builtin "all" | .any => .builtin "any" | .sum => .builtin "sum" | .min2 => .builtin "min" | .max2 => .builtin "max" | .int1 => .type "int" | .bool1 => .type "bool" | .str1 => .type "str" | .tup1 => .type "tuple" | .repr1 => .builtin "repr"
theorem biBoot (b : Bi) : bootBuiltins (biName b) = some (biVal b) := by cases b <;> decide +kernel
def tyName : Ty → String
  | .int => "int" | .bool => "bool" | .str => "str" | .tuple => "tuple" | .list => "list" | .dict => "dict"
theorem tyBoot (t : Ty) : bootBuiltins (PySem.Str.ofString (tyName t)) = some (.type (tyName t)) := by cases t <;> decide +kernel

section
variable {X : Cx} {Γ : Gc} {ξ ι : List Addr} {H : Hp} {m : Hs}
theorem bls_of {K : PySem.W.Frag} : ∀ {l : List D} {bs : List Bool} {vs : List V}, blsD l = some bs → RpAll K ξ ι H l vs → vs = bs.map V.bl
  | [], bs, vs, e, r => by cases r; simp [blsD] at e; subst e; rfl
  | x :: xs, bs, vs, e, r => by
    cases r with
    | cons a t =>
      simp only [blsD] at e
      split at e
      · rename_i b bs' h1 h2
        simp at e; subst e
        rw [bls_of h2 t, List.map_cons]
        cases x <;> simp [blD] at h1
        subst h1; cases a; rfl
      · cases e
theorem ints_of {K : PySem.W.Frag} : ∀ {l : List D} {bs : List Int} {vs : List V}, intsD l = some bs → RpAll K ξ ι H l vs → vs = bs.map V.int
  | [], bs, vs, e, r => by cases r; simp [intsD] at e; subst e; rfl
  | x :: xs, bs, vs, e, r => by
    cases r with
    | cons a t =>
      simp only [intsD] at e
      split at e
      · rename_i b bs' h1 h2
        simp at e; subst e
        rw [ints_of h2 t, List.map_cons]
        cases x <;> simp [intD] at h1
        subst h1; cases a; rfl
      · cases e
theorem strs_of {K : PySem.W.Frag} : ∀ {l : List D} {bs : List PySem.Str} {vs : List V}, strsD l = some bs → RpAll K ξ ι H l vs → vs = bs.map V.str
  | [], bs, vs, e, r => by cases r; simp [strsD] at e; subst e; rfl
  | x :: xs, bs, vs, e, r => by
    cases r with
    | cons a t =>
      simp only [strsD] at e
      split at e
      · rename_i b bs' h1 h2
        simp at e; subst e
        rw [strs_of h2 t, List.map_cons]
        cases x <;> simp [strD] at h1
        subst h1; cases a; rfl
      · cases e
theorem isRef_of {K : PySem.W.Frag} {d : D} {v : V} (r : Rp K ξ ι H d v) (h : isRefD d = true) : ∃ a, v = .ref a := by
  cases r <;> first | exact ⟨_, rfl⟩ | cases h
/-- a thing's text -/
theorem sh_of (rp : RpH Γ ξ ι H m) (hK : X.K = Γ.K) {pins : List (Addr × Obj)} {σ : L2.St} {s : Shared} (I : Inv X pins σ H s) {x : D} {v : V} {u : Value} {t : PySem.Str} (rv : Rp Γ.K ξ ι H x v) (ru : RelV v u) (e : shD m x = some t) :
    ∃ (d : PyData) (as : List Addr), t = d.shown ∧ Reads s.heap u d as ∧ d.showable = true ∧ d.hasDict = false ∧ d.depth ≤ 60 ∧ d.shown.length ≤ sizeLine := by
  unfold shD at e
  cases ed : dp m x with
  | none => rw [ed] at e; cases e
  | some d =>
    rw [ed] at e
    simp only at e
    split at e
    · rename_i hz
      cases e
      simp only [Bool.and_eq_true, decide_eq_true_eq] at hz
      have hd := dp_of rp ed rv
      rw [← hK] at hd
      obtain ⟨as, hr⟩ := Dp.reads I d v u hd ru
      exact ⟨d, as, rfl, hr, hz.1.1.2, PyData.hasDict_of_canLay d (SeqAt.canLay_of_shaped hz.1.1.1), hz.1.2, hz.2⟩
    · cases e
theorem biAll (hK : X.K = Γ.K) (hc : X.calm = true) (hgd : X.A.guards = some []) (hun : X.A.units + 66 < cLine) (b : Bi) : CallR X (biVal b) (rBi Γ b) := by
  intro pins s σ H vs us Q I r h
  obtain ⟨ξ, ι, m, xs, rp, rxs, d, e, q⟩ := h
  have now : ∀ w, Rp Γ.K ξ ι H d w → Q w H := fun w rw' => q H w (.refl _ _) rp rw'
  cases b with
  | len =>
    match xs, rxs, e with
    | [x], rxs, e =>
      obtain ⟨v, rfl, rv⟩ := rxs.one
      have seqL : ∀ {p : Addr} {ys : List V} {l : List D}, v = .ref p → (SqL Γ.K H p ys ∨ SqT Γ.K H p ys) → RpAll Γ.K ξ ι H l ys → d = .int l.length → wpAny (model X.prog X.w) X.A (call (biVal .len) us) (EP X pins σ Q) X.xe s := by
        intro p ys l e1 h1 h2 h3
        subst e1 h3
        exact call_len_seq pins s σ H _ us Q I r ⟨p, ys, rfl, by rw [hK]; exact h1, by rw [← h2.length]; exact now _ (.int _)⟩
      cases rv with
      | str z =>
        simp only [biD] at e
        split at e
        · rename_i hz
          cases e
          exact call_len pins s σ H _ us Q I r ⟨_, z.length, rfl, ⟨hz, rfl⟩, now _ (.int _)⟩
        · cases e
      | tup h n rr => simp [biD] at e; exact seqL rfl (.inr (SqT.of h)) rr e.symm
      | lst h n zx rr => simp [biD] at e; exact seqL rfl (.inl (SqL.of h)) rr e.symm
      | sct h rr => simp [biD] at e; exact seqL rfl (.inl h.sql) rr e.symm
      | ktp h rr => simp [biD] at e; exact seqL rfl (.inr h.sqt) rr e.symm
      | @ref n p h =>
        simp only [biD] at e
        obtain ⟨o, ho, ro⟩ := rp.at h
        rw [ho] at e
        cases o with
        | lst l =>
          obtain ⟨ws, h1, h2⟩ := ro
          exact seqL rfl (.inl (SqL.of h1)) h2 (Option.some.inj e).symm
        | dK l =>
          obtain ⟨ws, h1, h2⟩ := ro
          simp at e; subst e
          exact call_lenD pins s σ H _ us Q I r ⟨p, ws, rfl, h1, by rw [← h2.length]; exact now _ (.int _)⟩
        | dT l =>
          obtain ⟨ws, h1, h2⟩ := ro
          simp at e; subst e
          exact call_len_dT pins s σ H _ us Q I r ⟨p, ws, rfl, h1, by rw [← h2.length]; exact now _ (.int _)⟩
        | ins c l => simp at e
      | _ => simp [biD] at e
    | [], _, e => simp [biD] at e
    | _ :: _ :: _, _, e => simp [biD] at e
  | all =>
    match xs, rxs, e with
    | [x], rxs, e =>
      obtain ⟨v, rfl, rv⟩ := rxs.one
      simp only [biD, Option.map_eq_some_iff, Option.bind_eq_some_iff] at e
      obtain ⟨bs, ⟨l, h1, h2⟩, rfl⟩ := e
      obtain ⟨a, ws, rfl, h3, h4⟩ := lst_of rp rv h1
      rw [bls_of h2 h4, ← hK] at h3
      exact cr_all hc pins s σ H _ us Q I r ⟨a, bs, rfl, h3, now _ (.bl _)⟩
    | [], _, e => simp [biD] at e
    | _ :: _ :: _, _, e => simp [biD] at e
  | any =>
    match xs, rxs, e with
    | [x], rxs, e =>
      obtain ⟨v, rfl, rv⟩ := rxs.one
      simp only [biD, Option.map_eq_some_iff, Option.bind_eq_some_iff] at e
      obtain ⟨bs, ⟨l, h1, h2⟩, rfl⟩ := e
      obtain ⟨a, ws, rfl, h3, h4⟩ := lst_of rp rv h1
      rw [bls_of h2 h4, ← hK] at h3
      exact cr_any hc pins s σ H _ us Q I r ⟨a, bs, rfl, h3, now _ (.bl _)⟩
    | [], _, e => simp [biD] at e
    | _ :: _ :: _, _, e => simp [biD] at e
  | sum =>
    match xs, rxs, e with
    | [x], rxs, e =>
      obtain ⟨v, rfl, rv⟩ := rxs.one
      simp only [biD, Option.map_eq_some_iff, Option.bind_eq_some_iff] at e
      obtain ⟨bs, ⟨l, h1, h2⟩, rfl⟩ := e
      obtain ⟨a, ws, rfl, h3, h4⟩ := lst_of rp rv h1
      rw [ints_of h2 h4, ← hK] at h3
      exact cr_sum hc pins s σ H _ us Q I r ⟨a, bs, rfl, h3, now _ (.int _)⟩
    | [], _, e => simp [biD] at e
    | _ :: _ :: _, _, e => simp [biD] at e
  | min2 =>
    match xs, rxs, e with
    | [x, y], rxs, e =>
      obtain ⟨v, w, rfl, rv, rw'⟩ := rxs.two
      cases rv <;> cases rw' <;> simp [biD] at e
      subst e
      exact call_min2 hc pins s σ H _ us Q I r ⟨_, _, rfl, now _ (.int _)⟩
    | [], _, e => simp [biD] at e
    | [_], _, e => simp [biD] at e
    | _ :: _ :: _ :: _, _, e => simp [biD] at e
  | max2 =>
    match xs, rxs, e with
    | [x, y], rxs, e =>
      obtain ⟨v, w, rfl, rv, rw'⟩ := rxs.two
      cases rv <;> cases rw' <;> simp [biD] at e
      subst e
      exact call_max2 hc pins s σ H _ us Q I r ⟨_, _, rfl, now _ (.int _)⟩
    | [], _, e => simp [biD] at e
    | [_], _, e => simp [biD] at e
    | _ :: _ :: _ :: _, _, e => simp [biD] at e
  | int1 =>
    match xs, rxs, e with
    | [x], rxs, e =>
      obtain ⟨v, rfl, rv⟩ := rxs.one
      cases rv with
      | int i => simp [biD] at e; subst e; exact call_int1 pins s σ H _ us Q I r (.inl ⟨i, rfl, now _ (.int _)⟩)
      | bl i => simp only [biD] at e; cases e; exact call_int1 pins s σ H _ us Q I r (.inr ⟨i, rfl, now _ (.int _)⟩)
      | _ => simp [biD] at e
    | [], _, e => simp [biD] at e
    | _ :: _ :: _, _, e => simp [biD] at e
  | bool1 =>
    match xs, rxs, e with
    | [x], rxs, e =>
      obtain ⟨v, rfl, rv⟩ := rxs.one
      cases rv with
      | int i => simp only [biD] at e; cases e; exact call_bool1 pins s σ H _ us Q I r (.inl ⟨i, rfl, now _ (.bl _)⟩)
      | bl i => simp only [biD] at e; cases e; exact call_bool1 pins s σ H _ us Q I r (.inr ⟨i, rfl, now _ (.bl _)⟩)
      | _ => simp [biD] at e
    | [], _, e => simp [biD] at e
    | _ :: _ :: _, _, e => simp [biD] at e
  | str1 =>
    match xs, rxs, e with
    | [x], rxs, e =>
      obtain ⟨v, rfl, rv⟩ := rxs.one
      have big : isRefD x = true → (shD m x).map D.str = some d → wpAny (model X.prog X.w) X.A (call (biVal .str1) us) (EP X pins σ Q) X.xe s := by
        intro hx e
        obtain ⟨a, rfl⟩ := isRef_of rv hx
        obtain ⟨t, h1, rfl⟩ := Option.map_eq_some_iff.mp e
        obtain ⟨u, rfl, ru⟩ := r.one
        obtain ⟨dd, as, rfl, h2, h3, h4, h5, h6⟩ := sh_of rp hK I rv ru h1
        cases ru
        refine str_of_reads h2 h3 (PyData.noDict_hsm h4) hgd (by omega) (fun _ _ h => h) (fun h' u tk hk => ⟨.str _, H, I.kept hk, ⟨_, rfl⟩, now _ (.str _)⟩) h6
      cases rv with
      | int i =>
        simp only [biD] at e
        split at e
        · rename_i hz; cases e; exact call_str_int pins s σ H _ us Q I r ⟨i, rfl, hz, now _ (.str _)⟩
        · cases e
      | str i => simp only [biD] at e; cases e; exact SkE.call_str_str pins s σ H _ us Q I r ⟨i, rfl, now _ (.str _)⟩
      | tup h n rr => exact big rfl e
      | lst h n z rr => exact big rfl e
      | ref h => exact big rfl e
      | sct h rr => exact big rfl e
      | ktp h rr => exact big rfl e
      | non => simp [biD, isRefD] at e
      | bl b => simp [biD, isRefD] at e
      | exn c a => simp [biD, isRefD] at e
    | [], _, e => simp [biD] at e
    | _ :: _ :: _, _, e => simp [biD] at e
  | repr1 =>
    match xs, rxs, e with
    | [x], rxs, e =>
      obtain ⟨v, rfl, rv⟩ := rxs.one
      simp only [biD] at e
      split at e
      · rename_i hx
        obtain ⟨a, rfl⟩ := isRef_of rv hx
        obtain ⟨t, h1, rfl⟩ := Option.map_eq_some_iff.mp e
        obtain ⟨u, rfl, ru⟩ := r.one
        obtain ⟨dd, as, rfl, h2, h3, h4, h5, h6⟩ := sh_of rp hK I rv ru h1
        cases ru
        refine repr_of_reads' h2 h3 (PyData.noDict_hsm h4) hgd (by omega) (fun _ _ h => h) (fun h' u tk hk => ⟨.str _, H, I.kept hk, ⟨_, rfl⟩, now _ (.str _)⟩) h6
      · cases e
    | [], _, e => simp [biD] at e
    | _ :: _ :: _, _, e => simp [biD] at e
  | tup1 =>
    match xs, rxs, e with
    | [x], rxs, e =>
      obtain ⟨v, rfl, rv⟩ := rxs.one
      by_cases ht : ∃ l, x = .tup l
      · obtain ⟨l, rfl⟩ := ht
        simp only [biD] at e; cases e
        cases rv with
        | tup h n rr =>
          exact call_tuple_of pins s σ H _ us Q I r ⟨_, _, rfl, .inr ⟨SqT.of h, now _ (.tup h n rr)⟩⟩
      · have e' : (lstD m x).map D.tup = some d := by
          cases x <;> first | exact e | exact absurd ⟨_, rfl⟩ ht
        rw [Option.map_eq_some_iff] at e'
        obtain ⟨l, h1, rfl⟩ := e'
        obtain ⟨a, ws, rfl, h3, h4⟩ := lst_of rp rv h1
        exact call_tuple_of pins s σ H _ us Q I r ⟨a, ws, rfl, .inl ⟨by rw [hK]; exact h3, newTup rp h4 q⟩⟩
    | [], _, e => simp [biD] at e
    | _ :: _ :: _, _, e => simp [biD] at e
/-- a value's type -/
theorem isiD_of (rp : RpH Γ ξ ι H m) {t : Ty} {d : D} {v : V} {r : Bool} (rv : Rp Γ.K ξ ι H d v) (e : isiD m t d = some r) : ∃ T : String, TyX Γ.K H v (.type T) ∧ kitB T (tyName t) = some r := by
  cases rv with
  | non => simp [isiD] at e; subst e; exact ⟨_, .base .non, by cases t <;> decide +kernel⟩
  | bl b => simp only [isiD] at e; cases e; exact ⟨_, .base (.bl b), by cases t <;> decide +kernel⟩
  | int b => simp only [isiD] at e; cases e; exact ⟨_, .base (.int b), by cases t <;> decide +kernel⟩
  | str b => simp only [isiD] at e; cases e; exact ⟨_, .base (.str b), by cases t <;> decide +kernel⟩
  | tup h n r => simp only [isiD] at e; cases e; exact ⟨_, .base (.tup h), by cases t <;> decide +kernel⟩
  | lst h n zx r => simp only [isiD] at e; cases e; exact ⟨_, .base (.lst h), by cases t <;> decide +kernel⟩
  | sct h r =>
    simp only [isiD] at e; cases e
    rcases h with ⟨⟨o, h⟩, _⟩ | ⟨o, its, n, h1, h2, _⟩
    · exact ⟨_, .base (.frz h), by cases t <;> decide +kernel⟩
    · exact ⟨_, .kList h1 h2, by cases t <;> decide +kernel⟩
  | ktp h r =>
    simp only [isiD] at e; cases e
    obtain ⟨o, its, n, h1, h2, _⟩ := h
    exact ⟨_, .kTuple h1 h2, by cases t <;> decide +kernel⟩
  | exn c a => simp [isiD] at e
  | @ref n p h =>
    simp only [isiD] at e
    obtain ⟨o, ho, ro⟩ := rp.at h
    rw [ho] at e
    cases o with
    | lst l => obtain ⟨ws, h1, h2⟩ := ro; cases e; exact ⟨_, .base (.lst h1), by cases t <;> decide +kernel⟩
    | dK l => obtain ⟨ws, h1, h2⟩ := ro; cases e; exact ⟨_, .base (.dK h1), by cases t <;> decide +kernel⟩
    | dT l => obtain ⟨ws, h1, h2⟩ := ro; cases e; exact ⟨_, .base (.dT h1), by cases t <;> decide +kernel⟩
    | ins c l => simp at e
/-- slices -/
def rSl (Γ : Gc) : V → Option Int → Option Int → Hp → VK → Prop := fun x lo hi H Q => ∃ ξ ι m a, RpH Γ ξ ι H m ∧ Rp Γ.K ξ ι H a x ∧ ∃ d, slcD m a lo hi = some d ∧ ∀ H' v, Stp ι H ι H' → RpH Γ ξ ι H' m → Rp Γ.K ξ ι H' d v → Q v H'
theorem cut_of {K : PySem.W.Frag} {l : List D} {vs : List V} {lo hi : Option Int} (r : RpAll K ξ ι H l vs) : RpAll K ξ ι H (cut l lo hi) (cutV vs lo hi) := by
  unfold cut cutV
  rw [← r.length]
  exact (r.drop _).take _
theorem slcAll (hK : X.K = Γ.K) : SlR X (rSl Γ) := by
  intro pins s σ H x v vl vu lo hi sl Q I rx hs pl pu h
  obtain ⟨ξ, ι, m, a, rp, ra, d, e, q⟩ := h
  have now : ∀ w, Rp Γ.K ξ ι H d w → Q w H := fun w rw' => q H w (.refl _ _) rp rw'
  have lists : (lstD m a).map (fun l => D.lst (cut l lo hi)) = some d → ∃ T id, typeLookup (.type T) "__getitem__" = pure (some (.builtin id)) ∧ s.TypeIs v T ∧ wpAny (model X.prog X.w) X.A (getItem v (.ref sl)) (EP X pins σ Q) X.xe s := by
    intro e
    rw [Option.map_eq_some_iff] at e
    obtain ⟨l, h1, rfl⟩ := e
    obtain ⟨p, ws, rfl, h3, h4⟩ := lst_of rp ra h1
    exact sl_list pins s σ H _ v vl vu lo hi sl Q I rx hs pl pu ⟨p, ws, rfl, by rw [hK]; exact h3, newLst rp (cut_of h4) q⟩
  cases ra with
  | @tup p ws l h n r =>
    simp only [slcD] at e; cases e
    refine sl_tupA pins s σ H _ v vl vu lo hi sl Q I rx hs pl pu ⟨_, _, rfl, SqT.of h, fun ⟨z1, z2⟩ => ?_, fun _ => newTup rp (cut_of r) q⟩
    refine now _ ?_
    rw [← r.length] at z1 z2
    have : cut l lo hi = l := by unfold cut; rw [z1, z2]; simp
    rw [this]
    exact .tup h n r
  | str z =>
    simp only [slcD] at e
    split at e
    · rename_i hz; cases e
      exact sl_str pins s σ H _ v vl vu lo hi sl Q I rx hs pl pu ⟨z, rfl, hz, now _ (.str _)⟩
    · cases e
  | lst h n zx r => exact lists e
  | sct h r => exact lists e
  | ref h => exact lists e
  | ktp h r => exact lists e
  | _ => simp [slcD, lstD] at e
end
/-! ### setting an item -/
def rSub (Γ : Gc) : V → V → V → Hp → (Hp → Prop) → Prop := fun o i v H Q => ∃ ξ ι m a b d, RpH Γ ξ ι H m ∧ Rp Γ.K ξ ι H a o ∧ Rp Γ.K ξ ι H b i ∧ Rp Γ.K ξ ι H d v ∧ ∃ m', subD m a b d = some m' ∧ ∀ H', Stp ι H ι H' → RpH Γ ξ ι H' m' → Q H'
theorem subAll {X : Cx} {Γ : Gc} (hu : X.A.units + 1 < cLine) : PSet X (rSub Γ) := by
  intro pins s σ H o i v ov iv u Q I ro ri rv h
  obtain ⟨ξ, ι, m, a, b, d, rp, ra, rb, rd, m', e, q⟩ := h
  cases ra with
  | @ref n p h =>
    simp only [subD] at e
    obtain ⟨w, ho, rw'⟩ := rp.at h
    have hp := List.mem_of_getElem? h
    rw [ho] at e
    cases w with
    | lst l =>
      obtain ⟨vs, h1, h2⟩ := rw'
      cases rb with
      | int k =>
        simp only [Option.map_eq_some_iff] at e
        obtain ⟨j, hj, rfl⟩ := e
        refine set_list pins s σ H _ _ v ov iv u Q I ro ri rv ⟨p, vs, k, j, rfl, rfl, h1, by rw [← h2.length]; exact hj, q _ (.write hp) (rp.write h ⟨_, upd_same, ?_⟩)⟩
        exact (h2.set j rd).mono (.write hp)
      | _ => simp at e
    | dK kvs =>
      obtain ⟨ws, h1, h2⟩ := rw'
      cases hk : keyD b with
      | none => rw [hk] at e; cases e
      | some k =>
        rw [hk] at e
        simp only [Option.bind_some] at e
        split at e
        · rename_i hz; cases e
          cases ro
          refine d_setItem hu I (y := i) (v := v) (H' := upd H p (.dK (putK ws k v))) ?_ ri rv fun s' I' => ⟨_, I', q _ (.write hp) (rp.write h ⟨_, upd_same, ?_⟩)⟩
          · rw [keyD_of hk rb]
            exact DPut.k h1 (by rw [← h2.length]; exact hz)
          · exact (putL_of h2 rd).mono (.write hp)
        · cases e
    | dT kvs =>
      obtain ⟨ws, h1, h2⟩ := rw'
      cases rb with
      | @tup b' vs l hb _ rr =>
        simp only at e
        cases hk : keysD l with
        | none => rw [hk] at e; cases e
        | some k =>
          rw [hk] at e
          simp only [Option.bind_some] at e
          split at e
          · rename_i hz; cases e
            cases ro
            refine d_setItem hu I (y := .ref b') (v := v) (H' := upd H p (.dT (putK ws k v))) ?_ ri rv fun s' I' => ⟨_, I', q _ (.write hp) (rp.write h ⟨_, upd_same, ?_⟩)⟩
            · exact DPut.t h1 (by rw [hb, keysD_of hk rr]) (by rw [← h2.length]; exact hz)
            · exact (putL_of h2 rd).mono (.write hp)
          · cases e
      | _ => simp at e
    | ins c l => simp at e
  | _ => simp [subD] at e
end Lw

set_option Elab.async false
set_option linter.all false
set_option maxRecDepth 100000
/-! The promise of a def where no text of a thing is under way (the rows of guards are empty): so that repr and str of tuples and lists are known. -/
namespace Lw
open PySem PySem.Spec PyProof.Rows L2

structure FnG (prog : Program) (wd : World) (kf : PySem.W.Frag) (mg : PySem.Str → Option Value) (base : Heap) (cx : CXT) (lv : Nat) (fa : Addr) (fd : FuncData) (ps : List PySem.Str) (pm : Sp) : Prop where
  len : ∀ xs H0 Q0 E0, pm xs H0 Q0 E0 → xs.length = ps.length
  run : ∀ (ar : Around) (out : List PySem.Env) (st : Shared) (H0 : Hp) (as : Args) (vals : List Value) (xs : List V) (Q0 : VK) (E0 : XK),
    ar.guards = some [] → Room lv ar → Env0 prog wd kf mg base ar out st H0 → BindsTo st fd as (ps.zip vals) → Vals xs vals → pm xs H0 Q0 E0 →
      codeAny (model prog wd) ar (.call (.ref fa) as) (CR cx out prog wd H0 st Q0 E0) st

section
variable {prog : Program} {wd : World} {kf : PySem.W.Frag} {mg : PySem.Str → Option Value} {base : Heap} {cx : CXT} {lv : Nat} {fa : Addr} {pm : Sp}
theorem FnG.imp {fd : FuncData} {ps : List PySem.Str} {pm2 : Sp} (F : FnG prog wd kf mg base cx lv fa fd ps pm) (hl : ∀ xs H0 Q0 E0, pm2 xs H0 Q0 E0 → xs.length = ps.length) (h : ∀ xs H0 Q0 E0, pm2 xs H0 Q0 E0 → pm xs H0 Q0 E0) : FnG prog wd kf mg base cx lv fa fd ps pm2 :=
  ⟨hl, fun ar out st H0 as vals xs Q0 E0 hg hr en hb hv hp => F.run ar out st H0 as vals xs Q0 E0 hg hr en hb hv (h _ _ _ _ hp)⟩
/-- a def by its body -/
theorem fnG_of {nm qn : PySem.Str} {df : Stmt} {fd : FuncData} {N ps : List PySem.Str} (F : L2.Fun kf nm qn df fa fd) (fs : FnScope N ps (defScope df)) (hlen : ∀ xs H0 Q0 E0, pm xs H0 Q0 E0 → xs.length = ps.length)
    (body : ∀ (cd : Value) (ar : Around) (out : List PySem.Env) (st : Shared) (H0 : Hp) (xs : List V) (Q0 : VK) (E0 : XK), ar.guards = some [] →
      Room lv (ar.deeper (envOfC qn (defScope df) st.heap.objs.size fa cd)) → pm xs H0 Q0 E0 →
        ∃ rd, PSs (cxOf cx prog wd kf mg base N qn (defScope df) fa cd ar out st H0 E0) (defBody df) rd ∧ rd { nx := fun _ H1 => Q0 .non H1, rt := Q0 } (L2.start N xs) H0) :
    FnG prog wd kf mg base cx (lv + 1) fa fd ps pm := by
  obtain ⟨oc, od, kV, doc, pmv, an, cd, ct, osl, rfl, look, hc⟩ := F.ex
  constructor
  · exact hlen
  intro ar out st H0 as vals xs Q0 E0 hg hroom en hbind hv hp
  have lenX := hlen xs H0 Q0 E0 hp
  have inK : kf.In st.heap := en.mod.kin.keeps fun b o e => (en.bs b o e).1
  have noLim : st.heap.NoLimit := en.mod.nolimit.keeps fun b o e => (en.bs b o e).1
  have kinds : ∀ y ∈ ps.zip vals, (defScope df).names.lookup y.1 = some .local ∨ ((defScope df).names.lookup y.1 = some .cell ∧ ((cellsFrom (st.heap.objs.size + 1) (defScope df).names []).lookup y.1).isSome = true) := by
    rintro ⟨x, v⟩ hy
    have := fs.par x (List.of_mem_zip hy).1
    exact this.imp id fun q => ⟨q, PySem.W.cellsFrom_some _ _ _ (.inl q)⟩
  apply codeAny_call_function hroom.depth (inK _ _ look) rfl fs.co fs.gen rfl (PySem.W.codeRec_of inK hc)
  apply hbind
  apply wpAny_newFunctionEnv_cells fs.kind kinds
  intro en1 hen st1 made
  subst hen
  constructor
  · exact noLim.keeps made.toInCall.keep
  apply codeAny_func
  obtain ⟨rd, hrd, hq⟩ := body cd ar out st H0 xs Q0 E0 hg (hroom.deeper _) hp
  have inv : Inv (cxOf cx prog wd kf mg base N qn (defScope df) fa cd ar out st H0 E0) [] (L2.start N xs) H0 st1 := inv_start fs hroom.hd en lenX hv made
  refine wpAny_mono (hrd.run [] st1 _ H0 _ inv hq) ?_ ?_
  · intro flow st2 h2
    cases flow with
    | next =>
      obtain ⟨σ2, H2, inv2, q2⟩ := h2
      exact ⟨V.non, H2, inv2.os, inv2.bare, inv2.base, inv2.hok, rfl, q2⟩
    | ret u =>
      obtain ⟨v, σ2, H2, inv2, rv, q2⟩ := h2
      exact ⟨v, H2, inv2.os, inv2.bare, inv2.base, inv2.hok, rv, q2⟩
    | brk => obtain ⟨_, _, _, z⟩ := h2; exact z.elim
    | cont => obtain ⟨_, _, _, z⟩ := h2; exact z.elim
  · exact fun _ _ z => z
/-- a call of it by its name -/
theorem pe_callG {X : Cx} {fd : FuncData} {ps : List PySem.Str} {E0 : L2.St → XK} {x : PySem.Str} {p pos : Pos} {e : PySem.Expr} {es : List PySem.Expr} {ta : TA} (F : FnG X.prog X.w X.K X.mg X.base cx lv fa fd ps pm) (hg : X.A.guards = some []) (hroom : Room lv X.A)
    (gl : Gl X x) (hm : X.mg x = some (.ref fa)) (kp : PySem.W.keepIn X.K (.ref fa) = true) (hb : Binds X.K fd ps []) (hx : ∀ σ, PassesAt cx X σ (E0 σ)) (ha : PA X (e :: es) ta) (hd : (x == ("__debug__" : PySem.Str)) = false)
    (h1 : starEach (e :: es) X.env = (false, eval e X.env) :: starEach es X.env) (h2 : (backTo pos (starEach es X.env)).any (·.1) = false) : PE X (.Call (.Name x p) (e :: es) [] pos) (tCallS pm E0 ta) := by
  constructor
  intro pins s σ H Q I h
  apply wpAny_Call_Name_kw (ld_glob I gl hm ?_ hd)
  refine PySem.W.callWith_K (h₀ := X.base) I.ok.mod.kin kp ?_ h1 h2
  refine L2.thn (ha.run pos pins s σ H _ I h) fun us s1 h3 => ?_
  obtain ⟨vs, H1, I1, rv, q⟩ := h3
  refine ⟨I1.kIn, ?_⟩
  have hl : us.length = ps.length := rv.length ▸ F.len _ _ _ _ q
  have b := hb s1 us I1.kIn (by simpa using hl)
  rw [List.append_nil] at b
  apply wpAny_call
  refine codeAny_mono (F.run X.A X.stack s1 H1 ⟨us, []⟩ us vs Q (E0 σ) hg hroom I1.env0 b rv q) ?_
  intro r s2 hr
  match r, hr with
  | .error err, hr => exact hx σ pins H1 s1 err s2 I1 hr
  | .ok (.ret u), hr => exact I1.after hr
  | .ok .next, hr => exact hr.elim
  | .ok .brk, hr => exact hr.elim
  | .ok .cont, hr => exact hr.elim
end
end Lw

set_option Elab.async false
set_option linter.all false
set_option maxRecDepth 100000
/-! The law's def, called by the claim: the same end as for promises of any surroundings, here where no text is under way. -/
namespace Lw
open PySem PySem.Spec PyProof.Rows L2

section
variable {prog : Program} {wd : World} {kf : PySem.W.Frag} {mg mb : PySem.Str → Option Value} {lv : Nat} {fa adr : Addr} {fd : FuncData} {x : PySem.Str} {pm : Sp} {st : Shared} {vals : List Value} {nums : List Int}
/-- how it ends -/
def EndT (st : Shared) (r : Except Value Flow) (st2 : Shared) : Prop := r = .ok (.ret (.bool true)) ∧ OldK st.heap st2.heap ∧ st2.os = st.os ∧ AllBare st2.gens
theorem lawG_from (H : Hp) (inK : kf.In st.heap) (nsM : st.heap.Ns mainGlobals mg) (nsB : st.heap.Ns builtinsNs mb) (boot : ∀ y : PySem.Str, y ≠ "__name__" → mb y = bootBuiltins y) (noLim : st.heap.NoLimit) (gens : st.gens = #[])
    (obj : st.heap.get? adr = some { cls := .type "list", data := .seq vals.toArray }) (room : Room lv callerA)
    (F : ∀ base : Heap, kf.In base → base.Ns mainGlobals mg → FnG prog wd kf mg base (L2.CX prog wd) lv fa fd [x] pm) (hbind : ∀ (s : Shared) (u : Value), BindsTo s fd ⟨[u], []⟩ [(x, u)])
    (only : Only H) (hok : HOk prog wd H st.heap) (sole : ∀ b, H b ≠ none → b = adr) (out : H adr ≠ none → kf.lookup adr = none) (hp : pm [.ref adr] H (fun v _ => v = .bl true) fun _ _ _ => False) :
    codeAny (model prog wd) callerA (.call (.ref fa) ⟨[.ref adr], []⟩) (EndT st) st := by
  have free : ∀ {b : Addr} {o : Obj} {es : Array DictEntry} {ep : Nat}, st.heap.get? b = some o → o.data = .dict es ep → H b = none := by
    intro b o es ep hb hd
    refine Classical.byContradiction fun z => ?_
    rw [sole b z, obj] at hb
    cases hb
    exact Data.noConfusion hd
  have nsH : ∀ {b : Addr} {m : PySem.Str → Option Value}, st.heap.Ns b m → (hidT st.heap H).Ns b m := by
    rintro b m ⟨o, es, ep, ho, hd, rest⟩
    exact ⟨o, es, ep, hidT_get ho (free ho hd), hd, rest⟩
  have inH : kf.In (hidT st.heap H) := by
    intro b o hb
    refine hidT_get (inK b o hb) (Classical.byContradiction fun z => ?_)
    have e := sole b z
    subst e
    rw [out z] at hb
    cases hb
  obtain ⟨ml, l1, l2⟩ := noLim
  have md : Mod kf mg (hidT st.heap H) := ⟨inH, nsH nsM, ⟨mb, nsH nsB, boot⟩, ⟨ml, nsH l1, l2⟩⟩
  have en : Env0 prog wd kf mg (hidT st.heap H) callerA [] st H := { frames := rfl, mod := md, bs := fun b o e => of_hidT e, bsz := Nat.le_of_eq (hidT_size _ _), funs := trivial, frf := fun b hb => absurd (show b ∈ ([] : List Addr) from hb) (by simp), hok := hok, bare := .of_eq gens }
  refine codeAny_mono ((F _ inH (nsH nsM)).run callerA [] st H ⟨[.ref adr], []⟩ [.ref adr] [.ref adr] _ _ rfl room en (hbind st (.ref adr)) (.cons rfl .nil) hp) ?_
  intro r st2 hr
  match r, hr with
  | .error e, hr =>
    obtain ⟨_, _, _, _, _, _, _, _, _, _, _, _, z⟩ := hr
    exact z.elim
  | .ok .next, hr => exact False.elim hr
  | .ok .brk, hr => exact False.elim hr
  | .ok .cont, hr => exact False.elim hr
  | .ok (.ret u), hr =>
    obtain ⟨v, H2, os, bare, un, hok2, rv, hv⟩ := hr
    have hv : v = .bl true := hv
    subst hv
    have hu : u = Value.bool true := rv
    subst hu
    refine ⟨rfl, OldK.of_keep ?_, os, bare⟩
    intro b o hb
    cases hH : H b with
    | none => exact un.keep b o hb hH (fun z => absurd (show b ∈ ([] : List Addr) from z) (by simp)) (by simp)
    | some u =>
      obtain z | ⟨ob, xs, z⟩ := only b
      · rw [hH] at z; cases z
      · have e1 := (hok b _ z).1
        have e2 := (hok2 b _ (un.frzs b ob _ z)).1
        rw [hb] at e1
        cases e1
        exact e2
theorem lawG (inK : kf.In st.heap) (nsM : st.heap.Ns mainGlobals mg) (nsB : st.heap.Ns builtinsNs mb) (boot : ∀ y : PySem.Str, y ≠ "__name__" → mb y = bootBuiltins y) (noLim : st.heap.NoLimit) (gens : st.gens = #[])
    (obj : st.heap.get? adr = some { cls := .type "list", data := .seq vals.toArray }) (room : Room lv callerA) (hi : IntsAre vals nums) (hl : nums.length ≤ sizeLine)
    (F : ∀ base : Heap, kf.In base → base.Ns mainGlobals mg → FnG prog wd kf mg base (L2.CX prog wd) lv fa fd [x] pm) (hbind : ∀ (s : Shared) (u : Value), BindsTo s fd ⟨[u], []⟩ [(x, u)])
    (hp : ∀ H : Hp, Only H → SqL kf H adr (nums.map V.int) → pm [.ref adr] H (fun v _ => v = .bl true) fun _ _ _ => False) :
    codeAny (model prog wd) callerA (.call (.ref fa) ⟨[.ref adr], []⟩) (EndT st) st := by
  have rv := vals_ints hi
  have lenV := hi.length
  cases hk : kf.lookup adr with
  | some o =>
    have e := inK adr o hk
    rw [obj] at e
    cases e
    have only : Only fun _ => none := fun _ => .inl rfl
    refine lawG_from (fun _ => none) inK nsM nsB boot noLim gens obj room F hbind only (fun b u z => by cases z) (fun b z => absurd rfl z) (fun z => absurd rfl z) (hp _ only (.inr ⟨_, vals.toArray, _, hk, rfl, rfl, rfl, ?_, by simpa using rv⟩))
    rw [List.size_toArray, lenV]
    exact hl
  | none =>
    have key : ∀ b, (if b = adr then some (HO.frz { cls := .type "list", data := .seq vals.toArray } (.lst (nums.map V.int))) else none) ≠ none → b = adr := fun b z => Classical.byContradiction fun n => z (if_neg n)
    have only : Only fun b => if b = adr then some (HO.frz { cls := .type "list", data := .seq vals.toArray } (.lst (nums.map V.int))) else none := by
      intro b
      by_cases hb : b = adr
      · exact .inr ⟨_, _, if_pos hb⟩
      · exact .inl (if_neg hb)
    refine lawG_from _ inK nsM nsB boot noLim gens obj room F hbind only ?_ key (fun _ => hk) (hp _ only (.inl (.inr ⟨_, if_pos rfl⟩)))
    intro b u z
    have hb : b = adr := key b (fun y => nomatch (Eq.symm z).trans y)
    subst hb
    have z' := (if_pos rfl).symm.trans z
    cases z'
    exact ⟨obj, by rw [List.length_map]; exact hl, vals, _, rv, obj⟩
end
/-- the walk that the head leaves -/
theorem walkG {l : PySem.W.OpenLaw} {lv : Nat} {q : Program} {loose : List PySem.Str} {XP : (PySem.Str → Option Value) → Heap → Prop} {YP : World → Heap → Prop} {d : DefRec} {K : Params → PySem.W.Frag} {pm : World → Sp} {x : PySem.Str}
    (hn : l.most = some 63) (hdf : d.params.defaults = []) (room : Room lv callerA) (hY : ∀ (w : World) (h : Heap), YP w h → (K w.params).In h)
    (F : ∀ (w : World) (mg : PySem.Str → Option Value) (fa : Addr) (h : Heap), (K w.params).In h → h.Ns mainGlobals mg → mg d.name = some (.ref fa) →
      ∃ fd : FuncData, (∀ (s : Shared) (u : Value), BindsTo s fd ⟨[u], []⟩ [(x, u)]) ∧ ∀ base : Heap, (K w.params).In base → base.Ns mainGlobals mg → FnG l.prog w (K w.params) mg base (L2.CX l.prog w) lv fa fd [x] (pm w))
    (hp : ∀ (w : World) (H : Hp) (a : Addr) (ns : List Int), ns.length ≤ 63 → Only H → SqL (K w.params) H a (ns.map V.int) → pm w [.ref a] H (fun v _ => v = .bl true) fun _ _ _ => False) :
    PySem.W.WalkO q loose XP YP l.row.toRowW d [] (fun f vs => PySem.call f vs) := by
  refine Att.attach_call hn hdf ?_
  intro w s0 s1 mg mb fa o pmv cd doc a vs ns G Y ho hd hcd hmg hobj hints hlen hg
  have inK := hY w _ Y
  obtain ⟨fd, hb, hF⟩ := F w mg fa _ inK G.T.g hmg
  exact lawG inK G.T.g G.T.b G.T.builtins G.T.nolimit hg hobj room hints (Nat.le_trans hlen (by decide)) hF hb fun H hO hS => hp w H a ns hlen hO hS
end Lw

set_option Elab.async false
set_option linter.all false
set_option maxRecDepth 100000
/-! The look at the program's text, and that the text does what the small language says: expressions. -/
namespace Lw
open PySem PySem.Spec PyProof.Rows L2

/-- where one stands in the text -/
structure Ck where
  N : List PySem.Str
  sc : Scope
  gl : List PySem.Str
  fns : List (PySem.Str × Nat)
def Ck.kind (c : Ck) (x : PySem.Str) : Option NameKind := c.sc.names.lookup x
def Ck.vis (c : Ck) (x : PySem.Str) : Bool := match c.kind x with | some .local => true | some .cell => true | some .free => true | _ => false
def Ck.loc (c : Ck) (x : PySem.Str) : Bool := match c.kind x with | some .local => true | some .cell => true | _ => false
def Ck.islocal (c : Ck) (x : PySem.Str) : Bool := match c.kind x with | some .local => true | _ => false
def Ck.glb (c : Ck) (x : PySem.Str) : Bool := (match c.kind x with | some .globalImplicit => true | _ => false) && !decide (x = "__debug__") && !decide (x = "__name__")
def bltN : List PySem.Str := ["len", "all", "any", "sum", "min", "max", "int", "bool", "str", "tuple", "list", "dict", "isinstance", "range", "sorted", "set", "enumerate", "repr", "ValueError"]
/-- no form of its own kind -/
def okX : PySem.Expr → Bool
  | .Starred .. => false | .Set .. => false | .Slice .. => false | .Yield .. => false | .YieldFrom .. => false | .Await .. => false | .NamedExpr .. => false | .Lambda .. => false | .SetComp .. => false | .DictComp .. => false | .GeneratorExp .. => false
  | _ => true
def nComp : PySem.Expr → Bool
  | .ListComp .. => false
  | e => okX e
/-- the test of its truth is the plain one -/
def plainT : PySem.Expr → Bool
  | .UnaryOp .. => false | .BoolOp .. => false | .IfExp .. => false | .Compare .. => false
  | _ => true
def isBop : Bop → Operator → Bool
  | .add, .Add => true | .sub, .Sub => true | .mul, .Mult => true | .fdiv, .FloorDiv => true | .mod, .Mod => true | .pow, .Pow => true
  | _, _ => false
def isCop : Cop → CmpOp → Bool
  | .lt, .Lt => true | .le, .LtE => true | .gt, .Gt => true | .ge, .GtE => true | .eq, .Eq => true | .ne, .NotEq => true | .isin, .In => true | .notin, .NotIn => true
  | _, _ => false
theorem isBop_eq {b : Bop} {o : Operator} (h : isBop b o = true) : o = bopA b := by cases b <;> cases o <;> first | rfl | cases h
theorem isCop_eq {b : Cop} {o : CmpOp} (h : isCop b o = true) : o = copA b := by cases b <;> cases o <;> first | rfl | cases h
def isCst : D → Const → Bool
  | .non, .none => true
  | .bl b, .bool c => b == c
  | .int i, .int j => decide (i = j)
  | .str s, .str t => decide (s = t)
  | _, _ => false
/-! an expression that may stand as a test -/
mutual
def tstE : E → Bool
  | .and a es => tstE a && tstEs es
  | .or a es => tstE a && tstEs es
  | .not a => tstE a
  | .ife .. => false
  | .neg _ => false
  | _ => true
def tstEs : Es → Bool
  | .nil => true
  | .cons e es => tstE e && tstEs es
end
/-- list(range(p, q, r)) -/
def asRng3 : PySem.Expr → Option (PySem.Str × PySem.Str × PySem.Expr × PySem.Expr × PySem.Expr)
  | .Call (.Name x _) [.Call (.Name y _) [p, q, r] [] _] [] _ => some (x, y, p, q, r)
  | _ => none
theorem asRng3_eq {e : PySem.Expr} {x y : PySem.Str} {p q r : PySem.Expr} (h : asRng3 e = some (x, y, p, q, r)) : ∃ p1 p2 p3 p4, e = .Call (.Name x p1) [.Call (.Name y p2) [p, q, r] [] p3] [] p4 := by
  unfold asRng3 at h
  split at h
  · cases h; exact ⟨_, _, _, _, rfl⟩
  · cases h
def m1Name : M1 → PySem.Str
  | .join => "join"
/-- a receiver of a method -/
def baseOk : PySem.Expr → Bool
  | .Name .. => true | .Subscript .. => true | .Attribute .. => true | .Constant .. => true
  | _ => false
/-- x.n(y) -/
def asM1 : PySem.Expr → Option (PySem.Expr × PySem.Str × PySem.Expr × Bool)
  | .Call (.Attribute x n p) [y] [] q => some (x, n, y, p.endLine == q.line && baseOk x)
  | _ => none
theorem asM1_eq {e x y : PySem.Expr} {n : PySem.Str} {ok : Bool} (h : asM1 e = some (x, n, y, ok)) : ∃ p q, e = .Call (.Attribute x n p) [y] [] q ∧ (ok = true → (p.endLine == q.line) = true ∧ baseOk x = true) := by
  unfold asM1 at h
  split at h
  · cases h; exact ⟨_, _, rfl, fun h => by simpa only [Bool.and_eq_true] using h⟩
  · cases h
mutual
def chkE (c : Ck) : E → PySem.Expr → Bool
  | .cst d, .Constant k _ _ => isCst d k
  | .glob k, .Name x _ => decide (c.gl[k]? = some x) && c.glb x
  | .var i, .Name x _ => decide (c.N[i]? = some x) && c.vis x && !decide (x = "__debug__") && !decide (x = "__classdict__")
  | .tup es, .Tuple xs _ _ => chkEs c es xs
  | .fz l, e => chkL c l e
  | .alc l, e => chkL c l e
  | .bin op a b, .BinOp x o y _ => isBop op o && chkE c a x && chkE c b y
  | .neg a, .UnaryOp .USub x _ => chkE c a x
  | .cmp op a b, .Compare x [o] [y] _ => isCop op o && chkE c a x && chkE c b y && okX y
  | .chain o1 o2 a b d, .Compare x [p1, p2] [y, z] _ => isCop o1 p1 && isCop o2 p2 && chkE c a x && chkE c b y && chkE c d z && okX y && okX z
  | .isN ng a, .Compare x [o] [.Constant .none _ _] _ => (match ng, o with | false, .Is => true | true, .IsNot => true | _, _ => false) && chkE c a x
  | .isB ng a b, .Compare x [o] [y] _ => (match ng, o with | false, .Is => true | true, .IsNot => true | _, _ => false) && chkE c a x && chkE c b y && okX y
  | .and a es, .BoolOp .And (x :: y :: r) _ => chkE c a x && chkEs c es (y :: r)
  | .or a es, .BoolOp .Or (x :: y :: r) _ => chkE c a x && chkEs c es (y :: r)
  | .not a, .UnaryOp .Not x _ => chkE c a x
  | .ife t a b, .IfExp x y z _ => chkE c t x && chkE c a y && chkE c b z && tstE t
  | .idx a b, .Subscript x y _ => chkE c a x && chkE c b y && okX y
  | .slc a lo hi, .Subscript x (.Slice l h none _) _ => chkE c a x && chkOe c lo l && chkOe c hi h
  | .call f es, .Call (.Name x _) (y :: ys) [] _ => decide ((c.fns[f]?).map (·.1) = some x) && c.glb x && chkEs c es (y :: ys)
  | .bi b es, .Call (.Name x _) (y :: ys) [] _ => decide (biName b = x) && c.glb x && chkEs c es (y :: ys)
  | .isi t a, .Call (.Name x _) [y, .Name z _] [] _ => decide (x = "isinstance") && c.glb x && chkE c a y && okX y && decide (z = PySem.Str.ofString (tyName t)) && c.glb z
  | .append o e, .Call (.Attribute x n p) [y] [] q => decide (n = "append") && chkE c o x && chkE c e y && okX y && p.endLine == q.line && (match x with | .Name .. => true | .Subscript .. => true | .Attribute .. => true | _ => false)
  | .dsp ks, .Dict xs ys _ => chkKs c ks xs ys && !xs.isEmpty && decide (xs.length ≤ 15)
  | .dnw _, .Dict [] [] _ => true
  | .m1 k o e, a => (match asM1 a with
    | some (x, n, y, ok) => decide (n = m1Name k) && ok && chkE c o x && chkE c e y && okX y
    | none => false)
  | _, _ => false
def chkEs (c : Ck) : Es → List PySem.Expr → Bool
  | .nil, [] => true
  | .cons e es, x :: xs => chkE c e x && okX x && chkEs c es xs
  | _, _ => false
def chkOe (c : Ck) : Oe → Option PySem.Expr → Bool
  | .no, none => true
  | .so e, some x => chkE c e x
  | _, _ => false
def chkKs (c : Ck) : Ks → List (Option PySem.Expr) → List PySem.Expr → Bool
  | .nil, [], [] => true
  | .cons k e ks, some (.Constant (.str s) _ _) :: xs, y :: ys => decide (k = s) && chkE c e y && chkKs c ks xs ys
  | _, _, _ => false
def chkL (c : Ck) : L → PySem.Expr → Bool
  | .disp es, .List xs _ => chkEs c es xs
  | .lc own t it elt, .ListComp x [⟨tg, i, [], az⟩] sc _ => decide (az = 0) && blkC c.N c.sc sc (own.map fun j => (c.N.getD j "", j)) && chkT { c with sc := sc } own t tg && chkI c it i && chkE { c with sc := sc } elt x && okX i
  | .lcIf own t it cd elt, .ListComp x [⟨tg, i, [y], az⟩] sc _ => decide (az = 0) && blkC c.N c.sc sc (own.map fun j => (c.N.getD j "", j)) && chkT { c with sc := sc } own t tg && chkI c it i && chkE { c with sc := sc } cd y && chkE { c with sc := sc } elt x && okX i && tstE cd
  | .lstOf e, .Call (.Name x _) [y] [] _ => decide (x = "list") && c.glb x && chkE c e y && okX y
  | .rng3 a b d, e => (match asRng3 e with
    | some (x, y, p, q, r) => decide (x = "list") && c.glb x && decide (y = "range") && c.glb y && chkE c a p && chkE c b q && chkE c d r && okX p && okX q && okX r
    | none => false)
  | _, _ => false
def chkI (c : Ck) : I → PySem.Expr → Bool
  | .seq e, x => chkE c e x
  | .rng1 a, .Call (.Name x _) [y] [] _ => decide (x = "range") && c.glb x && chkE c a y && okX y
  | .rng2 a b, .Call (.Name x _) [y, z] [] _ => decide (x = "range") && c.glb x && chkE c a y && chkE c b z && okX y && okX z
  | _, _ => false
/-- own: the slots that may be set -/
def chkT (c : Ck) (own : List Nat) : T → PySem.Expr → Bool
  | .nm i, .Name x _ => decide (c.N[i]? = some x) && c.loc x && decide (i ∈ own)
  | .tp ts, .Tuple xs _ _ => chkTs c own ts xs
  | _, _ => false
def chkTs (c : Ck) (own : List Nat) : Ts → List PySem.Expr → Bool
  | .nil, [] => true
  | .cons t ts, x :: xs => chkT c own t x && okX x && chkTs c own ts xs
  | _, _ => false
end

/-! ### forms -/
theorem starEach_ok {e : PySem.Expr} {es : List PySem.Expr} {env : PySem.Env} (h : okX e = true) : starEach (e :: es) env = (false, eval e env) :: starEach es env := by
  cases e <;> first | rfl | cases h
theorem behind_ok {op : CmpOp} {e : PySem.Expr} (h : okX e = true) : behindInMarks op e = false := by
  cases e <;> first | rfl | cases h
theorem plainIx_ok {e : PySem.Expr} (h : okX e = true) : PlainIx e := by
  cases e <;> first | exact fun _ _ => rfl | cases h
theorem folded_ok {e : PySem.Expr} (h : okX e = true) {env : PySem.Env} : ∀ x, foldedSetIterable e env x = pure x := by
  cases e <;> first | exact fun _ => rfl | cases h
theorem plainT_ok {e : PySem.Expr} (h : plainT e = true) {env : PySem.Env} : ∀ whole, isTrue e env whole = (do let v ← whole; standAt e.pos; holding [v] (truthy v)) := by
  cases e <;> first | exact fun _ => rfl | cases h
theorem assignEach_ok {e : PySem.Expr} {es : List PySem.Expr} {env : PySem.Env} (h : okX e = true) : assignEach (e :: es) env = (false, assign e env) :: assignEach es env := by
  cases e <;> first | rfl | cases h
theorem base_ok {e : PySem.Expr} {n : PySem.Str} {env : PySem.Env} {t : Sem Value} (h : (match e with | .Name .. => true | .Subscript .. => true | .Attribute .. => true | _ => false) = true) : attributeBase e n env t = t := by
  cases e <;> first | rfl | cases h
theorem base2_ok {e : PySem.Expr} {n : PySem.Str} {env : PySem.Env} {t : Sem Value} (h : baseOk e = true) : attributeBase e n env t = t := by
  cases e <;> first | rfl | cases h
theorem okAll {c : Ck} : ∀ {es : Es} {xs : List PySem.Expr}, chkEs c es xs = true → ∀ x ∈ xs, okX x = true
  | .nil, [], _, x, hx => by simp at hx
  | .cons e es, y :: ys, h, x, hx => by
    simp only [chkEs, Bool.and_eq_true] at h
    rcases List.mem_cons.mp hx with rfl | hx
    · exact h.1.2
    · exact okAll h.2 x hx
  | .nil, _ :: _, h, _, _ => by simp [chkEs] at h
  | .cons _ _, [], h, _, _ => by simp [chkEs] at h
theorem star_any {xs : List PySem.Expr} {env : PySem.Env} {pos : Pos} (h : ∀ x ∈ xs, okX x = true) : (backTo pos (starEach xs env)).any (·.1) = false := by
  induction xs with
  | nil => rfl
  | cons x xs ih =>
    rw [starEach_ok (h x List.mem_cons_self)]
    have := ih fun y hy => h y (List.mem_cons_of_mem _ hy)
    unfold backTo at this ⊢
    rw [List.map_cons, List.any_cons, this]
    rfl

/-! ### the place in the run -/
/-- what a call of a def asks -/
def spF (Γ : Gc) (g : List D → Hs → R D) (ar : Nat) : Sp := fun vs H Q E => vs.length = ar ∧ ∃ ξ ι m ds, RpAll Γ.K ξ ι H ds vs ∧ RpH Γ ξ ι H m ∧
  wpR Γ ξ (fun cls d _ H => E cls d H) [] ι H (g ds m) fun ι' H' d _ => ∀ v, Rp Γ.K ξ ι' H' d v → Q v H'
structure Good (Γ : Gc) (C : Calls) (c : Ck) (n : Nat) (W : WX) (X : Cx) : Prop where
  K : X.K = Γ.K
  N : X.N = c.N
  nd : c.N.Nodup
  names : ∀ x k, c.sc.names.lookup x = some k → ∃ k', X.env.scope.names.lookup x = some k' ∧ (k' = k ∨ (k = .free ∧ k' = .cell))
  fn : ∀ x, c.sc.names.lookup x = some .cell → X.fn x = true
  calm : X.calm = true
  room : Room n X.A
  gd : X.A.guards = some []
  tk : Takes X W
  po : PassesOwn (model X.prog X.w) X.A X.env X.xe
  blt : ∀ x ∈ bltN, X.mg x = none
  gl : ∀ (k : Nat) (x : PySem.Str), c.gl[k]? = some x → ∃ d u v, C.gs k = some d ∧ X.mg x = some u ∧ RelV v u ∧ ∀ ξ ι H, Rp Γ.K ξ ι H d v
  cal : ∀ (f : Nat) (x : PySem.Str) (a : Nat), c.fns[f]? = some (x, a) → ∃ (ad : Addr) (fd : FuncData) (ps : List PySem.Str), X.mg x = some (.ref ad) ∧ PySem.W.keepIn X.K (.ref ad) = true ∧ Binds X.K fd ps [] ∧ ps.length = a ∧
    FnG X.prog X.w X.K X.mg X.base (L2.CX X.prog X.w) n ad fd ps (spF Γ (C.fn f) a)
  arity : ∀ (f : Nat) (ds : List D) (m : Hs) (x : PySem.Str) (a : Nat), c.fns[f]? = some (x, a) → ds.length ≠ a → C.fn f ds m = .stuck
section
variable {Γ : Gc} {C : Calls} {c : Ck} {n : Nat} {W : WX} {X : Cx}
theorem Good.units (g : Good Γ C c n W X) : X.A.units + 66 < cLine := by have := g.room.un; omega
theorem Good.vis (g : Good Γ C c n W X) {x : PySem.Str} (h : c.vis x = true) : Vis X.env.scope x := by
  unfold Ck.vis Ck.kind at h
  split at h
  · rename_i e; obtain ⟨k, h1, rfl | ⟨z, _⟩⟩ := g.names x _ e
    · exact .inl h1
    · cases z
  · rename_i e; obtain ⟨k, h1, rfl | ⟨z, _⟩⟩ := g.names x _ e
    · exact .inr (.inl h1)
    · cases z
  · rename_i e; obtain ⟨k, h1, rfl | ⟨_, rfl⟩⟩ := g.names x _ e
    · exact .inr (.inr h1)
    · exact .inr (.inl h1)
  · cases h
theorem Good.loc (g : Good Γ C c n W X) {x : PySem.Str} (h : c.loc x = true) : Loc X.env.scope x ∧ (X.fn x = true ∨ X.env.scope.names.lookup x = some .local) := by
  unfold Ck.loc Ck.kind at h
  split at h
  · rename_i e; obtain ⟨k, h1, rfl | ⟨z, _⟩⟩ := g.names x _ e
    · exact ⟨.inl h1, .inr h1⟩
    · cases z
  · rename_i e; obtain ⟨k, h1, rfl | ⟨z, _⟩⟩ := g.names x _ e
    · exact ⟨.inr h1, .inl (g.fn x e)⟩
    · cases z
  · cases h
theorem Good.islocal (g : Good Γ C c n W X) {x : PySem.Str} (h : c.islocal x = true) : X.env.scope.names.lookup x = some .local := by
  unfold Ck.islocal Ck.kind at h
  split at h
  · rename_i e; obtain ⟨k, h1, rfl | ⟨z, _⟩⟩ := g.names x _ e
    · exact h1
    · cases z
  · cases h
theorem Good.glb (g : Good Γ C c n W X) {x : PySem.Str} (h : c.glb x = true) : Gl X x ∧ (x == ("__debug__" : PySem.Str)) = false ∧ x ≠ "__name__" := by
  unfold Ck.glb Ck.kind at h
  simp only [Bool.and_eq_true, Bool.not_eq_true', decide_eq_false_iff_not] at h
  obtain ⟨⟨h1, h2⟩, h3⟩ := h
  split at h1
  · rename_i e; obtain ⟨k, h4, rfl | ⟨z, _⟩⟩ := g.names x _ e
    · exact ⟨h4, beq_eq_false_iff_ne.mpr h2, h3⟩
    · cases z
  · cases h1
theorem relabel_lookup {env : PySem.Env} : ∀ {names : List (PySem.Str × NameKind)} {x : PySem.Str} {k : NameKind}, names.lookup x = some k →
    ∃ k', (names.map fun (n, k) => if (k == NameKind.free && env.scope.kind == .function && env.kindOf n == some .cell) then (n, NameKind.cell) else (n, k)).lookup x = some k' ∧ (k' = k ∨ (k = .free ∧ k' = .cell))
  | [], _, _, h => by simp at h
  | (n, k₀) :: r, x, k, h => by
    have ih := @relabel_lookup env r x k
    show ∃ k', List.lookup x ((if (k₀ == NameKind.free && env.scope.kind == .function && env.kindOf n == some .cell) = true then (n, NameKind.cell) else (n, k₀)) :: _) = some k' ∧ _
    cases hx : x == n with
    | true =>
      simp only [List.lookup_cons, hx] at h
      cases h
      by_cases hc : (k₀ == NameKind.free && env.scope.kind == .function && env.kindOf n == some .cell) = true
      · rw [if_pos hc]
        simp only [List.lookup_cons, hx]
        simp only [Bool.and_eq_true, beq_iff_eq] at hc
        exact ⟨_, rfl, .inr ⟨hc.1.1, rfl⟩⟩
      · rw [if_neg hc]
        simp only [List.lookup_cons, hx]
        exact ⟨_, rfl, .inl rfl⟩
    | false =>
      simp only [List.lookup_cons, hx] at h
      by_cases hc : (k₀ == NameKind.free && env.scope.kind == .function && env.kindOf n == some .cell) = true
      · rw [if_pos hc]; simp only [List.lookup_cons, hx]; exact ih h
      · rw [if_neg hc]; simp only [List.lookup_cons, hx]; exact ih h
/-- within a comprehension's block -/
theorem Good.blk (g : Good Γ C c n W X) (s : Shared) (H : Hp) (scope : Scope) (Ca : Addr) (cl : List (PySem.Str × Addr)) (fp : List Addr) :
    Good Γ C { c with sc := scope } n (fun _ _ _ _ => False) (X.blk s H scope (compEnvC scope cl Ca X.env) fp) where
  K := g.K
  N := g.N
  nd := g.nd
  names := fun x k e => relabel_lookup e
  fn := fun x e => by show (scope.names.lookup x == some .cell) = true; rw [show scope.names.lookup x = some .cell from e]; rfl
  calm := g.calm
  room := g.room
  gd := g.gd
  tk := takes0
  po := PassesOwn.never
  blt := g.blt
  gl := g.gl
  cal := g.cal
  arity := g.arity
theorem Good.blkOk (g : Good Γ C c n W X) {scope : Scope} {own : List (PySem.Str × Nat)} (h : blkC c.N c.sc scope own = true) : BlkOk X.N X.env.scope scope own := by
  have k := blkOk_by h
  rw [g.N]
  refine ⟨k.kind, k.uniq, k.ix, fun y hy e => ?_, k.own⟩
  rcases k.free y hy e with q | q
  · obtain ⟨k', h1, rfl | ⟨z, _⟩⟩ := g.names _ _ q
    · exact .inl h1
    · cases z
  · obtain ⟨k', h1, rfl | ⟨_, rfl⟩⟩ := g.names _ _ q
    · exact .inr h1
    · exact .inl h1
end
end Lw

set_option Elab.async false
set_option linter.all false
set_option maxRecDepth 100000
/-! That the text does what the small language says: expressions. -/
namespace Lw
open PySem PySem.Spec PyProof.Rows L2

/-- list(range(a, b, c)) -/
def tLstRg3 (ta : TA) : TE := fun σ H Q => ta σ H fun vs H1 => ∃ (i j c : Int) (n : Nat), vs = [.int i, .int j, .int c] ∧ RgC i j c n ∧ n ≤ 2 ^ 24 ∧ ∀ q, H1 q = none → Q (.ref q) (upd H1 q (.lst ((List.range n).map fun k => V.int (i + (k : Nat) * c))))
theorem pe_listRg3 {X : Cx} {a b c : PySem.Expr} {ta : TA} {p p2 pos pos2 : Pos} (hc : X.calm = true) (hgl : Gl X "list") (hml : X.mg "list" = none) (hg : Gl X "range") (hm : X.mg "range" = none) (ha : PA X [a, b, c] ta)
    (hs : starEach [a, b, c] X.env = (false, eval a X.env) :: starEach [b, c] X.env) (hpl : (backTo pos (starEach [b, c] X.env)).any (·.1) = false) :
    PE X (.Call (.Name "list" p2) [.Call (.Name "range" p) [a, b, c] [] pos] [] pos2) (tLstRg3 ta) := by
  refine ⟨fun pins s σ H Q I h => ?_⟩
  refine Call_ (ld_blt I hgl hml boot_list (PyProof.Rows.callWith_type1 (args_cons (Call_ (ld_blt I hg hm boot_range (PyProof.Rows.callWith_type1 (L2.thn (ha.run pos pins s σ H _ I h) fun us s1 ⟨vs, H1, I1, r1, q1⟩ => ?_) hs hpl))) rfl) rfl))
  obtain ⟨i, j, k, n, e, ⟨c0, c1, c2, c3⟩, hn, q⟩ := q1
  subst e
  cases r1 with
  | cons r rr =>
    cases rr with
    | cons r' rr =>
      cases rr with
      | cons r'' rr =>
        cases rr
        obtain ⟨t, rfl⟩ := r
        obtain ⟨t', rfl⟩ := r'
        obtain ⟨t'', rfl⟩ := r''
        refine call_range_3 c0 ?_ (.inl (PyProof.noPylong_small c1))
        have I2 : Inv X pins σ H1 { s1 with heap := s1.heap.push { cls := .type "range", data := .fields #[.int i t, .int j t', .int k t''] } } := I1.kept (t' := s1.toks) fun b o e => Heap.get?_push_of_some _ e
        refine args_nil (call_list_range (n := n) (I2.ok.hd hc) (IsRange.new ..) c2 c3 hn fun h' tk acc c' hk e' hi => ?_)
        refine ⟨.ref _, upd H1 _ (.lst ((List.range n).map fun m => V.int (i + (m : Nat) * k))), I2.laid hk (Nat.le_refl _) (show ObjOk X.prog X.w _ _ _ (.lst ((List.range n).map fun m => V.int (i + (m : Nat) * k))) from ⟨?_, acc.toList, c', ?_, ?_⟩), rfl, q _ (I2.hok.fresh (Nat.le_refl _))⟩
        · rw [List.length_map, List.length_range, sizeLine_eq]; omega
        · have e : acc.toList.length = n := by rw [Array.length_toList]; exact hi.1
          rw [← e]
          refine vals_of_get acc.toList (fun m => V.int (i + (m : Nat) * k)) fun j u hj => ?_
          obtain ⟨t, rfl⟩ := hi.2 j u (by rw [← hj, Array.getElem?_toList])
          exact ⟨t, rfl⟩
        · rw [Array.toArray_toList]; exact e'
theorem rpInts {K : PySem.W.Frag} {ξ ι : List Addr} {H : Hp} (f : Nat → Int) : ∀ l : List Nat, RpAll K ξ ι H (l.map fun k => D.int (f k)) (l.map fun k => V.int (f k))
  | [] => .nil
  | _ :: l => .cons (.int _) (rpInts f l)
section
variable {Γ : Gc} {C : Calls} {W : WX} {X : Cx}
/-- two in a row, then an operation -/
theorem two_ok {fa fb : Env → Hs → R D} {r : R2} {k : D → D → Hs → R D} {σ : L2.St} {H : Hp} {Q : VK}
    (h : tE Γ W (fun ρ m => (fa ρ m).bind fun x m => (fb ρ m).bind fun y m => k x y m) σ H Q)
    (last : ∀ ξ ι m x y v w H2, RpH Γ ξ ι H2 m → Rp Γ.K ξ ι H2 x v → Rp Γ.K ξ ι H2 y w → wpR Γ ξ W σ ι H2 (k x y m) (fun ι' H' d _ => ∀ v, Rp Γ.K ξ ι' H' d v → Q v H') → r v w H2 Q) :
    tOp r (tE Γ W fa) (tE Γ W fb) σ H Q := by
  obtain ⟨ξ, ι, ρ, m, hs, hr, h⟩ := h
  refine ⟨ξ, ι, ρ, m, hs, hr, (wpR.bind h).mono fun ι1 H1 x m1 s1 r1 h1 v rv => ⟨ξ, ι1, ρ, m1, hs.mono s1, r1, (wpR.bind h1).mono fun ι2 H2 y m2 s2 r2 h2 w rw' => ?_⟩⟩
  exact last ξ ι2 m2 x y v w H2 r2 (rv.mono s2) rw' h2
theorem one_ok {fa : Env → Hs → R D} {r : V → Hp → VK → Prop} {k : D → Hs → R D} {σ : L2.St} {H : Hp} {Q : VK}
    (h : tE Γ W (fun ρ m => (fa ρ m).bind fun x m => k x m) σ H Q)
    (last : ∀ ξ ι m x v H2, RpH Γ ξ ι H2 m → Rp Γ.K ξ ι H2 x v → wpR Γ ξ W σ ι H2 (k x m) (fun ι' H' d _ => ∀ v, Rp Γ.K ξ ι' H' d v → Q v H') → r v H2 Q) :
    tUn r (tE Γ W fa) σ H Q := by
  obtain ⟨ξ, ι, ρ, m, hs, hr, h⟩ := h
  exact ⟨ξ, ι, ρ, m, hs, hr, (wpR.bind h).mono fun ι1 H1 x m1 s1 r1 h1 v rv => last ξ ι1 m1 x v H1 r1 rv h1⟩
/-- a computation that tells a value of plain data -/
theorem of_ok {ξ ι : List Addr} {H : Hp} {m : Hs} {σ : L2.St} {o : Option D} {Q : List Addr → Hp → D → Hs → Prop} (h : wpR Γ ξ W σ ι H (R.of o m) Q) : ∃ d, o = some d ∧ wpR Γ ξ W σ ι H (.ok d m) Q := by
  cases o with
  | none => exact h.elim
  | some d => exact ⟨d, rfl, h⟩
theorem ofb_ok {ξ ι : List Addr} {H : Hp} {m : Hs} {σ : L2.St} {o : Option Bool} {Q : List Addr → Hp → D → Hs → Prop} (h : wpR Γ ξ W σ ι H (R.of (o.map D.bl) m) Q) : ∃ d, o = some d ∧ wpR Γ ξ W σ ι H (.ok (.bl d) m) Q := by
  cases o with
  | none => exact h.elim
  | some d => exact ⟨d, rfl, h⟩
theorem plain_ok {e : PySem.Expr} {f : Env → Hs → R D} (h : PE X e (tE Γ W f)) (hp : plainT e = true) : PT X e (tT Γ W f) := by
  refine PT.imp (pt_val h (plainT_ok hp)) fun σ H Q q => ?_
  obtain ⟨ξ, ι, ρ, m, hs, hr, q⟩ := q
  refine ⟨ξ, ι, ρ, m, hs, hr, q.mono fun ι1 H1 d m1 s1 r1 h1 v rv => ?_⟩
  obtain ⟨b, rfl, q⟩ := h1
  exact ⟨b, rv.bl_inv, q⟩
/-- a value that is a truth -/
theorem test_of {f : Env → Hs → R D} {σ : L2.St} {H : Hp} {Q : Bool → Hp → Prop} (q : tT Γ W f σ H Q) : tE Γ W f σ H (fun x H' => ∃ k, x = .bl k ∧ Q k H') := by
  obtain ⟨ξ, ι, ρ, m, hs, hr, q⟩ := q
  refine ⟨ξ, ι, ρ, m, hs, hr, q.mono fun ι1 H1 d m1 s1 r1 h1 v rv => ?_⟩
  obtain ⟨b, rfl, q⟩ := h1
  exact ⟨b, rv.bl_inv, q⟩
end
theorem callR_or {X : Cx} {f : Value} {r r' : List V → Hp → VK → Prop} (h : CallR X f r) (h' : CallR X f r') : CallR X f (fun xs H Q => r xs H Q ∨ r' xs H Q) :=
  fun pins s σ H xs us Q I rx q => q.elim (h pins s σ H xs us Q I rx) (h' pins s σ H xs us Q I rx)
/-- what is walked -/
def Wk (Γ : Gc) (ξ : List Addr) (J : It) (xs : List D) (ι : List Addr) (H : Hp) : Prop := ∀ ι' H', Stp ι H ι' H' → ∀ i : Nat, (∀ d, xs[i]? = some d → J.go i H' ∧ ∀ x H'', J.yld i H' x H'' → (∀ b o, H' b = some o → H'' b = some o) ∧ ∀ ξ', (∀ a ∈ ξ', a ∈ ξ ∨ H a = none) → Rp Γ.K ξ' ι' H'' d x) ∧ (xs.length ≤ i → J.stop i H')
def tI (Γ : Gc) (W : WX) (f : Env → Hs → R (List D)) : TI := fun σ H Rr => ∃ ξ ι ρ m, RpS Γ.K ξ ι H σ ρ ∧ RpH Γ ξ ι H m ∧ wpR Γ ξ W σ ι H (f ρ m) fun ι' H' xs _ => ∀ J, Wk Γ ξ J xs ι' H' → Rr J H'
def tTg (Γ : Gc) (own : List Nat) (t : T) : TG := fun v σ H Q => ∃ ξ ι ρ m d ρ', RpS Γ.K ξ ι H σ ρ ∧ RpH Γ ξ ι H m ∧ Rp Γ.K ξ ι H d v ∧ evT t d m ρ = some ρ' ∧ ∀ σ', RpS Γ.K ξ ι H σ' ρ' → L2.wipe σ' own = L2.wipe σ own → Q σ' H
theorem wipe_set {σ : L2.St} {i : Nat} {v : Option V} : ∀ {vs : List Nat}, i ∈ vs → L2.wipe (σ.set i v) vs = L2.wipe σ vs
  | w :: vs, h => by
    unfold L2.wipe
    by_cases hi : i ∈ vs
    · rw [wipe_set hi]
    · have e : i = w := by
        rcases List.mem_cons.mp h with e | e
        · exact e
        · exact absurd e hi
      subst e
      have : ∀ us : List Nat, i ∉ us → L2.wipe (σ.set i v) us = (L2.wipe σ us).set i v := by
        intro us
        induction us with
        | nil => intro _; rfl
        | cons u us ih =>
          intro hu
          simp only [List.mem_cons, not_or] at hu
          unfold L2.wipe
          rw [ih hu.2, List.set_comm]
          exact hu.1
      rw [this vs hi, List.set_set]
section
variable {Γ : Gc} {C : Calls} {n : Nat}
theorem wkList {ξ ι : List Addr} {H : Hp} {K : PySem.W.Frag} {a : Addr} {vs : List V} {l : List D} (h : ∀ ι' H', Stp ι H ι' H' → SqL K H' a vs) (r : RpAll Γ.K ξ ι H l vs) : Wk Γ ξ (Itl K a) l ι H := by
  intro ι' H' st i
  have h1 := h ι' H' st
  refine ⟨fun d e => ?_, fun hi => ⟨vs, h1, by rw [← r.length]; exact hi⟩⟩
  obtain ⟨v, h2, h3⟩ := r.get e
  refine ⟨⟨vs, v, h1, h2⟩, fun x H'' y => ?_⟩
  obtain ⟨rfl, y⟩ := y
  have := y vs h1
  rw [h2] at this
  cases this
  exact ⟨fun _ _ z => z, fun ξ' hx => (h3.outs hx).mono st⟩
theorem wkTup {ξ ι : List Addr} {H : Hp} {K : PySem.W.Frag} {a : Addr} {vs : List V} {l : List D} (h : ∀ ι' H', Stp ι H ι' H' → SqT K H' a vs) (r : RpAll Γ.K ξ ι H l vs) : Wk Γ ξ (Itt K a) l ι H := by
  intro ι' H' st i
  have h1 := h ι' H' st
  refine ⟨fun d e => ?_, fun hi => ⟨vs, h1, by rw [← r.length]; exact hi⟩⟩
  obtain ⟨v, h2, h3⟩ := r.get e
  refine ⟨⟨vs, v, h1, h2⟩, fun x H'' y => ?_⟩
  obtain ⟨rfl, y⟩ := y
  have := y vs h1
  rw [h2] at this
  cases this
  exact ⟨fun _ _ z => z, fun ξ' hx => (h3.outs hx).mono st⟩
theorem rngL_get {a : Int} {n i : Nat} {d : D} (h : (rngL a n)[i]? = some d) : i < n ∧ d = .int (a + (i : Int)) := by
  unfold rngL at h
  rw [List.getElem?_map] at h
  cases e : (List.range n)[i]? with
  | none => rw [e] at h; cases h
  | some j =>
    rw [e] at h
    have hl := (List.getElem?_eq_some_iff.mp e)
    obtain ⟨h1, h2⟩ := hl
    simp at h1 h2
    subst h2
    exact ⟨h1, (Option.some.inj h).symm⟩
theorem rngL_len (a : Int) (n : Nat) : (rngL a n).length = n := by unfold rngL; simp
theorem wkRng {ξ ι : List Addr} {H : Hp} (a : Int) (n : Nat) : Wk Γ ξ (Itr a n) (rngL a n) ι H := by
  intro ι' H' st i
  refine ⟨fun d e => ?_, fun hi => by rw [rngL_len] at hi; exact hi⟩
  obtain ⟨h1, rfl⟩ := rngL_get e
  refine ⟨h1, fun x H'' y => ?_⟩
  obtain ⟨rfl, rfl⟩ := y
  exact ⟨fun _ _ z => z, fun _ _ => .int _⟩

/-! ### targets -/
mutual
theorem sndT {c : Ck} {W : WX} {X : Cx} (g : Good Γ C c n W X) {own : List Nat} : ∀ (t : T) (a : PySem.Expr), chkT c own t a = true → PG X a (tTg Γ own t)
  | .nm i, a, h => by
    cases a with
    | Name x pos =>
      simp only [chkT, Bool.and_eq_true, decide_eq_true_eq] at h
      obtain ⟨⟨h1, h2⟩, h3⟩ := h
      have k := pg_name (X := X) (pos := pos) (i := i) (x := x) (by rw [g.N]; exact g.nd) (by rw [g.N]; exact h1) (g.loc h2).1 (g.loc h2).2
      refine ⟨fun pins s σ H v u Q I r q => k.run pins s σ H v u Q I r ?_⟩
      obtain ⟨ξ, ι, ρ, m, d, ρ', hs, hr, rv, e, q⟩ := q
      simp only [evT] at e
      cases e
      exact q _ (hs.set rv) (wipe_set h3)
    | _ => simp [chkT] at h
  | .tp ts, a, h => by
    cases a with
    | Tuple xs k pos =>
      simp only [chkT] at h
      have k0 := sndTs g ts xs h
      have hn : ∀ {ts : Ts} {xs : List PySem.Expr}, chkTs c own ts xs = true → (assignEach xs X.env).length = xs.length ∧ (assignEach xs X.env).findIdx? (·.1) = none := by
        intro ts xs
        induction xs generalizing ts with
        | nil => intro _; exact ⟨rfl, rfl⟩
        | cons y ys ih =>
          intro h
          cases ts with
          | nil => simp [chkTs] at h
          | cons t ts =>
            simp only [chkTs, Bool.and_eq_true] at h
            rw [assignEach_ok h.1.2]
            obtain ⟨i1, i2⟩ := ih h.2
            exact ⟨by rw [List.length_cons, List.length_cons, i1], by rw [List.findIdx?_cons]; simp [i2]⟩
      have k1 := pg_tup (X := X) (pos := pos) (k := k) (n := xs.length) g.calm k0 (hn h).1 (hn h).2
      refine ⟨fun pins s σ H v u Q I r q => k1.run pins s σ H v u Q I r ?_⟩
      obtain ⟨ξ, ι, ρ, m, d, ρ', hs, hr, rv, e, q⟩ := q
      cases rv with
      | @tup p vs l h1 n1 r1 =>
        simp only [evT] at e
        have hl : ∀ {ts : Ts} {xs : List PySem.Expr} {l : List D} {ρ ρ' : Env}, chkTs c own ts xs = true → evTs ts l m ρ = some ρ' → xs.length = l.length := by
          intro ts xs
          induction xs generalizing ts with
          | nil =>
            intro l ρ ρ' h e
            cases ts with
            | nil => cases l with
              | nil => rfl
              | cons d ds => simp [evTs] at e
            | cons t ts => simp [chkTs] at h
          | cons y ys ih =>
            intro l ρ ρ' h e
            cases ts with
            | nil => simp [chkTs] at h
            | cons t ts =>
              simp only [chkTs, Bool.and_eq_true] at h
              cases l with
              | nil => simp [evTs] at e
              | cons d ds =>
                simp only [evTs] at e
                split at e
                · rw [List.length_cons, List.length_cons, ih h.2 e]
                · cases e
        exact ⟨p, vs, rfl, by rw [g.K]; exact SqT.of h1, by rw [← r1.length]; exact (hl h e).symm, ξ, ι, ρ, m, l, ρ', hs, hr, r1, e, q⟩
      | _ => simp [evT] at e
    | _ => simp [chkT] at h
theorem sndTs {c : Ck} {W : WX} {X : Cx} (g : Good Γ C c n W X) {own : List Nat} : ∀ (ts : Ts) (as : List PySem.Expr), chkTs c own ts as = true →
    PGs X as (fun vs σ H Q => ∃ ξ ι ρ m ds ρ', RpS Γ.K ξ ι H σ ρ ∧ RpH Γ ξ ι H m ∧ RpAll Γ.K ξ ι H ds vs ∧ evTs ts ds m ρ = some ρ' ∧ ∀ σ', RpS Γ.K ξ ι H σ' ρ' → L2.wipe σ' own = L2.wipe σ own → Q σ' H)
  | .nil, as, h => by
    cases as with
    | nil =>
      have k := pgs_nil (X := X)
      refine ⟨fun pins s σ H vs us Q I r q => k.run pins s σ H vs us Q I r ?_⟩
      obtain ⟨ξ, ι, ρ, m, ds, ρ', hs, hr, rv, e, q⟩ := q
      cases ds with
      | nil => cases rv; simp [evTs] at e; subst e; exact ⟨rfl, q σ hs rfl⟩
      | cons d ds => simp [evTs] at e
    | cons y ys => simp [chkTs] at h
  | .cons t ts, as, h => by
    cases as with
    | nil => simp [chkTs] at h
    | cons y ys =>
      simp only [chkTs, Bool.and_eq_true] at h
      have k := pgs_cons (X := X) (sndT g t y h.1.1) (sndTs g ts ys h.2) (by rw [assignEach_ok h.1.2, List.map_cons])
      refine ⟨fun pins s σ H vs us Q I r q => k.run pins s σ H vs us Q I r ?_⟩
      obtain ⟨ξ, ι, ρ, m, ds, ρ', hs, hr, rv, e, q⟩ := q
      cases ds with
      | nil => simp [evTs] at e
      | cons d ds =>
        cases rv with
        | cons r1 r2 =>
          simp only [evTs] at e
          split at e
          · rename_i ρ1 e1
            exact ⟨_, _, rfl, ξ, ι, ρ, m, d, ρ1, hs, hr, r1, e1, fun σ1 hs1 w1 => ⟨ξ, ι, ρ1, m, ds, ρ', hs1, hr, r2, e, fun σ2 hs2 w2 => q σ2 hs2 (w2.trans w1)⟩⟩
          · cases e
end
end
end Lw

set_option Elab.async false
set_option linter.all false
set_option maxRecDepth 100000
/-! That the text does what the small language says: expressions. -/
namespace Lw
open PySem PySem.Spec PyProof.Rows L2

section
variable {Γ : Gc} {C : Calls} {n : Nat}
theorem seqI {W : WX} {X : Cx} {c : Ck} (g : Good Γ C c n W X) {e : E} {a tg : PySem.Expr} (h : PE X a (tE Γ W (evE C e))) : PI X tg a (tI Γ W (evI C (.seq e))) := by
  refine PI.imp (PI.or (PI.or (pi_list h) (pi_tup h)) (pi_str h)) fun σ H R q => ?_
  obtain ⟨ξ, ι, ρ, m, hs, hr, q⟩ := q
  simp only [evI] at q
  cases he : evE C e ρ m with
  | stuck => rw [he] at q; exact q.elim
  | exc x m1 =>
    rw [he] at q
    exact .inl (.inl ⟨ξ, ι, ρ, m, hs, hr, by rw [he]; exact q⟩)
  | ok d m1 =>
    rw [he] at q
    simp only [Lw.R.bind_ok] at q
    cases d with
    | tup l =>
      refine .inl (.inr ⟨ξ, ι, ρ, m, hs, hr, ?_⟩)
      rw [he]
      intro ι1 H1 s1 r1 v rv
      cases rv with
      | tup h1 n1 r2 => exact ⟨_, rfl, ⟨_, SqT.of h1⟩, q ι1 H1 s1 r1 _ (wkTup (fun ι' H' st => SqT.of (st.keep _ _ n1 h1)) r2)⟩
    | lst l =>
      refine .inl (.inl ⟨ξ, ι, ρ, m, hs, hr, ?_⟩)
      rw [he]
      intro ι1 H1 s1 r1 v rv
      cases rv with
      | lst h1 n1 z1 r2 => exact ⟨_, rfl, ⟨_, SqL.of h1⟩, q ι1 H1 s1 r1 _ (wkList (fun ι' H' st => SqL.of (st.keep _ _ n1 h1)) r2)⟩
    | sct l =>
      refine .inl (.inl ⟨ξ, ι, ρ, m, hs, hr, ?_⟩)
      rw [he]
      intro ι1 H1 s1 r1 v rv
      cases rv with
      | sct h1 r2 => exact ⟨_, rfl, ⟨_, by rw [g.K]; exact h1.sql⟩, q ι1 H1 s1 r1 _ (wkList (fun ι' H' st => by rw [g.K]; exact (h1.mono st).sql) r2)⟩
    | ktp l =>
      refine .inl (.inr ⟨ξ, ι, ρ, m, hs, hr, ?_⟩)
      rw [he]
      intro ι1 H1 s1 r1 v rv
      cases rv with
      | ktp h1 r2 => exact ⟨_, rfl, ⟨_, by rw [g.K]; exact h1.sqt⟩, q ι1 H1 s1 r1 _ (wkTup (fun ι' H' st => by rw [g.K]; exact h1.sqt) r2)⟩
    | str x =>
      refine .inr ⟨ξ, ι, ρ, m, hs, hr, ?_⟩
      rw [he]
      intro ι1 H1 s1 r1 v rv
      cases rv
      refine ⟨x, rfl, q ι1 H1 s1 r1 _ fun ι' H' st i => ⟨fun d e => ?_, fun hi => by show x.cps.size ≤ i; simpa using hi⟩⟩
      rw [List.getElem?_map] at e
      obtain ⟨c, hc, rfl⟩ := Option.map_eq_some_iff.mp e
      have hc' : x.cps[i]? = some c := by rw [← Array.getElem?_toList]; exact hc
      refine ⟨(Array.getElem?_eq_some_iff.mp hc').1, fun y H'' hy => ?_⟩
      obtain ⟨rfl, c2, h2, rfl⟩ := hy
      rw [hc'] at h2
      cases h2
      exact ⟨fun _ _ z => z, fun _ _ => .str _⟩
    | _ => exact q.elim
theorem small_of {i : Int} (h : small i = true) : -(2 ^ 62) ≤ i ∧ i < 2 ^ 62 := of_decide_eq_true h

theorem wpR.unbind {α β : Type} {Γ : Gc} {ξ : List Addr} {W : WX} {σ : L2.St} {ι : List Addr} {H : Hp} {r : Lw.R α} {f : α → Hs → Lw.R β} {Q : List Addr → Hp → β → Hs → Prop} (h : wpR Γ ξ W σ ι H r (fun ι1 H1 a m => wpR Γ ξ W σ ι1 H1 (f a m) Q)) (rp : ∀ a m, r = .ok a m → RpH Γ ξ ι H m) : wpR Γ ξ W σ ι H (r.bind f) Q := by
  cases r with
  | ok a m => exact h ι H (.refl _ _) (rp a m rfl)
  | exc x m => exact h
  | stuck => exact h
theorem R.bind_assoc {α β γ : Type} (r : Lw.R α) (f : α → Hs → Lw.R β) (g : β → Hs → Lw.R γ) : (r.bind f).bind g = r.bind fun a m => (f a m).bind g := by
  cases r <;> rfl
theorem wpR.noX {α : Type} {Γ : Gc} {ξ : List Addr} {W W' : WX} {σ σ' : L2.St} {ι : List Addr} {H : Hp} {r : Lw.R α} {Q : List Addr → Hp → α → Hs → Prop} {p : Addr} {ws : List V} (nx : p ∉ ξ) (hn : p ∉ ι) (hp : H p = some (.lst ws)) (h : wpR Γ ξ W σ ι (rmv H p) r.noX Q) :
    wpR Γ (p :: ξ) W' σ' ι H r (fun ι' H' a m => Q ι' (rmv H' p) a m) := by
  cases r with
  | ok a m => exact fun ι' H' st rp => h ι' (rmv H' p) st.rmv (rp.rmv nx (st.keep _ _ hn hp))
  | exc x m => exact h.elim
  | stuck => exact h
theorem grow {ξ ι : List Addr} {H H' : Hp} {m : Hs} (r : RpH Γ ξ ι H m) (g : ∀ b o, H b = some o → H' b = some o) : Stp ι H ι H' ∧ RpH Γ ξ ι H' m := by
  have s : Stp ι H ι H' := ⟨⟨[], by simp, by simp⟩, fun b o _ h => g b o h, fun b h q => by
    cases e : H b with
    | none => exact h e
    | some o => rw [g b o e] at q; cases q⟩
  refine ⟨s, r.mono s fun a ha => ?_⟩
  cases e : H a with
  | none => exact absurd e (r.there ha)
  | some o => exact g a o e
theorem own_map (N : List PySem.Str) (own : List Nat) : (own.map fun j => (N.getD j "", j)).map (·.2) = own := by
  rw [List.map_map]
  exact List.map_id'' (fun _ => rfl) own
theorem wipe_in {σ : L2.St} {i : Nat} : ∀ {vs : List Nat}, i ∈ vs → (L2.wipe σ vs)[i]? = (σ[i]?).map fun _ => none
  | v :: vs, h => by
    unfold L2.wipe
    by_cases hi : v = i
    · subst hi
      by_cases hl : v < σ.length
      · rw [List.getElem?_set_self (by rw [L2.wipe_length]; exact hl), List.getElem?_eq_getElem hl]; rfl
      · rw [List.getElem?_eq_none (by simp [L2.wipe_length]; omega), List.getElem?_eq_none (by omega)]; rfl
    · rw [List.getElem?_set_ne hi]
      rcases List.mem_cons.mp h with e | e
      · exact absurd e.symm hi
      · exact wipe_in e
theorem wipe_wipe (σ : L2.St) (vs : List Nat) : L2.wipe (L2.wipe σ vs) vs = L2.wipe σ vs := by
  apply List.ext_getElem?
  intro i
  by_cases h : i ∈ vs
  · rw [wipe_in h, wipe_in h, Option.map_map]; rfl
  · rw [wipe_out h]
/-- a comprehension's turns do what lcGo says; f: one turn's computation at a value -/
theorem lcRed {W : WX} {own : List Nat} {t : T} {it : I} {tt : TT} {te : TE} {f : Env → D → Hs → Lw.R (Option D)}
    (hf : ∀ (W : WX) (σ : L2.St) (ξ ι : List Addr) (H : Hp) (ρ : Env) (d : D) (m : Hs) (σ2 : L2.St) (ρ' : Env) (Q : Option V → Hp → Prop), evT t d m ρ = some ρ' → RpS Γ.K ξ ι H σ2 ρ' → RpH Γ ξ ι H m →
      wpR Γ ξ (fun _ _ _ _ => False) σ2 ι H (f ρ d m) (fun ι' H' o m' => match o with | some y => ∀ v, Rp Γ.K ξ ι' H' y v → Q (some v) H' | none => Q none H') →
      tt σ2 H fun b H3 => if b = true then te σ2 H3 fun y H4 => Q (some y) H4 else Q none H3)
    (hn : ∀ (ρ : Env) (d : D) (m : Hs), evT t d m ρ = none → f ρ d m = .stuck) {σ : L2.St} {H : Hp} {Q : VK}
    (q : tL Γ W (fun ρ m => (evI C it ρ m).bind fun xs m => if xs.length ≤ PySem.sizeLine then lcGo (f (Lw.wipe ρ own)) xs m else .stuck) σ H Q) :
    tLc (tI Γ W (evI C it)) (tTg Γ own t) tt te own σ H Q := by
  obtain ⟨ξ, ι, ρ, m, hs, hr, q⟩ := q
  refine ⟨ξ, ι, ρ, m, hs, hr, (wpR.bind q).mono fun ι1 H1 xs m1 s1 r1 h1 J wk Dl hD => ?_⟩
  by_cases hz : xs.length ≤ PySem.sizeLine
  rotate_left 1
  · rw [if_neg hz] at h1; exact h1.elim
  rw [if_pos hz] at h1
  have hs1 : RpS Γ.K (Dl :: ξ) ι1 H1 (L2.wipe σ own) (Lw.wipe ρ own) := ((hs.mono s1).out hD).wipe own
  have hD0 : H Dl = none := Classical.byContradiction fun z => s1.dom Dl z hD
  have nx : Dl ∉ ξ := r1.freshx hD
  let QF : List Addr → Hp → List D → Hs → Prop := fun ι' H' ds m' => ∀ p vs, H p = none → p ∉ ι' → H' p = some (.lst vs) → RpAll Γ.K (p :: ξ) ι' H' ds vs → RpH Γ (p :: ξ) ι' H' m' → Q (.ref p) H'
  let INV : Nat → Hp → Prop := fun i H2 => ∃ ι2 m2 acc dacc, i ≤ xs.length ∧ Stp ι1 H1 ι2 H2 ∧ RpH Γ (Dl :: ξ) ι2 H2 m2 ∧ H2 Dl = some (.lst acc) ∧ RpAll Γ.K (Dl :: ξ) ι2 H2 dacc acc ∧ acc.length ≤ i ∧
    wpR Γ ξ W σ ι2 (rmv H2 Dl) ((lcGo (f (Lw.wipe ρ own)) (xs.drop i) m2).bind fun r m => .ok (dacc ++ r) m) QF
  refine ⟨fun i k H2 => k = xs.length - i ∧ INV i H2, ⟨xs.length, by simp, ?_⟩, ?_⟩
  · refine ⟨ι1, m1, [], [], Nat.zero_le _, .new hD, r1.lay hD, upd_same, .nil, Nat.le_refl _, ?_⟩
    have e1 : rmv (upd H1 Dl (.lst [])) Dl = H1 := by
      funext b
      unfold rmv upd
      split
      · rename_i e; rw [e, hD]
      · rfl
    rw [List.drop_zero, e1]
    cases e : lcGo (f (Lw.wipe ρ own)) xs m1 with
    | ok r m' => rw [e] at h1; exact h1
    | exc x m' => rw [e] at h1; exact h1
    | stuck => rw [e] at h1; exact h1
  · rintro i k H2 ⟨rfl, ι2, m2, acc, dacc, hi, st2, r2, hacc, racc, hl, q2⟩
    have hDn : Dl ∉ ι2 := (r2.res Dl List.mem_cons_self).2
    obtain ⟨wk1, wk2⟩ := wk ι2 H2 st2 i
    by_cases hlt : i < xs.length
    · have hx : xs[i]? = some xs[i] := List.getElem?_eq_getElem hlt
      obtain ⟨go, yl⟩ := wk1 _ hx
      rw [List.drop_eq_getElem_cons hlt] at q2
      simp only [lcGo] at q2
      refine .inr ⟨go, fun H' => INV (i + 1) H', fun H' h => ⟨xs.length - (i + 1), by omega, rfl, h⟩, fun v H3 y => ?_⟩
      obtain ⟨gr, rv⟩ := yl v H3 y
      obtain ⟨st3, r3⟩ := grow r2 gr
      have hsb : RpS Γ.K (Dl :: ξ) ι2 H3 (L2.wipe σ own) (Lw.wipe ρ own) := hs1.mono (st2.trans st3)
      have rv' : Rp Γ.K (Dl :: ξ) ι2 H3 xs[i] v := rv _ fun a ha => by
        rcases List.mem_cons.mp ha with rfl | ha
        · exact .inr hD
        · exact .inl ha
      have acc3 : H3 Dl = some (.lst acc) := gr _ _ hacc
      have racc3 := racc.mono st3
      cases ev : evT t xs[i] m2 (Lw.wipe ρ own) with
      | none =>
        rw [hn _ _ _ ev] at q2
        exact q2.elim
      | some ρ' =>
        refine ⟨Dl :: ξ, ι2, Lw.wipe ρ own, m2, xs[i], ρ', hsb, r3, rv', ev, fun σ2 hs2 hw => ⟨?_, ?_⟩⟩
        · rw [hw, wipe_wipe]
        · rw [Lw.R.bind_assoc] at q2
          have q3 := ((wpR.bind q2).shift st3.rmv).noX (W' := fun _ _ _ _ => False) (σ' := σ2) nx hDn acc3
          have fin : ∀ (add : List D) (m4 : Hs) (ι5 : List Addr) (H5 : Hp) (Q' : List Addr → Hp → List D → Hs → Prop), wpR Γ ξ W σ ι5 H5 (((lcGo (f (Lw.wipe ρ own)) (xs.drop (i + 1)) m4).bind fun r m => .ok (add ++ r) m).bind fun r m => .ok (dacc ++ r) m) Q' →
              wpR Γ ξ W σ ι5 H5 ((lcGo (f (Lw.wipe ρ own)) (xs.drop (i + 1)) m4).bind fun r m => .ok ((dacc ++ add) ++ r) m) Q' := by
            intro add m4 ι5 H5 Q' hq
            cases e : lcGo (f (Lw.wipe ρ own)) (xs.drop (i + 1)) m4 with
            | ok r m' => rw [e] at hq; simp only [Lw.R.bind_ok] at hq ⊢; rw [List.append_assoc]; exact hq
            | exc x m' => rw [e] at hq; exact hq
            | stuck => rw [e] at hq; exact hq
          have key := hf (fun _ _ _ _ => False) σ2 (Dl :: ξ) ι2 H3 (Lw.wipe ρ own) xs[i] m2 σ2 ρ' (fun o H' => match o with
            | some y => ∃ acc, H' Dl = some (.lst acc) ∧ acc.length < sizeLine ∧ INV (i + 1) (upd H' Dl (.lst (acc ++ [y])))
            | none => INV (i + 1) H') ev hs2 r3 (q3.mono fun ι4 H4 o m4 s4 r4 q4 => ?_)
          · exact key
          · have acc4 : H4 Dl = some (.lst acc) := s4.keep _ _ hDn acc3
            have racc4 := racc3.mono s4
            have hD4 : Dl ∉ ι4 := (r4.res Dl List.mem_cons_self).2
            cases o with
            | none =>
              have := fin [] m4 ι4 _ _ q4
              rw [List.append_nil] at this
              exact ⟨ι4, m4, acc, dacc, hlt, st2.trans (st3.trans s4), r4, acc4, racc4, by omega, this⟩
            | some y =>
              intro v4 rv4
              refine ⟨acc, acc4, by omega, ι4, m4, acc ++ [v4], dacc ++ [y], hlt, (st2.trans (st3.trans s4)).put hD, r4.other List.mem_cons_self acc4, upd_same, ?_, by rw [List.length_append]; simp; omega, ?_⟩
              · exact (racc4.append (.cons rv4 .nil)).other hD4 List.mem_cons_self acc4
              · rw [rmv_upd]
                exact fin [y] m4 ι4 _ _ q4
    · have e : i = xs.length := by omega
      subst e
      refine .inl ⟨wk2 (Nat.le_refl _), ?_⟩
      rw [List.drop_length] at q2
      simp only [lcGo, Lw.R.bind_ok, List.append_nil] at q2
      exact q2 ι2 H2 (Stp.refl _ _).ofRmv (r2.weak fun _ z => List.mem_cons_of_mem _ z) Dl acc hD0 hDn hacc racc r2
theorem lcOK {W : WX} {X : Cx} {c : Ck} (g : Good Γ C c n W X) {own : List Nat} {t : T} {it : I} {x tg i : PySem.Expr} {ifs : List PySem.Expr} {sc : Scope} {pos : Pos} {tt : TT} {te : TE} {f : Env → D → Hs → Lw.R (Option D)}
    (hb : blkC c.N c.sc sc (own.map fun j => (c.N.getD j "", j)) = true) (hI : PI X tg i (tI Γ W (evI C it)))
    (hT : ∀ (s : Shared) (H : Hp) (Ca : Addr) (cl : List (PySem.Str × Addr)) (fp : List Addr), PG (X.blk s H sc (compEnvC sc cl Ca X.env) fp) tg (tTg Γ own t))
    (ht : ∀ (s : Shared) (H : Hp) (Ca : Addr) (cl : List (PySem.Str × Addr)) (fp : List Addr), PTs (X.blk s H sc (compEnvC sc cl Ca X.env) fp) ifs tt)
    (he : ∀ (s : Shared) (H : Hp) (Ca : Addr) (cl : List (PySem.Str × Addr)) (fp : List Addr), PE (X.blk s H sc (compEnvC sc cl Ca X.env) fp) x te) (ok : okX i = true)
    (hf : ∀ (W : WX) (σ : L2.St) (ξ ι : List Addr) (H : Hp) (ρ : Env) (d : D) (m : Hs) (σ2 : L2.St) (ρ' : Env) (Q : Option V → Hp → Prop), evT t d m ρ = some ρ' → RpS Γ.K ξ ι H σ2 ρ' → RpH Γ ξ ι H m →
      wpR Γ ξ (fun _ _ _ _ => False) σ2 ι H (f ρ d m) (fun ι' H' o m' => match o with | some y => ∀ v, Rp Γ.K ξ ι' H' y v → Q (some v) H' | none => Q none H') →
      tt σ2 H fun b H3 => if b = true then te σ2 H3 fun y H4 => Q (some y) H4 else Q none H3)
    (hn : ∀ (ρ : Env) (d : D) (m : Hs), evT t d m ρ = none → f ρ d m = .stuck) :
    PE X (.ListComp x [⟨tg, i, ifs, 0⟩] sc pos) (tL Γ W fun ρ m => (evI C it ρ m).bind fun xs m => if xs.length ≤ PySem.sizeLine then lcGo (f (Lw.wipe ρ own)) xs m else .stuck) := by
  refine PE.imp (pe_lc (X := X) g.calm (by rw [g.N]; exact g.nd) hI (g.blkOk hb) hT ht he (folded_ok ok)) fun σ H Q q => ?_
  rw [own_map]
  exact lcRed hf hn q
/-- name = [..] on one line -/
theorem lcAsg {W : WX} {X : Cx} {c : Ck} (g : Good Γ C c n W X) {own : List Nat} {t : T} {it : I} {x tg i : PySem.Expr} {ifs : List PySem.Expr} {sc : Scope} {pos py spos : Pos} {tt : TT} {te : TE} {f : Env → D → Hs → Lw.R (Option D)} {k : Nat} {y : PySem.Str}
    (hkind : X.env.scope.kind = .function) (hy : c.N[k]? = some y) (hyl : c.islocal y = true) (hline : (py.line == pos.line) = true) (hys : (sc.names.any fun (n, k) => n == y && (k == .local || k == .cell)) = false)
    (hb : blkC c.N c.sc sc (own.map fun j => (c.N.getD j "", j)) = true) (hI : PI X tg i (tI Γ W (evI C it)))
    (hT : ∀ (s : Shared) (H : Hp) (Ca : Addr) (cl : List (PySem.Str × Addr)) (fp : List Addr), PG (X.blk s H sc (compEnvC sc cl Ca X.env) fp) tg (tTg Γ own t))
    (ht : ∀ (s : Shared) (H : Hp) (Ca : Addr) (cl : List (PySem.Str × Addr)) (fp : List Addr), PTs (X.blk s H sc (compEnvC sc cl Ca X.env) fp) ifs tt)
    (he : ∀ (s : Shared) (H : Hp) (Ca : Addr) (cl : List (PySem.Str × Addr)) (fp : List Addr), PE (X.blk s H sc (compEnvC sc cl Ca X.env) fp) x te) (ok : okX i = true)
    (hf : ∀ (W : WX) (σ : L2.St) (ξ ι : List Addr) (H : Hp) (ρ : Env) (d : D) (m : Hs) (σ2 : L2.St) (ρ' : Env) (Q : Option V → Hp → Prop), evT t d m ρ = some ρ' → RpS Γ.K ξ ι H σ2 ρ' → RpH Γ ξ ι H m →
      wpR Γ ξ (fun _ _ _ _ => False) σ2 ι H (f ρ d m) (fun ι' H' o m' => match o with | some y => ∀ v, Rp Γ.K ξ ι' H' y v → Q (some v) H' | none => Q none H') →
      tt σ2 H fun b H3 => if b = true then te σ2 H3 fun y H4 => Q (some y) H4 else Q none H3)
    (hn : ∀ (ρ : Env) (d : D) (m : Hs), evT t d m ρ = none → f ρ d m = .stuck) :
    PS X (.Assign [.Name y py] (.ListComp x [⟨tg, i, ifs, 0⟩] sc pos) spos) (tAsg (tL Γ W fun ρ m => (evI C it ρ m).bind fun xs m => if xs.length ≤ PySem.sizeLine then lcGo (f (Lw.wipe ρ own)) xs m else .stuck) (gName k)) := by
  have hl := g.islocal hyl
  refine PS.imp (ps_setLc (X := X) (spos := spos) g.calm (by rw [g.N]; exact g.nd) (by rw [g.N]; exact hy) hl (sw_true hkind hl hline hys) hI (g.blkOk hb) hT ht he (folded_ok ok)) fun D σ H q => ?_
  rw [own_map]
  exact lcRed hf hn q
end
end Lw

set_option Elab.async false
set_option linter.all false
set_option maxRecDepth 100000
set_option maxHeartbeats 8000000
/-! That the text does what the small language says: expressions, all together. -/
namespace Lw
open PySem PySem.Spec PyProof.Rows L2

section
variable {Γ : Gc} {C : Calls} {n : Nat}
theorem tE_map {W : WX} {f : Env → Hs → Lw.R D} {σ : L2.St} {H : Hp} {Q Q' : VK} (h : tE Γ W f σ H Q) (k : ∀ v H', Q v H' → Q' v H') : tE Γ W f σ H Q' := by
  obtain ⟨ξ, ι, ρ, m, hs, hr, h⟩ := h
  exact ⟨ξ, ι, ρ, m, hs, hr, h.mono fun _ _ _ _ _ _ q v r => k v _ (q v r)⟩
theorem tysStr (t : Ty) : (PySem.Str.ofString (tyName t)) ∈ bltN := by cases t <;> decide +kernel
theorem biStr (b : Bi) : biName b ∈ bltN := by cases b <;> decide +kernel
theorem ne_nm {x : PySem.Str} {W : WX} {X : Cx} {c : Ck} (g : Good Γ C c n W X) (h : c.glb x = true) : x ≠ "__name__" := (g.glb h).2.2
/-- a built-in function, by name -/
theorem callBi {W : WX} {X : Cx} {c : Ck} (g : Good Γ C c n W X) {b : Bi} {x : PySem.Str} {p pos : Pos} {y : PySem.Expr} {ys : List PySem.Expr} {f : Env → Hs → Lw.R (List D)} (hx : biName b = x) (hg : c.glb x = true) (ha : PA X (y :: ys) (tEs Γ W f)) (ok : ∀ z ∈ y :: ys, okX z = true) :
    PE X (.Call (.Name x p) (y :: ys) [] pos) (tE Γ W fun ρ m => (f ρ m).bind fun ds m => R.of (biD m b ds) m) := by
  subst hx
  have hm := g.blt _ (biStr b)
  obtain ⟨h1, h2, h3⟩ := g.glb hg
  have he := starEach_ok (env := X.env) (es := ys) (ok y List.mem_cons_self)
  have hp : (backTo pos (starEach ys X.env)).any (·.1) = false := star_any fun z hz => ok z (List.mem_cons_of_mem _ hz)
  have call : PE X (.Call (.Name (biName b) p) (y :: ys) [] pos) (tCB (rBi Γ b) (tEs Γ W f)) := by
    have hv := biBoot b
    have hb := biAll g.K g.calm g.gd g.units b
    cases hbv : biVal b with
    | builtin id => rw [hbv] at hv hb; exact pe_callB hb h1 hm hv ha h3 h2 he hp
    | type T => rw [hbv] at hv hb; exact pe_callTy hb h1 hm hv ha h3 h2 he hp
    | _ => cases b <;> simp [biVal] at hbv
  refine PE.imp call fun σ H Q q => ?_
  obtain ⟨ξ, ι, ρ, m, hs, hr, q⟩ := q
  refine ⟨ξ, ι, ρ, m, hs, hr, (wpR.bind q).mono fun ι1 H1 ds m1 s1 r1 q1 vs rv => ?_⟩
  obtain ⟨d, e, q2⟩ := of_ok q1
  exact ⟨ξ, ι1, m1, ds, r1, rv, d, e, fun H' v st rp rd => q2 ι1 H' st rp v rd⟩
mutual
theorem sndE : ∀ (e : E) {W : WX} {X : Cx} {c : Ck} (a : PySem.Expr), chkE c e a = true → Good Γ C c n W X → PE X a (tE Γ W (evE C e))
  | .cst d, W, X, c, a, h, g => by
    cases a with
    | Constant k i pos =>
      simp only [chkE] at h
      have fin : ∀ (v : V), (∀ ξ ι H, Rp Γ.K ξ ι H d v) → ∀ σ H Q, tE Γ W (evE C (.cst d)) σ H Q → Q v H := by
        intro v hv σ H Q q
        obtain ⟨ξ, ι, ρ, m, hs, hr, q⟩ := q
        simp only [evE] at q
        exact q.now hr v (hv ξ ι H)
      cases d with
      | non => cases k <;> simp [isCst] at h; exact PE.imp pe_non (fin _ fun _ _ _ => .non)
      | bl b => cases k <;> simp [isCst] at h; subst h; exact PE.imp pe_bl (fin _ fun _ _ _ => .bl _)
      | int b => cases k <;> simp [isCst] at h; subst h; exact PE.imp pe_int (fin _ fun _ _ _ => .int _)
      | str b => cases k <;> simp [isCst] at h; subst h; exact PE.imp pe_str (fin _ fun _ _ _ => .str _)
      | _ => cases k <;> simp [isCst] at h
    | _ => simp [chkE] at h
  | .glob k, W, X, c, a, h, g => by
    cases a with
    | Name x pos =>
      simp only [chkE, Bool.and_eq_true, decide_eq_true_eq] at h
      obtain ⟨d, u, v, h1, h2, h3, h4⟩ := g.gl k x h.1
      obtain ⟨g1, g2, g3⟩ := g.glb h.2
      refine PE.imp (pe_glob g1 h2 h3 g2) fun σ H Q q => ?_
      obtain ⟨ξ, ι, ρ, m, hs, hr, q⟩ := q
      simp only [evE, h1, R.of_some] at q
      exact q.now hr v (h4 ξ ι H)
    | _ => simp [chkE] at h
  | .var i, W, X, c, a, h, g => by
    cases a with
    | Name x pos =>
      simp only [chkE, Bool.and_eq_true, decide_eq_true_eq, Bool.not_eq_true', decide_eq_false_iff_not] at h
      obtain ⟨⟨⟨h1, h2⟩, h3⟩, h4⟩ := h
      refine PE.imp (pe_var (X := X) (i := i) (by rw [g.N]; exact h1) (g.vis h2) (beq_eq_false_iff_ne.mpr h3) (beq_eq_false_iff_ne.mpr h4)) fun σ H Q q => ?_
      obtain ⟨ξ, ι, ρ, m, hs, hr, q⟩ := q
      simp only [evE] at q
      split at q
      · rename_i d e
        obtain ⟨v, e1, rv⟩ := hs.2 i d e
        exact ⟨v, e1, q.now hr v rv⟩
      · exact q.elim
    | _ => simp [chkE] at h
  | .tup es, W, X, c, a, h, g => by
    cases a with
    | Tuple xs k pos =>
      simp only [chkE] at h
      refine PE.imp (pe_tup (sndEs es xs h g)) fun σ H Q q => ?_
      obtain ⟨ξ, ι, ρ, m, hs, hr, q⟩ := q
      simp only [evE] at q
      refine ⟨ξ, ι, ρ, m, hs, hr, (wpR.bind q).mono fun ι1 H1 ds m1 s1 r1 q1 vs rv => ?_⟩
      split at q1
      · rename_i hz
        exact ⟨by rw [← rv.length]; exact hz, newTup r1 rv fun H' v st rp rd => q1 ι1 H' st rp v rd⟩
      · exact q1.elim
    | _ => simp [chkE] at h
  | .fz l, W, X, c, a, h, g => by
    have h' : chkL c l a = true := by simpa [chkE] using h
    refine PE.imp (sndL l a h' g) fun σ H Q q => ?_
    obtain ⟨ξ, ι, ρ, m, hs, hr, q⟩ := q
    simp only [evE] at q
    refine ⟨ξ, ι, ρ, m, hs, hr, (wpR.bind q).mono fun ι1 H1 ds m1 s1 r1 q1 p vs hp hn hl rl rp => ?_⟩
    exact q1.now r1 (.ref p) (.lst hl hn (hr.freshx hp) (rl.weak fun _ z => List.mem_cons_of_mem _ z))
  | .alc l, W, X, c, a, h, g => by
    have h' : chkL c l a = true := by simpa [chkE] using h
    refine PE.imp (sndL l a h' g) fun σ H Q q => ?_
    obtain ⟨ξ, ι, ρ, m, hs, hr, q⟩ := q
    simp only [evE] at q
    refine ⟨ξ, ι, ρ, m, hs, hr, ?_⟩
    cases e : evL C l ρ m with
    | stuck => rw [e] at q; exact q.elim
    | exc x m1 => rw [e] at q; exact q
    | ok ds m1 =>
      rw [e] at q
      intro ι1 H1 s1 r1 p vs hp hn hl rl rp
      have nx := hr.freshx hp
      refine q (ι1 ++ [p]) H1 ?_ (rp.adopt hl rl nx) (.ref p) (.ref ?_)
      · obtain ⟨t, rfl, ht⟩ := s1.ex
        refine ⟨⟨t ++ [p], by rw [List.append_assoc], fun b hb => ?_⟩, s1.keep, s1.dom⟩
        rcases List.mem_append.mp hb with z | z
        · exact ht b z
        · simp at z; subst z; exact hp
      · rw [← r1.len, List.getElem?_append_right (Nat.le_refl _)]; simp
  | .bin op x y, W, X, c, a, h, g => by
    cases a with
    | BinOp a1 o a2 pos =>
      simp only [chkE, Bool.and_eq_true] at h
      rw [isBop_eq h.1.1]
      refine PE.imp (pe_op (binAll g.K op) (sndE x a1 h.1.2 g) (sndE y a2 h.2 g)) fun σ H Q q => ?_
      refine two_ok (k := fun x y m => R.of (binD m op x y) m) q fun ξ ι m d1 d2 v w H2 rp r1 r2 q => ?_
      obtain ⟨d, e, q2⟩ := of_ok q
      exact ⟨ξ, ι, m, d1, d2, rp, r1, r2, d, e, fun H' v st rp rd => q2 ι H' st rp v rd⟩
    | _ => simp [chkE] at h
  | .neg x, W, X, c, a, h, g => by
    cases a with
    | UnaryOp o a1 pos =>
      cases o with
      | USub =>
        simp only [chkE] at h
        refine PE.imp (pe_un un_neg (sndE x a1 h g)) fun σ H Q q => ?_
        refine one_ok (k := fun x m => R.of ((intD x).map fun i => .int (-i)) m) q fun ξ ι m d1 v H2 rp r1 q => ?_
        obtain ⟨d, e, q2⟩ := of_ok q
        rw [Option.map_eq_some_iff] at e
        obtain ⟨i, e, rfl⟩ := e
        cases r1 <;> simp [intD] at e
        subst e
        exact ⟨_, rfl, q2.now rp _ (.int _)⟩
      | _ => simp [chkE] at h
    | _ => simp [chkE] at h
  | .cmp op x y, W, X, c, a, h, g => by
    cases a with
    | Compare a1 os as pos =>
      match os, as, h with
      | [o], [a2], h =>
        simp only [chkE, Bool.and_eq_true] at h
        obtain ⟨⟨⟨h1, h2⟩, h3⟩, h4⟩ := h
        rw [isCop_eq h1]
        refine PE.imp (pe_cmpR (cmpAll g.K g.units op) (sndE x a1 h2 g) (sndE y a2 h3 g) (behind_ok h4)) fun σ H Q q => ?_
        refine two_ok (k := fun x y m => R.of ((cmpD m op x y).map .bl) m) q fun ξ ι m d1 d2 v w H2 rp r1 r2 q => ?_
        obtain ⟨d, e, q2⟩ := ofb_ok q
        exact ⟨ξ, ι, m, d1, d2, rp, r1, r2, d, e, q2.now rp _ (.bl _)⟩
      | [], _, h => simp [chkE] at h
      | _ :: _ :: _, _, h => simp [chkE] at h
      | [_], [], h => simp [chkE] at h
      | [_], _ :: _ :: _, h => simp [chkE] at h
    | _ => simp [chkE] at h
  | .chain o1 o2 x y z, W, X, c, a, h, g => by
    cases a with
    | Compare a1 os as pos =>
      match os, as, h with
      | [p1, p2], [a2, a3], h =>
        simp only [chkE, Bool.and_eq_true] at h
        obtain ⟨⟨⟨⟨⟨⟨h1, h2⟩, h3⟩, h4⟩, h5⟩, h6⟩, h7⟩ := h
        rw [isCop_eq h1, isCop_eq h2]
        refine PE.imp (pe_chain (cmpAll g.K g.units o1) (cmpAll g.K g.units o2) (sndE x a1 h3 g) (sndE y a2 h4 g) (sndE z a3 h5 g) (show behindInMarks _ _ = false from behind_ok h7)) fun σ H Q q => ?_
        obtain ⟨ξ, ι, ρ, m, hs, hr, q⟩ := q
        simp only [evE] at q
        refine ⟨ξ, ι, ρ, m, hs, hr, (wpR.bind q).mono fun ι1 H1 d1 m1 s1 r1 q1 v rv => ⟨ξ, ι1, ρ, m1, hs.mono s1, r1, (wpR.bind q1).mono fun ι2 H2 d2 m2 s2 r2 q2 w rw' => ?_⟩⟩
        cases e : cmpD m2 o1 d1 d2 with
        | none => rw [e] at q2; exact q2.elim
        | some b =>
          rw [e] at q2
          refine ⟨ξ, ι2, m2, d1, d2, r2, rv.mono s2, rw', b, e, b, rfl, ?_⟩
          cases b with
          | true =>
            rw [if_pos rfl]
            refine ⟨ξ, ι2, ρ, m2, (hs.mono s1).mono s2, r2, (wpR.bind q2).mono fun ι3 H3 d3 m3 s3 r3 q3 u ru => ?_⟩
            obtain ⟨d, e, q4⟩ := ofb_ok q3
            exact ⟨ξ, ι3, m3, d2, d3, r3, rw'.mono s3, ru, d, e, q4.now r3 _ (.bl _)⟩
          | false =>
            rw [if_neg Bool.false_ne_true]
            exact q2.now r2 _ (.bl _)
      | [], _, h => simp [chkE] at h
      | [_], _, h => simp [chkE] at h
      | _ :: _ :: _ :: _, _, h => simp [chkE] at h
      | [_, _], [], h => simp [chkE] at h
      | [_, _], [_], h => simp [chkE] at h
      | [_, _], _ :: _ :: _ :: _, h => simp [chkE] at h
    | _ => simp [chkE] at h
  | .isN ng x, W, X, c, a, h, g => by
    cases a with
    | Compare a1 os as pos =>
      match os, as, h with
      | [o], [.Constant .none k p], h =>
        simp only [chkE, Bool.and_eq_true] at h
        have key : ∀ {ξ ι} {H : Hp} {d : D} {v : V}, Rp Γ.K ξ ι H d v → decide (v = .non) = isNonD d := by
          intro ξ ι H d v r
          cases r <;> first | rfl | simp [isNonD]
        cases ng with
        | false =>
          cases o <;> simp at h
          refine PE.imp (pe_cmp (pc_isN (sndE x a1 h g))) fun σ H Q q => ?_
          obtain ⟨ξ, ι, ρ, m, hs, hr, q⟩ := q
          simp only [evE] at q
          refine ⟨ξ, ι, ρ, m, hs, hr, (wpR.bind q).mono fun ι1 H1 d1 m1 s1 r1 q1 v rv => ?_⟩
          show Q (.bl (decide (v = .non))) H1
          rw [key rv]
          exact q1.now r1 _ (.bl _)
        | true =>
          cases o <;> simp at h
          refine PE.imp (pe_cmp (pc_notN (sndE x a1 h g))) fun σ H Q q => ?_
          obtain ⟨ξ, ι, ρ, m, hs, hr, q⟩ := q
          simp only [evE] at q
          refine ⟨ξ, ι, ρ, m, hs, hr, (wpR.bind q).mono fun ι1 H1 d1 m1 s1 r1 q1 v rv => ?_⟩
          show Q (.bl (!decide (v = .non))) H1
          rw [key rv]
          exact q1.now r1 _ (.bl _)
      | [o], [.Constant (.bool _) _ _], h => simp [chkE] at h
      | [o], [.Constant (.int _) _ _], h => simp [chkE] at h
      | [o], [.Constant (.float _) _ _], h => simp [chkE] at h
      | [o], [.Constant (.complex _ _) _ _], h => simp [chkE] at h
      | [o], [.Constant (.str _) _ _], h => simp [chkE] at h
      | [o], [.Constant (.bytes _) _ _], h => simp [chkE] at h
      | [o], [.Constant .ellipsis _ _], h => simp [chkE] at h
      | [], _, h => simp [chkE] at h
      | _ :: _ :: _, _, h => simp [chkE] at h
      | [_], [], h => simp [chkE] at h
      | [_], _ :: _ :: _, h => simp [chkE] at h
      | [_], [.Name ..], h => simp [chkE] at h
      | [_], [.BoolOp ..], h => simp [chkE] at h
      | [_], [.NamedExpr ..], h => simp [chkE] at h
      | [_], [.BinOp ..], h => simp [chkE] at h
      | [_], [.UnaryOp ..], h => simp [chkE] at h
      | [_], [.Lambda ..], h => simp [chkE] at h
      | [_], [.IfExp ..], h => simp [chkE] at h
      | [_], [.Dict ..], h => simp [chkE] at h
      | [_], [.Set ..], h => simp [chkE] at h
      | [_], [.ListComp ..], h => simp [chkE] at h
      | [_], [.SetComp ..], h => simp [chkE] at h
      | [_], [.DictComp ..], h => simp [chkE] at h
      | [_], [.GeneratorExp ..], h => simp [chkE] at h
      | [_], [.Await ..], h => simp [chkE] at h
      | [_], [.Yield ..], h => simp [chkE] at h
      | [_], [.YieldFrom ..], h => simp [chkE] at h
      | [_], [.Compare ..], h => simp [chkE] at h
      | [_], [.Call ..], h => simp [chkE] at h
      | [_], [.FormattedValue ..], h => simp [chkE] at h
      | [_], [.JoinedStr ..], h => simp [chkE] at h
      | [_], [.Attribute ..], h => simp [chkE] at h
      | [_], [.Subscript ..], h => simp [chkE] at h
      | [_], [.Starred ..], h => simp [chkE] at h
      | [_], [.List ..], h => simp [chkE] at h
      | [_], [.Tuple ..], h => simp [chkE] at h
      | [_], [.Slice ..], h => simp [chkE] at h
    | _ => simp [chkE] at h
  | .isB ng x y, W, X, c, a, h, g => by
    cases a with
    | Compare a1 os as pos =>
      match os, as, h with
      | [o], [a2], h =>
        simp only [chkE, Bool.and_eq_true] at h
        obtain ⟨⟨⟨h1, h2⟩, h3⟩, h4⟩ := h
        cases ng with
        | false =>
          cases o <;> simp at h1
          refine PE.imp (pe_cmpR op_isBl (sndE x a1 h2 g) (sndE y a2 h3 g) (behind_ok h4)) fun σ H Q q => ?_
          refine two_ok q fun ξ ι m d1 d2 v w H2 rp r1 r2 q => ?_
          cases r1 <;> first | exact q.elim | skip
          cases r2 <;> first | exact q.elim | exact ⟨_, _, rfl, rfl, q.now rp _ (.bl _)⟩
        | true =>
          cases o <;> simp at h1
          refine PE.imp (pe_cmpR op_notBl (sndE x a1 h2 g) (sndE y a2 h3 g) (behind_ok h4)) fun σ H Q q => ?_
          refine two_ok q fun ξ ι m d1 d2 v w H2 rp r1 r2 q => ?_
          cases r1 <;> first | exact q.elim | skip
          cases r2 <;> first | exact q.elim | exact ⟨_, _, rfl, rfl, q.now rp _ (.bl _)⟩
      | [], _, h => simp [chkE] at h
      | _ :: _ :: _, _, h => simp [chkE] at h
      | [_], [], h => simp [chkE] at h
      | [_], _ :: _ :: _, h => simp [chkE] at h
    | _ => simp [chkE] at h
  | .and x es, W, X, c, a, h, g => by
    cases a with
    | BoolOp o as pos =>
      match o, as, h with
      | .And, a1 :: a2 :: r, h =>
        simp only [chkE, Bool.and_eq_true] at h
        refine PE.imp (pe_and (sndE x a1 h.1 g) (sndAnd es (a2 :: r) h.2 (by simp) g)) fun σ H Q q => ?_
        obtain ⟨ξ, ι, ρ, m, hs, hr, q⟩ := q
        simp only [evE] at q
        refine ⟨ξ, ι, ρ, m, hs, hr, (wpR.bind q).mono fun ι1 H1 d1 m1 s1 r1 q1 v rv => ?_⟩
        cases rv <;> first | exact q1.elim | skip
        rename_i b
        refine ⟨b, rfl, ?_⟩
        cases b with
        | true => rw [if_pos rfl]; exact ⟨ξ, ι1, ρ, m1, hs.mono s1, r1, q1⟩
        | false => rw [if_neg Bool.false_ne_true]; exact q1.now r1 _ (.bl _)
      | .Or, _, h => simp [chkE] at h
      | .And, [], h => simp [chkE] at h
      | .And, [_], h => simp [chkE] at h
    | _ => simp [chkE] at h
  | .or x es, W, X, c, a, h, g => by
    cases a with
    | BoolOp o as pos =>
      match o, as, h with
      | .Or, a1 :: a2 :: r, h =>
        simp only [chkE, Bool.and_eq_true] at h
        refine PE.imp (pe_or (sndE x a1 h.1 g) (sndOr es (a2 :: r) h.2 (by simp) g)) fun σ H Q q => ?_
        obtain ⟨ξ, ι, ρ, m, hs, hr, q⟩ := q
        simp only [evE] at q
        refine ⟨ξ, ι, ρ, m, hs, hr, (wpR.bind q).mono fun ι1 H1 d1 m1 s1 r1 q1 v rv => ?_⟩
        cases rv <;> first | exact q1.elim | skip
        rename_i b
        refine ⟨b, rfl, ?_⟩
        cases b with
        | true => rw [if_pos rfl]; exact q1.now r1 _ (.bl _)
        | false => rw [if_neg Bool.false_ne_true]; exact ⟨ξ, ι1, ρ, m1, hs.mono s1, r1, q1⟩
      | .And, _, h => simp [chkE] at h
      | .Or, [], h => simp [chkE] at h
      | .Or, [_], h => simp [chkE] at h
    | _ => simp [chkE] at h
  | .not x, W, X, c, a, h, g => by
    cases a with
    | UnaryOp o a1 pos =>
      cases o with
      | Not =>
        simp only [chkE] at h
        refine PE.imp (pe_not (sndE x a1 h g)) fun σ H Q q => ?_
        obtain ⟨ξ, ι, ρ, m, hs, hr, q⟩ := q
        simp only [evE] at q
        refine ⟨ξ, ι, ρ, m, hs, hr, (wpR.bind q).mono fun ι1 H1 d1 m1 s1 r1 q1 v rv => ?_⟩
        cases rv <;> first | exact q1.elim | exact ⟨_, rfl, q1.now r1 _ (.bl _)⟩
      | _ => simp [chkE] at h
    | _ => simp [chkE] at h
  | .ife t x y, W, X, c, a, h, g => by
    cases a with
    | IfExp a1 a2 a3 pos =>
      simp only [chkE, Bool.and_eq_true] at h
      refine PE.imp (pe_ifExp (sndTst t a1 h.1.1.1 h.2 g (sndE t a1 h.1.1.1 g)) (sndE x a2 h.1.1.2 g) (sndE y a3 h.1.2 g)) fun σ H Q q => ?_
      obtain ⟨ξ, ι, ρ, m, hs, hr, q⟩ := q
      simp only [evE] at q
      refine ⟨ξ, ι, ρ, m, hs, hr, (wpR.bind q).mono fun ι1 H1 d1 m1 s1 r1 q1 => ?_⟩
      cases d1 <;> first | exact q1.elim | skip
      rename_i b
      refine ⟨b, rfl, ?_⟩
      cases b with
      | true => rw [if_pos rfl]; exact ⟨ξ, ι1, ρ, m1, hs.mono s1, r1, q1⟩
      | false => rw [if_neg Bool.false_ne_true]; exact ⟨ξ, ι1, ρ, m1, hs.mono s1, r1, q1⟩
    | _ => simp [chkE] at h
  | .idx x y, W, X, c, a, h, g => by
    cases a with
    | Subscript a1 a2 pos =>
      simp only [chkE, Bool.and_eq_true] at h
      refine PE.imp (pe_ix (ixAll g.K (by have := g.units; omega)) (sndE x a1 h.1.1 g) (sndE y a2 h.1.2 g) (plainIx_ok h.2)) fun σ H Q q => ?_
      refine two_ok (k := fun x y m => R.of (idxD m x y) m) q fun ξ ι m d1 d2 v w H2 rp r1 r2 q => ?_
      obtain ⟨d, e, q2⟩ := of_ok q
      exact ⟨ξ, ι, m, d1, d2, rp, r1, r2, d, e, q2.now rp⟩
    | _ => simp [chkE] at h
  | .slc x lo hi, W, X, c, a, h, g => by
    cases a with
    | Subscript a1 a2 pos =>
      cases a2 with
      | Slice l u st p2 =>
        cases st with
        | none =>
          simp only [chkE, Bool.and_eq_true] at h
          refine PE.imp (pe_slice (slcAll g.K) (sndE x a1 h.1.1 g) (sndOe lo l h.1.2 g) (sndOe hi u h.2 g)) fun σ H Q q => ?_
          obtain ⟨ξ, ι, ρ, m, hs, hr, q⟩ := q
          simp only [evE] at q
          refine ⟨ξ, ι, ρ, m, hs, hr, (wpR.bind q).mono fun ι1 H1 d1 m1 s1 r1 q1 v rv => ⟨ξ, ι1, ρ, m1, hs.mono s1, r1, (wpR.bind q1).mono fun ι2 H2 o1 m2 s2 r2 q2 => ⟨ξ, ι2, ρ, m2, (hs.mono s1).mono s2, r2, (wpR.bind q2).mono fun ι3 H3 o2 m3 s3 r3 q3 => ?_⟩⟩⟩
          obtain ⟨d, e, q4⟩ := of_ok q3
          exact ⟨ξ, ι3, m3, d1, r3, (rv.mono s2).mono s3, d, e, fun H' v st rp rd => q4 ι3 H' st rp v rd⟩
        | some _ => simp [chkE] at h
      | _ => simp [chkE] at h
    | _ => simp [chkE] at h
  | .call f es, W, X, c, a, h, g => by
    cases a with
    | Call fn as ks pos =>
      match fn, as, ks, h with
      | .Name x p, y :: ys, [], h =>
        simp only [chkE, Bool.and_eq_true, decide_eq_true_eq] at h
        obtain ⟨⟨h1, h2⟩, h3⟩ := h
        rw [Option.map_eq_some_iff] at h1
        obtain ⟨⟨x', ar⟩, h1, rfl⟩ := h1
        obtain ⟨ad, fd, ps, c1, c2, c3, c4, c5⟩ := g.cal f _ _ h1
        obtain ⟨g1, g2, g3⟩ := g.glb h2
        have ok := okAll h3
        refine PE.imp (pe_callG c5 g.gd g.room g1 c1 c2 c3 (fun σ => passAt g.tk σ) (sndEs es (y :: ys) h3 g) g2 (starEach_ok (ok y List.mem_cons_self)) (star_any fun z hz => ok z (List.mem_cons_of_mem _ hz))) fun σ H Q q => ?_
        obtain ⟨ξ, ι, ρ, m, hs, hr, q⟩ := q
        simp only [evE] at q
        refine ⟨ξ, ι, ρ, m, hs, hr, (wpR.bind q).mono fun ι1 H1 ds m1 s1 r1 q1 vs rv => ?_⟩
        refine ⟨?_, ξ, ι1, m1, ds, rv, r1, ?_⟩
        · rw [← rv.length]
          refine Classical.byContradiction fun z => ?_
          have := g.arity f ds m1 _ _ h1 z
          rw [this] at q1
          exact q1
        · cases e : C.fn f ds m1 with
          | ok d m2 => rw [e] at q1; exact q1
          | exc xx m2 => rw [e] at q1; exact q1
          | stuck => rw [e] at q1; exact q1
      | .Name x p, [], _, h => simp [chkE] at h
      | .Name x p, _ :: _, _ :: _, h => simp [chkE] at h
      | .BoolOp .., _, _, h => simp [chkE] at h
      | .NamedExpr .., _, _, h => simp [chkE] at h
      | .BinOp .., _, _, h => simp [chkE] at h
      | .UnaryOp .., _, _, h => simp [chkE] at h
      | .Lambda .., _, _, h => simp [chkE] at h
      | .IfExp .., _, _, h => simp [chkE] at h
      | .Dict .., _, _, h => simp [chkE] at h
      | .Set .., _, _, h => simp [chkE] at h
      | .ListComp .., _, _, h => simp [chkE] at h
      | .SetComp .., _, _, h => simp [chkE] at h
      | .DictComp .., _, _, h => simp [chkE] at h
      | .GeneratorExp .., _, _, h => simp [chkE] at h
      | .Await .., _, _, h => simp [chkE] at h
      | .Yield .., _, _, h => simp [chkE] at h
      | .YieldFrom .., _, _, h => simp [chkE] at h
      | .Compare .., _, _, h => simp [chkE] at h
      | .Call .., _, _, h => simp [chkE] at h
      | .FormattedValue .., _, _, h => simp [chkE] at h
      | .JoinedStr .., _, _, h => simp [chkE] at h
      | .Constant .., _, _, h => simp [chkE] at h
      | .Attribute .., _, _, h => simp [chkE] at h
      | .Subscript .., _, _, h => simp [chkE] at h
      | .Starred .., _, _, h => simp [chkE] at h
      | .List .., _, _, h => simp [chkE] at h
      | .Tuple .., _, _, h => simp [chkE] at h
      | .Slice .., _, _, h => simp [chkE] at h
    | _ => simp [chkE] at h
  | .bi b es, W, X, c, a, h, g => by
    cases a with
    | Call fn as ks pos =>
      match fn, as, ks, h with
      | .Name x p, y :: ys, [], h =>
        simp only [chkE, Bool.and_eq_true, decide_eq_true_eq] at h
        obtain ⟨⟨h1, h2⟩, h3⟩ := h
        exact PE.imp (callBi g h1 h2 (sndEs es (y :: ys) h3 g) (okAll h3)) fun σ H Q q => by simpa only [evE] using q
      | .Name x p, [], _, h => simp [chkE] at h
      | .Name x p, _ :: _, _ :: _, h => simp [chkE] at h
      | .BoolOp .., _, _, h => simp [chkE] at h
      | .NamedExpr .., _, _, h => simp [chkE] at h
      | .BinOp .., _, _, h => simp [chkE] at h
      | .UnaryOp .., _, _, h => simp [chkE] at h
      | .Lambda .., _, _, h => simp [chkE] at h
      | .IfExp .., _, _, h => simp [chkE] at h
      | .Dict .., _, _, h => simp [chkE] at h
      | .Set .., _, _, h => simp [chkE] at h
      | .ListComp .., _, _, h => simp [chkE] at h
      | .SetComp .., _, _, h => simp [chkE] at h
      | .DictComp .., _, _, h => simp [chkE] at h
      | .GeneratorExp .., _, _, h => simp [chkE] at h
      | .Await .., _, _, h => simp [chkE] at h
      | .Yield .., _, _, h => simp [chkE] at h
      | .YieldFrom .., _, _, h => simp [chkE] at h
      | .Compare .., _, _, h => simp [chkE] at h
      | .Call .., _, _, h => simp [chkE] at h
      | .FormattedValue .., _, _, h => simp [chkE] at h
      | .JoinedStr .., _, _, h => simp [chkE] at h
      | .Constant .., _, _, h => simp [chkE] at h
      | .Subscript .., _, _, h => simp [chkE] at h
      | .Starred .., _, _, h => simp [chkE] at h
      | .List .., _, _, h => simp [chkE] at h
      | .Tuple .., _, _, h => simp [chkE] at h
      | .Slice .., _, _, h => simp [chkE] at h
      | .Attribute .., _, _, h => simp [chkE] at h
    | _ => simp [chkE] at h
  | .isi t x, W, X, c, a, h, g => by
    cases a with
    | Call fn as ks pos =>
      match fn, as, ks, h with
      | .Name x1 p, [y, .Name z pz], [], h =>
        simp only [chkE, Bool.and_eq_true, decide_eq_true_eq] at h
        obtain ⟨⟨⟨⟨⟨h1, h2⟩, h3⟩, h4⟩, h5⟩, h6⟩ := h
        subst h1 h5
        obtain ⟨g1, g2, g3⟩ := g.glb h2
        obtain ⟨g4, g5, g6⟩ := g.glb h6
        have pz' : PE X (.Name (PySem.Str.ofString (tyName t)) pz) (tC (.ty (tyName t))) := pe_bltn g4 (g.blt _ (tysStr t)) (tyBoot t) rfl g6 g5
        refine PE.imp (pe_callB call_isi g1 (g.blt _ (by decide +kernel)) (by decide +kernel) (pa_cons (sndE x y h3 g) (pa_cons pz' pa_nil (starEach_ok rfl)) (starEach_ok h4)) g3 g2 (starEach_ok h4) (star_any fun w hw => by simp at hw; subst hw; rfl)) fun σ H Q q => ?_
        obtain ⟨ξ, ι, ρ, m, hs, hr, q⟩ := q
        simp only [evE] at q
        refine ⟨ξ, ι, ρ, m, hs, hr, (wpR.bind q).mono fun ι1 H1 d1 m1 s1 r1 q1 v rv => ?_⟩
        obtain ⟨b, e, q2⟩ := ofb_ok q1
        obtain ⟨T, k1, k2⟩ := isiD_of r1 rv e
        exact ⟨v, .ty (tyName t), .type T, .type (tyName t), b, rfl, .ty _, by rw [g.K]; exact k1, kit_ty k2, q2.now r1 _ (.bl _)⟩
      | .Name x1 p, [y, .Name z pz], _ :: _, h => simp [chkE] at h
      | .Name x1 p, [], _, h => simp [chkE] at h
      | .Name x1 p, [_], _, h => simp [chkE] at h
      | .Name x1 p, _ :: _ :: _ :: _, _, h => simp [chkE] at h
      | .Name x1 p, [_, .BoolOp ..], _, h => simp [chkE] at h
      | .Name x1 p, [_, .NamedExpr ..], _, h => simp [chkE] at h
      | .Name x1 p, [_, .BinOp ..], _, h => simp [chkE] at h
      | .Name x1 p, [_, .UnaryOp ..], _, h => simp [chkE] at h
      | .Name x1 p, [_, .Lambda ..], _, h => simp [chkE] at h
      | .Name x1 p, [_, .IfExp ..], _, h => simp [chkE] at h
      | .Name x1 p, [_, .Dict ..], _, h => simp [chkE] at h
      | .Name x1 p, [_, .Set ..], _, h => simp [chkE] at h
      | .Name x1 p, [_, .ListComp ..], _, h => simp [chkE] at h
      | .Name x1 p, [_, .SetComp ..], _, h => simp [chkE] at h
      | .Name x1 p, [_, .DictComp ..], _, h => simp [chkE] at h
      | .Name x1 p, [_, .GeneratorExp ..], _, h => simp [chkE] at h
      | .Name x1 p, [_, .Await ..], _, h => simp [chkE] at h
      | .Name x1 p, [_, .Yield ..], _, h => simp [chkE] at h
      | .Name x1 p, [_, .YieldFrom ..], _, h => simp [chkE] at h
      | .Name x1 p, [_, .Compare ..], _, h => simp [chkE] at h
      | .Name x1 p, [_, .Call ..], _, h => simp [chkE] at h
      | .Name x1 p, [_, .FormattedValue ..], _, h => simp [chkE] at h
      | .Name x1 p, [_, .JoinedStr ..], _, h => simp [chkE] at h
      | .Name x1 p, [_, .Constant ..], _, h => simp [chkE] at h
      | .Name x1 p, [_, .Subscript ..], _, h => simp [chkE] at h
      | .Name x1 p, [_, .Starred ..], _, h => simp [chkE] at h
      | .Name x1 p, [_, .List ..], _, h => simp [chkE] at h
      | .Name x1 p, [_, .Tuple ..], _, h => simp [chkE] at h
      | .Name x1 p, [_, .Slice ..], _, h => simp [chkE] at h
      | .Name x1 p, [_, .Attribute ..], _, h => simp [chkE] at h
      | .BoolOp .., _, _, h => simp [chkE] at h
      | .NamedExpr .., _, _, h => simp [chkE] at h
      | .BinOp .., _, _, h => simp [chkE] at h
      | .UnaryOp .., _, _, h => simp [chkE] at h
      | .Lambda .., _, _, h => simp [chkE] at h
      | .IfExp .., _, _, h => simp [chkE] at h
      | .Dict .., _, _, h => simp [chkE] at h
      | .Set .., _, _, h => simp [chkE] at h
      | .ListComp .., _, _, h => simp [chkE] at h
      | .SetComp .., _, _, h => simp [chkE] at h
      | .DictComp .., _, _, h => simp [chkE] at h
      | .GeneratorExp .., _, _, h => simp [chkE] at h
      | .Await .., _, _, h => simp [chkE] at h
      | .Yield .., _, _, h => simp [chkE] at h
      | .YieldFrom .., _, _, h => simp [chkE] at h
      | .Compare .., _, _, h => simp [chkE] at h
      | .Call .., _, _, h => simp [chkE] at h
      | .FormattedValue .., _, _, h => simp [chkE] at h
      | .JoinedStr .., _, _, h => simp [chkE] at h
      | .Constant .., _, _, h => simp [chkE] at h
      | .Subscript .., _, _, h => simp [chkE] at h
      | .Starred .., _, _, h => simp [chkE] at h
      | .List .., _, _, h => simp [chkE] at h
      | .Tuple .., _, _, h => simp [chkE] at h
      | .Slice .., _, _, h => simp [chkE] at h
      | .Attribute .., _, _, h => simp [chkE] at h
    | _ => simp [chkE] at h
  | .append o e, W, X, c, a, h, g => by
    cases a with
    | Call fn as ks pos =>
      match fn, as, ks, h with
      | .Attribute x n p, [y], [], h =>
        simp only [chkE, Bool.and_eq_true, decide_eq_true_eq] at h
        obtain ⟨⟨⟨⟨⟨h1, h2⟩, h3⟩, h4⟩, h5⟩, h6⟩ := h
        subst h1
        refine PE.imp (pe_bm PySem.F.plainAttrs_list PySem.F.slot_list_append PySem.F.type_list_append mt_append (sndE o x h2 g) (pa_cons (sndE e y h3 g) pa_nil (starEach_ok h4)) (base_ok h6) (by rw [starEach_ok h4]; rfl) h5 (starEach_ok h4) rfl) fun σ H Q q => ?_
        obtain ⟨ξ, ι, ρ, m, hs, hr, q⟩ := q
        simp only [evE] at q
        refine ⟨ξ, ι, ρ, m, hs, hr, (wpR.bind q).mono fun ι1 H1 d1 m1 s1 r1 q1 v rv => ?_⟩
        cases rv <;> first | exact q1.elim | skip
        rename_i i ad hi
        obtain ⟨u, ho, ro⟩ := r1.at hi
        simp only [ho] at q1
        cases u <;> first | exact q1.elim | skip
        rename_i l
        obtain ⟨ws, hw, rw'⟩ := ro
        refine ⟨.inl ⟨rfl, ws, SqL.of hw⟩, ξ, ι1, ρ, m1, hs.mono s1, r1, (wpR.bind q1).mono fun ι2 H2 d2 m2 s2 r2 q2 w rw2 => ?_⟩
        have hi2 := s2.get hi
        obtain ⟨u2, ho2, ro2⟩ := r2.at hi2
        simp only [ho2] at q2
        cases u2 <;> first | exact q2.elim | skip
        rename_i l2
        obtain ⟨ws2, hw2, rw3⟩ := ro2
        by_cases hz : l2.length < sizeLine
        · have q3 : wpR Γ ξ W σ ι2 H2 (.ok D.non (m2.set i (.lst (l2 ++ [d2])))) (fun ι' H' d _ => ∀ v, Rp Γ.K ξ ι' H' d v → Q v H') := by
            rw [← if_pos (c := l2.length < sizeLine) (t := Lw.R.ok D.non (m2.set i (.lst (l2 ++ [d2])))) (e := .stuck) hz]; exact q2
          have hmem := List.mem_of_getElem? hi2
          refine ⟨ad, ws2, w, rfl, rfl, hw2, by rw [← rw3.length]; exact hz, ?_⟩
          exact q3 ι2 _ (.write hmem) (r2.write hi2 ⟨_, upd_same, ((rw3.append (.cons rw2 .nil)).mono (.write hmem))⟩) _ .non
        · have q3 : wpR Γ ξ W σ ι2 H2 .stuck (fun ι' H' d _ => ∀ v, Rp Γ.K ξ ι' H' d v → Q v H') := by
            rw [← if_neg (c := l2.length < sizeLine) (t := Lw.R.ok D.non (m2.set i (.lst (l2 ++ [d2])))) (e := .stuck) hz]; exact q2
          exact q3.elim
      | .Attribute x n p, [], _, h => simp [chkE] at h
      | .Attribute x n p, _ :: _ :: _, _, h => simp [chkE] at h
      | .Attribute x n p, [_], _ :: _, h => simp [chkE] at h
      | .BoolOp .., _, _, h => simp [chkE] at h
      | .NamedExpr .., _, _, h => simp [chkE] at h
      | .BinOp .., _, _, h => simp [chkE] at h
      | .UnaryOp .., _, _, h => simp [chkE] at h
      | .Lambda .., _, _, h => simp [chkE] at h
      | .IfExp .., _, _, h => simp [chkE] at h
      | .Dict .., _, _, h => simp [chkE] at h
      | .Set .., _, _, h => simp [chkE] at h
      | .ListComp .., _, _, h => simp [chkE] at h
      | .SetComp .., _, _, h => simp [chkE] at h
      | .DictComp .., _, _, h => simp [chkE] at h
      | .GeneratorExp .., _, _, h => simp [chkE] at h
      | .Await .., _, _, h => simp [chkE] at h
      | .Yield .., _, _, h => simp [chkE] at h
      | .YieldFrom .., _, _, h => simp [chkE] at h
      | .Compare .., _, _, h => simp [chkE] at h
      | .Call .., _, _, h => simp [chkE] at h
      | .FormattedValue .., _, _, h => simp [chkE] at h
      | .JoinedStr .., _, _, h => simp [chkE] at h
      | .Constant .., _, _, h => simp [chkE] at h
      | .Subscript .., _, _, h => simp [chkE] at h
      | .Starred .., _, _, h => simp [chkE] at h
      | .List .., _, _, h => simp [chkE] at h
      | .Tuple .., _, _, h => simp [chkE] at h
      | .Slice .., _, _, h => simp [chkE] at h
      | .Name .., _, _, h => simp [chkE] at h
    | _ => simp [chkE] at h
  | .dnw tk, W, X, c, a, h, g => by
    have hf : ∃ pos, a = .Dict [] [] pos := by
      rw [chkE.eq_def] at h
      cases a <;> simp at h
      rename_i xs ys pos
      cases xs <;> cases ys <;> simp at h
      exact ⟨_, rfl⟩
    obtain ⟨pos, rfl⟩ := hf
    have fin : ∀ (ho : HO) (o : O), (∀ (ξ ι : List Addr) (H : Hp) (p : Addr), RpO Γ ξ ι (upd H p ho) p o) → ∀ σ H Q, tE Γ W (fun _ m => .ok (.ref m.length) (m ++ [o])) σ H Q → ∀ p, H p = none → Q (.ref p) (upd H p ho) := by
      intro ho o hro σ H Q q p hp
      obtain ⟨ξ, ι, ρ, m, hs, hr, q⟩ := q
      refine q (ι ++ [p]) _ (.newRef hp) (hr.newO hp (hro _ _ _ _)) _ (.ref ?_)
      rw [← hr.len, List.getElem?_append_right (Nat.le_refl _)]; simp
    cases tk with
    | false => exact PE.imp pe_dnewK fun σ H Q q => fin (.dK []) (.dK []) (fun _ _ _ _ => ⟨[], upd_same, .nil⟩) σ H Q (by simpa only [evE, if_false, Bool.false_eq_true] using q)
    | true => exact PE.imp pe_dnewT fun σ H Q q => fin (.dT []) (.dT []) (fun _ _ _ _ => ⟨[], upd_same, .nil⟩) σ H Q (by simpa only [evE, if_true] using q)
  | .m1 k o e, W, X, c, a, h, g => by
    simp only [chkE] at h
    split at h
    · rename_i x n y ok e1
      obtain ⟨p, pos, rfl, hok⟩ := asM1_eq e1
      simp only [Bool.and_eq_true, decide_eq_true_eq] at h
      obtain ⟨⟨⟨⟨h1, h2⟩, h3⟩, h4⟩, h5⟩ := h
      subst h1
      obtain ⟨k1, k2⟩ := hok h2
      cases k with
      | join =>
        refine PE.imp (pe_join (sndE o x h3 g) (sndE e y h4 g) (starEach_ok h5) (base2_ok k2) k1) fun σ H Q q => ?_
        obtain ⟨ξ, ι, ρ, m, hs, hr, q⟩ := q
        simp only [evE] at q
        refine ⟨ξ, ι, ρ, m, hs, hr, (wpR.bind q).mono fun ι1 H1 d1 m1 s1 r1 q1 v rv => ?_⟩
        cases hr1 : rcv m1 .join d1 with
        | false => rw [hr1] at q1; exact q1.elim
        | true =>
          rw [hr1, if_pos rfl] at q1
          cases rv <;> first | (simp [rcv] at hr1; done) | skip
          rename_i t
          refine ⟨⟨t, rfl⟩, ξ, ι1, ρ, m1, hs.mono s1, r1, (wpR.bind q1).mono fun ι2 H2 d2 m2 s2 r2 q2 w rw' => ?_⟩
          obtain ⟨d3, e3, q3⟩ := of_ok q2
          simp only [m1D] at e3
          obtain ⟨ys, e4, e5⟩ := Option.bind_eq_some_iff.mp e3
          obtain ⟨l, e6, e7⟩ := Option.bind_eq_some_iff.mp e4
          obtain ⟨ad, vs, rfl, k3, k4⟩ := seq_of r2 rw' e6
          have e8 := strs_of e7 k4
          subst e8
          split at e5
          · rename_i hz
            cases e5
            exact ⟨t, ad, ys, rfl, rfl, by rw [g.K]; exact k3, hz, q3.now r2 _ (.str _)⟩
          · cases e5
    · cases h
  | .dsp ks, W, X, c, a, h, g => by
    cases a with
    | Dict xs ys pos =>
      simp only [chkE, Bool.and_eq_true, Bool.not_eq_true', decide_eq_true_eq] at h
      obtain ⟨⟨h1, h2⟩, h3⟩ := h
      obtain ⟨trs, pp, l1, l2, rd⟩ := sndKs ks xs ys pos h1 g
      refine PE.imp (pe_disp pp l1 l2 (by intro z; rw [z] at h2; cases h2) h3) fun σ H Q q p hp => ?_
      obtain ⟨ξ, ι, ρ, m, hs, hr, q⟩ := q
      simp only [evE] at q
      have hn0 := hr.fresh hp
      have hx0 := hr.freshx hp
      refine rd σ _ _ ⟨ξ, ι, ρ, m, hs.mono (.new hp), hr.new hp, ?_⟩
      cases e : evKs C ks ρ m with
      | stuck => rw [e] at q; exact q.elim
      | exc x m1 => rw [e] at q; exact wpR.shift (r := (.exc x m1 : Lw.R (List (Key × D)))) (.new hp) q
      | ok kvs m1 =>
        rw [e] at q
        intro ι1 H1 s1 r1 ps us e1 hl hu
        have hp1 : H1 p = some (.dK []) := s1.keep _ _ hn0 upd_same
        have hn1 : p ∉ ι1 := s1.nin hn0 (by rw [upd_same]; simp)
        refine ⟨hp1, us, e1, by omega, ?_⟩
        refine q (ι1 ++ [p]) _ ?_ (r1.growD hp1 hn1 hx0 (mergeL_of hu)) _ (.ref ?_)
        · have s2 := (Stp.new (ι := ι) (o := .dK []) hp).trans s1
          obtain ⟨t, rfl, ht⟩ := s2.ex
          refine ⟨⟨t ++ [p], by rw [List.append_assoc], fun b hb => ?_⟩, fun b o n h => ?_, fun b h => ?_⟩
          · rcases List.mem_append.mp hb with z | z
            · exact ht b z
            · simp at z; subst z; exact hp
          · rw [upd_ne (ne_of_none h hp)]; exact s2.keep b o n h
          · unfold upd; split
            · simp
            · exact s2.dom b h
        · rw [← r1.len, List.getElem?_append_right (Nat.le_refl _)]; simp
    | _ => simp [chkE] at h
theorem sndTst : ∀ (e : E) {W : WX} {X : Cx} {c : Ck} (a : PySem.Expr), chkE c e a = true → tstE e = true → Good Γ C c n W X → PE X a (tE Γ W (evE C e)) → PT X a (tT Γ W (evE C e))
  | .cmp op x y, W, X, c, a, h, ht, g, hp => by
    cases a with
    | Compare a1 os as pos =>
      match os, as, h with
      | [o], [a2], h =>
        simp only [chkE, Bool.and_eq_true] at h
        obtain ⟨⟨⟨h1, h2⟩, h3⟩, h4⟩ := h
        rw [isCop_eq h1]
        refine PT.imp (pt_cmpR (cmpAll g.K g.units op) (sndE x a1 h2 g) (sndE y a2 h3 g) (behind_ok h4)) fun σ H Q q => ?_
        refine two_ok (k := fun x y m => R.of ((cmpD m op x y).map .bl) m) (by have := test_of q; simpa only [evE] using this) fun ξ ι m d1 d2 v w H2 rp r1 r2 q => ?_
        obtain ⟨d, e, q2⟩ := ofb_ok q
        exact ⟨ξ, ι, m, d1, d2, rp, r1, r2, d, e, q2.now rp _ (.bl _)⟩
      | [], _, h => simp [chkE] at h
      | _ :: _ :: _, _, h => simp [chkE] at h
      | [_], [], h => simp [chkE] at h
      | [_], _ :: _ :: _, h => simp [chkE] at h
    | _ => simp [chkE] at h
  | .chain o1 o2 x y z, W, X, c, a, h, ht, g, hp => by
    cases a with
    | Compare a1 os as pos =>
      match os, as, h with
      | [p1, p2], [a2, a3], h =>
        simp only [chkE, Bool.and_eq_true] at h
        obtain ⟨⟨⟨⟨⟨⟨h1, h2⟩, h3⟩, h4⟩, h5⟩, h6⟩, h7⟩ := h
        rw [isCop_eq h1, isCop_eq h2]
        refine PT.imp (pt_chain (cmpAll g.K g.units o1) (cmpAll g.K g.units o2) (sndE x a1 h3 g) (sndE y a2 h4 g) (sndE z a3 h5 g) (show behindInMarks _ _ = false from behind_ok h7)) fun σ H Q q => ?_
        obtain ⟨ξ, ι, ρ, m, hs, hr, q⟩ := test_of q
        simp only [evE] at q
        refine ⟨ξ, ι, ρ, m, hs, hr, (wpR.bind q).mono fun ι1 H1 d1 m1 s1 r1 q1 v rv => ⟨ξ, ι1, ρ, m1, hs.mono s1, r1, (wpR.bind q1).mono fun ι2 H2 d2 m2 s2 r2 q2 w rw' => ?_⟩⟩
        cases e : cmpD m2 o1 d1 d2 with
        | none => rw [e] at q2; exact q2.elim
        | some b =>
          rw [e] at q2
          refine ⟨ξ, ι2, m2, d1, d2, r2, rv.mono s2, rw', b, e, b, rfl, ?_⟩
          cases b with
          | true =>
            rw [if_pos rfl]
            refine ⟨ξ, ι2, ρ, m2, (hs.mono s1).mono s2, r2, (wpR.bind q2).mono fun ι3 H3 d3 m3 s3 r3 q3 u ru => ?_⟩
            obtain ⟨d, e, q4⟩ := ofb_ok q3
            exact ⟨ξ, ι3, m3, d2, d3, r3, rw'.mono s3, ru, d, e, q4.now r3 _ (.bl _)⟩
          | false =>
            rw [if_neg Bool.false_ne_true]
            exact q2.now r2 _ (.bl _)
      | [], _, h => simp [chkE] at h
      | [_], _, h => simp [chkE] at h
      | _ :: _ :: _ :: _, _, h => simp [chkE] at h
      | [_, _], [], h => simp [chkE] at h
      | [_, _], [_], h => simp [chkE] at h
      | [_, _], _ :: _ :: _ :: _, h => simp [chkE] at h
    | _ => simp [chkE] at h
  | .isN ng x, W, X, c, a, h, ht, g, hp => by
    cases a with
    | Compare a1 os as pos =>
      match os, as, h with
      | [o], [.Constant .none k p], h =>
        simp only [chkE, Bool.and_eq_true] at h
        have key : ∀ {ξ ι} {H : Hp} {d : D} {v : V}, Rp Γ.K ξ ι H d v → decide (v = .non) = isNonD d := by
          intro ξ ι H d v r
          cases r <;> first | rfl | simp [isNonD]
        cases ng with
        | false =>
          cases o <;> simp at h
          refine PT.imp (pt_cmp (pc_isN (sndE x a1 h g))) fun σ H Q q => ?_
          obtain ⟨ξ, ι, ρ, m, hs, hr, q⟩ := q
          simp only [evE] at q
          refine ⟨ξ, ι, ρ, m, hs, hr, (wpR.bind q).mono fun ι1 H1 d1 m1 s1 r1 q1 v rv => ?_⟩
          obtain ⟨b, e, q2⟩ := q1.now r1
          cases e
          exact ⟨_, by rw [key rv]; rfl, q2⟩
        | true =>
          cases o <;> simp at h
          refine PT.imp (pt_cmp (pc_notN (sndE x a1 h g))) fun σ H Q q => ?_
          obtain ⟨ξ, ι, ρ, m, hs, hr, q⟩ := q
          simp only [evE] at q
          refine ⟨ξ, ι, ρ, m, hs, hr, (wpR.bind q).mono fun ι1 H1 d1 m1 s1 r1 q1 v rv => ?_⟩
          obtain ⟨b, e, q2⟩ := q1.now r1
          cases e
          exact ⟨_, by rw [key rv]; rfl, q2⟩
      | [o], [.Constant (.bool _) _ _], h => simp [chkE] at h
      | [o], [.Constant (.int _) _ _], h => simp [chkE] at h
      | [o], [.Constant (.float _) _ _], h => simp [chkE] at h
      | [o], [.Constant (.complex _ _) _ _], h => simp [chkE] at h
      | [o], [.Constant (.str _) _ _], h => simp [chkE] at h
      | [o], [.Constant (.bytes _) _ _], h => simp [chkE] at h
      | [o], [.Constant .ellipsis _ _], h => simp [chkE] at h
      | [], _, h => simp [chkE] at h
      | _ :: _ :: _, _, h => simp [chkE] at h
      | [_], [], h => simp [chkE] at h
      | [_], _ :: _ :: _, h => simp [chkE] at h
      | [_], [.Name ..], h => simp [chkE] at h
      | [_], [.BoolOp ..], h => simp [chkE] at h
      | [_], [.NamedExpr ..], h => simp [chkE] at h
      | [_], [.BinOp ..], h => simp [chkE] at h
      | [_], [.UnaryOp ..], h => simp [chkE] at h
      | [_], [.Lambda ..], h => simp [chkE] at h
      | [_], [.IfExp ..], h => simp [chkE] at h
      | [_], [.Dict ..], h => simp [chkE] at h
      | [_], [.Set ..], h => simp [chkE] at h
      | [_], [.ListComp ..], h => simp [chkE] at h
      | [_], [.SetComp ..], h => simp [chkE] at h
      | [_], [.DictComp ..], h => simp [chkE] at h
      | [_], [.GeneratorExp ..], h => simp [chkE] at h
      | [_], [.Await ..], h => simp [chkE] at h
      | [_], [.Yield ..], h => simp [chkE] at h
      | [_], [.YieldFrom ..], h => simp [chkE] at h
      | [_], [.Compare ..], h => simp [chkE] at h
      | [_], [.Call ..], h => simp [chkE] at h
      | [_], [.FormattedValue ..], h => simp [chkE] at h
      | [_], [.JoinedStr ..], h => simp [chkE] at h
      | [_], [.Attribute ..], h => simp [chkE] at h
      | [_], [.Subscript ..], h => simp [chkE] at h
      | [_], [.Starred ..], h => simp [chkE] at h
      | [_], [.List ..], h => simp [chkE] at h
      | [_], [.Tuple ..], h => simp [chkE] at h
      | [_], [.Slice ..], h => simp [chkE] at h
    | _ => simp [chkE] at h
  | .isB ng x y, W, X, c, a, h, ht, g, hp => by
    cases a with
    | Compare a1 os as pos =>
      match os, as, h with
      | [o], [a2], h =>
        simp only [chkE, Bool.and_eq_true] at h
        obtain ⟨⟨⟨h1, h2⟩, h3⟩, h4⟩ := h
        cases ng with
        | false =>
          cases o <;> simp at h1
          refine PT.imp (pt_cmpR op_isBl (sndE x a1 h2 g) (sndE y a2 h3 g) (behind_ok h4)) fun σ H Q q => ?_
          refine two_ok (test_of q) fun ξ ι m d1 d2 v w H2 rp r1 r2 q => ?_
          cases r1 <;> first | exact q.elim | skip
          cases r2 <;> first | exact q.elim | exact ⟨_, _, rfl, rfl, q.now rp _ (.bl _)⟩
        | true =>
          cases o <;> simp at h1
          refine PT.imp (pt_cmpR op_notBl (sndE x a1 h2 g) (sndE y a2 h3 g) (behind_ok h4)) fun σ H Q q => ?_
          refine two_ok (test_of q) fun ξ ι m d1 d2 v w H2 rp r1 r2 q => ?_
          cases r1 <;> first | exact q.elim | skip
          cases r2 <;> first | exact q.elim | exact ⟨_, _, rfl, rfl, q.now rp _ (.bl _)⟩
      | [], _, h => simp [chkE] at h
      | _ :: _ :: _, _, h => simp [chkE] at h
      | [_], [], h => simp [chkE] at h
      | [_], _ :: _ :: _, h => simp [chkE] at h
    | _ => simp [chkE] at h
  | .not x, W, X, c, a, h, ht, g, hp => by
    cases a with
    | UnaryOp o a1 pos =>
      cases o with
      | Not =>
        simp only [chkE] at h
        simp only [tstE] at ht
        refine PT.imp (pt_not (sndTst x a1 h ht g (sndE x a1 h g))) fun σ H Q q => ?_
        obtain ⟨ξ, ι, ρ, m, hs, hr, q⟩ := q
        simp only [evE] at q
        refine ⟨ξ, ι, ρ, m, hs, hr, (wpR.bind q).mono fun ι1 H1 d1 m1 s1 r1 q1 => ?_⟩
        cases d1 <;> first | exact q1.elim | skip
        obtain ⟨b, e, q2⟩ := q1.now r1
        cases e
        exact ⟨_, rfl, q2⟩
      | _ => simp [chkE] at h
    | _ => simp [chkE] at h
  | .and x es, W, X, c, a, h, ht, g, hp => by
    cases a with
    | BoolOp o as pos =>
      match o, as, h with
      | .And, a1 :: a2 :: r, h =>
        simp only [chkE, Bool.and_eq_true] at h
        simp only [tstE, Bool.and_eq_true] at ht
        refine PT.imp (PW.pt (pw_and (sndTst x a1 h.1 ht.1 g (sndE x a1 h.1 g)) (sndTAnd es (a2 :: r) h.2 ht.2 (by simp) g))) fun σ H Q q => ?_
        obtain ⟨ξ, ι, ρ, m, hs, hr, q⟩ := q
        simp only [evE] at q
        refine ⟨ξ, ι, ρ, m, hs, hr, (wpR.bind q).mono fun ι1 H1 d1 m1 s1 r1 q1 => ?_⟩
        cases d1 <;> first | exact q1.elim | skip
        rename_i b
        refine ⟨b, rfl, ?_⟩
        cases b with
        | true => rw [if_pos rfl]; exact ⟨ξ, ι1, ρ, m1, hs.mono s1, r1, q1⟩
        | false =>
          rw [if_neg Bool.false_ne_true]
          obtain ⟨b, e, q2⟩ := q1.now r1
          cases e; exact q2
      | .Or, _, h => simp [chkE] at h
      | .And, [], h => simp [chkE] at h
      | .And, [_], h => simp [chkE] at h
    | _ => simp [chkE] at h
  | .or x es, W, X, c, a, h, ht, g, hp => by
    cases a with
    | BoolOp o as pos =>
      match o, as, h with
      | .Or, a1 :: a2 :: r, h =>
        simp only [chkE, Bool.and_eq_true] at h
        simp only [tstE, Bool.and_eq_true] at ht
        refine PT.imp (PW.pt (pw_or (sndTst x a1 h.1 ht.1 g (sndE x a1 h.1 g)) (sndTOr es (a2 :: r) h.2 ht.2 (by simp) g))) fun σ H Q q => ?_
        obtain ⟨ξ, ι, ρ, m, hs, hr, q⟩ := q
        simp only [evE] at q
        refine ⟨ξ, ι, ρ, m, hs, hr, (wpR.bind q).mono fun ι1 H1 d1 m1 s1 r1 q1 => ?_⟩
        cases d1 <;> first | exact q1.elim | skip
        rename_i b
        refine ⟨b, rfl, ?_⟩
        cases b with
        | false => rw [if_neg Bool.false_ne_true]; exact ⟨ξ, ι1, ρ, m1, hs.mono s1, r1, q1⟩
        | true =>
          rw [if_pos rfl]
          obtain ⟨b, e, q2⟩ := q1.now r1
          cases e; exact q2
      | .And, _, h => simp [chkE] at h
      | .Or, [], h => simp [chkE] at h
      | .Or, [_], h => simp [chkE] at h
    | _ => simp [chkE] at h
  | .ife .., W, X, c, a, h, ht, g, hp => by simp [tstE] at ht
  | .neg .., W, X, c, a, h, ht, g, hp => by simp [tstE] at ht
  | .cst _, W, X, c, a, h, ht, g, hp => plain_ok hp (by cases a <;> first | rfl | simp [chkE] at h)
  | .glob _, W, X, c, a, h, ht, g, hp => plain_ok hp (by cases a <;> first | rfl | simp [chkE] at h)
  | .var _, W, X, c, a, h, ht, g, hp => plain_ok hp (by cases a <;> first | rfl | simp [chkE] at h)
  | .tup _, W, X, c, a, h, ht, g, hp => plain_ok hp (by cases a <;> first | rfl | simp [chkE] at h)
  | .fz l, W, X, c, a, h, ht, g, hp => plain_ok hp (by cases l <;> cases a <;> first | rfl | simp [chkE, chkL, asRng3] at h)
  | .alc l, W, X, c, a, h, ht, g, hp => plain_ok hp (by cases l <;> cases a <;> first | rfl | simp [chkE, chkL, asRng3] at h)
  | .bin .., W, X, c, a, h, ht, g, hp => plain_ok hp (by cases a <;> first | rfl | simp [chkE] at h)
  | .idx .., W, X, c, a, h, ht, g, hp => plain_ok hp (by cases a <;> first | rfl | simp [chkE] at h)
  | .slc .., W, X, c, a, h, ht, g, hp => plain_ok hp (by cases a <;> first | rfl | simp [chkE] at h)
  | .call .., W, X, c, a, h, ht, g, hp => plain_ok hp (by cases a <;> first | rfl | simp [chkE] at h)
  | .bi .., W, X, c, a, h, ht, g, hp => plain_ok hp (by cases a <;> first | rfl | simp [chkE] at h)
  | .isi .., W, X, c, a, h, ht, g, hp => plain_ok hp (by cases a <;> first | rfl | simp [chkE] at h)
  | .append .., W, X, c, a, h, ht, g, hp => plain_ok hp (by cases a <;> first | rfl | simp [chkE] at h)
  | .dnw _, W, X, c, a, h, ht, g, hp => plain_ok hp (by cases a <;> first | rfl | simp [chkE] at h)
  | .m1 .., W, X, c, a, h, ht, g, hp => plain_ok hp (by cases a <;> first | rfl | simp [chkE, asM1] at h)
  | .dsp .., W, X, c, a, h, ht, g, hp => plain_ok hp (by cases a <;> first | rfl | simp [chkE] at h)
theorem sndTAnd : ∀ (es : Es) {W : WX} {X : Cx} {c : Ck} {pos : Pos} (as : List PySem.Expr), chkEs c es as = true → tstEs es = true → as ≠ [] → Good Γ C c n W X → PW X (.BoolOp .And as pos) (tT Γ W (evAnd C es))
  | .nil, W, X, c, pos, as, h, ht, hn, g => by
    cases as with
    | nil => exact absurd rfl hn
    | cons _ _ => simp [chkEs] at h
  | .cons e .nil, W, X, c, pos, as, h, ht, hn, g => by
    match as, h with
    | [x], h =>
      simp only [chkEs, Bool.and_eq_true] at h
      simp only [tstEs, Bool.and_eq_true] at ht
      refine PW.imp (pw_and1 (sndTst e x h.1.1 ht.1 g (sndE e x h.1.1 g))) fun σ H Q q => ?_
      obtain ⟨ξ, ι, ρ, m, hs, hr, q⟩ := q
      simp only [evAnd] at q
      refine ⟨ξ, ι, ρ, m, hs, hr, (wpR.bind q).mono fun ι1 H1 d1 m1 s1 r1 q1 => ?_⟩
      cases d1 <;> first | exact q1.elim | exact q1.now r1
    | [], h => simp [chkEs] at h
    | _ :: _ :: _, h => simp [chkEs] at h
  | .cons e (.cons e2 es), W, X, c, pos, as, h, ht, hn, g => by
    match as, h with
    | x :: y :: r, h =>
      have h' : chkE c e x = true ∧ chkEs c (.cons e2 es) (y :: r) = true := by
        rw [chkEs] at h; simp only [Bool.and_eq_true] at h; exact ⟨h.1.1, h.2⟩
      have ht' : tstE e = true ∧ tstEs (.cons e2 es) = true := by
        rw [tstEs] at ht; simp only [Bool.and_eq_true] at ht; exact ht
      refine PW.imp (pw_and (sndTst e x h'.1 ht'.1 g (sndE e x h'.1 g)) (sndTAnd (.cons e2 es) (y :: r) h'.2 ht'.2 (by simp) g)) fun σ H Q q => ?_
      obtain ⟨ξ, ι, ρ, m, hs, hr, q⟩ := q
      rw [evAnd] at q
      rotate_left 1
      · intro z; cases z
      refine ⟨ξ, ι, ρ, m, hs, hr, (wpR.bind q).mono fun ι1 H1 d1 m1 s1 r1 q1 => ?_⟩
      cases d1 <;> first | exact q1.elim | skip
      rename_i b
      refine ⟨b, rfl, ?_⟩
      cases b with
      | true => rw [if_pos rfl]; exact ⟨ξ, ι1, ρ, m1, hs.mono s1, r1, q1⟩
      | false =>
        rw [if_neg Bool.false_ne_true]
        obtain ⟨b, e, q2⟩ := q1.now r1
        cases e; exact q2
    | [], h => simp [chkEs] at h
    | [_], h => simp [chkEs] at h
theorem sndTOr : ∀ (es : Es) {W : WX} {X : Cx} {c : Ck} {pos : Pos} (as : List PySem.Expr), chkEs c es as = true → tstEs es = true → as ≠ [] → Good Γ C c n W X → PW X (.BoolOp .Or as pos) (tT Γ W (evOr C es))
  | .nil, W, X, c, pos, as, h, ht, hn, g => by
    cases as with
    | nil => exact absurd rfl hn
    | cons _ _ => simp [chkEs] at h
  | .cons e .nil, W, X, c, pos, as, h, ht, hn, g => by
    match as, h with
    | [x], h =>
      simp only [chkEs, Bool.and_eq_true] at h
      simp only [tstEs, Bool.and_eq_true] at ht
      refine PW.imp (pw_or1 (sndTst e x h.1.1 ht.1 g (sndE e x h.1.1 g))) fun σ H Q q => ?_
      obtain ⟨ξ, ι, ρ, m, hs, hr, q⟩ := q
      simp only [evOr] at q
      refine ⟨ξ, ι, ρ, m, hs, hr, (wpR.bind q).mono fun ι1 H1 d1 m1 s1 r1 q1 => ?_⟩
      cases d1 <;> first | exact q1.elim | exact q1.now r1
    | [], h => simp [chkEs] at h
    | _ :: _ :: _, h => simp [chkEs] at h
  | .cons e (.cons e2 es), W, X, c, pos, as, h, ht, hn, g => by
    match as, h with
    | x :: y :: r, h =>
      have h' : chkE c e x = true ∧ chkEs c (.cons e2 es) (y :: r) = true := by
        rw [chkEs] at h; simp only [Bool.and_eq_true] at h; exact ⟨h.1.1, h.2⟩
      have ht' : tstE e = true ∧ tstEs (.cons e2 es) = true := by
        rw [tstEs] at ht; simp only [Bool.and_eq_true] at ht; exact ht
      refine PW.imp (pw_or (sndTst e x h'.1 ht'.1 g (sndE e x h'.1 g)) (sndTOr (.cons e2 es) (y :: r) h'.2 ht'.2 (by simp) g)) fun σ H Q q => ?_
      obtain ⟨ξ, ι, ρ, m, hs, hr, q⟩ := q
      rw [evOr] at q
      rotate_left 1
      · intro z; cases z
      refine ⟨ξ, ι, ρ, m, hs, hr, (wpR.bind q).mono fun ι1 H1 d1 m1 s1 r1 q1 => ?_⟩
      cases d1 <;> first | exact q1.elim | skip
      rename_i b
      refine ⟨b, rfl, ?_⟩
      cases b with
      | false => rw [if_neg Bool.false_ne_true]; exact ⟨ξ, ι1, ρ, m1, hs.mono s1, r1, q1⟩
      | true =>
        rw [if_pos rfl]
        obtain ⟨b, e, q2⟩ := q1.now r1
        cases e; exact q2
    | [], h => simp [chkEs] at h
    | [_], h => simp [chkEs] at h
theorem sndEs : ∀ (es : Es) {W : WX} {X : Cx} {c : Ck} (as : List PySem.Expr), chkEs c es as = true → Good Γ C c n W X → PA X as (tEs Γ W (evEs C es))
  | .nil, W, X, c, as, h, g => by
    cases as with
    | nil =>
      refine PA.imp pa_nil fun σ H Q q => ?_
      obtain ⟨ξ, ι, ρ, m, hs, hr, q⟩ := q
      simp only [evEs] at q
      exact q.now hr _ .nil
    | cons _ _ => simp [chkEs] at h
  | .cons e es, W, X, c, as, h, g => by
    cases as with
    | nil => simp [chkEs] at h
    | cons x xs =>
      simp only [chkEs, Bool.and_eq_true] at h
      refine PA.imp (pa_cons (sndE e x h.1.1 g) (sndEs es xs h.2 g) (starEach_ok h.1.2)) fun σ H Q q => ?_
      obtain ⟨ξ, ι, ρ, m, hs, hr, q⟩ := q
      simp only [evEs] at q
      refine ⟨ξ, ι, ρ, m, hs, hr, (wpR.bind q).mono fun ι1 H1 d1 m1 s1 r1 q1 v rv => ⟨ξ, ι1, ρ, m1, hs.mono s1, r1, (wpR.bind q1).mono fun ι2 H2 ds m2 s2 r2 q2 vs rvs => ?_⟩⟩
      exact q2.now r2 _ (.cons (rv.mono s2) rvs)
theorem sndAnd : ∀ (es : Es) {W : WX} {X : Cx} {c : Ck} {pos : Pos} (as : List PySem.Expr), chkEs c es as = true → as ≠ [] → Good Γ C c n W X → PE X (.BoolOp .And as pos) (tE Γ W (evAnd C es))
  | .nil, W, X, c, pos, as, h, hn, g => by
    cases as with
    | nil => exact absurd rfl hn
    | cons _ _ => simp [chkEs] at h
  | .cons e .nil, W, X, c, pos, as, h, hn, g => by
    match as, h with
    | [x], h =>
      simp only [chkEs, Bool.and_eq_true] at h
      refine PE.imp (pe_one (sndE e x h.1.1 g)) fun σ H Q q => ?_
      obtain ⟨ξ, ι, ρ, m, hs, hr, q⟩ := q
      simp only [evAnd] at q
      refine ⟨ξ, ι, ρ, m, hs, hr, (wpR.bind q).mono fun ι1 H1 d1 m1 s1 r1 q1 v rv => ?_⟩
      cases rv <;> first | exact q1.elim | exact q1.now r1 _ (.bl _)
    | [], h => simp [chkEs] at h
    | _ :: _ :: _, h => simp [chkEs] at h
  | .cons e (.cons e2 es), W, X, c, pos, as, h, hn, g => by
    match as, h with
    | x :: y :: r, h =>
      have h' : chkE c e x = true ∧ chkEs c (.cons e2 es) (y :: r) = true := by
        rw [chkEs] at h; simp only [Bool.and_eq_true] at h; exact ⟨h.1.1, h.2⟩
      refine PE.imp (pe_and (sndE e x h'.1 g) (sndAnd (.cons e2 es) (y :: r) h'.2 (by simp) g)) fun σ H Q q => ?_
      obtain ⟨ξ, ι, ρ, m, hs, hr, q⟩ := q
      rw [evAnd] at q
      rotate_left 1
      · intro z; cases z
      refine ⟨ξ, ι, ρ, m, hs, hr, (wpR.bind q).mono fun ι1 H1 d1 m1 s1 r1 q1 v rv => ?_⟩
      cases rv <;> first | exact q1.elim | skip
      rename_i b
      refine ⟨b, rfl, ?_⟩
      cases b with
      | true => rw [if_pos rfl]; exact ⟨ξ, ι1, ρ, m1, hs.mono s1, r1, q1⟩
      | false => rw [if_neg Bool.false_ne_true]; exact q1.now r1 _ (.bl _)
    | [], h => simp [chkEs] at h
    | [_], h => simp [chkEs] at h
theorem sndOr : ∀ (es : Es) {W : WX} {X : Cx} {c : Ck} {pos : Pos} (as : List PySem.Expr), chkEs c es as = true → as ≠ [] → Good Γ C c n W X → PE X (.BoolOp .Or as pos) (tE Γ W (evOr C es))
  | .nil, W, X, c, pos, as, h, hn, g => by
    cases as with
    | nil => exact absurd rfl hn
    | cons _ _ => simp [chkEs] at h
  | .cons e .nil, W, X, c, pos, as, h, hn, g => by
    match as, h with
    | [x], h =>
      simp only [chkEs, Bool.and_eq_true] at h
      refine PE.imp (pe_one (sndE e x h.1.1 g)) fun σ H Q q => ?_
      obtain ⟨ξ, ι, ρ, m, hs, hr, q⟩ := q
      simp only [evOr] at q
      refine ⟨ξ, ι, ρ, m, hs, hr, (wpR.bind q).mono fun ι1 H1 d1 m1 s1 r1 q1 v rv => ?_⟩
      cases rv <;> first | exact q1.elim | exact q1.now r1 _ (.bl _)
    | [], h => simp [chkEs] at h
    | _ :: _ :: _, h => simp [chkEs] at h
  | .cons e (.cons e2 es), W, X, c, pos, as, h, hn, g => by
    match as, h with
    | x :: y :: r, h =>
      have h' : chkE c e x = true ∧ chkEs c (.cons e2 es) (y :: r) = true := by
        rw [chkEs] at h; simp only [Bool.and_eq_true] at h; exact ⟨h.1.1, h.2⟩
      refine PE.imp (pe_or (sndE e x h'.1 g) (sndOr (.cons e2 es) (y :: r) h'.2 (by simp) g)) fun σ H Q q => ?_
      obtain ⟨ξ, ι, ρ, m, hs, hr, q⟩ := q
      rw [evOr] at q
      rotate_left 1
      · intro z; cases z
      refine ⟨ξ, ι, ρ, m, hs, hr, (wpR.bind q).mono fun ι1 H1 d1 m1 s1 r1 q1 v rv => ?_⟩
      cases rv <;> first | exact q1.elim | skip
      rename_i b
      refine ⟨b, rfl, ?_⟩
      cases b with
      | true => rw [if_pos rfl]; exact q1.now r1 _ (.bl _)
      | false => rw [if_neg Bool.false_ne_true]; exact ⟨ξ, ι1, ρ, m1, hs.mono s1, r1, q1⟩
    | [], h => simp [chkEs] at h
    | [_], h => simp [chkEs] at h
theorem sndOe : ∀ (e : Oe) {W : WX} {X : Cx} {c : Ck} (a : Option PySem.Expr), chkOe c e a = true → Good Γ C c n W X → PO X a (fun σ H Q => ∃ ξ ι ρ m, RpS Γ.K ξ ι H σ ρ ∧ RpH Γ ξ ι H m ∧ wpR Γ ξ W σ ι H (evOe C e ρ m) fun _ H' o _ => Q o H')
  | .no, W, X, c, a, h, g => by
    cases a with
    | none =>
      refine ⟨fun pins s σ H Q I q => po_none.run pins s σ H Q I ?_⟩
      obtain ⟨ξ, ι, ρ, m, hs, hr, q⟩ := q
      simp only [evOe] at q
      exact q.now hr
    | some _ => simp [chkOe] at h
  | .so e, W, X, c, a, h, g => by
    cases a with
    | none => simp [chkOe] at h
    | some x =>
      simp only [chkOe] at h
      refine ⟨fun pins s σ H Q I q => (po_some (sndE e x h g)).run pins s σ H Q I ?_⟩
      obtain ⟨ξ, ι, ρ, m, hs, hr, q⟩ := q
      simp only [evOe] at q
      refine ⟨ξ, ι, ρ, m, hs, hr, (wpR.bind q).mono fun ι1 H1 d1 m1 s1 r1 q1 v rv => ?_⟩
      cases rv <;> first | exact q1.elim | skip
      exact ⟨_, rfl, q1.now r1⟩
theorem sndKs : ∀ (ks : Ks) {W : WX} {X : Cx} {c : Ck} (xs : List (Option PySem.Expr)) (ys : List PySem.Expr) (pos : Pos), chkKs c ks xs ys = true → Good Γ C c n W X →
    ∃ trs, PPs X pos xs ys trs ∧ xs.all (·.isSome) = true ∧ xs.length = ys.length ∧ ∀ σ H Q, (∃ ξ ι ρ m, RpS Γ.K ξ ι H σ ρ ∧ RpH Γ ξ ι H m ∧ wpR Γ ξ W σ ι H (evKs C ks ρ m) fun ι' H' kvs _ => ∀ ps us, ps = us.map (fun kv : Key × V => (kV kv.1, kv.2)) → us.length = xs.length → PrAll Γ.K ξ ι' H' kvs us → Q ps H') → tPairs trs σ H Q
  | .nil, W, X, c, xs, ys, pos, h, g => by
    match xs, ys, h with
    | [], [], h =>
      refine ⟨[], pps_nil, rfl, rfl, fun σ H Q q => ?_⟩
      obtain ⟨ξ, ι, ρ, m, hs, hr, q⟩ := q
      simp only [evKs] at q
      exact q.now hr [] [] rfl rfl .nil
    | _ :: _, _, h => rw [chkKs.eq_def] at h; simp at h
    | [], _ :: _, h => rw [chkKs.eq_def] at h; simp at h
  | .cons k e ks, W, X, c, xs, ys, pos, h, g => by
    match xs, ys, h with
    | some (.Constant (.str s) kk p) :: xs, y :: ys, h =>
      simp only [chkKs, Bool.and_eq_true, decide_eq_true_eq] at h
      obtain ⟨⟨h1, h2⟩, h3⟩ := h
      subst h1
      obtain ⟨trs, pp, l1, l2, rd⟩ := sndKs ks xs ys pos h3 g
      refine ⟨_, pps_cons pe_str (sndE e y h2 g) pp, by simp [l1], by simp [l2], fun σ H Q q => ?_⟩
      obtain ⟨ξ, ι, ρ, m, hs, hr, q⟩ := q
      simp only [evKs] at q
      refine ⟨ξ, ι, ρ, m, hs, hr, (wpR.bind q).mono fun ι1 H1 d1 m1 s1 r1 q1 v rv => rd σ H1 _ ⟨ξ, ι1, ρ, m1, hs.mono s1, r1, (wpR.bind q1).mono fun ι2 H2 kvs m2 s2 r2 q2 ps us e1 hl hu => ?_⟩⟩
      refine q2.now r2 _ ((.inr k, v) :: us) (by rw [e1]; rfl) (by simp [hl]) (.cons ⟨rfl, rv.mono s2⟩ hu)
    | [], _, h => rw [chkKs.eq_def] at h; simp at h
    | none :: _, _, h => rw [chkKs.eq_def] at h; simp at h
    | some (.Constant (.str _) _ _) :: _, [], h => rw [chkKs.eq_def] at h; simp at h
    | some (.Constant .none _ _) :: _, _, h => rw [chkKs.eq_def] at h; simp at h
    | some (.Constant (.bool _) _ _) :: _, _, h => rw [chkKs.eq_def] at h; simp at h
    | some (.Constant (.int _) _ _) :: _, _, h => rw [chkKs.eq_def] at h; simp at h
    | some (.Constant (.float _) _ _) :: _, _, h => rw [chkKs.eq_def] at h; simp at h
    | some (.Constant (.complex _ _) _ _) :: _, _, h => rw [chkKs.eq_def] at h; simp at h
    | some (.Constant (.bytes _) _ _) :: _, _, h => rw [chkKs.eq_def] at h; simp at h
    | some (.Constant .ellipsis _ _) :: _, _, h => rw [chkKs.eq_def] at h; simp at h
    | some (.BoolOp ..) :: _, _, h => rw [chkKs.eq_def] at h; simp at h
    | some (.NamedExpr ..) :: _, _, h => rw [chkKs.eq_def] at h; simp at h
    | some (.BinOp ..) :: _, _, h => rw [chkKs.eq_def] at h; simp at h
    | some (.UnaryOp ..) :: _, _, h => rw [chkKs.eq_def] at h; simp at h
    | some (.Lambda ..) :: _, _, h => rw [chkKs.eq_def] at h; simp at h
    | some (.IfExp ..) :: _, _, h => rw [chkKs.eq_def] at h; simp at h
    | some (.Dict ..) :: _, _, h => rw [chkKs.eq_def] at h; simp at h
    | some (.Set ..) :: _, _, h => rw [chkKs.eq_def] at h; simp at h
    | some (.ListComp ..) :: _, _, h => rw [chkKs.eq_def] at h; simp at h
    | some (.SetComp ..) :: _, _, h => rw [chkKs.eq_def] at h; simp at h
    | some (.DictComp ..) :: _, _, h => rw [chkKs.eq_def] at h; simp at h
    | some (.GeneratorExp ..) :: _, _, h => rw [chkKs.eq_def] at h; simp at h
    | some (.Await ..) :: _, _, h => rw [chkKs.eq_def] at h; simp at h
    | some (.Yield ..) :: _, _, h => rw [chkKs.eq_def] at h; simp at h
    | some (.YieldFrom ..) :: _, _, h => rw [chkKs.eq_def] at h; simp at h
    | some (.Compare ..) :: _, _, h => rw [chkKs.eq_def] at h; simp at h
    | some (.Call ..) :: _, _, h => rw [chkKs.eq_def] at h; simp at h
    | some (.FormattedValue ..) :: _, _, h => rw [chkKs.eq_def] at h; simp at h
    | some (.JoinedStr ..) :: _, _, h => rw [chkKs.eq_def] at h; simp at h
    | some (.Subscript ..) :: _, _, h => rw [chkKs.eq_def] at h; simp at h
    | some (.Starred ..) :: _, _, h => rw [chkKs.eq_def] at h; simp at h
    | some (.List ..) :: _, _, h => rw [chkKs.eq_def] at h; simp at h
    | some (.Tuple ..) :: _, _, h => rw [chkKs.eq_def] at h; simp at h
    | some (.Slice ..) :: _, _, h => rw [chkKs.eq_def] at h; simp at h
    | some (.Name ..) :: _, _, h => rw [chkKs.eq_def] at h; simp at h
    | some (.Attribute ..) :: _, _, h => rw [chkKs.eq_def] at h; simp at h
theorem sndL : ∀ (l : L) {W : WX} {X : Cx} {c : Ck} (a : PySem.Expr), chkL c l a = true → Good Γ C c n W X → PE X a (tL Γ W (evL C l))
  | .disp es, W, X, c, a, h, g => by
    cases a with
    | List xs pos =>
      simp only [chkL] at h
      refine PE.imp (pe_lst (sndEs es xs h g)) fun σ H Q q => ?_
      obtain ⟨ξ, ι, ρ, m, hs, hr, q⟩ := q
      simp only [evL] at q
      refine ⟨ξ, ι, ρ, m, hs, hr, (wpR.bind q).mono fun ι1 H1 ds m1 s1 r1 q1 vs rv => ?_⟩
      split at q1
      · rename_i hz
        refine ⟨by rw [← rv.length]; exact hz, fun p hp => ?_⟩
        exact q1 ι1 _ (.new hp) (r1.new hp) p vs (Classical.byContradiction fun z => s1.dom p z hp) (r1.fresh hp) upd_same ((rv.out hp).mono (.new hp)) (r1.lay hp)
      · exact q1.elim
    | _ => (rw [chkL.eq_def] at h; simp at h)
  | .lc own t it elt, W, X, c, a, h, g => by
    cases a with
    | ListComp x gs sc pos =>
      match gs, h with
      | [⟨tg, i, [], az⟩], h =>
        simp only [chkL, Bool.and_eq_true, decide_eq_true_eq] at h
        obtain ⟨⟨⟨⟨⟨h0, h1⟩, h2⟩, h3⟩, h4⟩, h5⟩ := h
        subst h0
        refine PE.imp (lcOK g (f := fun ρ x m => match evT t x m ρ with
          | some ρ' => (evE C elt ρ' m).bind fun y m => .ok (some y) m
          | none => .stuck) (tt := tYes) (te := tE Γ (fun _ _ _ _ => False) (evE C elt)) h1 (sndI it i tg h3 g) (fun s H Ca cl fp => sndT (g.blk s H sc Ca cl fp) t tg h2) (fun s H Ca cl fp => pts_nil)
          (fun s H Ca cl fp => sndE elt x h4 (g.blk s H sc Ca cl fp)) h5 ?_ ?_) fun σ H Q q => by simp only [evL] at q; exact q
        · intro _ _ ξ ι H ρ d m σ2 ρ' Q ev hs hr q
          simp only [ev] at q
          show (if true = true then tE Γ (fun _ _ _ _ => False) (evE C elt) σ2 H (fun y H4 => Q (some y) H4) else Q none H)
          rw [if_pos rfl]
          exact ⟨ξ, ι, ρ', m, hs, hr, (wpR.bind q).mono fun ι1 H1 y m1 s1 r1 q1 v rv => q1.now r1 v rv⟩
        · intro ρ d m e
          simp only [e]
      | [], h => (rw [chkL.eq_def] at h; simp at h)
      | _ :: _ :: _, h => (rw [chkL.eq_def] at h; simp at h)
      | [⟨tg, i, _ :: _, _⟩], h => (rw [chkL.eq_def] at h; simp at h)
    | _ => (rw [chkL.eq_def] at h; simp at h)
  | .lcIf own t it cd elt, W, X, c, a, h, g => by
    cases a with
    | ListComp x gs sc pos =>
      match gs, h with
      | [⟨tg, i, [y], az⟩], h =>
        simp only [chkL, Bool.and_eq_true, decide_eq_true_eq] at h
        obtain ⟨⟨⟨⟨⟨⟨⟨h0, h1⟩, h2⟩, h3⟩, h4⟩, h5⟩, h6⟩, h7⟩ := h
        subst h0
        refine PE.imp (lcOK g (f := fun ρ x m => match evT t x m ρ with
          | some ρ' => (evE C cd ρ' m).bind fun b m => (match b with
            | .bl true => (evE C elt ρ' m).bind fun y m => .ok (some y) m
            | .bl false => .ok none m
            | _ => .stuck)
          | none => .stuck) (tt := tT Γ (fun _ _ _ _ => False) (evE C cd)) (te := tE Γ (fun _ _ _ _ => False) (evE C elt)) h1 (sndI it i tg h3 g) (fun s H Ca cl fp => sndT (g.blk s H sc Ca cl fp) t tg h2) (fun s H Ca cl fp => pts_one (sndTst cd y h4 h7 (g.blk s H sc Ca cl fp) (sndE cd y h4 (g.blk s H sc Ca cl fp))))
          (fun s H Ca cl fp => sndE elt x h5 (g.blk s H sc Ca cl fp)) h6 ?_ ?_) fun σ H Q q => by simp only [evL] at q; exact q
        · intro _ _ ξ ι H ρ d m σ2 ρ' Q ev hs hr q
          simp only [ev] at q
          refine ⟨ξ, ι, ρ', m, hs, hr, (wpR.bind q).mono fun ι1 H1 b m1 s1 r1 q1 => ?_⟩
          cases b <;> first | exact q1.elim | skip
          rename_i b
          refine ⟨b, rfl, ?_⟩
          cases b with
          | true => rw [if_pos rfl]; exact ⟨ξ, ι1, ρ', m1, hs.mono s1, r1, (wpR.bind q1).mono fun ι2 H2 y m2 s2 r2 q2 v rv => q2.now r2 v rv⟩
          | false => rw [if_neg Bool.false_ne_true]; exact q1.now r1
        · intro ρ d m e
          simp only [e]
      | [], h => (rw [chkL.eq_def] at h; simp at h)
      | _ :: _ :: _, h => (rw [chkL.eq_def] at h; simp at h)
      | [⟨tg, i, [], _⟩], h => (rw [chkL.eq_def] at h; simp at h)
      | [⟨tg, i, _ :: _ :: _, _⟩], h => (rw [chkL.eq_def] at h; simp at h)
    | _ => (rw [chkL.eq_def] at h; simp at h)
  | .rng3 x y z, W, X, c, a, h, g => by
    simp only [chkL] at h
    split at h
    · rename_i x1 y1 a1 a2 a3 e1
      obtain ⟨p1, p2, p3, p4, rfl⟩ := asRng3_eq e1
      simp only [Bool.and_eq_true, decide_eq_true_eq] at h
      obtain ⟨⟨⟨⟨⟨⟨⟨⟨⟨h1, h2⟩, h3⟩, h4⟩, h5⟩, h6⟩, h7⟩, h8⟩, h9⟩, h10⟩ := h
      subst h1 h3
      obtain ⟨g1, g2, g3⟩ := g.glb h2
      obtain ⟨g4, g5, g6⟩ := g.glb h4
      refine PE.imp (pe_listRg3 g.calm g1 (g.blt _ (by decide +kernel)) g4 (g.blt _ (by decide +kernel)) (pa_cons (sndE x a1 h5 g) (pa_cons (sndE y a2 h6 g) (pa_cons (sndE z a3 h7 g) pa_nil (starEach_ok h10)) (starEach_ok h9)) (starEach_ok h8)) (starEach_ok h8) (by rw [starEach_ok h9, starEach_ok h10]; rfl)) fun σ H Q q => ?_
      obtain ⟨ξ, ι, ρ, m, hs, hr, q⟩ := q
      simp only [evL] at q
      refine ⟨ξ, ι, ρ, m, hs, hr, (wpR.bind q).mono fun ι1 H1 d1 m1 s1 r1 q1 v1 rv1 => ⟨ξ, ι1, ρ, m1, hs.mono s1, r1, (wpR.bind q1).mono fun ι2 H2 d2 m2 s2 r2 q2 v2 rv2 => ⟨ξ, ι2, ρ, m2, (hs.mono s1).mono s2, r2, (wpR.bind q2).mono fun ι3 H3 d3 m3 s3 r3 q3 v3 rv3 => ?_⟩⟩⟩
      cases rv1 <;> first | exact q3.elim | skip
      rename_i i
      cases rv2 <;> first | exact q3.elim | skip
      rename_i j
      cases rv3 <;> first | exact q3.elim | skip
      rename_i k
      have q3' : wpR Γ ξ W σ ι3 H3 (Lw.R.of (rng3D i j k) m3) (fun ι' H' ds m' => ∀ p vs, H p = none → p ∉ ι' → H' p = some (.lst vs) → RpAll Γ.K (p :: ξ) ι' H' ds vs → RpH Γ (p :: ξ) ι' H' m' → Q (.ref p) H') := q3
      unfold rng3D at q3'
      split at q3'
      · rename_i hz
        refine ⟨i, j, k, (Builtin.Range.rangeSize i j k).toNat, rfl, ⟨hz.1, hz.2.1, hz.2.2.1, by have := hz.2.2.2.1; omega⟩, by have := hz.2.2.2.2; omega, fun p hp => ?_⟩
        have st := (s1.trans s2).trans s3
        exact q3' ι3 _ (.new hp) (r3.new hp) p _ (Classical.byContradiction fun z => st.dom p z hp) (r3.fresh hp) upd_same (rpInts _ _) (r3.lay hp)
      · exact q3'.elim
    · cases h
  | .lstOf e, W, X, c, a, h, g => by
    cases a with
    | Call fn as ks pos =>
      match fn, as, ks, h with
      | .Name x p, [y], [], h =>
        simp only [chkL, Bool.and_eq_true, decide_eq_true_eq] at h
        obtain ⟨⟨⟨h1, h2⟩, h3⟩, h4⟩ := h
        subst h1
        obtain ⟨g1, g2, g3⟩ := g.glb h2
        refine PE.imp (pe_callTy call_list_of g1 (g.blt _ (by decide +kernel)) boot_list (pa_cons (sndE e y h3 g) pa_nil (starEach_ok h4)) g3 g2 (starEach_ok h4) rfl) fun σ H Q q => ?_
        obtain ⟨ξ, ι, ρ, m, hs, hr, q⟩ := q
        simp only [evL] at q
        refine ⟨ξ, ι, ρ, m, hs, hr, (wpR.bind q).mono fun ι1 H1 d1 m1 s1 r1 q1 v rv => ?_⟩
        cases e1 : seqD m1 d1 with
        | none => rw [e1] at q1; exact q1.elim
        | some l =>
          rw [e1] at q1
          obtain ⟨ad, vs, rfl, k1, k2⟩ := seq_of r1 rv e1
          refine ⟨ad, vs, rfl, by rw [g.K]; exact k1, fun p hp => ?_⟩
          exact q1 ι1 _ (.new hp) (r1.new hp) p vs (Classical.byContradiction fun z => s1.dom p z hp) (r1.fresh hp) upd_same ((k2.out hp).mono (.new hp)) (r1.lay hp)
      | .Name x p, [], _, h => (rw [chkL.eq_def] at h; simp at h)
      | .Name x p, _ :: _ :: _, _, h => (rw [chkL.eq_def] at h; simp at h)
      | .Name x p, [_], _ :: _, h => (rw [chkL.eq_def] at h; simp at h)
      | .BoolOp .., _, _, h => (rw [chkL.eq_def] at h; simp at h)
      | .NamedExpr .., _, _, h => (rw [chkL.eq_def] at h; simp at h)
      | .BinOp .., _, _, h => (rw [chkL.eq_def] at h; simp at h)
      | .UnaryOp .., _, _, h => (rw [chkL.eq_def] at h; simp at h)
      | .Lambda .., _, _, h => (rw [chkL.eq_def] at h; simp at h)
      | .IfExp .., _, _, h => (rw [chkL.eq_def] at h; simp at h)
      | .Dict .., _, _, h => (rw [chkL.eq_def] at h; simp at h)
      | .Set .., _, _, h => (rw [chkL.eq_def] at h; simp at h)
      | .ListComp .., _, _, h => (rw [chkL.eq_def] at h; simp at h)
      | .SetComp .., _, _, h => (rw [chkL.eq_def] at h; simp at h)
      | .DictComp .., _, _, h => (rw [chkL.eq_def] at h; simp at h)
      | .GeneratorExp .., _, _, h => (rw [chkL.eq_def] at h; simp at h)
      | .Await .., _, _, h => (rw [chkL.eq_def] at h; simp at h)
      | .Yield .., _, _, h => (rw [chkL.eq_def] at h; simp at h)
      | .YieldFrom .., _, _, h => (rw [chkL.eq_def] at h; simp at h)
      | .Compare .., _, _, h => (rw [chkL.eq_def] at h; simp at h)
      | .Call .., _, _, h => (rw [chkL.eq_def] at h; simp at h)
      | .FormattedValue .., _, _, h => (rw [chkL.eq_def] at h; simp at h)
      | .JoinedStr .., _, _, h => (rw [chkL.eq_def] at h; simp at h)
      | .Constant .., _, _, h => (rw [chkL.eq_def] at h; simp at h)
      | .Subscript .., _, _, h => (rw [chkL.eq_def] at h; simp at h)
      | .Starred .., _, _, h => (rw [chkL.eq_def] at h; simp at h)
      | .List .., _, _, h => (rw [chkL.eq_def] at h; simp at h)
      | .Tuple .., _, _, h => (rw [chkL.eq_def] at h; simp at h)
      | .Slice .., _, _, h => (rw [chkL.eq_def] at h; simp at h)
      | .Attribute .., _, _, h => (rw [chkL.eq_def] at h; simp at h)
    | _ => (rw [chkL.eq_def] at h; simp at h)
theorem sndI : ∀ (it : I) {W : WX} {X : Cx} {c : Ck} (a tg : PySem.Expr), chkI c it a = true → Good Γ C c n W X → PI X tg a (tI Γ W (evI C it))
  | .seq e, W, X, c, a, tg, h, g => by
    have h' : chkE c e a = true := by simpa [chkI] using h
    exact seqI g (sndE e a h' g)
  | .rng1 x, W, X, c, a, tg, h, g => by
    cases a with
    | Call fn as ks pos =>
      match fn, as, ks, h with
      | .Name x1 p, [y], [], h =>
        simp only [chkI, Bool.and_eq_true, decide_eq_true_eq] at h
        obtain ⟨⟨⟨h1, h2⟩, h3⟩, h4⟩ := h
        subst h1
        obtain ⟨g1, g2, g3⟩ := g.glb h2
        refine PI.imp (pi_range1 g1 (g.blt _ (by decide +kernel)) (pa_cons (sndE x y h3 g) pa_nil (starEach_ok h4)) (starEach_ok h4)) fun σ H R q => ?_
        obtain ⟨ξ, ι, ρ, m, hs, hr, q⟩ := q
        simp only [evI] at q
        refine ⟨ξ, ι, ρ, m, hs, hr, (wpR.bind q).mono fun ι1 H1 d1 m1 s1 r1 q1 v rv => ?_⟩
        cases rv <;> first | exact q1.elim | skip
        rename_i i
        by_cases hz : small i = true
        · have q2 : wpR Γ ξ W σ ι1 H1 (.ok (rngL 0 i.toNat) m1) (fun ι' H' xs _ => ∀ J, Wk Γ ξ J xs ι' H' → R J H') := by
            rw [← if_pos (c := small i = true) (t := Lw.R.ok (rngL 0 i.toNat) m1) (e := .stuck) hz]; exact q1
          exact ⟨i, rfl, (small_of hz).1, (small_of hz).2, q2.now r1 _ (wkRng 0 _)⟩
        · have q2 : wpR Γ ξ W σ ι1 H1 .stuck (fun ι' H' xs _ => ∀ J, Wk Γ ξ J xs ι' H' → R J H') := by
            rw [← if_neg (c := small i = true) (t := Lw.R.ok (rngL 0 i.toNat) m1) (e := .stuck) hz]; exact q1
          exact q2.elim
      | .Name x p, [], _, h => (rw [chkI.eq_def] at h; simp at h)
      | .Name x p, _ :: _ :: _, _, h => (rw [chkI.eq_def] at h; simp at h)
      | .Name x p, [_], _ :: _, h => (rw [chkI.eq_def] at h; simp at h)
      | .BoolOp .., _, _, h => (rw [chkI.eq_def] at h; simp at h)
      | .NamedExpr .., _, _, h => (rw [chkI.eq_def] at h; simp at h)
      | .BinOp .., _, _, h => (rw [chkI.eq_def] at h; simp at h)
      | .UnaryOp .., _, _, h => (rw [chkI.eq_def] at h; simp at h)
      | .Lambda .., _, _, h => (rw [chkI.eq_def] at h; simp at h)
      | .IfExp .., _, _, h => (rw [chkI.eq_def] at h; simp at h)
      | .Dict .., _, _, h => (rw [chkI.eq_def] at h; simp at h)
      | .Set .., _, _, h => (rw [chkI.eq_def] at h; simp at h)
      | .ListComp .., _, _, h => (rw [chkI.eq_def] at h; simp at h)
      | .SetComp .., _, _, h => (rw [chkI.eq_def] at h; simp at h)
      | .DictComp .., _, _, h => (rw [chkI.eq_def] at h; simp at h)
      | .GeneratorExp .., _, _, h => (rw [chkI.eq_def] at h; simp at h)
      | .Await .., _, _, h => (rw [chkI.eq_def] at h; simp at h)
      | .Yield .., _, _, h => (rw [chkI.eq_def] at h; simp at h)
      | .YieldFrom .., _, _, h => (rw [chkI.eq_def] at h; simp at h)
      | .Compare .., _, _, h => (rw [chkI.eq_def] at h; simp at h)
      | .Call .., _, _, h => (rw [chkI.eq_def] at h; simp at h)
      | .FormattedValue .., _, _, h => (rw [chkI.eq_def] at h; simp at h)
      | .JoinedStr .., _, _, h => (rw [chkI.eq_def] at h; simp at h)
      | .Constant .., _, _, h => (rw [chkI.eq_def] at h; simp at h)
      | .Subscript .., _, _, h => (rw [chkI.eq_def] at h; simp at h)
      | .Starred .., _, _, h => (rw [chkI.eq_def] at h; simp at h)
      | .List .., _, _, h => (rw [chkI.eq_def] at h; simp at h)
      | .Tuple .., _, _, h => (rw [chkI.eq_def] at h; simp at h)
      | .Slice .., _, _, h => (rw [chkI.eq_def] at h; simp at h)
      | .Attribute .., _, _, h => (rw [chkI.eq_def] at h; simp at h)
    | _ => (rw [chkI.eq_def] at h; simp at h)
  | .rng2 x y, W, X, c, a, tg, h, g => by
    cases a with
    | Call fn as ks pos =>
      match fn, as, ks, h with
      | .Name x1 p, [y1, y2], [], h =>
        simp only [chkI, Bool.and_eq_true, decide_eq_true_eq] at h
        obtain ⟨⟨⟨⟨⟨h1, h2⟩, h3⟩, h4⟩, h5⟩, h6⟩ := h
        subst h1
        obtain ⟨g1, g2, g3⟩ := g.glb h2
        refine PI.imp (pi_range2 g1 (g.blt _ (by decide +kernel)) (pa_cons (sndE x y1 h3 g) (pa_cons (sndE y y2 h4 g) pa_nil (starEach_ok h6)) (starEach_ok h5)) (by rw [starEach_ok h5, starEach_ok h6]; rfl) (starEach_ok h6)) fun σ H R q => ?_
        obtain ⟨ξ, ι, ρ, m, hs, hr, q⟩ := q
        simp only [evI] at q
        refine ⟨ξ, ι, ρ, m, hs, hr, (wpR.bind q).mono fun ι1 H1 d1 m1 s1 r1 q1 v rv => ⟨ξ, ι1, ρ, m1, hs.mono s1, r1, (wpR.bind q1).mono fun ι2 H2 d2 m2 s2 r2 q2 w rw' => ?_⟩⟩
        cases rv <;> first | exact q2.elim | skip
        rename_i i
        cases rw' <;> first | exact q2.elim | skip
        rename_i j
        by_cases hz : (small i && small j) = true
        · have q3 : wpR Γ ξ W σ ι2 H2 (.ok (rngL i (j - i).toNat) m2) (fun ι' H' xs _ => ∀ J, Wk Γ ξ J xs ι' H' → R J H') := by
            rw [← if_pos (c := (small i && small j) = true) (t := Lw.R.ok (rngL i (j - i).toNat) m2) (e := .stuck) hz]; exact q2
          rw [Bool.and_eq_true] at hz
          exact ⟨i, j, rfl, ⟨(small_of hz.1).1, (small_of hz.1).2, (small_of hz.2).1, (small_of hz.2).2⟩, q3.now r2 _ (wkRng i _)⟩
        · have q3 : wpR Γ ξ W σ ι2 H2 .stuck (fun ι' H' xs _ => ∀ J, Wk Γ ξ J xs ι' H' → R J H') := by
            rw [← if_neg (c := (small i && small j) = true) (t := Lw.R.ok (rngL i (j - i).toNat) m2) (e := .stuck) hz]; exact q2
          exact q3.elim
      | .Name x p, [], _, h => (rw [chkI.eq_def] at h; simp at h)
      | .Name x p, [_], _, h => (rw [chkI.eq_def] at h; simp at h)
      | .Name x p, _ :: _ :: _ :: _, _, h => (rw [chkI.eq_def] at h; simp at h)
      | .Name x p, [_, _], _ :: _, h => (rw [chkI.eq_def] at h; simp at h)
      | .BoolOp .., _, _, h => (rw [chkI.eq_def] at h; simp at h)
      | .NamedExpr .., _, _, h => (rw [chkI.eq_def] at h; simp at h)
      | .BinOp .., _, _, h => (rw [chkI.eq_def] at h; simp at h)
      | .UnaryOp .., _, _, h => (rw [chkI.eq_def] at h; simp at h)
      | .Lambda .., _, _, h => (rw [chkI.eq_def] at h; simp at h)
      | .IfExp .., _, _, h => (rw [chkI.eq_def] at h; simp at h)
      | .Dict .., _, _, h => (rw [chkI.eq_def] at h; simp at h)
      | .Set .., _, _, h => (rw [chkI.eq_def] at h; simp at h)
      | .ListComp .., _, _, h => (rw [chkI.eq_def] at h; simp at h)
      | .SetComp .., _, _, h => (rw [chkI.eq_def] at h; simp at h)
      | .DictComp .., _, _, h => (rw [chkI.eq_def] at h; simp at h)
      | .GeneratorExp .., _, _, h => (rw [chkI.eq_def] at h; simp at h)
      | .Await .., _, _, h => (rw [chkI.eq_def] at h; simp at h)
      | .Yield .., _, _, h => (rw [chkI.eq_def] at h; simp at h)
      | .YieldFrom .., _, _, h => (rw [chkI.eq_def] at h; simp at h)
      | .Compare .., _, _, h => (rw [chkI.eq_def] at h; simp at h)
      | .Call .., _, _, h => (rw [chkI.eq_def] at h; simp at h)
      | .FormattedValue .., _, _, h => (rw [chkI.eq_def] at h; simp at h)
      | .JoinedStr .., _, _, h => (rw [chkI.eq_def] at h; simp at h)
      | .Constant .., _, _, h => (rw [chkI.eq_def] at h; simp at h)
      | .Subscript .., _, _, h => (rw [chkI.eq_def] at h; simp at h)
      | .Starred .., _, _, h => (rw [chkI.eq_def] at h; simp at h)
      | .List .., _, _, h => (rw [chkI.eq_def] at h; simp at h)
      | .Tuple .., _, _, h => (rw [chkI.eq_def] at h; simp at h)
      | .Slice .., _, _, h => (rw [chkI.eq_def] at h; simp at h)
      | .Attribute .., _, _, h => (rw [chkI.eq_def] at h; simp at h)
    | _ => (rw [chkI.eq_def] at h; simp at h)
end
end
end Lw

set_option Elab.async false
set_option linter.all false
set_option maxRecDepth 100000
set_option maxHeartbeats 8000000
/-! That the text does what the small language says: statements. -/
namespace Lw
open PySem PySem.Spec PyProof.Rows L2

/-! ### the look -/
/-- a target that is no plain local name -/
def noNm (c : Ck) : PySem.Expr → Bool
  | .Name x _ => (match c.kind x with | some .cell => true | _ => false)
  | _ => true
/-- a, b = x, y of two or three are stored in another order: not by a plain assignment -/
def swapFree (c : Ck) : PySem.Expr → PySem.Expr → Bool
  | .Tuple ts _ _, .Tuple vs _ _ => !(ts.length == 2 || ts.length == 3) || vs.all (foldedForSure 8) || ts.any (noNm c)
  | .List .., .Tuple .. => false
  | _, _ => true
def swap2C (c : Ck) (ts : List Nat) : PySem.Expr → PySem.Expr → Bool
  | .Tuple [.Name x px, .Name y py] _ _, .Tuple [a, b] _ _ => (match ts with | [i, j] => decide (c.N[i]? = some x) && decide (c.N[j]? = some y) && decide (i ≠ j) | _ => false) && c.islocal x && c.islocal y && (py.line == px.line) && decide (x ≠ y) && okX a && okX b && ![a, b].all (foldedForSure 8) && ![a, b].all (constantsAlone 8)
  | .Tuple [.Name x px, .Name y py, .Name z pz] _ _, .Tuple [a, b, d] _ _ => (match ts with | [i, j, k] => decide (c.N[i]? = some x) && decide (c.N[j]? = some y) && decide (c.N[k]? = some z) && decide (i ≠ j) && decide (i ≠ k) && decide (j ≠ k) | _ => false) && c.islocal x && c.islocal y && c.islocal z && (py.line == px.line) && (pz.line == px.line) && decide (x ≠ y) && decide (x ≠ z) && decide (y ≠ z) && okX a && okX b && okX d && ![a, b, d].all (foldedForSure 8) && ![a, b, d].all (constantsAlone 8)
  | _, _ => false
/-- name = [..]: how it is stored -/
def lcSw (c : Ck) : PySem.Expr → PySem.Expr → Bool
  | .Name y py, .ListComp _ _ sc pos => c.islocal y && (py.line == pos.line) && !(sc.names.any fun (n, k) => n == y && (k == .local || k == .cell))
  | _, _ => false
/-- a comprehension whose name is no plain local -/
def lcNo (c : Ck) : PySem.Expr → PySem.Expr → Bool
  | .Name y _, .ListComp .. => (match c.kind y with | some .cell => true | _ => false)
  | _, x => nComp x
mutual
def chkS (c : Ck) : S → Stmt → Bool
  | .expr e, .Expr x _ => chkE c e x && nComp x
  | .asg t e, .Assign [tg] x _ => chkT c (List.range c.N.length) t tg && okX tg && chkE c e x && (lcSw c tg x || (lcNo c tg x && swapFree c tg x))
  | .sub o i e, .Assign [.Subscript a b _] x _ => chkE c o a && chkE c i b && okX b && chkE c e x && nComp x
  | .par ts es, .Assign [tg] (.Tuple xs k p) _ => swap2C c ts tg (.Tuple xs k p) && chkEs c es xs
  | .ret e, .Return (some x) _ => chkE c e x
  | .retN, .Return none _ => true
  | .iff t a b, .If x xs ys _ => chkE c t x && tstE t && chkSs c a xs && chkSs c b ys
  | .forS t it b, .For tg x xs [] _ => chkT c (List.range c.N.length) t tg && chkI c it x && okX x && chkSs c b xs
  | .pass, .Pass _ => true
  | _, _ => false
def chkSs (c : Ck) : Ss → List Stmt → Bool
  | .nil, [] => true
  | .cons s ss, x :: xs => chkS c s x && chkSs c ss xs
  | _, _ => false
end

/-! ### readings -/
def wpS (Γ : Gc) (ξ : List Addr) (W : WX) (ι : List Addr) (H : Hp) (r : RS) (D : Ends) : Prop :=
  match r with
  | .nx ρ m => ∀ ι' H' σ', Stp ι H ι' H' → RpH Γ ξ ι' H' m → RpS Γ.K ξ ι' H' σ' ρ → D.nx σ' H'
  | .rt d m => ∀ ι' H' v, Stp ι H ι' H' → RpH Γ ξ ι' H' m → Rp Γ.K ξ ι' H' d v → D.rt v H'
  | .bk ρ m => ∀ ι' H' σ', Stp ι H ι' H' → RpH Γ ξ ι' H' m → RpS Γ.K ξ ι' H' σ' ρ → D.bk σ' H'
  | .ct ρ m => ∀ ι' H' σ', Stp ι H ι' H' → RpH Γ ξ ι' H' m → RpS Γ.K ξ ι' H' σ' ρ → D.ct σ' H'
  | .xc x ρ m => ∀ ι' H' σ' cls dd, Stp ι H ι' H' → RpH Γ ξ ι' H' m → RpS Γ.K ξ ι' H' σ' ρ → RpX Γ ξ ι' H' x cls dd → W cls dd σ' H'
  | .st => False
def tS (Γ : Gc) (W : WX) (f : Env → Hs → RS) : TS := fun D σ H => ∃ ξ ι ρ m, RpS Γ.K ξ ι H σ ρ ∧ RpH Γ ξ ι H m ∧ wpS Γ ξ W ι H (f ρ m) D
section
variable {Γ : Gc} {W : WX} {ξ ι ι1 : List Addr} {H H1 : Hp} {D D' : Ends}
theorem wpS.shift {r : RS} (s : Stp ι H ι1 H1) (h : wpS Γ ξ W ι H r D) : wpS Γ ξ W ι1 H1 r D := by
  cases r with
  | nx ρ m => exact fun ι' H' σ' st => h ι' H' σ' (s.trans st)
  | rt d m => exact fun ι' H' σ' st => h ι' H' σ' (s.trans st)
  | bk ρ m => exact fun ι' H' σ' st => h ι' H' σ' (s.trans st)
  | ct ρ m => exact fun ι' H' σ' st => h ι' H' σ' (s.trans st)
  | xc x ρ m => exact fun ι' H' σ' c d st => h ι' H' σ' c d (s.trans st)
  | st => exact h
theorem thn_wp {α : Type} {r : Lw.R α} {ρ : Env} {f : α → Hs → RS} {σ : L2.St} (h : wpS Γ ξ W ι H (r.thn ρ f) D) (hs : RpS Γ.K ξ ι H σ ρ) : wpR Γ ξ W σ ι H r (fun ι1 H1 a m => wpS Γ ξ W ι1 H1 (f a m) D) := by
  cases r with
  | ok a m => exact fun ι' H' st rp => wpS.shift st h
  | exc x m => exact fun ι' H' c d st rp rx => h ι' H' σ c d st rp (hs.mono st) rx
  | stuck => exact h
end
section
variable {Γ : Gc} {C : Calls} {n : Nat} {W : WX} {X : Cx} {c : Ck}
structure GoodS (Γ : Gc) (C : Calls) (c : Ck) (n : Nat) (W : WX) (X : Cx) : Prop extends Good Γ C c n W X where
  kind : X.env.scope.kind = .function
theorem swapsN {e : PySem.Expr} (h : nComp e = true) {t : Option PySem.Expr} {l : Nat} {env : PySem.Env} : swapsWith e t l env = pure false := by
  cases e <;> first | rfl | cases h
theorem swapsSoleN {e tg : PySem.Expr} (h : nComp e = true) {l : Nat} {env : PySem.Env} : swapsWithSole [tg] e l env = pure false := swapsN h
theorem filterMap_lt {α β : Type} {f : α → Option β} : ∀ {l : List α}, (∃ x ∈ l, f x = none) → (l.filterMap f).length < l.length
  | [], h => by obtain ⟨x, hx, _⟩ := h; cases hx
  | a :: l, h => by
    have hle := List.length_filterMap_le f l
    cases e : f a with
    | none => rw [List.filterMap_cons_none e, List.length_cons]; omega
    | some b =>
      rw [List.filterMap_cons_some e, List.length_cons, List.length_cons]
      obtain ⟨x, hx, hn⟩ := h
      rcases List.mem_cons.mp hx with rfl | hx
      · rw [e] at hn; cases hn
      · have := filterMap_lt (f := f) ⟨x, hx, hn⟩; omega
theorem swapFree_ok {c : Ck} {tg e : PySem.Expr} {env : PySem.Env} (hn : ∀ x, c.kind x = some .cell → env.kindOf x = some .cell) (h : swapFree c tg e = true) : swappedStores [tg] e env = pure none := by
  cases tg with
  | Tuple ts k p =>
    cases e with
    | Tuple vs k2 p2 =>
      simp only [swapFree, Bool.or_eq_true] at h
      unfold swappedStores
      dsimp only
      split
      · rfl
      · rename_i h1
        simp only [Bool.or_eq_true, not_or] at h1
        split
        · rfl
        · rcases h with (h | h) | h
          · exact absurd h h1.1.1
          · split
            · rfl
            · first | rfl | rw [if_pos h]
          · rw [if_pos]
            obtain ⟨t, ht, h2⟩ := List.any_eq_true.mp h
            rw [Bool.or_eq_true]
            refine .inl ?_
            rw [bne_iff_ne]
            refine Nat.ne_of_lt (filterMap_lt ⟨t, ht, ?_⟩)
            cases t with
            | Name x pos =>
              have : env.kindOf x = some .cell := by
                refine hn x ?_
                simp only [noNm] at h2
                split at h2
                · assumption
                · cases h2
              dsimp only
              rw [this]; rfl
            | _ => rfl
    | _ => rfl
  | List ts p =>
    cases e with
    | Tuple vs k2 p2 => simp [swapFree] at h
    | _ => rfl
  | _ => cases e <;> rfl
theorem swap2_ok {x y : PySem.Str} {a b : PySem.Expr} {px py pt : Pos} {kt k2 pt2} {env : PySem.Env} (hk : env.scope.kind = .function) (hx : env.scope.names.lookup x = some .local) (hy : env.scope.names.lookup y = some .local)
    (hl : (py.line == px.line) = true) (hxy : x ≠ y) (oa : okX a = true) (ob : okX b = true) (h1 : [a, b].all (foldedForSure 8) = false) (h2 : [a, b].all (constantsAlone 8) = false) :
    swappedStores [.Tuple [.Name x px, .Name y py] kt pt] (.Tuple [a, b] k2 pt2) env = pure (some [x, y]) := by
  have hs : ∀ {z : PySem.Expr}, okX z = true → (match z with | .Starred .. => true | _ => false) = false := by intro z h; cases z <;> first | rfl | cases h
  have kx : env.kindOf x = some .local := hx
  have ky : env.kindOf y = some .local := hy
  have hb : env.blockKind = .function := by
    unfold Env.blockKind; rw [hk]; rfl
  have hl' : py.line = px.line := eq_of_beq hl
  have hyx : (y == x) = false := beq_eq_false_iff_ne.mpr (Ne.symm hxy)
  have ea := @hs a oa
  have eb := @hs b ob
  unfold swappedStores
  simp only [List.all_cons, List.all_nil, Bool.and_true] at h1 h2
  simp [hb, PySem.Expr.pos, kx, ky, hl', h1, h2, List.eraseDups, List.eraseDupsBy, List.eraseDupsBy.loop, hyx]
  rintro (h | h)
  · exact absurd (ea.symm.trans h) Bool.false_ne_true
  · exact absurd (eb.symm.trans h) Bool.false_ne_true
theorem swap3_ok {x y z : PySem.Str} {a b d : PySem.Expr} {px py pz pt : Pos} {kt k2 pt2} {env : PySem.Env} (hk : env.scope.kind = .function) (hx : env.scope.names.lookup x = some .local) (hy : env.scope.names.lookup y = some .local) (hz : env.scope.names.lookup z = some .local)
    (hl : (py.line == px.line) = true) (hl2 : (pz.line == px.line) = true) (hxy : x ≠ y) (hxz : x ≠ z) (hyz : y ≠ z) (oa : okX a = true) (ob : okX b = true) (od : okX d = true) (h1 : [a, b, d].all (foldedForSure 8) = false) (h2 : [a, b, d].all (constantsAlone 8) = false) :
    swappedStores [.Tuple [.Name x px, .Name y py, .Name z pz] kt pt] (.Tuple [a, b, d] k2 pt2) env = pure (some [x, y, z]) := by
  have hs : ∀ {z : PySem.Expr}, okX z = true → (match z with | .Starred .. => true | _ => false) = false := by intro z h; cases z <;> first | rfl | cases h
  have kx : env.kindOf x = some .local := hx
  have ky : env.kindOf y = some .local := hy
  have kz : env.kindOf z = some .local := hz
  have hb : env.blockKind = .function := by
    unfold Env.blockKind; rw [hk]; rfl
  have hl' : py.line = px.line := eq_of_beq hl
  have hl2' : pz.line = px.line := eq_of_beq hl2
  have hyx : (y == x) = false := beq_eq_false_iff_ne.mpr (Ne.symm hxy)
  have hzx : (z == x) = false := beq_eq_false_iff_ne.mpr (Ne.symm hxz)
  have hzy : (z == y) = false := beq_eq_false_iff_ne.mpr (Ne.symm hyz)
  have ea := @hs a oa
  have eb := @hs b ob
  have ed := @hs d od
  unfold swappedStores
  simp only [List.all_cons, List.all_nil, Bool.and_true] at h1 h2
  simp [hb, PySem.Expr.pos, kx, ky, kz, hl', hl2', h1, h2, List.eraseDups, List.eraseDupsBy, List.eraseDupsBy.loop, hyx, hzx, hzy]
  rintro (h | h | h)
  · exact absurd (ea.symm.trans h) Bool.false_ne_true
  · exact absurd (eb.symm.trans h) Bool.false_ne_true
  · exact absurd (ed.symm.trans h) Bool.false_ne_true
theorem sndLcAsg {l : L} {a : PySem.Expr} {y : PySem.Str} {py spos : Pos} {k : Nat} (g : GoodS Γ C c n W X) (h : chkL c l a = true) (hsw : lcSw c (.Name y py) a = true) (hk : c.N[k]? = some y) :
    PS X (.Assign [.Name y py] a spos) (tAsg (tL Γ W (evL C l)) (gName k)) := by
  cases a with
  | ListComp x gs sc pos =>
    simp only [lcSw, Bool.and_eq_true, Bool.not_eq_true'] at hsw
    obtain ⟨⟨s1, s2⟩, s3⟩ := hsw
    match l, gs, h with
    | .lc own t it elt, [⟨tg, i, [], az⟩], h =>
      simp only [chkL, Bool.and_eq_true, decide_eq_true_eq] at h
      obtain ⟨⟨⟨⟨⟨h0, h1⟩, h2⟩, h3⟩, h4⟩, h5⟩ := h
      subst h0
      refine PS.imp (lcAsg g.toGood (f := fun ρ x m => match evT t x m ρ with
        | some ρ' => (evE C elt ρ' m).bind fun y m => .ok (some y) m
        | none => .stuck) (tt := tYes) (te := tE Γ (fun _ _ _ _ => False) (evE C elt)) g.kind hk s1 s2 s3 h1 (sndI it i tg h3 g.toGood) (fun s H Ca cl fp => sndT (g.toGood.blk s H sc Ca cl fp) t tg h2) (fun s H Ca cl fp => pts_nil)
        (fun s H Ca cl fp => sndE elt x h4 (g.toGood.blk s H sc Ca cl fp)) h5 ?_ ?_) fun D σ H q => by unfold tAsg at q ⊢; simp only [evL] at q; exact q
      · intro _ _ ξ ι H ρ d m σ2 ρ' Q ev hs hr q
        simp only [ev] at q
        show (if true = true then tE Γ (fun _ _ _ _ => False) (evE C elt) σ2 H (fun y H4 => Q (some y) H4) else Q none H)
        rw [if_pos rfl]
        exact ⟨ξ, ι, ρ', m, hs, hr, (wpR.bind q).mono fun ι1 H1 y m1 s1 r1 q1 v rv => q1.now r1 v rv⟩
      · intro ρ d m e
        simp only [e]
    | .lcIf own t it cd elt, [⟨tg, i, [y], az⟩], h =>
      simp only [chkL, Bool.and_eq_true, decide_eq_true_eq] at h
      obtain ⟨⟨⟨⟨⟨⟨⟨h0, h1⟩, h2⟩, h3⟩, h4⟩, h5⟩, h6⟩, h7⟩ := h
      subst h0
      refine PS.imp (lcAsg g.toGood (f := fun ρ x m => match evT t x m ρ with
        | some ρ' => (evE C cd ρ' m).bind fun b m => (match b with
          | .bl true => (evE C elt ρ' m).bind fun y m => .ok (some y) m
          | .bl false => .ok none m
          | _ => .stuck)
        | none => .stuck) (tt := tT Γ (fun _ _ _ _ => False) (evE C cd)) (te := tE Γ (fun _ _ _ _ => False) (evE C elt)) g.kind hk s1 s2 s3 h1 (sndI it i tg h3 g.toGood) (fun s H Ca cl fp => sndT (g.toGood.blk s H sc Ca cl fp) t tg h2) (fun s H Ca cl fp => pts_one (sndTst cd y h4 h7 (g.toGood.blk s H sc Ca cl fp) (sndE cd y h4 (g.toGood.blk s H sc Ca cl fp))))
        (fun s H Ca cl fp => sndE elt x h5 (g.toGood.blk s H sc Ca cl fp)) h6 ?_ ?_) fun D σ H q => by unfold tAsg at q ⊢; simp only [evL] at q; exact q
      · intro _ _ ξ ι H ρ d m σ2 ρ' Q ev hs hr q
        simp only [ev] at q
        refine ⟨ξ, ι, ρ', m, hs, hr, (wpR.bind q).mono fun ι1 H1 b m1 s1 r1 q1 => ?_⟩
        cases b <;> first | exact q1.elim | skip
        rename_i b
        refine ⟨b, rfl, ?_⟩
        cases b with
        | true => rw [if_pos rfl]; exact ⟨ξ, ι1, ρ', m1, hs.mono s1, r1, (wpR.bind q1).mono fun ι2 H2 y m2 s2 r2 q2 v rv => q2.now r2 v rv⟩
        | false => rw [if_neg Bool.false_ne_true]; exact q1.now r1
      · intro ρ d m e
        simp only [e]
    | .lc own t it elt, [], h => (rw [chkL.eq_def] at h; simp at h)
    | .lc own t it elt, _ :: _ :: _, h => (rw [chkL.eq_def] at h; simp at h)
    | .lc own t it elt, [⟨tg, i, _ :: _, _⟩], h => (rw [chkL.eq_def] at h; simp at h)
    | .lcIf own t it cd elt, [], h => (rw [chkL.eq_def] at h; simp at h)
    | .lcIf own t it cd elt, _ :: _ :: _, h => (rw [chkL.eq_def] at h; simp at h)
    | .lcIf own t it cd elt, [⟨tg, i, [], _⟩], h => (rw [chkL.eq_def] at h; simp at h)
    | .lcIf own t it cd elt, [⟨tg, i, _ :: _ :: _, _⟩], h => (rw [chkL.eq_def] at h; simp at h)
    | .disp es, _, h => (rw [chkL.eq_def] at h; simp at h)
    | .rng3 _ _ _, _, h => (rw [chkL.eq_def] at h; simp [asRng3] at h)
    | .lstOf _, _, h => (rw [chkL.eq_def] at h; simp at h)
  | _ => simp [lcSw] at hsw
/-- how the assignment takes a value -/
theorem setNm {t : T} {f : Env → Hs → Lw.R D} {own : List Nat} {σ : L2.St} {H : Hp} {Dn : Ends}
    (q : tS Γ W (fun ρ m => (f ρ m).thn ρ fun d m => match evT t d m ρ with | some ρ' => .nx ρ' m | none => .st) Dn σ H) : tAsg (tE Γ W f) (tTg Γ own t) Dn σ H := by
  obtain ⟨ξ, ι, ρ, m, hs, hr, q⟩ := q
  refine ⟨ξ, ι, ρ, m, hs, hr, (thn_wp q hs).mono fun ι1 H1 d m1 s1 r1 q1 v rv => ?_⟩
  cases e : evT t d m1 ρ with
  | none => rw [e] at q1; exact q1.elim
  | some ρ' =>
    rw [e] at q1
    exact ⟨ξ, ι1, ρ, m1, d, ρ', hs.mono s1, r1, rv, e, fun σ' hs' _ => q1 ι1 H1 σ' (.refl _ _) r1 hs'⟩
def isLc : E → Prop
  | .fz _ => True
  | .alc _ => True
  | _ => False
theorem lcForm0 {c : Ck} {e : E} {x : PySem.Expr} {gs sc pos} (h : chkE c e (.ListComp x gs sc pos) = true) : isLc e := by
  rw [chkE.eq_def] at h
  cases e <;> first | exact trivial | (simp at h; done) | simp [asM1] at h
theorem lcForm {c : Ck} {e : E} {tg x : PySem.Expr} (h4 : lcSw c tg x = true) (h : chkE c e x = true) : isLc e := by
  unfold lcSw at h4
  split at h4
  · exact lcForm0 h
  · cases h4
theorem cellKind (g : GoodS Γ C c n W X) (y : PySem.Str) (h : c.kind y = some .cell) : X.env.kindOf y = some .cell := by
  obtain ⟨k, h1, rfl | ⟨z, _⟩⟩ := g.names y _ h
  · exact h1
  · cases z
theorem noSwap {tg e : PySem.Expr} (g : GoodS Γ C c n W X) (h : lcNo c tg e = true) {l : Nat} : swapsWithSole [tg] e l X.env = pure false := by
  have hn : nComp e = true → swapsWithSole [tg] e l X.env = pure false := fun h => swapsSoleN h
  cases tg with
  | Name y py =>
    cases e with
    | ListComp x gs sc pos =>
      simp only [lcNo] at h
      have hy : X.env.scope.names.lookup y = some .cell := by
        unfold Ck.kind at h
        split at h
        · rename_i e; obtain ⟨k, h1, rfl | ⟨z, _⟩⟩ := g.names y _ e
          · exact h1
          · cases z
        · cases h
      have ky : X.env.kindOf y = some .cell := hy
      unfold swapsWithSole swapsWith
      simp [ky, show (NameKind.cell == NameKind.local) = false from rfl]
    | _ => exact hn h
  | _ => exact hn h
theorem forWk {f : D → Env → Hs → RS} {t : T} {tb : TS} {own : List Nat}
    (hb : ∀ (ξ ι : List Addr) (H : Hp) (σ : L2.St) (ρ ρ' : Env) (m : Hs) (d : D) (Dn : Ends), evT t d m ρ = some ρ' → RpS Γ.K ξ ι H σ ρ' → RpH Γ ξ ι H m → wpS Γ ξ W ι H (f d ρ m) Dn → tb Dn σ H)
    (hn : ∀ (ρ : Env) (d : D) (m : Hs), evT t d m ρ = none → f d ρ m = .st)
    {g : Env → Hs → Lw.R (List D)} {σ : L2.St} {H : Hp} {Dn : Ends}
    (q : tS Γ W (fun ρ m => (g ρ m).thn ρ fun xs m => forGo f xs ρ m) Dn σ H) : tFor (tI Γ W g) (tTg Γ own t) tb Dn σ H := by
  obtain ⟨ξ, ι, ρ, m, hs, hr, q⟩ := q
  refine ⟨ξ, ι, ρ, m, hs, hr, (thn_wp q hs).mono fun ι1 H1 xs m1 s1 r1 h1 J wk => ?_⟩
  let INV : Nat → L2.St → Hp → Prop := fun i σ2 H2 => ∃ ι2 ρ2 m2, i ≤ xs.length ∧ Stp ι1 H1 ι2 H2 ∧ RpS Γ.K ξ ι2 H2 σ2 ρ2 ∧ RpH Γ ξ ι2 H2 m2 ∧ wpS Γ ξ W ι2 H2 (forGo f (xs.drop i) ρ2 m2) Dn
  refine ⟨fun i k σ2 H2 => k = xs.length - i ∧ INV i σ2 H2, ⟨xs.length, by simp, ι1, ρ, m1, Nat.zero_le _, .refl _ _, hs.mono s1, r1, by rw [List.drop_zero]; exact h1⟩, ?_⟩
  rintro i k σ2 H2 ⟨rfl, ι2, ρ2, m2, hi, st2, hs2, r2, q2⟩
  obtain ⟨wk1, wk2⟩ := wk ι2 H2 st2 i
  by_cases hlt : i < xs.length
  · have hx : xs[i]? = some xs[i] := List.getElem?_eq_getElem hlt
    obtain ⟨go, yl⟩ := wk1 _ hx
    rw [List.drop_eq_getElem_cons hlt] at q2
    refine .inr ⟨go, fun σ' H' => INV (i + 1) σ' H', fun σ' H' h => ⟨xs.length - (i + 1), by omega, rfl, h⟩, fun v H3 y => ?_⟩
    obtain ⟨gr, rv⟩ := yl v H3 y
    obtain ⟨st3, r3⟩ := grow r2 gr
    have rv' : Rp Γ.K ξ ι2 H3 xs[i] v := rv _ fun a ha => .inl ha
    have st23 := st2.trans st3
    simp only [forGo] at q2
    cases ev : evT t xs[i] m2 ρ2 with
    | none =>
      rw [hn _ _ _ ev] at q2
      exact q2.elim
    | some ρ' =>
      refine ⟨ξ, ι2, ρ2, m2, xs[i], ρ', hs2.mono st3, r3, rv', ev, fun σ3 hs3 _ => hb ξ ι2 H3 σ3 ρ2 ρ' m2 xs[i] _ ev hs3 r3 ?_⟩
      cases e : f xs[i] ρ2 m2 with
      | nx ρ4 m4 =>
        rw [e] at q2
        exact fun ι4 H4 σ4 s4 r4 hs4 => ⟨ι4, ρ4, m4, hlt, st23.trans s4, hs4, r4, wpS.shift (st3.trans s4) q2⟩
      | ct ρ4 m4 =>
        rw [e] at q2
        exact fun ι4 H4 σ4 s4 r4 hs4 => ⟨ι4, ρ4, m4, hlt, st23.trans s4, hs4, r4, wpS.shift (st3.trans s4) q2⟩
      | bk ρ4 m4 => rw [e] at q2; exact fun ι4 H4 σ4 s4 => q2 ι4 H4 σ4 (st3.trans s4)
      | rt d m4 => rw [e] at q2; exact fun ι4 H4 σ4 s4 => q2 ι4 H4 σ4 (st3.trans s4)
      | xc x ρ4 m4 => rw [e] at q2; exact fun ι4 H4 σ4 c d s4 => q2 ι4 H4 σ4 c d (st3.trans s4)
      | st => rw [e] at q2; exact q2
  · have e : i = xs.length := by omega
    subst e
    refine .inl ⟨wk2 (Nat.le_refl _), ?_⟩
    rw [List.drop_length] at q2
    exact q2 ι2 H2 σ2 (.refl _ _) r2 hs2
theorem snd_expr {e : E} {a : Stmt} (h : chkS c (.expr e) a = true) (g : GoodS Γ C c n W X) : PS X a (tS Γ W (evS C (.expr e))) := by
  cases a with
  | Expr x pos =>
    simp only [chkS, Bool.and_eq_true] at h
    refine PS.imp (ps_expr (sndE e x h.1 g.toGood) (swapsN h.2)) fun Dn σ H q => ?_
    obtain ⟨ξ, ι, ρ, m, hs, hr, q⟩ := q
    simp only [evS] at q
    exact ⟨ξ, ι, ρ, m, hs, hr, (thn_wp q hs).mono fun ι1 H1 d m1 s1 r1 q1 v rv => q1 ι1 H1 σ (.refl _ _) r1 (hs.mono s1)⟩
  | _ => (rw [chkS.eq_def] at h; simp at h)
theorem snd_asg {t : T} {e : E} {a : Stmt} (h : chkS c (.asg t e) a = true) (g : GoodS Γ C c n W X) : PS X a (tS Γ W (evS C (.asg t e))) := by
  cases a with
  | Assign ts x pos =>
    match ts, h with
    | [tg], h =>
      simp only [chkS, Bool.and_eq_true, Bool.or_eq_true] at h
      obtain ⟨⟨⟨h1, h2⟩, h3⟩, h4⟩ := h
      rcases h4 with h4 | h4
      · cases tg with
        | Name y py =>
          cases t with
          | tp ts => simp [chkT] at h1
          | nm i =>
            have h1' := h1
            simp only [chkT, Bool.and_eq_true, decide_eq_true_eq] at h1'
            cases e with
            | fz l =>
              have h3' : chkL c l x = true := by simpa [chkE] using h3
              refine PS.imp (sndLcAsg g h3' h4 h1'.1.1) fun Dn σ H q => ?_
              obtain ⟨ξ, ι, ρ, m, hs, hr, q⟩ := q
              simp only [evS, evE] at q
              refine ⟨ξ, ι, ρ, m, hs, hr, ?_⟩
              cases e1 : evL C l ρ m with
              | stuck => rw [e1] at q; exact q.elim
              | exc x1 m1 => rw [e1] at q; exact fun ι1 H1 cls dd s1 r1 rx => q ι1 H1 σ cls dd s1 r1 (hs.mono s1) rx
              | ok ds m1 =>
                rw [e1] at q
                simp only [Lw.R.bind_ok, Lw.R.thn_ok, evT] at q
                intro ι1 H1 s1 r1 p vs hp hn hl rl rp
                have rv : Rp Γ.K ξ ι1 H1 (.lst ds) (.ref p) := .lst hl hn (hr.freshx hp) (rl.weak fun _ z => List.mem_cons_of_mem _ z)
                exact q ι1 H1 _ s1 r1 ((hs.mono s1).set rv)
            | alc l =>
              have h3' : chkL c l x = true := by simpa [chkE] using h3
              refine PS.imp (sndLcAsg g h3' h4 h1'.1.1) fun Dn σ H q => ?_
              obtain ⟨ξ, ι, ρ, m, hs, hr, q⟩ := q
              simp only [evS, evE] at q
              refine ⟨ξ, ι, ρ, m, hs, hr, ?_⟩
              cases e1 : evL C l ρ m with
              | stuck => rw [e1] at q; exact q.elim
              | exc x1 m1 => rw [e1] at q; exact fun ι1 H1 cls dd s1 r1 rx => q ι1 H1 σ cls dd s1 r1 (hs.mono s1) rx
              | ok ds m1 =>
                rw [e1] at q
                simp only [Lw.R.bind_ok, Lw.R.thn_ok, evT] at q
                intro ι1 H1 s1 r1 p vs hp hn hl rl rp
                have nx := hr.freshx hp
                have st : Stp ι H (ι1 ++ [p]) H1 := by
                  obtain ⟨t, rfl, ht⟩ := s1.ex
                  refine ⟨⟨t ++ [p], by rw [List.append_assoc], fun b hb => ?_⟩, s1.keep, s1.dom⟩
                  rcases List.mem_append.mp hb with z | z
                  · exact ht b z
                  · simp at z; subst z; exact hp
                have rv : Rp Γ.K ξ (ι1 ++ [p]) H1 (.ref m1.length) (.ref p) := by
                  refine .ref ?_
                  rw [← r1.len, List.getElem?_append_right (Nat.le_refl _)]; simp
                exact q (ι1 ++ [p]) H1 _ st (rp.adopt hl rl nx) ((hs.mono st).set rv)
            | _ => exact (lcForm h4 h3).elim
        | _ => simp [lcSw] at h4
      · obtain ⟨h4, h5⟩ := h4
        refine PS.imp (ps_asg (sndE e x h3 g.toGood) (sndT g.toGood t tg h1) (noSwap g h4) (swapFree_ok (cellKind g) h5) (by rw [assignEach_ok h2]; rfl)) fun Dn σ H q => ?_
        exact setNm (by simp only [evS] at q; exact q)
    | [], h => (rw [chkS.eq_def] at h; simp at h)
    | _ :: _ :: _, h => (rw [chkS.eq_def] at h; simp at h)
  | _ => (rw [chkS.eq_def] at h; simp at h)
theorem snd_sub {o i e : E} {a : Stmt} (h : chkS c (.sub o i e) a = true) (g : GoodS Γ C c n W X) : PS X a (tS Γ W (evS C (.sub o i e))) := by
  cases a with
  | Assign ts x pos =>
    match ts, h with
    | [.Subscript a1 a2 p2], h =>
      simp only [chkS, Bool.and_eq_true] at h
      obtain ⟨⟨⟨⟨h1, h2⟩, h3⟩, h4⟩, h5⟩ := h
      have ha : ∀ v, assign (.Subscript a1 a2 p2) X.env v = (do
          let ov ← holding [v] (eval a1 X.env)
          let iv ← holding [v, ov] (eval a2 X.env)
          standAt p2
          holding [v, ov, iv] (setItem ov iv v)
          release [v, ov, iv] []) := by
        intro v
        cases a2 <;> first | rfl | cases h3
      refine PS.imp (ps_asg (sndE e x h4 g.toGood) (pg_sub (sndE o a1 h1 g.toGood) (sndE i a2 h2 g.toGood) (subAll (Γ := Γ) (by have := g.toGood.units; omega)) ha) (swapsSoleN h5) (by cases x <;> rfl) rfl) fun Dn σ H q => ?_
      obtain ⟨ξ, ι, ρ, m, hs, hr, q⟩ := q
      simp only [evS] at q
      refine ⟨ξ, ι, ρ, m, hs, hr, (thn_wp q hs).mono fun ι1 H1 d m1 s1 r1 q1 v rv => ?_⟩
      have hs1 := hs.mono s1
      refine ⟨ξ, ι1, ρ, m1, hs1, r1, (thn_wp q1 hs1).mono fun ι2 H2 x m2 s2 r2 q2 w rw' => ?_⟩
      have hs2 := hs1.mono s2
      refine ⟨ξ, ι2, ρ, m2, hs2, r2, (thn_wp q2 hs2).mono fun ι3 H3 y m3 s3 r3 q3 u ru => ?_⟩
      cases es : subD m3 x y d with
      | none => rw [es] at q3; exact q3.elim
      | some m4 =>
        rw [es] at q3
        exact ⟨ξ, ι3, m3, x, y, d, r3, rw'.mono s3, ru, rv.mono (s2.trans s3), m4, es, fun H' st rp => q3 ι3 H' σ st rp ((hs2.mono s3).mono st)⟩
    | [], h => (rw [chkS.eq_def] at h; simp at h)
    | _ :: _ :: _, h => (rw [chkS.eq_def] at h; simp at h)
    | [.Name .., ], h => (rw [chkS.eq_def] at h; simp at h)
    | [.Tuple .., ], h => (rw [chkS.eq_def] at h; simp at h)
    | [.Attribute .., ], h => (rw [chkS.eq_def] at h; simp at h)
    | [.List .., ], h => (rw [chkS.eq_def] at h; simp at h)
    | [.Starred .., ], h => (rw [chkS.eq_def] at h; simp at h)
    | [.BoolOp ..], h => (rw [chkS.eq_def] at h; simp at h)
    | [.NamedExpr ..], h => (rw [chkS.eq_def] at h; simp at h)
    | [.BinOp ..], h => (rw [chkS.eq_def] at h; simp at h)
    | [.UnaryOp ..], h => (rw [chkS.eq_def] at h; simp at h)
    | [.Lambda ..], h => (rw [chkS.eq_def] at h; simp at h)
    | [.IfExp ..], h => (rw [chkS.eq_def] at h; simp at h)
    | [.Dict ..], h => (rw [chkS.eq_def] at h; simp at h)
    | [.Set ..], h => (rw [chkS.eq_def] at h; simp at h)
    | [.ListComp ..], h => (rw [chkS.eq_def] at h; simp at h)
    | [.SetComp ..], h => (rw [chkS.eq_def] at h; simp at h)
    | [.DictComp ..], h => (rw [chkS.eq_def] at h; simp at h)
    | [.GeneratorExp ..], h => (rw [chkS.eq_def] at h; simp at h)
    | [.Await ..], h => (rw [chkS.eq_def] at h; simp at h)
    | [.Yield ..], h => (rw [chkS.eq_def] at h; simp at h)
    | [.YieldFrom ..], h => (rw [chkS.eq_def] at h; simp at h)
    | [.Compare ..], h => (rw [chkS.eq_def] at h; simp at h)
    | [.Call ..], h => (rw [chkS.eq_def] at h; simp at h)
    | [.FormattedValue ..], h => (rw [chkS.eq_def] at h; simp at h)
    | [.JoinedStr ..], h => (rw [chkS.eq_def] at h; simp at h)
    | [.Constant ..], h => (rw [chkS.eq_def] at h; simp at h)
    | [.Slice ..], h => (rw [chkS.eq_def] at h; simp at h)
  | _ => (rw [chkS.eq_def] at h; simp at h)
theorem snd_par {is : List Nat} {es : Es} {a : Stmt} (h : chkS c (.par is es) a = true) (g : GoodS Γ C c n W X) : PS X a (tS Γ W (evS C (.par is es))) := by
  cases a with
  | Assign ts x pos =>
    match ts, x, h with
    | [tg], .Tuple xs k p, h =>
      simp only [chkS, Bool.and_eq_true] at h
      obtain ⟨h1, h2⟩ := h
      have ha := sndEs es xs h2 g.toGood
      unfold swap2C at h1
      split at h1
      · rename_i x px y py _ _ a b _ _ e1
        cases e1
        simp only [Bool.and_eq_true, Bool.not_eq_true', decide_eq_true_eq] at h1
        obtain ⟨⟨⟨⟨⟨⟨⟨⟨i1, i2⟩, i3⟩, i4⟩, i5⟩, i6⟩, i7⟩, i8⟩, i9⟩ := h1
        split at i1
        · rename_i i j
          simp only [Bool.and_eq_true, decide_eq_true_eq] at i1
          have l2 := g.islocal i2
          have l3 := g.islocal i3
          refine PS.imp (ps_par g.calm (by rw [g.N]; exact g.nd) (by rw [g.N]; exact i1.1.1) (by rw [g.N]; exact i1.1.2) i1.2 l2 l3 ha (swap2_ok g.kind l2 l3 i4 i5 i6 i7 i8 i9) rfl) fun Dn σ H q => ?_
          obtain ⟨ξ, ι, ρ, m, hs, hr, q⟩ := q
          simp only [evS] at q
          refine ⟨ξ, ι, ρ, m, hs, hr, (thn_wp q hs).mono fun ι1 H1 ds m1 s1 r1 q1 vs rv => ?_⟩
          split at q1
          · rename_i hl
            match ds, vs, rv, hl, q1 with
            | [d1, d2], _, .cons r1' (.cons r2' .nil), _, q1 =>
              exact ⟨_, _, rfl, q1 ι1 H1 _ (.refl _ _) r1 (((hs.mono s1).set r1').set r2')⟩
          · exact q1.elim
        · cases i1
      · rename_i x px y py z pz _ _ a b d _ _ e1
        cases e1
        simp only [Bool.and_eq_true, Bool.not_eq_true', decide_eq_true_eq] at h1
        obtain ⟨⟨⟨⟨⟨⟨⟨⟨⟨⟨⟨⟨⟨i1, i2⟩, i3⟩, i4⟩, i5⟩, i6⟩, i7⟩, i8⟩, i9⟩, j1⟩, j2⟩, j3⟩, j4⟩, j5⟩ := h1
        split at i1
        · rename_i i j l
          simp only [Bool.and_eq_true, decide_eq_true_eq] at i1
          obtain ⟨⟨⟨⟨⟨n1, n2⟩, n3⟩, n4⟩, n5⟩, n6⟩ := i1
          have l2 := g.islocal i2
          have l3 := g.islocal i3
          have l4 := g.islocal i4
          refine PS.imp (ps_par3 g.calm (by rw [g.N]; exact g.nd) (by rw [g.N]; exact n1) (by rw [g.N]; exact n2) (by rw [g.N]; exact n3) n4 n5 n6 l2 l3 l4 ha (swap3_ok g.kind l2 l3 l4 i5 i6 i7 i8 i9 j1 j2 j3 j4 j5) rfl) fun Dn σ H q => ?_
          obtain ⟨ξ, ι, ρ, m, hs, hr, q⟩ := q
          simp only [evS] at q
          refine ⟨ξ, ι, ρ, m, hs, hr, (thn_wp q hs).mono fun ι1 H1 ds m1 s1 r1 q1 vs rv => ?_⟩
          split at q1
          · rename_i hl
            match ds, vs, rv, hl, q1 with
            | [d1, d2, d3], _, .cons r1' (.cons r2' (.cons r3' .nil)), _, q1 =>
              exact ⟨_, _, _, rfl, q1 ι1 H1 _ (.refl _ _) r1 ((((hs.mono s1).set r1').set r2').set r3')⟩
          · exact q1.elim
        · cases i1
      · cases h1
    | [], _, h => (rw [chkS.eq_def] at h; simp at h)
    | _ :: _ :: _, _, h => (rw [chkS.eq_def] at h; simp at h)
    | [_], .Name .., h => (rw [chkS.eq_def] at h; simp at h)
    | [_], .Subscript .., h => (rw [chkS.eq_def] at h; simp at h)
    | [_], .Attribute .., h => (rw [chkS.eq_def] at h; simp at h)
    | [_], .List .., h => (rw [chkS.eq_def] at h; simp at h)
    | [_], .Starred .., h => (rw [chkS.eq_def] at h; simp at h)
    | [_], .BoolOp .., h => (rw [chkS.eq_def] at h; simp at h)
    | [_], .NamedExpr .., h => (rw [chkS.eq_def] at h; simp at h)
    | [_], .BinOp .., h => (rw [chkS.eq_def] at h; simp at h)
    | [_], .UnaryOp .., h => (rw [chkS.eq_def] at h; simp at h)
    | [_], .Lambda .., h => (rw [chkS.eq_def] at h; simp at h)
    | [_], .IfExp .., h => (rw [chkS.eq_def] at h; simp at h)
    | [_], .Dict .., h => (rw [chkS.eq_def] at h; simp at h)
    | [_], .Set .., h => (rw [chkS.eq_def] at h; simp at h)
    | [_], .ListComp .., h => (rw [chkS.eq_def] at h; simp at h)
    | [_], .SetComp .., h => (rw [chkS.eq_def] at h; simp at h)
    | [_], .DictComp .., h => (rw [chkS.eq_def] at h; simp at h)
    | [_], .GeneratorExp .., h => (rw [chkS.eq_def] at h; simp at h)
    | [_], .Await .., h => (rw [chkS.eq_def] at h; simp at h)
    | [_], .Yield .., h => (rw [chkS.eq_def] at h; simp at h)
    | [_], .YieldFrom .., h => (rw [chkS.eq_def] at h; simp at h)
    | [_], .Compare .., h => (rw [chkS.eq_def] at h; simp at h)
    | [_], .Call .., h => (rw [chkS.eq_def] at h; simp at h)
    | [_], .FormattedValue .., h => (rw [chkS.eq_def] at h; simp at h)
    | [_], .JoinedStr .., h => (rw [chkS.eq_def] at h; simp at h)
    | [_], .Constant .., h => (rw [chkS.eq_def] at h; simp at h)
    | [_], .Slice .., h => (rw [chkS.eq_def] at h; simp at h)
  | _ => (rw [chkS.eq_def] at h; simp at h)
theorem snd_ret {e : E} {a : Stmt} (h : chkS c (.ret e) a = true) (g : GoodS Γ C c n W X) : PS X a (tS Γ W (evS C (.ret e))) := by
  cases a with
  | Return x pos =>
    cases x with
    | none => (rw [chkS.eq_def] at h; simp at h)
    | some x =>
      simp only [chkS] at h
      refine PS.imp (ps_ret (sndE e x h g.toGood)) fun Dn σ H q => ?_
      obtain ⟨ξ, ι, ρ, m, hs, hr, q⟩ := q
      simp only [evS] at q
      exact ⟨ξ, ι, ρ, m, hs, hr, (thn_wp q hs).mono fun ι1 H1 d m1 s1 r1 q1 v rv => q1 ι1 H1 v (.refl _ _) r1 rv⟩
  | _ => (rw [chkS.eq_def] at h; simp at h)
theorem snd_retN  {a : Stmt} (h : chkS c (.retN) a = true) (g : GoodS Γ C c n W X) : PS X a (tS Γ W (evS C (.retN))) := by
  cases a with
  | Return x pos =>
    cases x with
    | none =>
      refine PS.imp ps_retN fun Dn σ H q => ?_
      obtain ⟨ξ, ι, ρ, m, hs, hr, q⟩ := q
      simp only [evS] at q
      exact q ι H .non (.refl _ _) hr .non
    | some x => (rw [chkS.eq_def] at h; simp at h)
  | _ => (rw [chkS.eq_def] at h; simp at h)
theorem snd_iff {t : E} {x y : Ss} (hx : ∀ xs, chkSs c x xs = true → PSs X xs (tS Γ W (evSs C x))) (hy : ∀ xs, chkSs c y xs = true → PSs X xs (tS Γ W (evSs C y))) {a : Stmt} (h : chkS c (.iff t x y) a = true) (g : GoodS Γ C c n W X) : PS X a (tS Γ W (evS C (.iff t x y))) := by
  cases a with
  | If b xs ys pos =>
    simp only [chkS, Bool.and_eq_true] at h
    obtain ⟨⟨⟨h1, h2⟩, h3⟩, h4⟩ := h
    refine PS.imp (ps_if (sndTst t b h1 h2 g.toGood (sndE t b h1 g.toGood)) (hx xs h3) (hy ys h4)) fun Dn σ H q => ?_
    obtain ⟨ξ, ι, ρ, m, hs, hr, q⟩ := q
    simp only [evS] at q
    refine ⟨ξ, ι, ρ, m, hs, hr, (thn_wp q hs).mono fun ι1 H1 d m1 s1 r1 q1 => ?_⟩
    cases d <;> first | exact q1.elim | skip
    rename_i b
    refine ⟨b, rfl, ?_⟩
    cases b with
    | true => exact ⟨ξ, ι1, ρ, m1, hs.mono s1, r1, q1⟩
    | false => exact ⟨ξ, ι1, ρ, m1, hs.mono s1, r1, q1⟩
  | _ => (rw [chkS.eq_def] at h; simp at h)
theorem snd_forS {t : T} {it : I} {b : Ss} (hb : ∀ xs, chkSs c b xs = true → PSs X xs (tS Γ W (evSs C b))) {a : Stmt} (h : chkS c (.forS t it b) a = true) (g : GoodS Γ C c n W X) : PS X a (tS Γ W (evS C (.forS t it b))) := by
  cases a with
  | For tg x xs els pos =>
    cases els with
    | nil =>
      simp only [chkS, Bool.and_eq_true] at h
      obtain ⟨⟨⟨h1, h2⟩, h3⟩, h4⟩ := h
      refine PS.imp (ps_for g.po g.calm (sndI it x tg h2 g.toGood) (sndT g.toGood t tg h1) (hb xs h4) (folded_ok h3)) fun Dn σ H q => ?_
      refine forWk (f := fun x ρ m => match evT t x m ρ with | some ρ' => evSs C b ρ' m | none => .st) ?_ ?_ (by simp only [evS] at q; exact q)
      · intro ξ ι H σ ρ ρ' m d Dn ev hs hr q
        simp only [ev] at q
        exact ⟨ξ, ι, ρ', m, hs, hr, q⟩
      · intro ρ d m e
        simp only [e]
    | cons _ _ => (rw [chkS.eq_def] at h; simp at h)
  | _ => (rw [chkS.eq_def] at h; simp at h)
theorem snd_pass  {a : Stmt} (h : chkS c (.pass) a = true) (g : GoodS Γ C c n W X) : PS X a (tS Γ W (evS C (.pass))) := by
  cases a with
  | Pass pos =>
    refine PS.imp ps_pass fun Dn σ H q => ?_
    obtain ⟨ξ, ι, ρ, m, hs, hr, q⟩ := q
    simp only [evS] at q
    exact q ι H σ (.refl _ _) hr hs
  | _ => (rw [chkS.eq_def] at h; simp at h)

mutual
theorem sndS : ∀ (s : S) {W : WX} {X : Cx} {c : Ck} (a : Stmt), chkS c s a = true → GoodS Γ C c n W X → PS X a (tS Γ W (evS C s))
  | .expr _, _, _, _, _, h, g => snd_expr h g
  | .asg _ _, _, _, _, _, h, g => snd_asg h g
  | .sub _ _ _, _, _, _, _, h, g => snd_sub h g
  | .par _ _, _, _, _, _, h, g => snd_par h g
  | .ret _, _, _, _, _, h, g => snd_ret h g
  | .retN, _, _, _, _, h, g => snd_retN h g
  | .iff _ x y, _, _, _, _, h, g => snd_iff (fun xs h => sndSs x xs h g) (fun xs h => sndSs y xs h g) h g
  | .forS _ _ b, _, _, _, _, h, g => snd_forS (fun xs h => sndSs b xs h g) h g
  | .pass, _, _, _, _, h, g => snd_pass h g
theorem sndSs : ∀ (ss : Ss) {W : WX} {X : Cx} {c : Ck} (as : List Stmt), chkSs c ss as = true → GoodS Γ C c n W X → PSs X as (tS Γ W (evSs C ss))
  | .nil, W, X, c, as, h, g => by
    cases as with
    | nil =>
      refine PSs.imp pss_nil fun Dn σ H q => ?_
      obtain ⟨ξ, ι, ρ, m, hs, hr, q⟩ := q
      simp only [evSs] at q
      exact q ι H σ (.refl _ _) hr hs
    | cons y ys => simp [chkSs] at h
  | .cons s ss, W, X, c, as, h, g => by
    cases as with
    | nil => simp [chkSs] at h
    | cons y ys =>
      simp only [chkSs, Bool.and_eq_true] at h
      refine PSs.imp (pss_cons (sndS s y h.1 g) (sndSs ss ys h.2 g)) fun Dn σ H q => ?_
      obtain ⟨ξ, ι, ρ, m, hs, hr, q⟩ := q
      simp only [evSs] at q
      refine ⟨ξ, ι, ρ, m, hs, hr, ?_⟩
      cases e : evS C s ρ m with
      | nx ρ1 m1 =>
        rw [e] at q
        exact fun ι1 H1 σ1 s1 r1 hs1 => ⟨ξ, ι1, ρ1, m1, hs1, r1, wpS.shift s1 q⟩
      | rt d m1 => rw [e] at q; exact q
      | bk ρ1 m1 => rw [e] at q; exact q
      | ct ρ1 m1 => rw [e] at q; exact q
      | xc x ρ1 m1 => rw [e] at q; exact q
      | st => rw [e] at q; exact q
end
end
end Lw

set_option Elab.async false
set_option linter.all false
set_option maxRecDepth 100000
/-! Defs: what leaves a call; that each def of the text does what its form in the small language says. -/
namespace Lw
open PySem PySem.Spec PyProof.Rows L2

mutual
/-- fewer are known: what tells of none of the others stays -/
theorem Rp.shrink {K : PySem.W.Frag} {ξ ι t : List Addr} {H : Hp} : ∀ {d : D} {v : V}, Rp K ξ (ι ++ t) H d v → closedD ι.length d = true → Rp K ξ ι H d v
  | _, _, .non, _ => .non
  | _, _, .bl b, _ => .bl b
  | _, _, .int i, _ => .int i
  | _, _, .str x, _ => .str x
  | _, _, .tup h n r, c => .tup h (fun q => n (List.mem_append_left _ q)) (RpAll.shrink r (by simpa [closedD] using c))
  | _, _, .lst h n z r, c => .lst h (fun q => n (List.mem_append_left _ q)) z (RpAll.shrink r (by simpa [closedD] using c))
  | _, _, .ref h, c => .ref (by
      simp only [closedD, decide_eq_true_eq] at c
      rw [List.getElem?_append_left c] at h
      exact h)
  | _, _, .exn c a, _ => .exn c a
  | _, _, .sct h r, c => .sct (match h with | .inl ⟨o, n⟩ => .inl ⟨o, fun q => n (List.mem_append_left _ q)⟩ | .inr h => .inr h) (RpAll.shrink r (by simpa [closedD] using c))
  | _, _, .ktp h r, c => .ktp h (RpAll.shrink r (by simpa [closedD] using c))
theorem RpAll.shrink {K : PySem.W.Frag} {ξ ι t : List Addr} {H : Hp} : ∀ {ds : List D} {vs : List V}, RpAll K ξ (ι ++ t) H ds vs → closedA ι.length ds = true → RpAll K ξ ι H ds vs
  | _, _, .nil, _ => .nil
  | _, _, .cons h r, c => by
    simp only [closedA, Bool.and_eq_true] at c
    exact .cons (Rp.shrink h c.1) (RpAll.shrink r c.2)
end
theorem Paired.mapC {α β κ : Type} {P Q : (κ × α) → β → Prop} {p : κ × α → Bool} (h : ∀ x y, p x = true → P x y → Q x y) : ∀ {l : List (κ × α)} {r : List β}, Paired P l r → l.all p = true → Paired Q l r
  | _, _, .nil, _ => .nil
  | _, _, .cons a t, c => by
    simp only [List.all_cons, Bool.and_eq_true] at c
    exact .cons (h _ _ c.1 a) (Paired.mapC h t c.2)
theorem RpO.shrink {Γ : Gc} {ξ ι t : List Addr} {H : Hp} {a : Addr} {o : O} (h : RpO Γ ξ (ι ++ t) H a o) (c : closedO ι.length o = true) : RpO Γ ξ ι H a o := by
  cases o with
  | lst l => obtain ⟨vs, h1, h2⟩ := h; exact ⟨vs, h1, h2.shrink (by simpa [closedO] using c)⟩
  | dK l => obtain ⟨vs, h1, h2⟩ := h; exact ⟨vs, h1, Paired.mapC (fun _ _ p z => ⟨z.1, z.2.shrink p⟩) h2 (by simpa only [closedO] using c)⟩
  | dT l => obtain ⟨vs, h1, h2⟩ := h; exact ⟨vs, h1, Paired.mapC (fun _ _ p z => ⟨z.1, z.2.shrink p⟩) h2 (by simpa only [closedO] using c)⟩
  | ins k l => obtain ⟨dx, vs, h1, h2⟩ := h; exact ⟨dx, vs, h1, Paired.mapC (fun _ _ p z => ⟨z.1, z.2.shrink p⟩) h2 (by simpa only [closedO] using c)⟩
theorem RpH.shrink {Γ : Gc} {ξ ι t : List Addr} {H : Hp} {m : Hs} (r : RpH Γ ξ (ι ++ t) H m) (c : (m.take ι.length).all (closedO ι.length) = true) : RpH Γ ξ ι H (m.take ι.length) := by
  have hl := r.len
  rw [List.length_append] at hl
  refine ⟨by rw [List.length_take]; omega, (List.nodup_append.mp r.nd).1, fun i a o h1 h2 => ?_, fun b hb => ⟨(r.res b hb).1, fun z => (r.res b hb).2 (List.mem_append_left _ z)⟩⟩
  have hi := (List.getElem?_eq_some_iff.mp h1).1
  have h3 : m[i]? = some o := by rw [List.getElem?_take_of_lt hi] at h2; exact h2
  refine (r.ob i a o (by rw [List.getElem?_append_left hi]; exact h1) h3).shrink (List.all_eq_true.mp c o (List.mem_of_getElem? h2))
theorem Stp.shrink {ι ι' : List Addr} {H H' : Hp} (s : Stp ι H ι' H') : Stp ι H ι H' := ⟨⟨[], by simp, by simp⟩, s.keep, s.dom⟩
theorem thaw_ok {Γ : Gc} {ξ ι t : List Addr} {H : Hp} {m : Hs} {d d' : D} {v : V} (r : RpH Γ ξ (ι ++ t) H m) (rv : Rp Γ.K ξ (ι ++ t) H d v) (h : thaw m ι.length d = some d') : Rp Γ.K ξ ι H d' v := by
  have other : closedD ι.length d = true → d' = d → Rp Γ.K ξ ι H d' v := fun c e => by subst e; exact rv.shrink c
  cases d with
  | ref i =>
    simp only [thaw] at h
    split at h
    · rename_i hi; cases h; exact other (by simpa [closedD] using hi) rfl
    · rename_i hi
      cases e : m[i]? with
      | none => rw [e] at h; cases h
      | some o =>
        rw [e] at h
        cases o with
        | lst l =>
          simp only at h
          split at h
          · rename_i c
            cases h
            cases rv with
            | @ref _ a q =>
              obtain ⟨vs, h1, h2⟩ := r.ob i a _ q e
              have ha : a ∈ t := by
                rw [List.getElem?_append_right (by omega)] at q
                exact List.mem_of_getElem? q
              refine .lst h1 (fun z => ?_) (fun z => (r.res a z).2 (List.mem_append_right _ ha)) (h2.shrink c)
              exact (List.nodup_append.mp r.nd).2.2 _ z _ ha rfl
          · cases h
        | _ => cases h
  | _ =>
    simp only [thaw] at h
    split at h
    · rename_i c; cases h; exact other c rfl
    · cases h
/-- what leaves the call -/
theorem leave_ok {Γ : Gc} {ξ ι : List Addr} {H : Hp} {md : Mode} {r : RS} {E : XK} {Q : VK} {σ : L2.St}
    (h : wpR Γ ξ (fun cls d _ H => E cls d H) σ ι H (leave md ι.length r) fun ι' H' d _ => ∀ v, Rp Γ.K ξ ι' H' d v → Q v H') :
    wpS Γ ξ (fun cls d _ H => E cls d H) ι H r { nx := fun _ H' => Q .non H', rt := Q } := by
  cases r with
  | st => exact h
  | bk ρ m => exact h.elim
  | ct ρ m => exact h.elim
  | xc x ρ m => exact fun ι' H' σ' cls dd st rp _ rx => h ι' H' cls dd st rp rx
  | nx ρ m =>
    intro ι' H' σ' st rp _
    cases md with
    | keep => exact h ι' H' st rp _ .non
    | drop =>
      simp only [leave] at h
      by_cases c : ((m.take ι.length).all (closedO ι.length) && decide (ι.length ≤ m.length)) = true
      · have h2 : wpR Γ ξ (fun cls d _ H => E cls d H) σ ι H (.ok .non (m.take ι.length)) fun ι' H' d _ => ∀ v, Rp Γ.K ξ ι' H' d v → Q v H' := by
          rw [← if_pos (t := Lw.R.ok D.non (m.take ι.length)) (e := Lw.R.ok D.non m) c]; exact h
        obtain ⟨t, rfl, ht⟩ := st.ex
        rw [Bool.and_eq_true] at c
        exact h2 ι H' st.shrink (rp.shrink c.1) _ .non
      · have h2 : wpR Γ ξ (fun cls d _ H => E cls d H) σ ι H (.ok .non m) fun ι' H' d _ => ∀ v, Rp Γ.K ξ ι' H' d v → Q v H' := by
          rw [← if_neg (t := Lw.R.ok D.non (m.take ι.length)) (e := Lw.R.ok D.non m) c]; exact h
        exact h2 ι' H' st rp _ .non
  | rt d m =>
    intro ι' H' v st rp rv
    cases md with
    | keep => exact h ι' H' st rp _ rv
    | drop =>
      simp only [leave] at h
      by_cases c : ((m.take ι.length).all (closedO ι.length) && decide (ι.length ≤ m.length)) = true
      · cases e : thaw m ι.length d with
        | none =>
          have h2 : wpR Γ ξ (fun cls d _ H => E cls d H) σ ι H (.ok d m) fun ι' H' d _ => ∀ v, Rp Γ.K ξ ι' H' d v → Q v H' := by
            rw [if_pos c, e] at h; exact h
          exact h2 ι' H' st rp _ rv
        | some d' =>
          have h2 : wpR Γ ξ (fun cls d _ H => E cls d H) σ ι H (.ok d' (m.take ι.length)) fun ι' H' d _ => ∀ v, Rp Γ.K ξ ι' H' d v → Q v H' := by
            rw [if_pos c, e] at h; exact h
          obtain ⟨t, rfl, ht⟩ := st.ex
          rw [Bool.and_eq_true] at c
          exact h2 ι H' st.shrink (rp.shrink c.1) v (thaw_ok rp rv e)
      · have h2 : wpR Γ ξ (fun cls d _ H => E cls d H) σ ι H (.ok d m) fun ι' H' d _ => ∀ v, Rp Γ.K ξ ι' H' d v → Q v H' := by
          rw [if_neg c] at h; exact h
        exact h2 ι' H' st rp _ rv

/-! ### the defs -/
/-- nm: the def's own name (F.name: the name by which it is called) -/
structure Dc where
  nm : PySem.Str
  st : Stmt
  N : List PySem.Str
  ps : List PySem.Str
  F : Fn
/-- the look at one def -/
def chkD (gl : List PySem.Str) (fns : List (PySem.Str × Nat)) (d : Dc) : Bool :=
  chkSs ⟨d.N, defScope d.st, gl, fns⟩ d.F.body (defBody d.st) && decide (d.F.arity = d.ps.length) && decide (d.F.slots = d.N.length)
def fnsOf (ds : List Dc) : List (PySem.Str × Nat) := ds.map fun d => (d.F.name, d.F.arity)
/-- what the top has written about a def -/
def DefAt (K : PySem.W.Frag) (mg : PySem.Str → Option Value) (d : Dc) (f : Addr) (fd : FuncData) : Prop :=
  Fun K d.nm d.nm d.st f fd ∧ mg d.F.name = some (.ref f) ∧ Binds K fd d.ps []
structure TopOk (Γ : Gc) (mg : PySem.Str → Option Value) (ds : List Dc) (gl : List PySem.Str) (gs : Nat → Option D) : Prop where
  defs : ∀ (i : Nat) (d : Dc), ds[i]? = some d → ∃ f fd, DefAt Γ.K mg d f fd
  look : ∀ (i : Nat) (d : Dc), ds[i]? = some d → FnScope d.N d.ps (defScope d.st) ∧ chkD gl (fnsOf ds) d = true
  blt : ∀ x ∈ bltN, mg x = none
  gl : ∀ (k : Nat) (x : PySem.Str), gl[k]? = some x → ∃ d u v, gs k = some d ∧ mg x = some u ∧ RelV v u ∧ ∀ ξ ι H, Rp Γ.K ξ ι H d v
theorem start_ok {K : PySem.W.Frag} {ξ ι : List Addr} {H : Hp} {N : List PySem.Str} {ds : List D} {vs : List V} (r : RpAll K ξ ι H ds vs) : RpS K ξ ι H (L2.start N vs) (Lw.start N.length ds) := by
  have hl := r.length
  refine ⟨by simp [L2.start, Lw.start, hl], fun i d e => ?_⟩
  unfold Lw.start at e
  by_cases hi : i < ds.length
  · rw [List.getElem?_append_left (by simpa using hi), List.getElem?_map] at e
    cases e1 : ds[i]? with
    | none => rw [e1] at e; cases e
    | some d1 =>
      rw [e1] at e
      cases e
      obtain ⟨v, h1, h2⟩ := r.get e1
      refine ⟨v, ?_, h2⟩
      unfold L2.start
      rw [List.getElem?_append_left (by simpa [← hl] using hi), List.getElem?_map, h1]; rfl
  · rw [List.getElem?_append_right (by simpa using hi)] at e
    rw [List.getElem?_replicate] at e
    split at e <;> cases e
theorem fnsOf_get {ds : List Dc} {i : Nat} {x : PySem.Str} {a : Nat} (h : (fnsOf ds)[i]? = some (x, a)) : ∃ d, ds[i]? = some d ∧ d.F.name = x ∧ d.F.arity = a := by
  unfold fnsOf at h
  rw [List.getElem?_map] at h
  cases e : ds[i]? with
  | none => rw [e] at h; cases h
  | some d => rw [e] at h; cases h; exact ⟨d, rfl, rfl, rfl⟩
theorem fns_ok {Γ : Gc} {mg : PySem.Str → Option Value} {ds : List Dc} {gl : List PySem.Str} {gs : Nat → Option D} (T : TopOk Γ mg ds gl gs) {P : Program} {w : World} {base : Heap} :
    ∀ (k i : Nat) (d : Dc), ds[i]? = some d → ∀ (f : Addr) (fd : FuncData), DefAt Γ.K mg d f fd → FnG P w Γ.K mg base (L2.CX P w) k f fd d.ps (spF Γ (runFn (ds.map (·.F)) gs k i) d.ps.length)
  | 0, i, d, hd, f, fd, hf => by
    refine ⟨fun vs H Q E q => q.1, fun A outer s H args us vs Q E hg hr he hb hv q => ?_⟩
    obtain ⟨_, ξ, ι, m, xs, _, _, q⟩ := q
    exact q.elim
  | k + 1, i, d, hd, f, fd, hf => by
    obtain ⟨S, ck⟩ := T.look i d hd
    have ck' := ck
    simp only [chkD, Bool.and_eq_true, decide_eq_true_eq] at ck
    obtain ⟨⟨c1, c2⟩, c3⟩ := ck
    refine fnG_of hf.1 S (fun vs H Q E q => q.1) fun cdv A outer s H vs Q E hg hr q => ?_
    obtain ⟨hl, ξ, ι, m, xs, rx, rp, wp⟩ := q
    let C : Calls := ⟨runFn (ds.map (·.F)) gs k, gs⟩
    have gd : Good Γ C ⟨d.N, defScope d.st, gl, fnsOf ds⟩ k (fun cls d _ H => E cls d H) (cxOf (L2.CX P w) P w Γ.K mg base d.N d.nm (defScope d.st) f cdv A outer s H E) := {
      K := rfl
      N := rfl
      nd := S.nd
      names := fun x k e => ⟨k, e, .inl rfl⟩
      fn := fun x e => rfl
      calm := rfl
      room := hr
      gd := hg
      tk := takes_of rfl rfl rfl rfl
      po := passes_of rfl
      blt := T.blt
      gl := T.gl
      cal := fun g x a e => by
        obtain ⟨dg, e1, e2, e3⟩ := fnsOf_get e
        obtain ⟨ag, fg, hg⟩ := T.defs g dg e1
        have cg := (T.look g dg e1).2
        simp only [chkD, Bool.and_eq_true, decide_eq_true_eq] at cg
        have ha : dg.ps.length = a := by rw [← e3, cg.1.2]
        refine ⟨ag, fg, dg.ps, ?_, hg.1.kp, hg.2.2, ha, ?_⟩
        · rw [← e2]; exact hg.2.1
        · rw [← ha]; exact fns_ok T k g dg e1 ag fg hg
      arity := fun g xs m x a e hne => by
        obtain ⟨dg, e1, e2, e3⟩ := fnsOf_get e
        show runFn (ds.map (·.F)) gs k g xs m = .stuck
        cases k with
        | zero => rfl
        | succ k =>
          unfold runFn
          rw [List.getElem?_map, e1]
          show (if xs.length = dg.F.arity then _ else _) = _
          rw [if_neg (by rw [e3]; exact hne)] }
    refine ⟨_, sndSs d.F.body (defBody d.st) c1 { toGood := gd, kind := S.kind }, ξ, ι, _, m, start_ok rx, rp, ?_⟩
    unfold runFn at wp
    rw [List.getElem?_map, hd] at wp
    simp only [Option.map_some] at wp
    rw [if_pos (by rw [c2, ← hl, rx.length]), ← rp.len, c3] at wp
    exact leave_ok wp
end Lw

set_option Elab.async false
set_option linter.all false
set_option maxRecDepth 100000
/-! The law: from what the small language says of it to the walk. -/
namespace Lw
open PySem PySem.Spec PyProof.Rows L2

def DefsOk (K : PySem.W.Frag) (mg : PySem.Str → Option Value) : List Dc → Prop
  | [] => True
  | d :: r => (∃ f fd, DefAt K mg d f fd) ∧ DefsOk K mg r
def LookOk (gl : List PySem.Str) (fns : List (PySem.Str × Nat)) : List Dc → Prop
  | [] => True
  | d :: r => (FnScope d.N d.ps (defScope d.st) ∧ chkD gl fns d = true) ∧ LookOk gl fns r
def GlOk (Γ : Gc) (mg : PySem.Str → Option Value) : List PySem.Str → List D → Prop
  | [], [] => True
  | x :: r, d :: s => (∃ u v, mg x = some u ∧ RelV v u ∧ ∀ ξ ι H, Rp Γ.K ξ ι H d v) ∧ GlOk Γ mg r s
  | _, _ => False
def NoneOk (mg : PySem.Str → Option Value) : List PySem.Str → Prop
  | [] => True
  | x :: r => mg x = none ∧ NoneOk mg r
theorem defsOk_get {K : PySem.W.Frag} {mg : PySem.Str → Option Value} : ∀ {ds : List Dc}, DefsOk K mg ds → ∀ (i : Nat) (d : Dc), ds[i]? = some d → ∃ f fd, DefAt K mg d f fd
  | [], _, _, _, h => by simp at h
  | d :: r, h, 0, _, e => by simp at e; subst e; exact h.1
  | d :: r, h, i + 1, _, e => defsOk_get h.2 i _ (by simpa using e)
theorem lookOk_get {gl : List PySem.Str} {fns : List (PySem.Str × Nat)} : ∀ {ds : List Dc}, LookOk gl fns ds → ∀ (i : Nat) (d : Dc), ds[i]? = some d → FnScope d.N d.ps (defScope d.st) ∧ chkD gl fns d = true
  | [], _, _, _, h => by simp at h
  | d :: r, h, 0, _, e => by simp at e; subst e; exact h.1
  | d :: r, h, i + 1, _, e => lookOk_get h.2 i _ (by simpa using e)
theorem glOk_get {Γ : Gc} {mg : PySem.Str → Option Value} : ∀ {gl : List PySem.Str} {gs : List D}, GlOk Γ mg gl gs → ∀ (k : Nat) (x : PySem.Str), gl[k]? = some x → ∃ d u v, gs[k]? = some d ∧ mg x = some u ∧ RelV v u ∧ ∀ ξ ι H, Rp Γ.K ξ ι H d v
  | [], _, _, _, _, h => by simp at h
  | x :: r, [], h, _, _, _ => h.elim
  | x :: r, d :: s, h, 0, _, e => by simp at e; subst e; obtain ⟨u, v, h1, h2, h3⟩ := h.1; exact ⟨d, u, v, rfl, h1, h2, h3⟩
  | x :: r, d :: s, h, i + 1, y, e => glOk_get h.2 i y (by simpa using e)
theorem noneOk_get {mg : PySem.Str → Option Value} : ∀ {l : List PySem.Str}, NoneOk mg l → ∀ x ∈ l, mg x = none
  | [], _, _, h => by simp at h
  | y :: r, h, x, hx => by
    rcases List.mem_cons.mp hx with rfl | hx
    · exact h.1
    · exact noneOk_get h.2 x hx
theorem top_ok {Γ : Gc} {mg : PySem.Str → Option Value} {ds : List Dc} {gl : List PySem.Str} {gs : List D} (h1 : DefsOk Γ.K mg ds) (h2 : LookOk gl (fnsOf ds) ds) (h3 : NoneOk mg bltN) (h4 : GlOk Γ mg gl gs) : TopOk Γ mg ds gl (gs[·]?) :=
  ⟨defsOk_get h1, lookOk_get h2, noneOk_get h3, glOk_get h4⟩
theorem def_mk {K : PySem.W.Frag} {h : Heap} {mg : PySem.Str → Option Value} {d : Dc} {f : Addr} {oc : Value} {od an : Option Addr} {osl : Array (Option Value)} {kV doc pm cdv ct : Value} (X : K.In h) (G : h.Ns mainGlobals mg)
    (a : PySem.W.nsIn K mainGlobals d.F.name = some (some (.ref f)))
    (l : K.lookup f = some ⟨oc, od, .func (PySem.W.fnOf d.nm d.nm (defArgs d.st) (defBody d.st) (defScope d.st) .none kV doc pm an cdv ct), osl⟩)
    (c : PySem.W.codeIn K cdv d.nm = true) (k : PySem.W.keepIn K (.ref f) = true)
    (b : ∀ (kV doc pm : Value) (an : Option Addr) (cdv ct : Value) (us : List Value), us.length = d.ps.length → bindArgs (PySem.W.fnOf d.nm d.nm (defArgs d.st) (defBody d.st) (defScope d.st) .none kV doc pm an cdv ct) ⟨us, []⟩ = pure (d.ps.zip us)) :
    ∃ f fd, DefAt K mg d f fd := by
  have F := fun_mk (st := d.st) l c k
  exact ⟨_, _, F, PySem.W.mg_of X G a, F.binds b⟩
theorem sct_of {K : PySem.W.Frag} {H : Hp} {a : Addr} {ns : List Int} (ho : Only H) (h : SqL K H a (ns.map V.int)) : SqS K [] H a (ns.map V.int) := by
  rcases h with h | h
  · rcases h with h | ⟨o, h⟩
    · rcases ho a with z | ⟨o, xs, z⟩ <;> rw [z] at h <;> cases h
    · exact .inl ⟨⟨o, h⟩, by simp⟩
  · exact .inr h
theorem rpIntL {K : PySem.W.Frag} {ξ ι : List Addr} {H : Hp} : ∀ ns : List Int, RpAll K ξ ι H (ns.map D.int) (ns.map V.int)
  | [] => .nil
  | _ :: l => .cons (.int _) (rpIntL l)
/-- the law's promise -/
def spLaw (K : PySem.W.Frag) : Sp := fun vs H Q _ => ∃ (a : Addr) (ns : List Int), vs = [.ref a] ∧ ns.length ≤ 63 ∧ Only H ∧ SqL K H a (ns.map V.int) ∧ ∀ H', Q (.bl true) H'
theorem walk_lw {l : PySem.W.OpenLaw} {fuel : Nat} {q : Program} {loose : List PySem.Str} {XP : (PySem.Str → Option Value) → Heap → Prop} {YP : World → Heap → Prop} {d : DefRec} {K : Params → PySem.W.Frag} {x : PySem.Str} {ds : List Dc} {gl : List PySem.Str} {gs : List D} {iL : Nat} {dL : Dc}
    (hn : l.most = some 63) (hdf : d.params.defaults = []) (hr : Room fuel callerA) (hY : ∀ (w : World) (h : Heap), YP w h → (K w.params).In h)
    (hT : ∀ (w : World) (mg : PySem.Str → Option Value) (h : Heap), (K w.params).In h → h.Ns mainGlobals mg → ∃ Γ : Gc, Γ.K = K w.params ∧ TopOk Γ mg ds gl (gs[·]?))
    (hL : ds[iL]? = some dL) (hname : dL.F.name = d.name) (hps : dL.ps = [x])
    (hb : ∀ (kV doc pm : Value) (an : Option Addr) (cdv ct u : Value), bindArgs (PySem.W.fnOf dL.nm dL.nm (defArgs dL.st) (defBody dL.st) (defScope dL.st) .none kV doc pm an cdv ct) ⟨[u], []⟩ = pure [(x, u)])
    (plain : ∀ ns : List Int, ns.length ≤ 63 → ∃ m, runFn (ds.map (·.F)) (gs[·]?) fuel iL [.sct (ns.map .int)] [] = .ok (.bl true) m) :
    PySem.W.WalkO q loose XP YP l.row.toRowW d [] (fun f vs => PySem.call f vs) := by
  refine walkG (lv := fuel) (x := x) (pm := fun w => spLaw (K w.params)) hn hdf hr hY ?_ ?_
  · intro w mg fa h KX G hmg
    obtain ⟨Γ, eK, T⟩ := hT w mg h KX G
    obtain ⟨f, fd, hf⟩ := T.defs iL dL hL
    have ef : f = fa := by
      have := hf.2.1
      rw [hname, hmg] at this
      exact (Value.ref.inj (Option.some.inj this)).symm
    subst ef
    refine ⟨fd, fun s u => ?_, fun base _ _ => ?_⟩
    · obtain ⟨oc, od, kV, doc, pm, an, cdv, ct, osl, rfl, lk, hcd⟩ := hf.1.ex
      exact .of_eq (hb kV doc pm an cdv ct u)
    · have := fns_ok T (P := l.prog) (w := w) (base := base) fuel iL dL hL f fd hf
      rw [eK, hps] at this
      refine this.imp (fun vs H Q E z => by obtain ⟨a, ns, rfl, _⟩ := z; rfl) fun vs H Q E z => ?_
      obtain ⟨a, ns, rfl, hl, ho, hS, q⟩ := z
      obtain ⟨m, e⟩ := plain ns hl
      refine ⟨rfl, [], [], [], [.sct (ns.map .int)], .cons (.sct (sct_of ho (by rw [eK]; exact hS)) (rpIntL ns)) .nil, ⟨rfl, .nil, fun i a o h => by simp at h, fun b hb => by simp at hb⟩, ?_⟩
      rw [e]
      intro ι' H' st rp v rv
      rw [rv.bl_inv]
      exact q H'
  · intro w H a ns hl ho hS
    exact ⟨a, ns, rfl, hl, ho, hS, fun _ => rfl⟩
end Lw

set_option Elab.async false
set_option linter.all false
set_option maxRecDepth 100000
/-! Plain facts about the small language: equality and membership of data, what leaves a call, loops. -/
namespace Lw
open PySem (Str PyData)

def ofI (l : List Int) : List D := l.map D.int
@[simp] theorem ints_length (l : List Int) : (ofI l).length = l.length := by simp [ofI]
@[simp] theorem ints_nil : ofI [] = [] := rfl
@[simp] theorem ints_cons (x : Int) (l : List Int) : ofI (x :: l) = .int x :: ofI l := rfl
theorem ints_append (l l' : List Int) : ofI (l ++ l') = ofI l ++ ofI l' := by simp [ofI]
theorem dpAll_ints (g : Nat → Option PyData) : ∀ l : List Int, dpAll g (ofI l) = some (l.map PyData.int)
  | [] => rfl
  | x :: l => by rw [ints_cons, dpAll, dpAll_ints g l]; rfl
theorem lay_ints : ∀ l : List Int, PyData.canLayAll0 (l.map PyData.int) = true
  | [] => by simp [PyData.canLayAll0]
  | x :: l => by simp [PyData.canLayAll0, PyData.canLay0, lay_ints l]
theorem depth_ints : ∀ l : List Int, PyData.depthAll (l.map PyData.int) = 0
  | [] => by simp [PyData.depthAll]
  | x :: l => by simp [PyData.depthAll, PyData.depth, depth_ints l]
theorem eqv_ints : ∀ l l' : List Int, PyData.eqvAll (l.map PyData.int) (l'.map PyData.int) = decide (l = l')
  | [], [] => by simp [PyData.eqvAll]
  | [], _ :: _ => by simp [PyData.eqvAll]
  | _ :: _, [] => by simp [PyData.eqvAll]
  | x :: l, y :: l' => by simp [PyData.eqvAll, PyData.eqv, eqv_ints l l', Bool.beq_eq_decide_eq]
theorem shaped_ints (l : List Int) : PySem.SeqAt.shaped (.list (l.map PyData.int)) = true := by
  simp [PySem.SeqAt.shaped, PyData.canLay0, PyData.depth, lay_ints, depth_ints]
theorem shaped_int (i : Int) : PySem.SeqAt.shaped (.int i) = true := by simp [PySem.SeqAt.shaped, PyData.canLay0, PyData.depth]
/-- d is a list of ofI -/
def isInts (m : Hs) (d : D) (l : List Int) : Prop := dp m d = some (.list (l.map PyData.int))
theorem isInts_lst (m : Hs) (l : List Int) : isInts m (.lst (ofI l)) l := by simp [isInts, dp, dpW, dpAll_ints]
theorem isInts_sct (m : Hs) (l : List Int) : isInts m (.sct (ofI l)) l := by simp [isInts, dp, dpW, dpAll_ints]
theorem isInts_ref {m : Hs} {n : Nat} {l : List Int} (h : m[n]? = some (.lst (ofI l))) : isInts m (.ref n) l := by simp [isInts, dp, dpW, drf, h, dpAll_ints]
theorem isInts_nil (m : Hs) : isInts m (.lst []) [] := isInts_lst m []
theorem eqD_ints {m : Hs} {a b : D} {l l' : List Int} (h : isInts m a l) (h' : isInts m b l') : eqD m a b = some (decide (l = l')) := by
  unfold isInts at h h'
  simp only [eqD, h, h', shaped_ints, PyData.eqv, eqv_ints]; rfl
theorem eqD_int (m : Hs) (i j : Int) : eqD m (.int i) (.int j) = some (decide (i = j)) := by
  simp only [eqD, dp, dpW, shaped_int, PyData.eqv]
  simp [Bool.beq_eq_decide_eq]
theorem eqD_bl (m : Hs) (i j : Bool) : eqD m (.bl i) (.bl j) = some (decide (i = j)) := by
  simp only [eqD, dp, dpW, PyData.eqv]
  cases i <;> cases j <;> rfl
theorem any_ints (x : Int) : ∀ l : List Int, ((l.map PyData.int).any fun z => PyData.eqv z (.int x)) = decide (x ∈ l)
  | [] => by simp
  | y :: l => by
    rw [List.map_cons, List.any_cons, any_ints x l, PyData.eqv]
    simp [Bool.beq_eq_decide_eq, eq_comm]
theorem hasD_lst (m : Hs) (x : Int) (l : List Int) : hasD m (.int x) (.lst (ofI l)) = some (decide (x ∈ l)) := by
  have h := any_ints x l
  simp only [hasD, dp, dpW, dpAll_ints, shaped_ints, shaped_int, Option.map_some, Bool.and_self, if_true, h]
/-- where nothing was made -/
theorem leave_same (md : Mode) (m : Hs) (d : D) : leave md m.length (.rt d m) = .ok d m := by
  cases md with
  | keep => rfl
  | drop =>
    simp only [leave, List.take_length]
    split
    · cases h : thaw m m.length d with
      | none => rfl
      | some d' =>
        have : d' = d := by
          cases d <;> simp only [thaw] at h <;> (try split at h) <;> first | (cases h; rfl) | cases h | skip
          rename_i i hi
          rw [List.getElem?_eq_none (by omega)] at h
          cases h
        rw [this]
    · rfl
theorem leave_nx (md : Mode) (m : Hs) (ρ : Env) : leave md m.length (.nx ρ m) = .ok .non m := by
  cases md with
  | keep => rfl
  | drop =>
    simp only [leave, List.take_length]
    split <;> rfl
/-- the objects that stood ahead are closed: the new ones go -/
theorem leave_drop {m w : Hs} {d d' : D} (hc : m.all (closedO m.length) = true) (h : thaw (m ++ w) m.length d = some d') : leave .drop m.length (.rt d (m ++ w)) = .ok d' m := by
  simp [leave, hc, h]
theorem forGo_nil (f : D → Env → Hs → RS) (ρ : Env) (m : Hs) : forGo f [] ρ m = .nx ρ m := rfl
/-- a loop by what stays true: the end is reached, or it is left with d -/
theorem forGo_inv {f : D → Env → Hs → RS} (I : Nat → Env → Hs → Prop) : ∀ (xs : List D) (n : Nat) (ρ : Env) (m : Hs), I n ρ m → (∀ i x ρ m, xs[i]? = some x → I (n + i) ρ m → ∃ ρ' m', f x ρ m = .nx ρ' m' ∧ I (n + i + 1) ρ' m') → ∃ ρ' m', forGo f xs ρ m = .nx ρ' m' ∧ I (n + xs.length) ρ' m'
  | [], n, ρ, m, h, _ => ⟨ρ, m, rfl, h⟩
  | x :: xs, n, ρ, m, h, k => by
    obtain ⟨ρ1, m1, e1, h1⟩ := k 0 x ρ m rfl h
    obtain ⟨ρ2, m2, e2, h2⟩ := forGo_inv I xs (n + 1) ρ1 m1 (by simpa using h1) fun i y ρ m hy hI => by
      have := k (i + 1) y ρ m (by simpa using hy) (by have e : n + (i + 1) = n + 1 + i := by omega
                                                      rw [e]; exact hI)
      have e : n + (i + 1) + 1 = n + 1 + i + 1 := by omega
      rw [e] at this
      exact this
    refine ⟨ρ2, m2, ?_, ?_⟩
    · simp only [forGo, e1, e2]
    · have e : n + (x :: xs).length = n + 1 + xs.length := by simp; omega
      rw [e]; exact h2
theorem rngL_zero (a : Int) : rngL a 0 = [] := rfl
theorem ixN_zero {n : Nat} (h : 0 < n) : L2.ixN n 0 = some 0 := by simp [L2.ixN]; omega
end Lw

set_option Elab.async false
set_option linter.all false
set_option maxRecDepth 100000
/-! A logic for the small language: what must hold so that a computation ends well and Q holds of it. -/
namespace Lw
open PySem (Str PyData)

def wok {α : Type} (r : R α) (Q : α → Hs → Prop) : Prop := match r with
  | .ok a m => Q a m
  | _ => False
/-- N: on to the next; T: the def's end -/
def wS (r : RS) (N : Env → Hs → Prop) (T : D → Hs → Prop) : Prop := match r with
  | .nx ρ m => N ρ m
  | .rt d m => T d m
  | _ => False
/-- a truth is taken apart -/
def wB (x : D) (A B : Prop) : Prop := ∃ b, x = .bl b ∧ (b = true → A) ∧ (b = false → B)
theorem wB_bl (b : Bool) (A B : Prop) : wB (.bl b) A B = ((b = true → A) ∧ (b = false → B)) := by
  simp only [wB, D.bl.injEq, exists_eq_left']
section
variable {α β : Type} {C : Calls} {ρ : Env} {m : Hs} {Q : D → Hs → Prop}
theorem wok_mono {r : R α} {P Q : α → Hs → Prop} (h : wok r P) (k : ∀ a m, P a m → Q a m) : wok r Q := by
  cases r with
  | ok a m => exact k a m h
  | exc x m => exact h
  | stuck => exact h
theorem wS_mono {r : RS} {N N' : Env → Hs → Prop} {T T' : D → Hs → Prop} (h : wS r N T) (k : ∀ ρ m, N ρ m → N' ρ m) (k' : ∀ d m, T d m → T' d m) : wS r N' T' := by
  cases r with
  | nx ρ m => exact k ρ m h
  | rt d m => exact k' d m h
  | _ => exact h
theorem wok_ok {Q : α → Hs → Prop} (a : α) (m : Hs) : wok (.ok a m) Q = Q a m := rfl
theorem wok_bind (r : R α) (f : α → Hs → R β) (Q : β → Hs → Prop) : wok (r.bind f) Q = wok r fun a m => wok (f a m) Q := by
  cases r <;> rfl
theorem wok_noX {r : R α} {Q : α → Hs → Prop} : wok r.noX Q = wok r Q := by
  cases r <;> rfl
theorem wok_of {Q : α → Hs → Prop} (o : Option α) (m : Hs) : wok (R.of o m) Q = ∃ a, o = some a ∧ Q a m := by
  cases o with
  | none => exact propext ⟨fun h => h.elim, fun ⟨_, h, _⟩ => nomatch h⟩
  | some a => exact propext ⟨fun h => ⟨a, rfl, h⟩, fun ⟨b, h, q⟩ => by cases h; exact q⟩
theorem wS_thn (r : R α) (f : α → Hs → RS) (N : Env → Hs → Prop) (T : D → Hs → Prop) : wS (r.thn ρ f) N T = wok r fun a m => wS (f a m) N T := by
  cases r <;> rfl
theorem wok_cst {d : D} : wok (evE C (.cst d) ρ m) Q = Q d m := rfl
theorem wok_glob {k : Nat} : wok (evE C (.glob k) ρ m) Q = ∃ d, C.gs k = some d ∧ Q d m := by simp only [evE, wok_of]
theorem wok_var {i : Nat} : wok (evE C (.var i) ρ m) Q = ∃ d, ρ[i]? = some (some d) ∧ Q d m := by
  simp only [evE]
  split
  · rename_i d h; rw [h]; exact propext ⟨fun q => ⟨d, rfl, q⟩, fun ⟨_, e, q⟩ => by cases e; exact q⟩
  · rename_i h
    exact propext ⟨fun q => q.elim, fun ⟨d, e, _⟩ => (h d e).elim⟩
theorem wok_tup {es : Es} : wok (evE C (.tup es) ρ m) Q = wok (evEs C es ρ m) fun ds m => ds.length ≤ PySem.sizeLine ∧ Q (.tup ds) m := by
  simp only [evE, wok_bind]
  congr 1; funext ds m
  split
  · rename_i h; exact propext ⟨fun q => ⟨h, q⟩, fun q => q.2⟩
  · rename_i h; exact propext ⟨fun q => q.elim, fun q => (h q.1).elim⟩
theorem wok_fz {l : L} : wok (evE C (.fz l) ρ m) Q = wok (evL C l ρ m) fun ds m => Q (.lst ds) m := by simp only [evE, wok_bind, wok_ok]
theorem wok_alc {l : L} : wok (evE C (.alc l) ρ m) Q = wok (evL C l ρ m) fun ds m => Q (.ref m.length) (m ++ [.lst ds]) := by simp only [evE, wok_bind, wok_ok]
theorem wok_bin {op : Bop} {a b : E} : wok (evE C (.bin op a b) ρ m) Q = wok (evE C a ρ m) fun x m => wok (evE C b ρ m) fun y m => ∃ z, binD m op x y = some z ∧ Q z m := by simp only [evE, wok_bind, wok_of]
theorem wok_neg {a : E} : wok (evE C (.neg a) ρ m) Q = wok (evE C a ρ m) fun x m => ∃ i, intD x = some i ∧ Q (.int (-i)) m := by
  simp only [evE, wok_bind, wok_of]
  congr 1; funext x m
  cases intD x with
  | none => simp
  | some i => simp
theorem wok_cmp {op : Cop} {a b : E} : wok (evE C (.cmp op a b) ρ m) Q = wok (evE C a ρ m) fun x m => wok (evE C b ρ m) fun y m => ∃ z, cmpD m op x y = some z ∧ Q (.bl z) m := by
  simp only [evE, wok_bind, wok_of]
  congr 1; funext x m
  congr 1; funext y m
  cases cmpD m op x y with
  | none => simp
  | some i => simp
theorem wok_chain {o1 o2 : Cop} {a b c : E} : wok (evE C (.chain o1 o2 a b c) ρ m) Q = wok (evE C a ρ m) fun x m => wok (evE C b ρ m) fun y m => ∃ z, cmpD m o1 x y = some z ∧ (z = true → wok (evE C c ρ m) fun w m => ∃ z, cmpD m o2 y w = some z ∧ Q (.bl z) m) ∧ (z = false → Q (.bl false) m) := by
  simp only [evE, wok_bind]
  congr 1; funext x m
  congr 1; funext y m
  cases cmpD m o1 x y with
  | none => simp [wok]
  | some i =>
    cases i with
    | false => simp [wok]
    | true =>
      simp only [wok_bind, wok_of, Option.some.injEq, exists_eq_left', true_implies, reduceCtorEq, false_implies, and_true, Bool.true_eq_false]
      congr 1; funext w m
      cases cmpD m o2 y w with
      | none => simp
      | some i => simp
theorem wok_isN {ng : Bool} {a : E} : wok (evE C (.isN ng a) ρ m) Q = wok (evE C a ρ m) fun x m => Q (.bl (if ng then !isNonD x else isNonD x)) m := by simp only [evE, wok_bind, wok_ok]
theorem wok_isB {ng : Bool} {a b : E} : wok (evE C (.isB ng a b) ρ m) Q = wok (evE C a ρ m) fun x m => wok (evE C b ρ m) fun y m => ∃ u v, x = .bl u ∧ y = .bl v ∧ Q (.bl (if ng then !decide (u = v) else decide (u = v))) m := by
  simp only [evE, wok_bind]
  congr 1; funext x m
  congr 1; funext y m
  cases x <;> cases y <;> simp [wok]
theorem wok_and {a : E} {es : Es} : wok (evE C (.and a es) ρ m) Q = wok (evE C a ρ m) fun x m => wB x (wok (evAnd C es ρ m) Q) (Q (.bl false) m) := by
  simp only [evE, wok_bind]
  congr 1; funext x m
  cases x <;> try (simp [wok, wB])
  rename_i b; cases b <;> simp [wok]
theorem wok_or {a : E} {es : Es} : wok (evE C (.or a es) ρ m) Q = wok (evE C a ρ m) fun x m => wB x (Q (.bl true) m) (wok (evOr C es ρ m) Q) := by
  simp only [evE, wok_bind]
  congr 1; funext x m
  cases x <;> try (simp [wok, wB])
  rename_i b; cases b <;> simp [wok]
theorem wok_and1 {e : E} : wok (evAnd C (.cons e .nil) ρ m) Q = wok (evE C e ρ m) fun x m => ∃ b, x = .bl b ∧ Q (.bl b) m := by
  simp only [evAnd, wok_bind]
  congr 1; funext x m
  cases x <;> simp [wok]
theorem wok_or1 {e : E} : wok (evOr C (.cons e .nil) ρ m) Q = wok (evE C e ρ m) fun x m => ∃ b, x = .bl b ∧ Q (.bl b) m := by
  simp only [evOr, wok_bind]
  congr 1; funext x m
  cases x <;> simp [wok]
theorem wok_and2 {e f : E} {es : Es} : wok (evAnd C (.cons e (.cons f es)) ρ m) Q = wok (evE C e ρ m) fun x m => wB x (wok (evAnd C (.cons f es) ρ m) Q) (Q (.bl false) m) := by
  conv => lhs; unfold evAnd
  simp only [wok_bind]
  congr 1; funext x m
  cases x <;> try (simp [wok, wB])
  rename_i b; cases b <;> simp [wok]
theorem wok_or2 {e f : E} {es : Es} : wok (evOr C (.cons e (.cons f es)) ρ m) Q = wok (evE C e ρ m) fun x m => wB x (Q (.bl true) m) (wok (evOr C (.cons f es) ρ m) Q) := by
  conv => lhs; unfold evOr
  simp only [wok_bind]
  congr 1; funext x m
  cases x <;> try (simp [wok, wB])
  rename_i b; cases b <;> simp [wok]
theorem wok_not {a : E} : wok (evE C (.not a) ρ m) Q = wok (evE C a ρ m) fun x m => ∃ b, x = .bl b ∧ Q (.bl (!b)) m := by
  simp only [evE, wok_bind]
  congr 1; funext x m
  cases x <;> simp [wok]
theorem wok_ife {c a b : E} : wok (evE C (.ife c a b) ρ m) Q = wok (evE C c ρ m) fun x m => wB x (wok (evE C a ρ m) Q) (wok (evE C b ρ m) Q) := by
  simp only [evE, wok_bind]
  congr 1; funext x m
  cases x <;> try (simp [wok, wB])
  rename_i b; cases b <;> simp [wok]
theorem wok_idx {a b : E} : wok (evE C (.idx a b) ρ m) Q = wok (evE C a ρ m) fun x m => wok (evE C b ρ m) fun y m => ∃ z, idxD m x y = some z ∧ Q z m := by simp only [evE, wok_bind, wok_of]
theorem wok_slc {a : E} {lo hi : Oe} : wok (evE C (.slc a lo hi) ρ m) Q = wok (evE C a ρ m) fun x m => wok (evOe C lo ρ m) fun l m => wok (evOe C hi ρ m) fun h m => ∃ z, slcD m x l h = some z ∧ Q z m := by simp only [evE, wok_bind, wok_of]
theorem wok_call {f : Nat} {es : Es} : wok (evE C (.call f es) ρ m) Q = wok (evEs C es ρ m) fun ds m => wok (C.fn f ds m) Q := by simp only [evE, wok_bind]
theorem wok_bi {b : Bi} {es : Es} : wok (evE C (.bi b es) ρ m) Q = wok (evEs C es ρ m) fun ds m => ∃ z, biD m b ds = some z ∧ Q z m := by simp only [evE, wok_bind, wok_of]
theorem wok_isi {t : Ty} {a : E} : wok (evE C (.isi t a) ρ m) Q = wok (evE C a ρ m) fun x m => ∃ z, isiD m t x = some z ∧ Q (.bl z) m := by
  simp only [evE, wok_bind, wok_of]
  congr 1; funext x m
  cases isiD m t x with
  | none => simp
  | some i => simp
theorem wok_append {o e : E} : wok (evE C (.append o e) ρ m) Q = wok (evE C o ρ m) fun x m => ∃ n l0, x = .ref n ∧ m[n]? = some (.lst l0) ∧ wok (evE C e ρ m) fun y m => ∃ l, m[n]? = some (.lst l) ∧ l.length < PySem.sizeLine ∧ Q .non (m.set n (.lst (l ++ [y]))) := by
  simp only [evE, wok_bind]
  congr 1; funext x m
  apply propext
  constructor
  · intro h
    cases x <;> try (exact h.elim)
    rename_i n
    cases e1 : m[n]? with
    | none => simp [e1, wok] at h
    | some o =>
      cases o <;> try (simp [e1, wok] at h; done)
      refine ⟨n, _, rfl, e1, ?_⟩
      simp only [e1, wok_bind] at h
      refine wok_mono h fun y m1 h => ?_
      cases e2 : m1[n]? with
      | none => simp [e2, wok] at h
      | some o =>
        cases o <;> try (simp [e2, wok] at h; done)
        rename_i l
        by_cases hl : l.length < PySem.sizeLine
        · simp only [e2, if_pos hl] at h; exact ⟨l, rfl, hl, h⟩
        · simp only [e2, if_neg hl] at h; exact h.elim
  · rintro ⟨n, l0, rfl, e1, h⟩
    simp only [e1, wok_bind]
    refine wok_mono h fun y m1 ⟨l, e2, hl, q⟩ => ?_
    simp only [e2, if_pos hl]
    exact q
theorem wok_dsp {ks : Ks} : wok (evE C (.dsp ks) ρ m) Q = wok (evKs C ks ρ m) fun kvs m => Q (.ref m.length) (m ++ [.dK (mergeL [] kvs)]) := by simp only [evE, wok_bind, wok_ok]
theorem wok_dnw {tk : Bool} : wok (evE C (.dnw tk) ρ m) Q = Q (.ref m.length) (m ++ [if tk then .dT [] else .dK []]) := by simp only [evE, wok_ok]
theorem wok_m1 {k : M1} {o e : E} : wok (evE C (.m1 k o e) ρ m) Q = wok (evE C o ρ m) fun x m => rcv m k x = true ∧ wok (evE C e ρ m) fun y m => ∃ z, m1D m k x y = some z ∧ Q z m := by
  simp only [evE, wok_bind]
  congr 1; funext x m
  cases h : rcv m k x with
  | false => simp [wok]
  | true => simp [wok_bind, wok_of]
theorem wok_es0 {Q : List D → Hs → Prop} : wok (evEs C .nil ρ m) Q = Q [] m := rfl
theorem wok_es1 {Q : List D → Hs → Prop} {e : E} {es : Es} : wok (evEs C (.cons e es) ρ m) Q = wok (evE C e ρ m) fun x m => wok (evEs C es ρ m) fun xs m => Q (x :: xs) m := by simp only [evEs, wok_bind, wok_ok]
theorem wok_ks0 {Q : List (Key × D) → Hs → Prop} : wok (evKs C .nil ρ m) Q = Q [] m := rfl
theorem wok_ks1 {Q : List (Key × D) → Hs → Prop} {k : Str} {e : E} {es : Ks} : wok (evKs C (.cons k e es) ρ m) Q = wok (evE C e ρ m) fun x m => wok (evKs C es ρ m) fun xs m => Q ((.inr k, x) :: xs) m := by simp only [evKs, wok_bind, wok_ok]
theorem wok_no {Q : Option Int → Hs → Prop} : wok (evOe C .no ρ m) Q = Q none m := rfl
theorem wok_so {Q : Option Int → Hs → Prop} {e : E} : wok (evOe C (.so e) ρ m) Q = wok (evE C e ρ m) fun x m => ∃ i, intD x = some i ∧ Q (some i) m := by
  simp only [evOe, wok_bind, wok_of]
  congr 1; funext x m
  cases intD x with
  | none => simp
  | some i => simp
theorem wok_disp {Q : List D → Hs → Prop} {es : Es} : wok (evL C (.disp es) ρ m) Q = wok (evEs C es ρ m) fun ds m => ds.length ≤ PySem.sizeLine ∧ Q ds m := by
  simp only [evL, wok_bind]
  congr 1; funext ds m
  split
  · rename_i h; exact propext ⟨fun q => ⟨h, q⟩, fun q => q.2⟩
  · rename_i h; exact propext ⟨fun q => q.elim, fun q => (h q.1).elim⟩
theorem wok_lstOf {Q : List D → Hs → Prop} {e : E} : wok (evL C (.lstOf e) ρ m) Q = wok (evE C e ρ m) fun x m => ∃ l, seqD m x = some l ∧ Q l m := by simp only [evL, wok_bind, wok_of]
theorem wok_rng3 {Q : List D → Hs → Prop} {a b c : E} : wok (evL C (.rng3 a b c) ρ m) Q = wok (evE C a ρ m) fun x m => wok (evE C b ρ m) fun y m => wok (evE C c ρ m) fun z m => ∃ i j k l, x = .int i ∧ y = .int j ∧ z = .int k ∧ rng3D i j k = some l ∧ Q l m := by
  simp only [evL, wok_bind]
  congr 1; funext x m
  congr 1; funext y m
  congr 1; funext z m
  cases x <;> cases y <;> cases z <;> simp [wok_of] <;> simp [wok]
theorem wok_seq {Q : List D → Hs → Prop} {e : E} : wok (evI C (.seq e) ρ m) Q = wok (evE C e ρ m) fun x m => ∃ l, (match x with | .tup l => some l | .lst l => some l | .sct l => some l | .ktp l => some l | .str s => some (s.cps.toList.map fun c => .str ⟨#[c]⟩) | _ => none) = some l ∧ Q l m := by
  simp only [evI, wok_bind]
  congr 1; funext x m
  cases x <;> simp [wok]
theorem wok_rng1 {Q : List D → Hs → Prop} {a : E} : wok (evI C (.rng1 a) ρ m) Q = wok (evE C a ρ m) fun x m => ∃ i, x = .int i ∧ small i = true ∧ Q (rngL 0 i.toNat) m := by
  simp only [evI, wok_bind]
  congr 1; funext x m
  cases x <;> try (simp [wok])
  rename_i i
  by_cases h : small i = true <;> simp [h]
theorem wok_rng2 {Q : List D → Hs → Prop} {a b : E} : wok (evI C (.rng2 a b) ρ m) Q = wok (evE C a ρ m) fun x m => wok (evE C b ρ m) fun y m => ∃ i j, x = .int i ∧ y = .int j ∧ small i = true ∧ small j = true ∧ Q (rngL i (j - i).toNat) m := by
  simp only [evI, wok_bind]
  congr 1; funext x m
  congr 1; funext y m
  cases x <;> cases y <;> try (simp [wok])
  rename_i i j
  by_cases h : small i = true <;> by_cases h' : small j = true <;> simp [h, h']
end
section
variable {C : Calls} {ρ : Env} {m : Hs} {N : Env → Hs → Prop} {T : D → Hs → Prop}
theorem wS_nil : wS (evSs C .nil ρ m) N T = N ρ m := rfl
theorem wS_cons {s : S} {ss : Ss} : wS (evSs C (.cons s ss) ρ m) N T = wS (evS C s ρ m) (fun ρ m => wS (evSs C ss ρ m) N T) T := by
  simp only [evSs]
  cases evS C s ρ m <;> rfl
theorem wS_expr {e : E} : wS (evS C (.expr e) ρ m) N T = wok (evE C e ρ m) fun _ m => N ρ m := by simp only [evS, wS_thn]; rfl
theorem wS_asg {t : Lw.T} {e : E} : wS (evS C (.asg t e) ρ m) N T = wok (evE C e ρ m) fun d m => ∃ ρ', evT t d m ρ = some ρ' ∧ N ρ' m := by
  simp only [evS, wS_thn]
  congr 1; funext d m
  cases evT t d m ρ <;> simp [wS]
theorem wS_sub {o i e : E} : wS (evS C (.sub o i e) ρ m) N T = wok (evE C e ρ m) fun d m => wok (evE C o ρ m) fun x m => wok (evE C i ρ m) fun y m => ∃ m', subD m x y d = some m' ∧ N ρ m' := by
  simp only [evS, wS_thn]
  congr 1; funext d m
  congr 1; funext x m
  congr 1; funext y m
  cases subD m x y d <;> simp [wS]
theorem wS_par {ts : List Nat} {es : Es} : wS (evS C (.par ts es) ρ m) N T = wok (evEs C es ρ m) fun ds m => ds.length = ts.length ∧ N (setAll ts ds ρ) m := by
  simp only [evS, wS_thn]
  congr 1; funext ds m
  by_cases h : ds.length = ts.length <;> simp [h, wS]
theorem wS_ret {e : E} : wS (evS C (.ret e) ρ m) N T = wok (evE C e ρ m) T := by simp only [evS, wS_thn]; rfl
theorem wS_retN : wS (evS C .retN ρ m) N T = T .non m := rfl
theorem wS_iff {c : E} {a b : Ss} : wS (evS C (.iff c a b) ρ m) N T = wok (evE C c ρ m) fun x m => wB x (wS (evSs C a ρ m) N T) (wS (evSs C b ρ m) N T) := by
  simp only [evS, wS_thn]
  congr 1; funext x m
  cases x <;> try (simp [wS, wB])
  rename_i b; cases b <;> simp
def fBody (C : Calls) (t : Lw.T) (b : Ss) : D → Env → Hs → RS := fun x ρ m => match evT t x m ρ with
  | some ρ' => evSs C b ρ' m
  | none => .st
theorem wS_for {t : Lw.T} {it : I} {b : Ss} : wS (evS C (.forS t it b) ρ m) N T = wok (evI C it ρ m) fun xs m => wS (forGo (fBody C t b) xs ρ m) N T := by
  simp only [evS, wS_thn]; rfl
theorem wS_pass : wS (evS C .pass ρ m) N T = N ρ m := rfl
theorem wS_body {t : Lw.T} {b : Ss} {x : D} : wS (fBody C t b x ρ m) N T = ∃ ρ', evT t x m ρ = some ρ' ∧ wS (evSs C b ρ' m) N T := by
  unfold fBody
  cases evT t x m ρ <;> simp [wS]
/-- a for by what stays true -/
theorem wS_go {f : D → Env → Hs → RS} (I : Nat → Env → Hs → Prop) {xs : List D} (h0 : I 0 ρ m) (step : ∀ i x ρ m, xs[i]? = some x → I i ρ m → wS (f x ρ m) (I (i + 1)) T) (fin : ∀ ρ m, I xs.length ρ m → N ρ m) : wS (forGo f xs ρ m) N T := by
  have key : ∀ (xs : List D) (n : Nat) (ρ : Env) (m : Hs), I n ρ m → (∀ i x ρ m, xs[i]? = some x → I (n + i) ρ m → wS (f x ρ m) (I (n + i + 1)) T) → (∀ ρ m, I (n + xs.length) ρ m → N ρ m) → wS (forGo f xs ρ m) N T := by
    intro xs
    induction xs with
    | nil => intro n ρ m h _ fin; exact fin ρ m (by simpa using h)
    | cons x xs ih =>
      intro n ρ m h st fin
      have h1 := st 0 x ρ m rfl (by simpa using h)
      simp only [forGo]
      cases e : f x ρ m with
      | nx ρ1 m1 =>
        rw [e] at h1
        refine ih (n + 1) ρ1 m1 (by simpa [wS] using h1) (fun i y ρ m hy hi => ?_) (fun ρ m hi => fin ρ m (by
          have e : n + (x :: xs).length = n + 1 + xs.length := by simp; omega
          rw [e]; exact hi))
        have := st (i + 1) y ρ m (by simpa using hy) (by
          have e : n + (i + 1) = n + 1 + i := by omega
          rw [e]; exact hi)
        have e : n + (i + 1) + 1 = n + 1 + i + 1 := by omega
        rw [e] at this
        exact this
      | rt d m1 => rw [e] at h1; exact h1
      | bk ρ1 m1 => rw [e] at h1; exact h1.elim
      | ct ρ1 m1 => rw [e] at h1; exact h1.elim
      | xc x ρ1 m1 => rw [e] at h1; exact h1.elim
      | st => rw [e] at h1; exact h1.elim
  exact key xs 0 ρ m h0 (fun i x ρ m hx hi => by simpa using step i x ρ m hx (by simpa using hi)) (fun ρ m hi => fin ρ m (by simpa using hi))
end
/-- a call of a def -/
theorem wok_run {P : List Fn} {gs : Nat → Option D} {k f : Nat} {ds : List D} {m : Hs} {Q : D → Hs → Prop} {F : Fn} (hf : P[f]? = some F) (ha : ds.length = F.arity)
    (h : wS (evSs ⟨runFn P gs k, gs⟩ F.body (start F.slots ds) m) (fun _ m' => wok (leave F.mode m.length (.rt .non m')) Q) (fun d m' => wok (leave F.mode m.length (.rt d m')) Q)) : wok (runFn P gs (k + 1) f ds m) Q := by
  unfold runFn
  rw [hf]
  simp only
  rw [if_pos ha]
  cases e : evSs ⟨runFn P gs k, gs⟩ F.body (start F.slots ds) m with
  | nx ρ m' =>
    rw [e] at h
    have h2 : wok (leave F.mode m.length (.rt .non m')) Q := h
    have e2 : ∀ md n, leave md n (.nx ρ m') = leave md n (.rt .non m') := by
      intro md n
      cases md with
      | keep => rfl
      | drop => simp only [leave, thaw, closedD, if_true]
    rw [e2]; exact h2
  | rt d m' => rw [e] at h; exact h
  | bk ρ1 m1 => rw [e] at h; exact h.elim
  | ct ρ1 m1 => rw [e] at h; exact h.elim
  | xc x ρ1 m1 => rw [e] at h; exact h.elim
  | st => rw [e] at h; exact h.elim
theorem wok_leave {md : Mode} {n : Nat} {d : D} {m : Hs} {Q : D → Hs → Prop} (hn : m.length = n) : wok (leave md n (.rt d m)) Q = Q d m := by
  subst hn
  rw [leave_same]; rfl
theorem wok_drop {m w : Hs} {d d' : D} {n : Nat} {Q : D → Hs → Prop} (hn : m.length = n) (hc : m.all (closedO m.length) = true) (h : thaw (m ++ w) m.length d = some d') : wok (leave .drop n (.rt d (m ++ w))) Q = Q d' m := by
  subst hn
  rw [leave_drop hc h]; rfl
/-- a comprehension: each item tells g of it -/
theorem lcGo_map {f : D → Hs → R (Option D)} {m : Hs} {g : D → Option D} : ∀ (xs : List D), (∀ x ∈ xs, f x m = .ok (g x) m) → lcGo f xs m = .ok (xs.filterMap g) m
  | [], _ => rfl
  | x :: xs, h => by
    have h1 := h x List.mem_cons_self
    have h2 := lcGo_map (f := f) (m := m) (g := g) xs fun y hy => h y (List.mem_cons_of_mem _ hy)
    simp only [lcGo, h1, R.noX_ok, R.bind_ok, h2]
    cases e : g x with
    | none => rw [List.filterMap_cons_none e]
    | some d => rw [List.filterMap_cons_some e]
/-- .. where each item tells something that P holds of -/
theorem wok_lcGo {f : D → Hs → R (Option D)} {m : Hs} {Q : List D → Hs → Prop} {g : D → Option D} {xs : List D} (h : ∀ x ∈ xs, wok (f x m) fun o m' => m' = m ∧ o = g x) (q : Q (xs.filterMap g) m) : wok (lcGo f xs m) Q := by
  rw [lcGo_map (g := g) xs fun x hx => ?_]
  · exact q
  · have := h x hx
    cases e : f x m with
    | ok a m' => rw [e] at this; obtain ⟨rfl, rfl⟩ := this; rfl
    | exc y m' => rw [e] at this; exact this.elim
    | stuck => rw [e] at this; exact this.elim
end Lw

set_option Elab.async false
set_option linter.all false
set_option maxRecDepth 100000
/-! The logic's steps, in a form in which simp goes ahead like a run: what comes later is looked at only when it is reached. -/
namespace Lw
open PySem (Str PyData)

/-- a mark: simp leaves what is named here alone -/
abbrev Pq {α : Sort u} (_ : α) : Type := Prop
abbrev Pq2 {α : Sort u} {β : Sort v} (_ : α) (_ : β) : Type := Prop
def vk {α : Type} (r : R α) (Q : α → Hs → Prop) : Pq Q := wok r Q
def vS (r : RS) (N : Env → Hs → Prop) (Z : D → Hs → Prop) : Pq2 N Z := wS r N Z
def vB (x : D) (A B : Prop) : Pq2 A B := wB x A B
/-- there is a value, and then -/
def wo {α : Type} (o : Option α) (Q : α → Prop) : Pq Q := ∃ z, o = some z ∧ Q z
/-- this holds, and then -/
def wc (p Q : Prop) : Pq Q := p ∧ Q
/-- a statement as one of the plain kind -/
def pr (p : Prop) : Prop := p
theorem pr_eq {p : Prop} : pr p = p := propext Iff.rfl
theorem wo_some {α : Type} (a : α) (Q : α → Prop) : wo (some a) Q = Q a := by simp [wo]
theorem wo_eq {α : Type} {o : Option α} {a : α} {Q : α → Prop} (h : o = some a) (q : Q a) : wo o Q := ⟨a, h, q⟩
theorem wc_true (Q : Prop) : wc True Q = Q := by simp [wc]
theorem wc_of {p Q : Prop} (h : p) (q : Q) : wc p Q := ⟨h, q⟩
theorem vB_true (A B : Prop) : vB (.bl true) A B = A := by simp [vB, wB_bl]
theorem vB_false (A B : Prop) : vB (.bl false) A B = B := by simp [vB, wB_bl]
theorem vB_cases {b : Bool} {A B : Prop} (h : b = true → A) (h' : b = false → B) : vB (.bl b) A B := by unfold vB; rw [wB_bl]; exact ⟨h, h'⟩
theorem vB_dec {p : Prop} [Decidable p] {A B : Prop} (h : p → A) (h' : ¬ p → B) : vB (.bl (decide p)) A B := by
  unfold vB; rw [wB_bl]; exact ⟨fun e => h (of_decide_eq_true e), fun e => h' (of_decide_eq_false e)⟩
theorem vB_ndec {p : Prop} [Decidable p] {A B : Prop} (h : ¬ p → A) (h' : p → B) : vB (.bl (!decide p)) A B := by
  unfold vB; rw [wB_bl]; exact ⟨fun e => h (by simpa using e), fun e => h' (by simpa using e)⟩
theorem vk_ok {α : Type} {Q : α → Hs → Prop} (a : α) (m : Hs) : vk (.ok a m) Q = Q a m := propext Iff.rfl
theorem vk_mono {α : Type} {r : R α} {P Q : α → Hs → Prop} (h : vk r P) (k : ∀ a m, P a m → Q a m) : vk r Q := wok_mono h k
def refD : D → Option Nat
  | .ref n => some n
  | _ => none
def lstAt (m : Hs) (n : Nat) : Option (List D) := match m[n]? with
  | some (.lst l) => some l
  | _ => none
def itD : D → Option (List D)
  | .tup l => some l
  | .lst l => some l
  | .sct l => some l
  | .ktp l => some l
  | .str s => some (s.cps.toList.map fun c => .str ⟨#[c]⟩)
  | _ => none
def varD (ρ : Env) (i : Nat) : Option D := match ρ[i]? with
  | some o => o
  | none => none
section
variable {C : Calls} {ρ : Env} {m : Hs} {Q : D → Hs → Prop}
theorem s_glob {k : Nat} : vk (evE C (.glob k) ρ m) Q = wo (C.gs k) fun d => Q d m := wok_glob
theorem s_var {i : Nat} : vk (evE C (.var i) ρ m) Q = wo (varD ρ i) fun d => Q d m := by
  simp only [vk, vS, vB]
  rw [wok_var]
  unfold varD wo
  cases ρ[i]? with
  | none => simp
  | some o => simp
theorem s_tup {es : Es} : vk (evE C (.tup es) ρ m) Q = vk (evEs C es ρ m) fun ds m => wc (ds.length ≤ PySem.sizeLine) (Q (.tup ds) m) := wok_tup
theorem s_bin {op : Bop} {a b : E} : vk (evE C (.bin op a b) ρ m) Q = vk (evE C a ρ m) fun x m => vk (evE C b ρ m) fun y m => wo (binD m op x y) fun z => Q z m := wok_bin
theorem s_neg {a : E} : vk (evE C (.neg a) ρ m) Q = vk (evE C a ρ m) fun x m => wo (intD x) fun i => Q (.int (-i)) m := wok_neg
theorem s_cmp {op : Cop} {a b : E} : vk (evE C (.cmp op a b) ρ m) Q = vk (evE C a ρ m) fun x m => vk (evE C b ρ m) fun y m => wo (cmpD m op x y) fun z => Q (.bl z) m := wok_cmp
theorem s_chain {o1 o2 : Cop} {a b c : E} : vk (evE C (.chain o1 o2 a b c) ρ m) Q = vk (evE C a ρ m) fun x m => vk (evE C b ρ m) fun y m => wo (cmpD m o1 x y) fun z => vB (.bl z) (vk (evE C c ρ m) fun w m => wo (cmpD m o2 y w) fun z => Q (.bl z) m) (Q (.bl false) m) := by
  refine Eq.trans (wok_chain (Q := Q)) ?_
  show wok _ _ = wok _ _
  congr 1; funext x m
  show wok _ _ = wok _ _
  congr 1; funext y m
  apply propext; constructor
  · rintro ⟨z, h1, h2⟩; exact ⟨z, h1, vB_cases h2.1 h2.2⟩
  · rintro ⟨z, h1, h2⟩; refine ⟨z, h1, ?_⟩; unfold vB at h2; rw [wB_bl] at h2; exact h2
theorem s_isB {ng : Bool} {a b : E} : vk (evE C (.isB ng a b) ρ m) Q = vk (evE C a ρ m) fun x m => vk (evE C b ρ m) fun y m => wo (blD x) fun u => wo (blD y) fun v => Q (.bl (if ng then !decide (u = v) else decide (u = v))) m := by
  simp only [vk, vS, vB]
  rw [wok_isB]
  congr 1; funext x m
  congr 1; funext y m
  cases x <;> cases y <;> simp [wo, blD]
theorem s_and1 {e : E} : vk (evAnd C (.cons e .nil) ρ m) Q = vk (evE C e ρ m) fun x m => wo (blD x) fun b => Q (.bl b) m := by
  simp only [vk, vS, vB]
  rw [wok_and1]
  congr 1; funext x m
  cases x <;> simp [wo, blD]
theorem s_or1 {e : E} : vk (evOr C (.cons e .nil) ρ m) Q = vk (evE C e ρ m) fun x m => wo (blD x) fun b => Q (.bl b) m := by
  simp only [vk, vS, vB]
  rw [wok_or1]
  congr 1; funext x m
  cases x <;> simp [wo, blD]
theorem s_not {a : E} : vk (evE C (.not a) ρ m) Q = vk (evE C a ρ m) fun x m => wo (blD x) fun b => Q (.bl (!b)) m := by
  simp only [vk, vS, vB]
  rw [wok_not]
  congr 1; funext x m
  cases x <;> simp [wo, blD]
theorem s_idx {a b : E} : vk (evE C (.idx a b) ρ m) Q = vk (evE C a ρ m) fun x m => vk (evE C b ρ m) fun y m => wo (idxD m x y) fun z => Q z m := wok_idx
theorem s_slc {a : E} {lo hi : Oe} : vk (evE C (.slc a lo hi) ρ m) Q = vk (evE C a ρ m) fun x m => vk (evOe C lo ρ m) fun l m => vk (evOe C hi ρ m) fun h m => wo (slcD m x l h) fun z => Q z m := wok_slc
theorem s_bi {b : Bi} {es : Es} : vk (evE C (.bi b es) ρ m) Q = vk (evEs C es ρ m) fun ds m => wo (biD m b ds) fun z => Q z m := wok_bi
theorem s_isi {t : Ty} {a : E} : vk (evE C (.isi t a) ρ m) Q = vk (evE C a ρ m) fun x m => wo (isiD m t x) fun z => Q (.bl z) m := wok_isi
theorem lst_at {m : Hs} {n : Nat} {l : List D} (h : m[n]? = some (.lst l)) : lstAt m n = some l := by unfold lstAt; rw [h]
theorem lst_iff {m : Hs} {n : Nat} {l : List D} (h : lstAt m n = some l) : m[n]? = some (.lst l) := by
  unfold lstAt at h
  split at h
  · rename_i e; cases h; exact e
  · cases h
theorem s_append {o e : E} : vk (evE C (.append o e) ρ m) Q = vk (evE C o ρ m) fun x m => wo (refD x) fun n => wo (lstAt m n) fun _ => vk (evE C e ρ m) fun y m => wo (lstAt m n) fun l => wc (l.length < PySem.sizeLine) (Q .non (m.set n (.lst (l ++ [y])))) := by
  refine Eq.trans (wok_append (Q := Q)) ?_
  show wok _ _ = wok _ _
  congr 1; funext x m
  apply propext; constructor
  · rintro ⟨n, l0, hx, h2, h3⟩
    exact ⟨n, by rw [hx]; rfl, l0, lst_at h2, wok_mono h3 fun y m1 ⟨l, e1, e2, e3⟩ => ⟨l, lst_at e1, e2, e3⟩⟩
  · rintro ⟨n, hn, l0, h2, h3⟩
    cases x <;> simp [refD] at hn
    subst hn
    exact ⟨_, l0, rfl, lst_iff h2, wok_mono h3 fun y m1 ⟨l, e1, e2, e3⟩ => ⟨l, lst_iff e1, e2, e3⟩⟩
theorem s_so {Q : Option Int → Hs → Prop} {e : E} : vk (evOe C (.so e) ρ m) Q = vk (evE C e ρ m) fun x m => wo (intD x) fun i => Q (some i) m := wok_so
theorem s_disp {Q : List D → Hs → Prop} {es : Es} : vk (evL C (.disp es) ρ m) Q = vk (evEs C es ρ m) fun ds m => wc (ds.length ≤ PySem.sizeLine) (Q ds m) := wok_disp
theorem s_lstOf {Q : List D → Hs → Prop} {e : E} : vk (evL C (.lstOf e) ρ m) Q = vk (evE C e ρ m) fun x m => wo (seqD m x) fun l => Q l m := wok_lstOf
theorem s_rng3 {Q : List D → Hs → Prop} {a b c : E} : vk (evL C (.rng3 a b c) ρ m) Q = vk (evE C a ρ m) fun x m => vk (evE C b ρ m) fun y m => vk (evE C c ρ m) fun z m => wo (intD x) fun i => wo (intD y) fun j => wo (intD z) fun k => wo (rng3D i j k) fun l => Q l m := by
  simp only [vk, vS, vB]
  rw [wok_rng3]
  congr 1; funext x m
  congr 1; funext y m
  congr 1; funext z m
  cases x <;> cases y <;> cases z <;> simp [wo, intD]
theorem s_seq {Q : List D → Hs → Prop} {e : E} : vk (evI C (.seq e) ρ m) Q = vk (evE C e ρ m) fun x m => wo (itD x) fun l => Q l m := by
  simp only [vk, vS, vB]
  rw [wok_seq]
  congr 1; funext x m
  cases x <;> simp [wo, itD]
theorem s_rng1 {Q : List D → Hs → Prop} {a : E} : vk (evI C (.rng1 a) ρ m) Q = vk (evE C a ρ m) fun x m => wo (intD x) fun i => wc (small i = true) (Q (rngL 0 i.toNat) m) := by
  simp only [vk, vS, vB]
  rw [wok_rng1]
  congr 1; funext x m
  cases x <;> simp [wo, intD, wc]
theorem s_rng2 {Q : List D → Hs → Prop} {a b : E} : vk (evI C (.rng2 a b) ρ m) Q = vk (evE C a ρ m) fun x m => vk (evE C b ρ m) fun y m => wo (intD x) fun i => wo (intD y) fun j => wc (small i = true) (wc (small j = true) (Q (rngL i (j - i).toNat) m)) := by
  simp only [vk, vS, vB]
  rw [wok_rng2]
  congr 1; funext x m
  congr 1; funext y m
  cases x <;> cases y <;> simp [wo, intD, wc]
/-- a comprehension's one turn -/
def lcB (C : Calls) (own : List Nat) (t : T) (elt : E) (ρ : Env) (x : D) (m : Hs) : R (Option D) := match evT t x m (wipe ρ own) with
  | some ρ' => (evE C elt ρ' m).bind fun y m => .ok (some y) m
  | none => .stuck
def lcBI (C : Calls) (own : List Nat) (t : T) (c elt : E) (ρ : Env) (x : D) (m : Hs) : R (Option D) := match evT t x m (wipe ρ own) with
  | some ρ' => (evE C c ρ' m).bind fun b m => (match b with
    | .bl true => (evE C elt ρ' m).bind fun y m => .ok (some y) m
    | .bl false => .ok none m
    | _ => .stuck)
  | none => .stuck
theorem s_lc {Q : List D → Hs → Prop} {own : List Nat} {t : T} {it : I} {elt : E} : vk (evL C (.lc own t it elt) ρ m) Q = vk (evI C it ρ m) fun xs m => wc (xs.length ≤ PySem.sizeLine) (vk (lcGo (lcB C own t elt ρ) xs m) Q) := by
  simp only [vk, vS, vB]
  simp only [evL, wok_bind]
  congr 1; funext xs m
  unfold wc
  split
  · rename_i h; exact propext ⟨fun q => ⟨h, q⟩, fun q => q.2⟩
  · rename_i h; exact propext ⟨fun q => q.elim, fun q => (h q.1).elim⟩
theorem s_lcIf {Q : List D → Hs → Prop} {own : List Nat} {t : T} {it : I} {c elt : E} : vk (evL C (.lcIf own t it c elt) ρ m) Q = vk (evI C it ρ m) fun xs m => wc (xs.length ≤ PySem.sizeLine) (vk (lcGo (lcBI C own t c elt ρ) xs m) Q) := by
  simp only [vk, vS, vB]
  simp only [evL, wok_bind]
  congr 1; funext xs m
  unfold wc
  split
  · rename_i h; exact propext ⟨fun q => ⟨h, q⟩, fun q => q.2⟩
  · rename_i h; exact propext ⟨fun q => q.elim, fun q => (h q.1).elim⟩
theorem s_lcB {Q : Option D → Hs → Prop} {own : List Nat} {t : T} {elt : E} {x : D} : vk (lcB C own t elt ρ x m) Q = wo (evT t x m (wipe ρ own)) fun ρ' => vk (evE C elt ρ' m) fun y m => Q (some y) m := by
  simp only [vk, vS, vB]
  unfold lcB wo
  cases evT t x m (wipe ρ own) with
  | none => simp [wok]
  | some ρ' => simp only [wok_bind, wok_ok, Option.some.injEq, exists_eq_left']
theorem s_lcBI {Q : Option D → Hs → Prop} {own : List Nat} {t : T} {c elt : E} {x : D} : vk (lcBI C own t c elt ρ x m) Q = wo (evT t x m (wipe ρ own)) fun ρ' => vk (evE C c ρ' m) fun b m => vB b (vk (evE C elt ρ' m) fun y m => Q (some y) m) (Q none m) := by
  unfold lcBI
  cases e : evT t x m (wipe ρ own) with
  | none => exact propext ⟨fun h => h.elim, fun ⟨_, h, _⟩ => nomatch h⟩
  | some ρ' =>
    apply propext; constructor
    · intro h
      refine ⟨ρ', rfl, ?_⟩
      have h : wok ((evE C c ρ' m).bind _) Q := h
      rw [wok_bind] at h
      refine wok_mono h fun b m h => ?_
      cases b <;> try (exact h.elim)
      rename_i b
      cases b with
      | true =>
        have h : wok ((evE C elt ρ' m).bind _) Q := h
        rw [wok_bind] at h
        exact vB_cases (fun _ => h) (fun z => nomatch z)
      | false => exact vB_cases (fun z => nomatch z) (fun _ => h)
    · rintro ⟨_, h1, h⟩
      cases h1
      show wok ((evE C c ρ' m).bind _) Q
      rw [wok_bind]
      refine wok_mono h fun b m h => ?_
      obtain ⟨b, rfl, h1, h2⟩ := h
      cases b with
      | true =>
        show wok ((evE C elt ρ' m).bind _) Q
        rw [wok_bind]
        exact h1 rfl
      | false => exact h2 rfl
end
section
variable {C : Calls} {ρ : Env} {m : Hs} {N : Env → Hs → Prop} {Z : D → Hs → Prop}
theorem s_asg {t : T} {e : E} : vS (evS C (.asg t e) ρ m) N Z = vk (evE C e ρ m) fun d m => wo (evT t d m ρ) fun ρ' => N ρ' m := wS_asg
theorem s_sub {o i e : E} : vS (evS C (.sub o i e) ρ m) N Z = vk (evE C e ρ m) fun d m => vk (evE C o ρ m) fun x m => vk (evE C i ρ m) fun y m => wo (subD m x y d) fun m' => N ρ m' := wS_sub
theorem s_par {ts : List Nat} {es : Es} : vS (evS C (.par ts es) ρ m) N Z = vk (evEs C es ρ m) fun ds m => wc (ds.length = ts.length) (N (setAll ts ds ρ) m) := wS_par
theorem s_body {t : T} {b : Ss} {x : D} : vS (fBody C t b x ρ m) N Z = wo (evT t x m ρ) fun ρ' => vS (evSs C b ρ' m) N Z := wS_body
end
section
variable {C : Calls} {ρ : Env} {m : Hs} {Q : D → Hs → Prop}
theorem s_cst {d : D} : vk (evE C (.cst d) ρ m) Q = Q d m := propext Iff.rfl
theorem s_fz {l : L} : vk (evE C (.fz l) ρ m) Q = vk (evL C l ρ m) fun ds m => Q (.lst ds) m := wok_fz
theorem s_alc {l : L} : vk (evE C (.alc l) ρ m) Q = vk (evL C l ρ m) fun ds m => Q (.ref m.length) (m ++ [.lst ds]) := wok_alc
theorem s_isN {ng : Bool} {a : E} : vk (evE C (.isN ng a) ρ m) Q = vk (evE C a ρ m) fun x m => Q (.bl (if ng then !isNonD x else isNonD x)) m := wok_isN
theorem s_and {a : E} {es : Es} : vk (evE C (.and a es) ρ m) Q = vk (evE C a ρ m) fun x m => vB x (vk (evAnd C es ρ m) Q) (Q (.bl false) m) := wok_and
theorem s_or {a : E} {es : Es} : vk (evE C (.or a es) ρ m) Q = vk (evE C a ρ m) fun x m => vB x (Q (.bl true) m) (vk (evOr C es ρ m) Q) := wok_or
theorem s_and2 {e f : E} {es : Es} : vk (evAnd C (.cons e (.cons f es)) ρ m) Q = vk (evE C e ρ m) fun x m => vB x (vk (evAnd C (.cons f es) ρ m) Q) (Q (.bl false) m) := wok_and2
theorem s_or2 {e f : E} {es : Es} : vk (evOr C (.cons e (.cons f es)) ρ m) Q = vk (evE C e ρ m) fun x m => vB x (Q (.bl true) m) (vk (evOr C (.cons f es) ρ m) Q) := wok_or2
theorem s_ife {c a b : E} : vk (evE C (.ife c a b) ρ m) Q = vk (evE C c ρ m) fun x m => vB x (vk (evE C a ρ m) Q) (vk (evE C b ρ m) Q) := wok_ife
theorem s_call {f : Nat} {es : Es} : vk (evE C (.call f es) ρ m) Q = vk (evEs C es ρ m) fun ds m => vk (C.fn f ds m) Q := wok_call
theorem s_dsp {ks : Ks} : vk (evE C (.dsp ks) ρ m) Q = vk (evKs C ks ρ m) fun kvs m => Q (.ref m.length) (m ++ [.dK (mergeL [] kvs)]) := wok_dsp
theorem s_dnw {tk : Bool} : vk (evE C (.dnw tk) ρ m) Q = Q (.ref m.length) (m ++ [if tk then .dT [] else .dK []]) := wok_dnw
theorem s_m1 {k : M1} {o e : E} : vk (evE C (.m1 k o e) ρ m) Q = vk (evE C o ρ m) fun x m => wc (rcv m k x = true) (vk (evE C e ρ m) fun y m => wo (m1D m k x y) fun z => Q z m) := wok_m1
theorem s_es0 {Q : List D → Hs → Prop} : vk (evEs C .nil ρ m) Q = Q [] m := propext Iff.rfl
theorem s_es1 {Q : List D → Hs → Prop} {e : E} {es : Es} : vk (evEs C (.cons e es) ρ m) Q = vk (evE C e ρ m) fun x m => vk (evEs C es ρ m) fun xs m => Q (x :: xs) m := wok_es1
theorem s_ks0 {Q : List (Key × D) → Hs → Prop} : vk (evKs C .nil ρ m) Q = Q [] m := propext Iff.rfl
theorem s_ks1 {Q : List (Key × D) → Hs → Prop} {k : Str} {e : E} {es : Ks} : vk (evKs C (.cons k e es) ρ m) Q = vk (evE C e ρ m) fun x m => vk (evKs C es ρ m) fun xs m => Q ((.inr k, x) :: xs) m := wok_ks1
theorem s_no {Q : Option Int → Hs → Prop} : vk (evOe C .no ρ m) Q = Q none m := propext Iff.rfl
end
section
variable {C : Calls} {ρ : Env} {m : Hs} {N : Env → Hs → Prop} {Z : D → Hs → Prop}
theorem s_nil : vS (evSs C .nil ρ m) N Z = N ρ m := propext Iff.rfl
theorem s_cons {s : S} {ss : Ss} : vS (evSs C (.cons s ss) ρ m) N Z = vS (evS C s ρ m) (fun ρ m => vS (evSs C ss ρ m) N Z) Z := wS_cons
theorem s_expr {e : E} : vS (evS C (.expr e) ρ m) N Z = vk (evE C e ρ m) fun _ m => N ρ m := wS_expr
theorem s_ret {e : E} : vS (evS C (.ret e) ρ m) N Z = vk (evE C e ρ m) Z := wS_ret
theorem s_retN : vS (evS C .retN ρ m) N Z = Z .non m := propext Iff.rfl
theorem s_iff {c : E} {a b : Ss} : vS (evS C (.iff c a b) ρ m) N Z = vk (evE C c ρ m) fun x m => vB x (vS (evSs C a ρ m) N Z) (vS (evSs C b ρ m) N Z) := wS_iff
theorem s_for {t : T} {it : I} {b : Ss} : vS (evS C (.forS t it b) ρ m) N Z = vk (evI C it ρ m) fun xs m => vS (forGo (fBody C t b) xs ρ m) N Z := wS_for
theorem s_pass : vS (evS C .pass ρ m) N Z = N ρ m := propext Iff.rfl
theorem vS_mono {r : RS} {N N' : Env → Hs → Prop} {Z Z' : D → Hs → Prop} (h : vS r N Z) (k : ∀ ρ m, N ρ m → N' ρ m) (k' : ∀ d m, Z d m → Z' d m) : vS r N' Z' := wS_mono h k k'
theorem vS_go {f : D → Env → Hs → RS} (I : Nat → Env → Hs → Prop) {xs : List D} (h0 : I 0 ρ m) (step : ∀ i x ρ m, xs[i]? = some x → I i ρ m → pr (vS (f x ρ m) (I (i + 1)) Z)) (fin : ∀ ρ m, I xs.length ρ m → pr (N ρ m)) : vS (forGo f xs ρ m) N Z := wS_go I h0 step fin
theorem vS_go0 {f : D → Env → Hs → RS} : vS (forGo f [] ρ m) N Z = N ρ m := propext Iff.rfl
theorem vS_go1 {f : D → Env → Hs → RS} {x : D} {xs : List D} : vS (f x ρ m) (fun ρ m => vS (forGo f xs ρ m) N Z) Z → vS (forGo f (x :: xs) ρ m) N Z := by
  intro h
  unfold vS at h ⊢
  simp only [forGo]
  cases e : f x ρ m with
  | nx ρ1 m1 => rw [e] at h; exact h
  | rt d m1 => rw [e] at h; exact h
  | _ => rw [e] at h; exact h.elim
end
theorem vk_run {P : List Fn} {gs : Nat → Option D} {k f : Nat} {ds : List D} {m : Hs} {Q : D → Hs → Prop} {F : Fn} (hf : P[f]? = some F) (ha : ds.length = F.arity)
    (h : vS (evSs ⟨runFn P gs k, gs⟩ F.body (start F.slots ds) m) (fun _ m' => vk (leave F.mode m.length (.rt .non m')) Q) (fun d m' => vk (leave F.mode m.length (.rt d m')) Q)) : vk (runFn P gs (k + 1) f ds m) Q := wok_run hf ha h
theorem vk_leave {md : Mode} {n : Nat} {d : D} {m : Hs} {Q : D → Hs → Prop} (hn : m.length = n) : vk (leave md n (.rt d m)) Q = Q d m := wok_leave hn
theorem vk_drop {m w : Hs} {d d' : D} {n : Nat} {Q : D → Hs → Prop} (hn : m.length = n) (hc : m.all (closedO m.length) = true) (h : thaw (m ++ w) m.length d = some d') : vk (leave .drop n (.rt d (m ++ w))) Q = Q d' m := wok_drop hn hc h
theorem vk_lcGo {f : D → Hs → R (Option D)} {m : Hs} {Q : List D → Hs → Prop} {g : D → Option D} {xs : List D} (h : ∀ x ∈ xs, vk (f x m) fun o m' => m' = m ∧ o = g x) (q : Q (xs.filterMap g) m) : vk (lcGo f xs m) Q := wok_lcGo h q
theorem vk_call {P : List Fn} {gs : Nat → Option D} {k f : Nat} {ds : List D} {m : Hs} {Q : D → Hs → Prop} {F : Fn} (b : Ss) (md : Mode) (ρ : Env) (hf : P[f]? = some F) (ha : ds.length = F.arity) (hb : F.body = b) (hm : F.mode = md) (hs : start F.slots ds = ρ)
    (h : vS (evSs ⟨runFn P gs k, gs⟩ b ρ m) (fun _ m' => vk (leave md m.length (.rt .non m')) Q) (fun d m' => vk (leave md m.length (.rt d m')) Q)) : vk (runFn P gs (k + 1) f ds m) Q := by
  subst hb hm hs
  exact vk_run hf ha h
theorem eqL_of {m : Hs} {a b : D} {r : Bool} (h : eqD m a b = some r) : eqL m a b = some r := by simp only [eqL, h]
theorem eqL_int (m : Hs) (i j : Int) : eqL m (.int i) (.int j) = some (decide (i = j)) := eqL_of (eqD_int m i j)
theorem eqL_bl (m : Hs) (i j : Bool) : eqL m (.bl i) (.bl j) = some (decide (i = j)) := eqL_of (eqD_bl m i j)
theorem sz_ok {n : Nat} (h : n ≤ 1000) : (n ≤ PySem.sizeLine) = True := eq_true (by rw [PySem.sizeLine_eq]; exact Nat.le_trans h (by decide))
theorem sz_lt {n : Nat} (h : n ≤ 1000) : (n < PySem.sizeLine) = True := eq_true (by rw [PySem.sizeLine_eq]; exact Nat.lt_of_le_of_lt h (by decide))
theorem cmp_lt (m : Hs) (i j : Int) : cmpD m .lt (.int i) (.int j) = some (decide (i < j)) := rfl
theorem cmp_le (m : Hs) (i j : Int) : cmpD m .le (.int i) (.int j) = some (decide (i ≤ j)) := rfl
theorem cmp_gt (m : Hs) (i j : Int) : cmpD m .gt (.int i) (.int j) = some (decide (j < i)) := rfl
theorem cmp_ge (m : Hs) (i j : Int) : cmpD m .ge (.int i) (.int j) = some (decide (j ≤ i)) := rfl
theorem plain_of {r : R D} (h : vk r fun d _ => d = .bl true) : ∃ m, r = .ok (.bl true) m := by
  cases r with
  | ok d m => exact ⟨m, by rw [show d = .bl true from h]⟩
  | exc x m => exact h.elim
  | stuck => exact h.elim
end Lw

set_option Elab.async false
set_option linter.all false
set_option maxRecDepth 100000
/-! Tools for the plain part. -/
namespace Lw
open PySem (Str PyData)
theorem cdw {i j : Int} (h : 0 < j) (h2 : j < 1000000000000) : L2.CDivW i j := ⟨h, by
  have : j.natAbs < 2 ^ 40 := by omega
  have h3 : j.natAbs ≠ 0 := by omega
  exact Nat.lt_of_lt_of_le ((Nat.log2_lt h3).mpr this) (by decide)⟩
theorem cdw_t {i j : Int} (h : 0 < j) (h2 : j < 1000000000000) : L2.CDivW i j = True := eq_true (cdw h h2)
theorem cmul_r {i j : Int} (h : (-9223372036854775808 : Int) < j) (h2 : j < 9223372036854775808) : L2.CMul i j = True := eq_true (Or.inr ⟨by omega, by omega⟩)
theorem cmul_l {i j : Int} (h : (-9223372036854775808 : Int) < i) (h2 : i < 9223372036854775808) : L2.CMul i j = True := eq_true (Or.inl ⟨by omega, by omega⟩)
theorem md (n k : Int) (h : 0 < k) : 0 ≤ n % k ∧ n % k < k := ⟨Int.emod_nonneg _ (by omega), Int.emod_lt_of_pos _ h⟩
section
variable {m : Hs}
theorem bin_add (i j : Int) : binD m .add (.int i) (.int j) = some (.int (i + j)) := rfl
theorem bin_sub (i j : Int) : binD m .sub (.int i) (.int j) = some (.int (i - j)) := rfl
theorem bin_mul {i j : Int} (h : L2.CMul i j) : binD m .mul (.int i) (.int j) = some (.int (i * j)) := if_pos h
theorem bin_div {i j : Int} (h : L2.CDivW i j) : binD m .fdiv (.int i) (.int j) = some (.int (i / j)) := if_pos h
theorem bin_mod {i j : Int} (h : 0 < j) : binD m .mod (.int i) (.int j) = some (.int (i % j)) := if_pos h
theorem bin_addS {s t : Str} (h : s.length + t.length ≤ PySem.sizeLine) : binD m .add (.str s) (.str t) = some (.str (s ++ t)) := if_pos h
theorem bin_addT {l k : List D} (h : l.length + k.length ≤ PySem.sizeLine) : binD m .add (.tup l) (.tup k) = some (.tup (l ++ k)) := if_pos h
theorem bin_addL {l k : List D} (h : l.length + k.length ≤ PySem.sizeLine) : binD m .add (.lst l) (.lst k) = some (.lst (l ++ k)) := if_pos h
theorem cmp_eq (a b : D) : cmpD m .eq a b = eqL m a b := rfl
theorem cmp_ne (a b : D) : cmpD m .ne a b = (eqD m a b).map (!·) := rfl
theorem cmp_in (a b : D) : cmpD m .isin a b = hasD m a b := rfl
theorem cmp_nin (a b : D) : cmpD m .notin a b = (hasD m a b).map (!·) := rfl
end
/-- a call that ends in one way -/
theorem vk_eq_of {α : Type} {r : R α} {d : α} {m : Hs} (h : vk r fun d' m' => d' = d ∧ m' = m) (Q : α → Hs → Prop) : vk r Q = Q d m := by
  cases r with
  | ok a n => obtain ⟨rfl, rfl⟩ := h; rfl
  | exc x n => exact h.elim
  | stuck => exact h.elim
theorem vk_of_eq {α : Type} {r : R α} {a : Prop} {Q : α → Hs → Prop} (h : vk r Q = a) (q : a) : vk r Q := by rw [h]; exact q
/-! ### a list by a remainder -/
def selD (l : List D) (n : Int) : D := l.getD (n % (l.length : Int)).toNat .non
theorem selD_mem {l : List D} (n : Int) (h : l ≠ []) : selD l n ∈ l := by
  have h0 : 0 < l.length := by cases l with | nil => exact absurd rfl h | cons _ _ => simp
  have h1 : (n % (l.length : Int)).toNat < l.length := by
    have := md n l.length (by omega)
    omega
  unfold selD
  rw [List.getD_eq_getElem?_getD, List.getElem?_eq_getElem h1]
  exact List.getElem_mem h1
theorem sel_atI {l : List D} {n k : Int} (hk : (l.length : Int) = k) (h0 : 0 < k) : L2.atI l (n % k) = some (selD l n) := by
  subst hk
  have h2 := md n (l.length : Int) h0
  have h1 : (n % (l.length : Int)).toNat < l.length := by omega
  simp only [L2.atI, L2.ixN, if_pos h2.1, if_pos h2.2, Option.bind_some, List.getElem?_eq_getElem h1]
  unfold selD
  rw [List.getD_eq_getElem?_getD, List.getElem?_eq_getElem h1]; rfl
theorem idx_sel {m : Hs} {l : List D} {n k : Int} (hk : (l.length : Int) = k) (h0 : 0 < k) : idxD m (.lst l) (.int (n % k)) = some (selD l n) := sel_atI hk h0
theorem seld2 (m : Hs) (a0 a1 : D) (n : Int) : idxD m (.lst [a0, a1]) (.int (n % 2)) = some (selD [a0, a1] n) := idx_sel rfl (by decide)
theorem seld3 (m : Hs) (a0 a1 a2 : D) (n : Int) : idxD m (.lst [a0, a1, a2]) (.int (n % 3)) = some (selD [a0, a1, a2] n) := idx_sel rfl (by decide)
theorem seld4 (m : Hs) (a0 a1 a2 a3 : D) (n : Int) : idxD m (.lst [a0, a1, a2, a3]) (.int (n % 4)) = some (selD [a0, a1, a2, a3] n) := idx_sel rfl (by decide)
theorem seld5 (m : Hs) (a0 a1 a2 a3 a4 : D) (n : Int) : idxD m (.lst [a0, a1, a2, a3, a4]) (.int (n % 5)) = some (selD [a0, a1, a2, a3, a4] n) := idx_sel rfl (by decide)
theorem seld6 (m : Hs) (a0 a1 a2 a3 a4 a5 : D) (n : Int) : idxD m (.lst [a0, a1, a2, a3, a4, a5]) (.int (n % 6)) = some (selD [a0, a1, a2, a3, a4, a5] n) := idx_sel rfl (by decide)
theorem seld7 (m : Hs) (a0 a1 a2 a3 a4 a5 a6 : D) (n : Int) : idxD m (.lst [a0, a1, a2, a3, a4, a5, a6]) (.int (n % 7)) = some (selD [a0, a1, a2, a3, a4, a5, a6] n) := idx_sel rfl (by decide)
theorem seld8 (m : Hs) (a0 a1 a2 a3 a4 a5 a6 a7 : D) (n : Int) : idxD m (.lst [a0, a1, a2, a3, a4, a5, a6, a7]) (.int (n % 8)) = some (selD [a0, a1, a2, a3, a4, a5, a6, a7] n) := idx_sel rfl (by decide)
theorem seld9 (m : Hs) (a0 a1 a2 a3 a4 a5 a6 a7 a8 : D) (n : Int) : idxD m (.lst [a0, a1, a2, a3, a4, a5, a6, a7, a8]) (.int (n % 9)) = some (selD [a0, a1, a2, a3, a4, a5, a6, a7, a8] n) := idx_sel rfl (by decide)
theorem seld10 (m : Hs) (a0 a1 a2 a3 a4 a5 a6 a7 a8 a9 : D) (n : Int) : idxD m (.lst [a0, a1, a2, a3, a4, a5, a6, a7, a8, a9]) (.int (n % 10)) = some (selD [a0, a1, a2, a3, a4, a5, a6, a7, a8, a9] n) := idx_sel rfl (by decide)
theorem seld11 (m : Hs) (a0 a1 a2 a3 a4 a5 a6 a7 a8 a9 a10 : D) (n : Int) : idxD m (.lst [a0, a1, a2, a3, a4, a5, a6, a7, a8, a9, a10]) (.int (n % 11)) = some (selD [a0, a1, a2, a3, a4, a5, a6, a7, a8, a9, a10] n) := idx_sel rfl (by decide)
theorem seld12 (m : Hs) (a0 a1 a2 a3 a4 a5 a6 a7 a8 a9 a10 a11 : D) (n : Int) : idxD m (.lst [a0, a1, a2, a3, a4, a5, a6, a7, a8, a9, a10, a11]) (.int (n % 12)) = some (selD [a0, a1, a2, a3, a4, a5, a6, a7, a8, a9, a10, a11] n) := idx_sel rfl (by decide)
theorem seld13 (m : Hs) (a0 a1 a2 a3 a4 a5 a6 a7 a8 a9 a10 a11 a12 : D) (n : Int) : idxD m (.lst [a0, a1, a2, a3, a4, a5, a6, a7, a8, a9, a10, a11, a12]) (.int (n % 13)) = some (selD [a0, a1, a2, a3, a4, a5, a6, a7, a8, a9, a10, a11, a12] n) := idx_sel rfl (by decide)
theorem seld14 (m : Hs) (a0 a1 a2 a3 a4 a5 a6 a7 a8 a9 a10 a11 a12 a13 : D) (n : Int) : idxD m (.lst [a0, a1, a2, a3, a4, a5, a6, a7, a8, a9, a10, a11, a12, a13]) (.int (n % 14)) = some (selD [a0, a1, a2, a3, a4, a5, a6, a7, a8, a9, a10, a11, a12, a13] n) := idx_sel rfl (by decide)
theorem seld15 (m : Hs) (a0 a1 a2 a3 a4 a5 a6 a7 a8 a9 a10 a11 a12 a13 a14 : D) (n : Int) : idxD m (.lst [a0, a1, a2, a3, a4, a5, a6, a7, a8, a9, a10, a11, a12, a13, a14]) (.int (n % 15)) = some (selD [a0, a1, a2, a3, a4, a5, a6, a7, a8, a9, a10, a11, a12, a13, a14] n) := idx_sel rfl (by decide)
theorem seld16 (m : Hs) (a0 a1 a2 a3 a4 a5 a6 a7 a8 a9 a10 a11 a12 a13 a14 a15 : D) (n : Int) : idxD m (.lst [a0, a1, a2, a3, a4, a5, a6, a7, a8, a9, a10, a11, a12, a13, a14, a15]) (.int (n % 16)) = some (selD [a0, a1, a2, a3, a4, a5, a6, a7, a8, a9, a10, a11, a12, a13, a14, a15] n) := idx_sel rfl (by decide)
theorem seld17 (m : Hs) (a0 a1 a2 a3 a4 a5 a6 a7 a8 a9 a10 a11 a12 a13 a14 a15 a16 : D) (n : Int) : idxD m (.lst [a0, a1, a2, a3, a4, a5, a6, a7, a8, a9, a10, a11, a12, a13, a14, a15, a16]) (.int (n % 17)) = some (selD [a0, a1, a2, a3, a4, a5, a6, a7, a8, a9, a10, a11, a12, a13, a14, a15, a16] n) := idx_sel rfl (by decide)
theorem seld18 (m : Hs) (a0 a1 a2 a3 a4 a5 a6 a7 a8 a9 a10 a11 a12 a13 a14 a15 a16 a17 : D) (n : Int) : idxD m (.lst [a0, a1, a2, a3, a4, a5, a6, a7, a8, a9, a10, a11, a12, a13, a14, a15, a16, a17]) (.int (n % 18)) = some (selD [a0, a1, a2, a3, a4, a5, a6, a7, a8, a9, a10, a11, a12, a13, a14, a15, a16, a17] n) := idx_sel rfl (by decide)
theorem seld19 (m : Hs) (a0 a1 a2 a3 a4 a5 a6 a7 a8 a9 a10 a11 a12 a13 a14 a15 a16 a17 a18 : D) (n : Int) : idxD m (.lst [a0, a1, a2, a3, a4, a5, a6, a7, a8, a9, a10, a11, a12, a13, a14, a15, a16, a17, a18]) (.int (n % 19)) = some (selD [a0, a1, a2, a3, a4, a5, a6, a7, a8, a9, a10, a11, a12, a13, a14, a15, a16, a17, a18] n) := idx_sel rfl (by decide)
theorem seld20 (m : Hs) (a0 a1 a2 a3 a4 a5 a6 a7 a8 a9 a10 a11 a12 a13 a14 a15 a16 a17 a18 a19 : D) (n : Int) : idxD m (.lst [a0, a1, a2, a3, a4, a5, a6, a7, a8, a9, a10, a11, a12, a13, a14, a15, a16, a17, a18, a19]) (.int (n % 20)) = some (selD [a0, a1, a2, a3, a4, a5, a6, a7, a8, a9, a10, a11, a12, a13, a14, a15, a16, a17, a18, a19] n) := idx_sel rfl (by decide)
theorem seld21 (m : Hs) (a0 a1 a2 a3 a4 a5 a6 a7 a8 a9 a10 a11 a12 a13 a14 a15 a16 a17 a18 a19 a20 : D) (n : Int) : idxD m (.lst [a0, a1, a2, a3, a4, a5, a6, a7, a8, a9, a10, a11, a12, a13, a14, a15, a16, a17, a18, a19, a20]) (.int (n % 21)) = some (selD [a0, a1, a2, a3, a4, a5, a6, a7, a8, a9, a10, a11, a12, a13, a14, a15, a16, a17, a18, a19, a20] n) := idx_sel rfl (by decide)
theorem seld22 (m : Hs) (a0 a1 a2 a3 a4 a5 a6 a7 a8 a9 a10 a11 a12 a13 a14 a15 a16 a17 a18 a19 a20 a21 : D) (n : Int) : idxD m (.lst [a0, a1, a2, a3, a4, a5, a6, a7, a8, a9, a10, a11, a12, a13, a14, a15, a16, a17, a18, a19, a20, a21]) (.int (n % 22)) = some (selD [a0, a1, a2, a3, a4, a5, a6, a7, a8, a9, a10, a11, a12, a13, a14, a15, a16, a17, a18, a19, a20, a21] n) := idx_sel rfl (by decide)
theorem seld23 (m : Hs) (a0 a1 a2 a3 a4 a5 a6 a7 a8 a9 a10 a11 a12 a13 a14 a15 a16 a17 a18 a19 a20 a21 a22 : D) (n : Int) : idxD m (.lst [a0, a1, a2, a3, a4, a5, a6, a7, a8, a9, a10, a11, a12, a13, a14, a15, a16, a17, a18, a19, a20, a21, a22]) (.int (n % 23)) = some (selD [a0, a1, a2, a3, a4, a5, a6, a7, a8, a9, a10, a11, a12, a13, a14, a15, a16, a17, a18, a19, a20, a21, a22] n) := idx_sel rfl (by decide)
theorem seld24 (m : Hs) (a0 a1 a2 a3 a4 a5 a6 a7 a8 a9 a10 a11 a12 a13 a14 a15 a16 a17 a18 a19 a20 a21 a22 a23 : D) (n : Int) : idxD m (.lst [a0, a1, a2, a3, a4, a5, a6, a7, a8, a9, a10, a11, a12, a13, a14, a15, a16, a17, a18, a19, a20, a21, a22, a23]) (.int (n % 24)) = some (selD [a0, a1, a2, a3, a4, a5, a6, a7, a8, a9, a10, a11, a12, a13, a14, a15, a16, a17, a18, a19, a20, a21, a22, a23] n) := idx_sel rfl (by decide)
theorem seld25 (m : Hs) (a0 a1 a2 a3 a4 a5 a6 a7 a8 a9 a10 a11 a12 a13 a14 a15 a16 a17 a18 a19 a20 a21 a22 a23 a24 : D) (n : Int) : idxD m (.lst [a0, a1, a2, a3, a4, a5, a6, a7, a8, a9, a10, a11, a12, a13, a14, a15, a16, a17, a18, a19, a20, a21, a22, a23, a24]) (.int (n % 25)) = some (selD [a0, a1, a2, a3, a4, a5, a6, a7, a8, a9, a10, a11, a12, a13, a14, a15, a16, a17, a18, a19, a20, a21, a22, a23, a24] n) := idx_sel rfl (by decide)
theorem seld26 (m : Hs) (a0 a1 a2 a3 a4 a5 a6 a7 a8 a9 a10 a11 a12 a13 a14 a15 a16 a17 a18 a19 a20 a21 a22 a23 a24 a25 : D) (n : Int) : idxD m (.lst [a0, a1, a2, a3, a4, a5, a6, a7, a8, a9, a10, a11, a12, a13, a14, a15, a16, a17, a18, a19, a20, a21, a22, a23, a24, a25]) (.int (n % 26)) = some (selD [a0, a1, a2, a3, a4, a5, a6, a7, a8, a9, a10, a11, a12, a13, a14, a15, a16, a17, a18, a19, a20, a21, a22, a23, a24, a25] n) := idx_sel rfl (by decide)
theorem seld27 (m : Hs) (a0 a1 a2 a3 a4 a5 a6 a7 a8 a9 a10 a11 a12 a13 a14 a15 a16 a17 a18 a19 a20 a21 a22 a23 a24 a25 a26 : D) (n : Int) : idxD m (.lst [a0, a1, a2, a3, a4, a5, a6, a7, a8, a9, a10, a11, a12, a13, a14, a15, a16, a17, a18, a19, a20, a21, a22, a23, a24, a25, a26]) (.int (n % 27)) = some (selD [a0, a1, a2, a3, a4, a5, a6, a7, a8, a9, a10, a11, a12, a13, a14, a15, a16, a17, a18, a19, a20, a21, a22, a23, a24, a25, a26] n) := idx_sel rfl (by decide)
theorem seld28 (m : Hs) (a0 a1 a2 a3 a4 a5 a6 a7 a8 a9 a10 a11 a12 a13 a14 a15 a16 a17 a18 a19 a20 a21 a22 a23 a24 a25 a26 a27 : D) (n : Int) : idxD m (.lst [a0, a1, a2, a3, a4, a5, a6, a7, a8, a9, a10, a11, a12, a13, a14, a15, a16, a17, a18, a19, a20, a21, a22, a23, a24, a25, a26, a27]) (.int (n % 28)) = some (selD [a0, a1, a2, a3, a4, a5, a6, a7, a8, a9, a10, a11, a12, a13, a14, a15, a16, a17, a18, a19, a20, a21, a22, a23, a24, a25, a26, a27] n) := idx_sel rfl (by decide)
theorem seld29 (m : Hs) (a0 a1 a2 a3 a4 a5 a6 a7 a8 a9 a10 a11 a12 a13 a14 a15 a16 a17 a18 a19 a20 a21 a22 a23 a24 a25 a26 a27 a28 : D) (n : Int) : idxD m (.lst [a0, a1, a2, a3, a4, a5, a6, a7, a8, a9, a10, a11, a12, a13, a14, a15, a16, a17, a18, a19, a20, a21, a22, a23, a24, a25, a26, a27, a28]) (.int (n % 29)) = some (selD [a0, a1, a2, a3, a4, a5, a6, a7, a8, a9, a10, a11, a12, a13, a14, a15, a16, a17, a18, a19, a20, a21, a22, a23, a24, a25, a26, a27, a28] n) := idx_sel rfl (by decide)
theorem seld30 (m : Hs) (a0 a1 a2 a3 a4 a5 a6 a7 a8 a9 a10 a11 a12 a13 a14 a15 a16 a17 a18 a19 a20 a21 a22 a23 a24 a25 a26 a27 a28 a29 : D) (n : Int) : idxD m (.lst [a0, a1, a2, a3, a4, a5, a6, a7, a8, a9, a10, a11, a12, a13, a14, a15, a16, a17, a18, a19, a20, a21, a22, a23, a24, a25, a26, a27, a28, a29]) (.int (n % 30)) = some (selD [a0, a1, a2, a3, a4, a5, a6, a7, a8, a9, a10, a11, a12, a13, a14, a15, a16, a17, a18, a19, a20, a21, a22, a23, a24, a25, a26, a27, a28, a29] n) := idx_sel rfl (by decide)
theorem seld31 (m : Hs) (a0 a1 a2 a3 a4 a5 a6 a7 a8 a9 a10 a11 a12 a13 a14 a15 a16 a17 a18 a19 a20 a21 a22 a23 a24 a25 a26 a27 a28 a29 a30 : D) (n : Int) : idxD m (.lst [a0, a1, a2, a3, a4, a5, a6, a7, a8, a9, a10, a11, a12, a13, a14, a15, a16, a17, a18, a19, a20, a21, a22, a23, a24, a25, a26, a27, a28, a29, a30]) (.int (n % 31)) = some (selD [a0, a1, a2, a3, a4, a5, a6, a7, a8, a9, a10, a11, a12, a13, a14, a15, a16, a17, a18, a19, a20, a21, a22, a23, a24, a25, a26, a27, a28, a29, a30] n) := idx_sel rfl (by decide)
def selI (l : List Int) (n : Int) : Int := l.getD (n % (l.length : Int)).toNat 0
theorem selI_mem {l : List Int} (n : Int) (h : l ≠ []) : selI l n ∈ l := by
  have h0 : 0 < l.length := by cases l with | nil => exact absurd rfl h | cons _ _ => simp
  have h1 : (n % (l.length : Int)).toNat < l.length := by
    have := md n l.length (by omega)
    omega
  unfold selI
  rw [List.getD_eq_getElem?_getD, List.getElem?_eq_getElem h1]
  exact List.getElem_mem h1
theorem sel_ofI {m : Hs} {l : List Int} {n k : Int} (hk : (l.length : Int) = k) (h0 : 0 < k) : idxD m (.lst (ofI l)) (.int (n % k)) = some (.int (selI l n)) := by
  have hk' : ((ofI l).length : Int) = k := by rw [ints_length]; exact hk
  rw [idx_sel hk' h0]
  subst hk
  have h2 := md n (l.length : Int) h0
  have h1 : (n % (l.length : Int)).toNat < l.length := by omega
  unfold selD selI
  rw [ints_length, List.getD_eq_getElem?_getD, List.getD_eq_getElem?_getD, List.getElem?_eq_getElem (by rw [ints_length]; exact h1), List.getElem?_eq_getElem h1]
  simp [ofI]
theorem sel2 (m : Hs) (a b n : Int) : idxD m (.lst [.int a, .int b]) (.int (n % 2)) = some (.int (selI [a, b] n)) := sel_ofI (l := [a, b]) rfl (by decide)
theorem sel3 (m : Hs) (a b c n : Int) : idxD m (.lst [.int a, .int b, .int c]) (.int (n % 3)) = some (.int (selI [a, b, c] n)) := sel_ofI (l := [a, b, c]) rfl (by decide)
theorem sel4 (m : Hs) (a b c d n : Int) : idxD m (.lst [.int a, .int b, .int c, .int d]) (.int (n % 4)) = some (.int (selI [a, b, c, d] n)) := sel_ofI (l := [a, b, c, d]) rfl (by decide)
theorem sel2_or (a b n : Int) : selI [a, b] n = a ∨ selI [a, b] n = b := by simpa using selI_mem n (l := [a, b]) (by simp)
theorem sel3_or (a b c n : Int) : selI [a, b, c] n = a ∨ selI [a, b, c] n = b ∨ selI [a, b, c] n = c := by simpa using selI_mem n (l := [a, b, c]) (by simp)
theorem sel4_or (a b c d n : Int) : selI [a, b, c, d] n = a ∨ selI [a, b, c, d] n = b ∨ selI [a, b, c, d] n = c ∨ selI [a, b, c, d] n = d := by simpa using selI_mem n (l := [a, b, c, d]) (by simp)
/-! ### comprehensions over the items of a list of one's own -/
theorem vk_lcF {α : Type} {f : D → Hs → R (Option D)} {m : Hs} {Q : List D → Hs → Prop} (l : List α) (e : α → D) (g : α → Option D) (h : ∀ a ∈ l, vk (f (e a) m) fun o m' => m' = m ∧ o = g a) (q : Q (l.filterMap g) m) : vk (lcGo f (l.map e) m) Q := by
  have key : ∀ l : List α, (∀ a ∈ l, vk (f (e a) m) fun o m' => m' = m ∧ o = g a) → lcGo f (l.map e) m = .ok (l.filterMap g) m := by
    intro l
    induction l with
    | nil => intro _; rfl
    | cons a l ih =>
      intro h
      have h1 := h a List.mem_cons_self
      have h2 := ih fun b hb => h b (List.mem_cons_of_mem _ hb)
      cases e1 : f (e a) m with
      | ok o m' =>
        rw [e1] at h1
        obtain ⟨rfl, rfl⟩ := h1
        simp only [List.map_cons, lcGo, e1, R.noX_ok, R.bind_ok, h2]
        cases e2 : g a with
        | none => rw [List.filterMap_cons_none e2]
        | some d => rw [List.filterMap_cons_some e2]
      | exc x n => rw [e1] at h1; exact h1.elim
      | stuck => rw [e1] at h1; exact h1.elim
  rw [key l h]; exact q
theorem vk_lcM {α : Type} {f : D → Hs → R (Option D)} {m : Hs} {Q : List D → Hs → Prop} (l : List α) (e g : α → D) (h : ∀ a ∈ l, vk (f (e a) m) fun o m' => m' = m ∧ o = some (g a)) (q : Q (l.map g) m) : vk (lcGo f (l.map e) m) Q :=
  vk_lcF l e (fun a => some (g a)) h (by rw [List.filterMap_eq_map']; exact q)
theorem vk_lcP {α : Type} {f : D → Hs → R (Option D)} {m : Hs} {Q : List D → Hs → Prop} (l : List α) (e g : α → D) (p : α → Bool) (h : ∀ a ∈ l, vk (f (e a) m) fun o m' => m' = m ∧ o = if p a = true then some (g a) else none) (q : Q ((l.filter p).map g) m) : vk (lcGo f (l.map e) m) Q :=
  vk_lcF l e (fun a => if p a = true then some (g a) else none) h (by
    have e1 : (l.filterMap fun a => if p a = true then some (g a) else none) = (l.filter p).map g := by
      clear h q
      induction l with
      | nil => rfl
      | cons a l ih => cases hp : p a <;> simp [hp, ih]
    rw [e1]; exact q)
def ocons (o : Option D) (r : List D) : List D := match o with | some d => d :: r | none => r
theorem ocons_some (d : D) (r : List D) : ocons (some d) r = d :: r := rfl
theorem ocons_none (r : List D) : ocons none r = r := rfl
theorem s_lc0 {f : D → Hs → R (Option D)} {m : Hs} {Q : List D → Hs → Prop} : vk (lcGo f [] m) Q = Q [] m := propext Iff.rfl
theorem s_lc1 {f : D → Hs → R (Option D)} {x : D} {xs : List D} {m : Hs} {Q : List D → Hs → Prop} : vk (lcGo f (x :: xs) m) Q = vk (f x m) fun o m1 => vk (lcGo f xs m1) fun r m2 => Q (ocons o r) m2 := by
  unfold vk
  show wok ((f x m).noX.bind _) Q = _
  rw [wok_bind, wok_noX]
  congr 1; funext o m1
  rw [wok_bind]; rfl
theorem leave_top (m : Hs) : vk (leave .drop 0 (.rt (.bl true) m)) (fun d _ => d = .bl true) := by simp [leave, thaw, closedD, vk, wok]
/-! ### texts -/
theorem eqD_str (m : Hs) {s t : Str} (hs : PyData.strOk s = true) (ht : PyData.strOk t = true) : eqD m (.str s) (.str t) = some (decide (s = t)) := by
  simp only [eqD, dp, dpW, PyData.eqv, PySem.SeqAt.shaped, PyData.canLay0, PyData.depth, hs, ht]
  by_cases h : s = t
  · subst h; simp
  · simp [h]
end Lw

set_option Elab.async false
set_option linter.all false
set_option maxRecDepth 100000
namespace Lw
open PySem PySem.Spec PyProof.Rows L2
def top (i : Nat) : Stmt := PySem.Challenge.pw_lentwise_k01_care_and_needs.main.body.getD i (.Pass ⟨0, 0, 0, 0⟩)
/-- is_among -/
def b0 : Ss := (.cons (.ret (.and (.isi .int (.var 0)) (.cons (.not (.isi .bool (.var 0))) (.cons (.chain .le .le (.var 1) (.var 0) (.var 2)) .nil)))) .nil)
def d0 : Dc := { nm := "is_among", st := top 5, N := ["thing", "least", "most"], ps := ["thing", "least", "most"], F := { name := "is_among", arity := 3, slots := 3, mode := .drop, body := b0 } }

/-- is_day -/
def b1 : Ss := (.cons (.ret (.call 0 (.cons (.var 0) (.cons (.cst (.int 0)) (.cons (.glob 0) .nil))))) .nil)
def d1 : Dc := { nm := "is_day", st := top 6, N := ["thing"], ps := ["thing"], F := { name := "is_day", arity := 1, slots := 1, mode := .drop, body := b1 } }

/-- is_name -/
def b2 : Ss := (.cons (.iff (.or (.not (.isi .str (.var 0))) (.cons (.not (.chain .le .le (.cst (.int 1)) (.bi .len (.cons (.var 0) .nil)) (.glob 1))) .nil)) (.cons (.ret (.cst (.bl false))) .nil) .nil) (.cons (.ret (.bi .all (.cons (.fz (.lc [1] (.nm 1) (.seq (.var 0)) (.cmp .isin (.var 1) (.glob 2)))) .nil))) .nil))
def d2 : Dc := { nm := "is_name", st := top 7, N := ["thing", "sign"], ps := ["thing"], F := { name := "is_name", arity := 1, slots := 2, mode := .drop, body := b2 } }

/-- is_row -/
def b3 : Ss := (.cons (.ret (.and (.isi .tuple (.var 0)) (.cons (.cmp .eq (.bi .len (.cons (.var 0) .nil)) (.var 1)) .nil))) .nil)
def d3 : Dc := { nm := "is_row", st := top 8, N := ["thing", "size"], ps := ["thing", "size"], F := { name := "is_row", arity := 2, slots := 2, mode := .drop, body := b3 } }

/-- is_care -/
def b4 : Ss := (.cons (.ret (.and (.call 3 (.cons (.var 0) (.cons (.cst (.int 4)) .nil))) (.cons (.bi .all (.cons (.fz (.lc [1] (.nm 1) (.seq (.var 0)) (.call 0 (.cons (.var 1) (.cons (.cst (.int 0)) (.cons (.glob 3) .nil)))))) .nil)) .nil))) .nil)
def d4 : Dc := { nm := "is_care", st := top 9, N := ["thing", "one"], ps := ["thing"], F := { name := "is_care", arity := 1, slots := 2, mode := .drop, body := b4 } }

/-- is_stretch -/
def b5 : Ss := (.cons (.iff (.or (.not (.call 3 (.cons (.var 0) (.cons (.cst (.int 2)) .nil)))) (.cons (.not (.bi .all (.cons (.fz (.lc [1] (.nm 1) (.seq (.var 0)) (.call 0 (.cons (.var 1) (.cons (.cst (.int 0)) (.cons (.glob 3) .nil)))))) .nil))) .nil)) (.cons (.ret (.cst (.bl false))) .nil) .nil) (.cons (.ret (.cmp .le (.idx (.var 0) (.cst (.int 0))) (.idx (.var 0) (.cst (.int 1))))) .nil))
def d5 : Dc := { nm := "is_stretch", st := top 10, N := ["thing", "one"], ps := ["thing"], F := { name := "is_stretch", arity := 1, slots := 2, mode := .drop, body := b5 } }

/-- is_need -/
def b6 : Ss := (.cons (.iff (.or (.not (.call 3 (.cons (.var 0) (.cons (.cst (.int 4)) .nil)))) (.cons (.not (.call 0 (.cons (.idx (.var 0) (.cst (.int 0))) (.cons (.cst (.int 0)) (.cons (.glob 3) .nil))))) (.cons (.not (.call 0 (.cons (.idx (.var 0) (.cst (.int 3))) (.cons (.cst (.int 0)) (.cons (.glob 3) .nil))))) .nil))) (.cons (.ret (.cst (.bl false))) .nil) .nil) (.cons (.ret (.and (.call 5 (.cons (.idx (.var 0) (.cst (.int 1))) .nil)) (.cons (.call 5 (.cons (.idx (.var 0) (.cst (.int 2))) .nil)) .nil))) .nil))
def d6 : Dc := { nm := "is_need", st := top 11, N := ["thing"], ps := ["thing"], F := { name := "is_need", arity := 1, slots := 1, mode := .drop, body := b6 } }

/-- does -/
def b7 : Ss := (.cons (.asg (.tp (.cons (.nm 2) (.cons (.nm 3) (.cons (.nm 4) (.cons (.nm 5) .nil))))) (.var 0)) (.cons (.iff (.or (.cmp .gt (.var 2) (.idx (.var 1) (.cst (.int 0)))) (.cons (.cmp .lt (.var 5) (.idx (.var 1) (.cst (.int 3)))) .nil)) (.cons (.ret (.cst (.bl false))) .nil) .nil) (.cons (.ret (.and (.chain .le .le (.idx (.idx (.var 1) (.cst (.int 1))) (.cst (.int 0))) (.var 3) (.idx (.idx (.var 1) (.cst (.int 1))) (.cst (.int 1)))) (.cons (.chain .le .le (.idx (.idx (.var 1) (.cst (.int 2))) (.cst (.int 0))) (.var 4) (.idx (.idx (.var 1) (.cst (.int 2))) (.cst (.int 1)))) .nil))) .nil)))
def d7 : Dc := { nm := "does", st := top 12, N := ["care", "need", "light", "damp", "warmth", "guard"], ps := ["care", "need"], F := { name := "does", arity := 2, slots := 6, mode := .drop, body := b7 } }

/-- holds -/
def b8 : Ss := (.cons (.iff (.or (.cmp .gt (.idx (.var 0) (.cst (.int 0))) (.idx (.var 1) (.cst (.int 0)))) (.cons (.cmp .lt (.idx (.var 0) (.cst (.int 3))) (.idx (.var 1) (.cst (.int 3)))) .nil)) (.cons (.ret (.cst (.bl false))) .nil) .nil) (.cons (.ret (.bi .all (.cons (.fz (.lc [2] (.nm 2) (.seq (.tup (.cons (.cst (.int 1)) (.cons (.cst (.int 2)) .nil)))) (.and (.cmp .le (.idx (.idx (.var 1) (.var 2)) (.cst (.int 0))) (.idx (.idx (.var 0) (.var 2)) (.cst (.int 0)))) (.cons (.cmp .le (.idx (.idx (.var 0) (.var 2)) (.cst (.int 1))) (.idx (.idx (.var 1) (.var 2)) (.cst (.int 1)))) .nil)))) .nil))) .nil))
def d8 : Dc := { nm := "holds", st := top 13, N := ["need", "other", "at"], ps := ["need", "other"], F := { name := "holds", arity := 2, slots := 3, mode := .drop, body := b8 } }

/-- _law_cell_at -/
def b9 : Ss := (.cons (.iff (.cmp .lt (.var 1) (.bi .len (.cons (.var 0) .nil))) (.cons (.ret (.idx (.var 0) (.var 1))) .nil) .nil) (.cons (.ret (.cst (.int 0))) .nil))
/-- never called: the place is kept by another one -/
def d9 : Dc := { nm := "is_among", st := top 5, N := ["thing", "least", "most"], ps := ["thing", "least", "most"], F := { name := "is_among", arity := 3, slots := 3, mode := .drop, body := b0 } }

/-- _law_cell -/
def b10 : Ss := (.cons (.sub (.var 1) (.cst (.int 0)) (.bin .add (.idx (.var 1) (.cst (.int 0))) (.cst (.int 1)))) (.cons (.asg (.nm 2) (.idx (.var 1) (.cst (.int 0)))) (.cons (.asg (.nm 3) (.bin .add (.bin .mul (.bin .mul (.cst (.int 31)) (.var 2)) (.var 2)) (.bin .mul (.cst (.int 7919)) (.var 2)))) (.cons (.iff (.and (.cmp .gt (.bi .len (.cons (.var 0) .nil)) (.cst (.int 0))) (.cons (.cmp .eq (.bin .mod (.idx (.var 0) (.cst (.int 0))) (.cst (.int 2))) (.cst (.int 1))) (.cons (.cmp .lt (.bin .fdiv (.var 2) (.bi .len (.cons (.var 0) .nil))) (.cst (.int 60))) .nil))) (.cons (.asg (.nm 4) (.bin .fdiv (.idx (.var 0) (.bin .mod (.var 2) (.bi .len (.cons (.var 0) .nil)))) (.cst (.int 2)))) (.cons (.forS (.nm 5) (.rng1 (.bin .fdiv (.var 2) (.bi .len (.cons (.var 0) .nil)))) (.cons (.asg (.nm 4) (.bin .fdiv (.var 4) (.cst (.int 306783379)))) .nil)) (.cons (.ret (.bin .mod (.var 4) (.cst (.int 306783379)))) .nil))) .nil) (.cons (.iff (.cmp .gt (.bi .len (.cons (.var 0) .nil)) (.cst (.int 0))) (.cons (.asg (.nm 3) (.bin .add (.var 3) (.bin .mul (.idx (.var 0) (.bin .mod (.var 2) (.bi .len (.cons (.var 0) .nil)))) (.bin .add (.cst (.int 1)) (.bin .fdiv (.var 2) (.bi .len (.cons (.var 0) .nil))))))) .nil) .nil) (.cons (.ret (.bin .fdiv (.bin .mod (.bin .mul (.var 3) (.cst (.int 48271))) (.cst (.int 2147483647))) (.cst (.int 7)))) .nil))))))
def d10 : Dc := { nm := "_law_cell", st := top 16, N := ["_law_cells", "_law_spot", "_law_k", "_law_base", "_law_own", "_law_turn"], ps := ["_law_cells", "_law_spot"], F := { name := "_law_cell", arity := 2, slots := 6, mode := .drop, body := b10 } }

/-- _law_need -/
def b11 : Ss := (.cons (.asg (.nm 2) (.call 10 (.cons (.var 0) (.cons (.var 1) .nil)))) (.cons (.asg (.nm 3) (.idx (.fz (.disp (.cons (.cst (.int 4)) (.cons (.cst (.int 12)) (.cons (.cst (.int 100)) .nil))))) (.bin .mod (.var 2) (.cst (.int 3))))) (.cons (.asg (.nm 4) (.alc (.disp .nil))) (.cons (.forS (.nm 5) (.rng1 (.cst (.int 2))) (.cons (.asg (.nm 6) (.bin .mod (.call 10 (.cons (.var 0) (.cons (.var 1) .nil))) (.var 3))) (.cons (.asg (.nm 7) (.bin .mod (.call 10 (.cons (.var 0) (.cons (.var 1) .nil))) (.idx (.fz (.disp (.cons (.cst (.int 1)) (.cons (.cst (.int 3)) (.cons (.cst (.int 100)) .nil))))) (.bin .mod (.bin .fdiv (.var 2) (.cst (.int 3))) (.cst (.int 3)))))) (.cons (.expr (.append (.var 4) (.tup (.cons (.var 6) (.cons (.bi .min2 (.cons (.cst (.int 99)) (.cons (.bin .add (.var 6) (.var 7)) .nil))) .nil))))) .nil)))) (.cons (.ret (.tup (.cons (.bin .mod (.bin .fdiv (.var 2) (.cst (.int 9))) (.var 3)) (.cons (.idx (.var 4) (.cst (.int 0))) (.cons (.idx (.var 4) (.cst (.int 1))) (.cons (.bin .mod (.bin .fdiv (.var 2) (.cst (.int 900))) (.var 3)) .nil)))))) .nil)))))
def d11 : Dc := { nm := "_law_need", st := top 17, N := ["_law_cells", "_law_spot", "_law_n", "_law_wide", "_law_some", "_law_k", "_law_low", "_law_more"], ps := ["_law_cells", "_law_spot"], F := { name := "_law_need", arity := 2, slots := 8, mode := .drop, body := b11 } }

/-- _law_level_fits -/
def b12 : Ss := (.cons (.iff (.cmp .eq (.var 2) (.cst (.int 0))) (.cons (.ret (.cmp .le (.var 0) (.idx (.var 1) (.cst (.int 0))))) .nil) .nil) (.cons (.iff (.cmp .eq (.var 2) (.cst (.int 3))) (.cons (.ret (.cmp .ge (.var 0) (.idx (.var 1) (.cst (.int 3))))) .nil) .nil) (.cons (.ret (.not (.or (.cmp .lt (.var 0) (.idx (.idx (.var 1) (.var 2)) (.cst (.int 0)))) (.cons (.cmp .gt (.var 0) (.idx (.idx (.var 1) (.var 2)) (.cst (.int 1)))) .nil)))) .nil)))
def d12 : Dc := { nm := "_law_level_fits", st := top 18, N := ["_law_level", "_law_need_here", "_law_at"], ps := ["_law_level", "_law_need_here", "_law_at"], F := { name := "_law_level_fits", arity := 3, slots := 3, mode := .drop, body := b12 } }

/-- _law_one_place -/
def b13 : Ss := (.cons (.forS (.nm 3) (.rng1 (.cst (.int 100))) (.cons (.iff (.and (.call 12 (.cons (.var 3) (.cons (.var 0) (.cons (.var 2) .nil)))) (.cons (.not (.call 12 (.cons (.var 3) (.cons (.var 1) (.cons (.var 2) .nil))))) .nil)) (.cons (.ret (.cst (.bl false))) .nil) .nil) .nil)) (.cons (.ret (.cst (.bl true))) .nil))
def d13 : Dc := { nm := "_law_one_place", st := top 19, N := ["_law_need_here", "_law_other", "_law_at", "_law_level"], ps := ["_law_need_here", "_law_other", "_law_at"], F := { name := "_law_one_place", arity := 3, slots := 4, mode := .drop, body := b13 } }

/-- _law_whole -/
def b14 : Ss := (.cons (.ret (.and (.isi .int (.var 0)) (.cons (.not (.isi .bool (.var 0))) (.cons (.chain .le .le (.cst (.int 0)) (.var 0) (.var 1)) .nil)))) .nil)
def d14 : Dc := { nm := "_law_whole", st := top 20, N := ["_law_thing", "_law_most"], ps := ["_law_thing", "_law_most"], F := { name := "_law_whole", arity := 2, slots := 2, mode := .drop, body := b14 } }

/-- _law_care -/
def b15 : Ss := (.cons (.iff (.or (.not (.isi .tuple (.var 0))) (.cons (.cmp .ne (.bi .len (.cons (.var 0) .nil)) (.cst (.int 4))) .nil)) (.cons (.ret (.cst (.bl false))) .nil) .nil) (.cons (.ret (.cmp .eq (.fz (.lcIf [1] (.nm 1) (.seq (.var 0)) (.not (.call 14 (.cons (.var 1) (.cons (.cst (.int 99)) .nil)))) (.var 1))) (.fz (.disp .nil)))) .nil))
def d15 : Dc := { nm := "_law_care", st := top 21, N := ["_law_thing", "_law_one"], ps := ["_law_thing"], F := { name := "_law_care", arity := 1, slots := 2, mode := .drop, body := b15 } }

/-- _law_is_need -/
def b16 : Ss := (.cons (.iff (.or (.not (.isi .tuple (.var 0))) (.cons (.cmp .ne (.bi .len (.cons (.var 0) .nil)) (.cst (.int 4))) (.cons (.not (.call 14 (.cons (.idx (.var 0) (.cst (.int 0))) (.cons (.cst (.int 99)) .nil)))) (.cons (.not (.call 14 (.cons (.idx (.var 0) (.cst (.int 3))) (.cons (.cst (.int 99)) .nil)))) .nil)))) (.cons (.ret (.cst (.bl false))) .nil) .nil) (.cons (.forS (.nm 1) (.seq (.slc (.var 0) (.so (.cst (.int 1))) (.so (.cst (.int 3))))) (.cons (.iff (.or (.not (.isi .tuple (.var 1))) (.cons (.cmp .ne (.bi .len (.cons (.var 1) .nil)) (.cst (.int 2))) (.cons (.not (.call 14 (.cons (.idx (.var 1) (.cst (.int 0))) (.cons (.cst (.int 99)) .nil)))) (.cons (.not (.call 14 (.cons (.idx (.var 1) (.cst (.int 1))) (.cons (.cst (.int 99)) .nil)))) .nil)))) (.cons (.ret (.cst (.bl false))) .nil) .nil) (.cons (.iff (.cmp .gt (.idx (.var 1) (.cst (.int 0))) (.idx (.var 1) (.cst (.int 1)))) (.cons (.ret (.cst (.bl false))) .nil) .nil) .nil))) (.cons (.ret (.cst (.bl true))) .nil)))
def d16 : Dc := { nm := "_law_is_need", st := top 22, N := ["_law_thing", "_law_one"], ps := ["_law_thing"], F := { name := "_law_is_need", arity := 1, slots := 2, mode := .drop, body := b16 } }

/-- _law_odd -/
def b17 : Ss := (.cons (.asg (.nm 3) (.fz (.disp (.cons (.cst (.bl true)) (.cons (.cst .non) (.cons (.bin .sub (.cst (.int 0)) (.cst (.int 1))) (.cons (.cst (.int 100)) (.cons (.cst (.str "5")) (.cons (.tup (.cons (.cst (.int 5)) .nil)) (.cons (.fz (.disp (.cons (.cst (.int 5)) .nil))) (.cons (.cst (.int 99)) (.cons (.cst (.int 0)) (.cons (.tup (.cons (.cst (.int 7)) (.cons (.cst (.int 5)) .nil))) (.cons (.tup (.cons (.cst (.int 0)) (.cons (.cst (.int 99)) .nil))) (.cons (.tup (.cons (.cst (.int 5)) (.cons (.cst (.int 5)) (.cons (.cst (.int 5)) .nil)))) (.cons (.dnw false) (.cons (.tup (.cons (.cst (.int 5)) (.cons (.cst (.bl true)) .nil))) (.cons (.tup (.cons (.cst (.int 100)) (.cons (.cst (.int 100)) .nil))) .nil)))))))))))))))))) (.cons (.asg (.nm 4) (.idx (.var 3) (.bin .mod (.bin .fdiv (.var 2) (.cst (.int 8))) (.cst (.int 15))))) (.cons (.asg (.nm 5) (.idx (.fz (.disp (.cons (.var 0) (.cons (.var 1) .nil)))) (.bin .mod (.var 2) (.cst (.int 2))))) (.cons (.asg (.nm 6) (.bin .mod (.bin .fdiv (.var 2) (.cst (.int 2))) (.cst (.int 4)))) (.cons (.iff (.cmp .eq (.bin .mod (.bin .fdiv (.var 2) (.cst (.int 120))) (.cst (.int 9))) (.cst (.int 1))) (.cons (.ret (.idx (.fz (.disp (.cons (.fz (.lstOf (.var 5))) (.cons (.slc (.var 5) .no (.so (.cst (.int 3)))) (.cons (.bin .add (.var 5) (.tup (.cons (.var 4) .nil))) (.cons (.var 4) (.cons (.bi .str1 (.cons (.var 5) .nil)) (.cons (.cst .non) .nil)))))))) (.bin .mod (.bin .fdiv (.var 2) (.cst (.int 1080))) (.cst (.int 6))))) .nil) .nil) (.cons (.ret (.bin .add (.bin .add (.slc (.var 5) .no (.so (.var 6))) (.tup (.cons (.var 4) .nil))) (.slc (.var 5) (.so (.bin .add (.var 6) (.cst (.int 1)))) .no))) .nil))))))
def d17 : Dc := { nm := "_law_odd", st := top 23, N := ["_law_care_here", "_law_need_here", "_law_n", "_law_odd_here", "_law_one", "_law_thing", "_law_at"], ps := ["_law_care_here", "_law_need_here", "_law_n"], F := { name := "_law_odd", arity := 3, slots := 7, mode := .drop, body := b17 } }

/-- _law_text -/
def b18 : Ss := (.cons (.asg (.nm 1) (.cst (.str "abcdefghijklmnopqrstuvwxyz"))) (.cons (.asg (.nm 2) (.m1 .join (.cst (.str "")) (.fz (.lc [3] (.nm 3) (.rng1 (.bin .mod (.var 0) (.cst (.int 9)))) (.idx (.var 1) (.bin .mod (.bin .add (.bin .fdiv (.var 0) (.cst (.int 9))) (.bin .mul (.cst (.int 5)) (.var 3))) (.cst (.int 26)))))))) (.cons (.asg (.nm 4) (.fz (.disp (.cons (.var 2) (.cons (.bin .add (.var 2) (.idx (.var 1) (.bin .mod (.var 0) (.cst (.int 26))))) (.cons (.bin .add (.var 2) (.cst (.str "A"))) (.cons (.bin .add (.cst (.str "1")) (.var 2)) (.cons (.bin .add (.var 2) (.cst (.str " "))) .nil)))))))) (.cons (.ret (.idx (.bin .add (.var 4) (.fz (.disp (.cons (.fz (.disp (.cons (.var 2) .nil))) (.cons (.cst .non) (.cons (.cst (.int 5)) (.cons (.slc (.var 2) .no (.so (.cst (.int 1)))) .nil))))))) (.bin .mod (.bin .fdiv (.var 0) (.cst (.int 234))) (.cst (.int 9))))) .nil))))
def d18 : Dc := { nm := "_law_text", st := top 24, N := ["_law_n", "_law_letters", "_law_word", "_law_k", "_law_some"], ps := ["_law_n"], F := { name := "_law_text", arity := 1, slots := 5, mode := .drop, body := b18 } }

/-- _law_is_name -/
def b19 : Ss := (.cons (.iff (.or (.not (.isi .str (.var 0))) (.cons (.not (.chain .le .le (.cst (.int 1)) (.bi .len (.cons (.var 0) .nil)) (.cst (.int 8)))) .nil)) (.cons (.ret (.cst (.bl false))) .nil) .nil) (.cons (.ret (.cmp .eq (.fz (.lcIf [1] (.nm 1) (.seq (.var 0)) (.cmp .notin (.var 1) (.cst (.str "abcdefghijklmnopqrstuvwxyz"))) (.var 1))) (.fz (.disp .nil)))) .nil))
def d19 : Dc := { nm := "_law_is_name", st := top 25, N := ["_law_thing", "_law_sign"], ps := ["_law_thing"], F := { name := "_law_is_name", arity := 1, slots := 2, mode := .drop, body := b19 } }

/-- _law_alike -/
def b20 : Ss := (.cons (.ret (.and (.isi .bool (.var 0)) (.cons (.cmp .eq (.var 0) (.var 1)) .nil))) .nil)
def d20 : Dc := { nm := "_law_alike", st := top 26, N := ["_law_told", "_law_due"], ps := ["_law_told", "_law_due"], F := { name := "_law_alike", arity := 2, slots := 2, mode := .drop, body := b20 } }

/-- law -/
def b21 : Ss := (.cons (.asg (.nm 1) (.alc (.disp (.cons (.cst (.int 0)) .nil)))) (.cons (.forS (.nm 2) (.rng1 (.bin .add (.cst (.int 2)) (.bin .fdiv (.bi .len (.cons (.var 0) .nil)) (.cst (.int 3))))) (.cons (.asg (.nm 3) (.call 11 (.cons (.var 0) (.cons (.var 1) .nil)))) (.cons (.asg (.nm 4) (.call 11 (.cons (.var 0) (.cons (.var 1) .nil)))) (.cons (.asg (.nm 5) (.call 10 (.cons (.var 0) (.cons (.var 1) .nil)))) (.cons (.asg (.nm 6) (.idx (.fz (.disp (.cons (.cst (.int 4)) (.cons (.cst (.int 12)) (.cons (.cst (.int 100)) .nil))))) (.bin .mod (.var 5) (.cst (.int 3))))) (.cons (.asg (.nm 7) (.bi .tup1 (.cons (.fz (.lc [8] (.nm 8) (.rng1 (.cst (.int 4))) (.bin .mod (.call 10 (.cons (.var 0) (.cons (.var 1) .nil))) (.var 6)))) .nil))) (.cons (.asg (.nm 9) (.cmp .eq (.fz (.lcIf [10] (.nm 10) (.rng1 (.cst (.int 4))) (.not (.call 12 (.cons (.idx (.var 7) (.var 10)) (.cons (.var 3) (.cons (.var 10) .nil))))) (.var 10))) (.fz (.disp .nil)))) (.cons (.iff (.not (.call 20 (.cons (.call 7 (.cons (.var 7) (.cons (.var 3) .nil))) (.cons (.var 9) .nil)))) (.cons (.ret (.cst (.bl false))) .nil) .nil) (.cons (.iff (.cmp .eq (.bin .mod (.bin .fdiv (.var 5) (.cst (.int 3))) (.cst (.int 4))) (.cst (.int 1))) (.cons (.asg (.nm 4) (.tup (.cons (.idx (.var 3) (.cst (.int 0))) (.cons (.idx (.var 4) (.cst (.int 1))) (.cons (.idx (.var 3) (.cst (.int 2))) (.cons (.idx (.var 3) (.cst (.int 3))) .nil)))))) .nil) .nil) (.cons (.asg (.nm 9) (.cmp .eq (.fz (.lcIf [10] (.nm 10) (.rng1 (.cst (.int 4))) (.not (.call 13 (.cons (.var 3) (.cons (.var 4) (.cons (.var 10) .nil))))) (.var 10))) (.fz (.disp .nil)))) (.cons (.iff (.or (.not (.call 20 (.cons (.call 8 (.cons (.var 3) (.cons (.var 4) .nil))) (.cons (.var 9) .nil)))) (.cons (.not (.call 20 (.cons (.call 8 (.cons (.var 3) (.cons (.var 3) .nil))) (.cons (.cst (.bl true)) .nil)))) .nil)) (.cons (.ret (.cst (.bl false))) .nil) .nil) (.cons (.asg (.nm 11) (.call 17 (.cons (.var 7) (.cons (.var 3) (.cons (.call 10 (.cons (.var 0) (.cons (.var 1) .nil))) .nil))))) (.cons (.iff (.or (.not (.call 20 (.cons (.call 4 (.cons (.var 11) .nil)) (.cons (.call 15 (.cons (.var 11) .nil)) .nil)))) (.cons (.not (.call 20 (.cons (.call 6 (.cons (.var 11) .nil)) (.cons (.call 16 (.cons (.var 11) .nil)) .nil)))) .nil)) (.cons (.ret (.cst (.bl false))) .nil) .nil) (.cons (.iff (.or (.not (.call 4 (.cons (.var 7) .nil))) (.cons (.not (.call 6 (.cons (.var 3) .nil))) .nil)) (.cons (.ret (.cst (.bl false))) .nil) .nil) (.cons (.asg (.nm 12) (.call 18 (.cons (.call 10 (.cons (.var 0) (.cons (.var 1) .nil))) .nil))) (.cons (.asg (.nm 13) (.idx (.fz (.disp (.cons (.bin .mod (.var 5) (.cst (.int 10000))) (.cons (.cst (.int 9999)) (.cons (.bin .add (.cst (.int 10000)) (.bin .mod (.var 5) (.cst (.int 7)))) (.cons (.bin .sub (.bin .sub (.cst (.int 0)) (.cst (.int 1))) (.bin .mod (.var 5) (.cst (.int 3)))) (.cons (.cst (.bl true)) (.cons (.cst .non) (.cons (.cst (.str "5")) (.cons (.cst (.int 0)) .nil)))))))))) (.bin .mod (.bin .fdiv (.var 5) (.cst (.int 12))) (.cst (.int 8))))) (.cons (.iff (.or (.not (.call 20 (.cons (.call 2 (.cons (.var 12) .nil)) (.cons (.call 19 (.cons (.var 12) .nil)) .nil)))) (.cons (.not (.call 20 (.cons (.call 1 (.cons (.var 13) .nil)) (.cons (.call 14 (.cons (.var 13) (.cons (.cst (.int 9999)) .nil))) .nil)))) .nil)) (.cons (.ret (.cst (.bl false))) .nil) .nil) .nil))))))))))))))))) (.cons (.ret (.cst (.bl true))) .nil)))
def d21 : Dc := { nm := "law", st := top 27, N := ["_law_script", "_law_spot", "_law_k", "_law_need_here", "_law_other", "_law_n", "_law_wide", "_law_care_here", "_law_j", "_law_due", "_law_at", "_law_thing", "_law_text_here", "_law_day"], ps := ["_law_script"], F := { name := "law", arity := 1, slots := 14, mode := .drop, body := b21 } }

def dcs : List Dc := [d0, d1, d2, d3, d4, d5, d6, d7, d8, d9, d10, d11, d12, d13, d14, d15, d16, d17, d18, d19, d20, d21]
def gln : List PySem.Str := ["LAST_DAY", "MOST_LETTERS", "LETTERS", "MOST_LEVEL"]
theorem ck0 : chkD gln (fnsOf dcs) d0 = true := by decide +kernel
theorem ck1 : chkD gln (fnsOf dcs) d1 = true := by decide +kernel
theorem ck2 : chkD gln (fnsOf dcs) d2 = true := by decide +kernel
theorem ck3 : chkD gln (fnsOf dcs) d3 = true := by decide +kernel
theorem ck4 : chkD gln (fnsOf dcs) d4 = true := by decide +kernel
theorem ck5 : chkD gln (fnsOf dcs) d5 = true := by decide +kernel
theorem ck6 : chkD gln (fnsOf dcs) d6 = true := by decide +kernel
theorem ck7 : chkD gln (fnsOf dcs) d7 = true := by decide +kernel
theorem ck8 : chkD gln (fnsOf dcs) d8 = true := by decide +kernel
theorem ck9 : chkD gln (fnsOf dcs) d9 = true := by decide +kernel
theorem ck10 : chkD gln (fnsOf dcs) d10 = true := by decide +kernel
theorem ck11 : chkD gln (fnsOf dcs) d11 = true := by decide +kernel
theorem ck12 : chkD gln (fnsOf dcs) d12 = true := by decide +kernel
theorem ck13 : chkD gln (fnsOf dcs) d13 = true := by decide +kernel
theorem ck14 : chkD gln (fnsOf dcs) d14 = true := by decide +kernel
theorem ck15 : chkD gln (fnsOf dcs) d15 = true := by decide +kernel
theorem ck16 : chkD gln (fnsOf dcs) d16 = true := by decide +kernel
theorem ck17 : chkD gln (fnsOf dcs) d17 = true := by decide +kernel
theorem ck18 : chkD gln (fnsOf dcs) d18 = true := by decide +kernel
theorem ck19 : chkD gln (fnsOf dcs) d19 = true := by decide +kernel
theorem ck20 : chkD gln (fnsOf dcs) d20 = true := by decide +kernel
theorem ck21 : chkD gln (fnsOf dcs) d21 = true := by decide +kernel
end Lw

set_option Elab.async false
set_option linter.all false
set_option maxRecDepth 100000
set_option maxHeartbeats 4000000
namespace Lw
open PySem (Str PyData)
def gsD : List D := [.int 9999, .int 8, .str "abcdefghijklmnopqrstuvwxyz", .int 99]
abbrev P1 : List Fn := dcs.map (·.F)
abbrev G1 : Nat → Option D := (gsD[·]?)
/-- the spot, and what is left behind -/
def S1 (a : Int) (w : Hs) : Hs := .lst [.int a] :: w
theorem S1_idx (a : Int) (w : Hs) : idxD (S1 a w) (.ref 0) (.int 0) = some (.int a) := rfl
theorem S1_sub (a b : Int) (w : Hs) : subD (S1 a w) (.ref 0) (.int 0) (.int b) = some (S1 b w) := rfl
theorem S1_len (a : Int) (w : Hs) : (S1 a w).length = w.length + 1 := rfl
theorem idx_sct (m : Hs) (ns : List Int) (i : Int) (h0 : 0 ≤ i) (h1 : i < ns.length) : idxD m (.sct (ofI ns)) (.int i) = some (.int (ns.getD i.toNat 0)) := by
  have : i.toNat < ns.length := by omega
  simp [idxD, L2.atI, L2.ixN, h0, h1, ofI, this]
theorem len_sct (m : Hs) (ns : List Int) : biD m .len [.sct (ofI ns)] = some (.int ns.length) := by simp [biD]
theorem cell_ok {k : Nat} {ns : List Int} {a : Int} {w : Hs} {Q : D → Hs → Prop} (hl : ns.length ≤ 63) (h0 : 0 ≤ a) (h1 : a < 1000000) (q : ∀ r : Int, 0 ≤ r → Q (.int r) (S1 (a + 1) w)) : vk (runFn P1 G1 (k + 1) 10 [.sct (ofI ns), .ref 0] (S1 a w)) Q := by
  have hm1 : L2.CMul 31 (a + 1) := Or.inl (by decide)
  have hm2 : L2.CMul (31 * (a + 1)) (a + 1) := Or.inr (by constructor <;> omega)
  have hm3 : L2.CMul 7919 (a + 1) := Or.inl (by decide)
  have hm4 : ∀ x : Int, L2.CMul x 48271 := fun x => Or.inr (by decide)
  have hd1 : ∀ x, L2.CDivW x 2 := fun x => cdw (by decide) (by decide)
  have hd2 : ∀ x, L2.CDivW x 306783379 := fun x => cdw (by decide) (by decide)
  have hd3 : ∀ x, L2.CDivW x 7 := fun x => cdw (by decide) (by decide)
  have p1 : (0 : Int) < 2 := by decide
  have p2 : (0 : Int) < 306783379 := by decide
  have p3 : (0 : Int) < 2147483647 := by decide
  have fin : ∀ x : Int, vk (leave .drop (S1 a w).length (.rt (.int x) (S1 (a + 1) w))) Q = Q (.int x) (S1 (a + 1) w) := fun x => vk_leave rfl
  refine vk_call b10 .drop [some (.sct (ofI ns)), some (.ref 0), none, none, none, none] rfl rfl rfl rfl rfl ?_
  unfold b10
  simp only [pr_eq, vk_ok, s_cst, s_glob, s_var, s_tup, s_fz, s_alc, s_bin, s_neg, s_cmp, s_chain, s_isN, s_isB, s_and, s_or, s_and1, s_or1, s_and2, s_or2, s_not, s_ife, s_idx, s_slc, s_call, s_bi, s_isi, s_append, s_dsp, s_dnw, s_m1, s_es0, s_es1, s_ks0, s_ks1, s_no, s_so, s_disp, s_lstOf, s_rng3, s_seq, s_rng1, s_rng2, s_lc, s_lcIf, s_lcB, s_lcBI, s_nil, s_cons, s_expr, s_asg, s_sub, s_par, s_ret, s_retN, s_iff, s_for, s_pass, s_body, vB_true, vB_false, wo_some, wc_true, varD, refD, itD, blD, intD, isNonD, setAll, evT, evTs, binD, cmpD, eqD_int, eqD_bl, eqL_int, eqL_bl, List.getElem?_cons_zero, List.getElem?_cons_succ, List.set_cons_zero, List.set_cons_succ, List.length_cons, List.length_nil, Option.map_some, Option.map_none, Bool.not_true, Bool.not_false, if_true, if_false, Bool.false_eq_true, decide_true, decide_false, sz_ok, sz_lt, Nat.reduceLeDiff, Nat.reduceAdd, Nat.zero_le, Int.reduceNeg, S1_idx, S1_sub, hm1, hm2, hm3, len_sct]
  refine vB_dec (fun c1 => ?_) (fun c1 => ?_)
  · have hl0 : (0 : Int) < (ns.length : Int) := by omega
    have hdl : ∀ x, L2.CDivW x (ns.length : Int) := fun x => cdw hl0 (by omega)
    have i0 := idx_sct (S1 (a + 1) w) ns 0 (by decide) hl0
    have ij := idx_sct (S1 (a + 1) w) ns ((a + 1) % (ns.length : Int)) (Int.emod_nonneg _ (by omega)) (Int.emod_lt_of_pos _ hl0)
    have kd : 0 ≤ (a + 1) / (ns.length : Int) := Int.ediv_nonneg (by omega) (by omega)
    have kd2 : (a + 1) / (ns.length : Int) ≤ a + 1 := Int.ediv_le_self _ (by omega)
    have hsm : small ((a + 1) / (ns.length : Int)) = true := decide_eq_true ⟨by omega, by omega⟩
    have hm5 : ∀ x : Int, L2.CMul x (1 + (a + 1) / (ns.length : Int)) := fun x => Or.inr ⟨by omega, by omega⟩
    have e1 : decide ((0 : Int) < (ns.length : Int)) = true := decide_eq_true hl0
    simp only [pr_eq, vk_ok, s_cst, s_glob, s_var, s_tup, s_fz, s_alc, s_bin, s_neg, s_cmp, s_chain, s_isN, s_isB, s_and, s_or, s_and1, s_or1, s_and2, s_or2, s_not, s_ife, s_idx, s_slc, s_call, s_bi, s_isi, s_append, s_dsp, s_dnw, s_m1, s_es0, s_es1, s_ks0, s_ks1, s_no, s_so, s_disp, s_lstOf, s_rng3, s_seq, s_rng1, s_rng2, s_lc, s_lcIf, s_lcB, s_lcBI, s_nil, s_cons, s_expr, s_asg, s_sub, s_par, s_ret, s_retN, s_iff, s_for, s_pass, s_body, vB_true, vB_false, wo_some, wc_true, varD, refD, itD, blD, intD, isNonD, setAll, evT, evTs, binD, cmpD, eqD_int, eqD_bl, eqL_int, eqL_bl, List.getElem?_cons_zero, List.getElem?_cons_succ, List.set_cons_zero, List.set_cons_succ, List.length_cons, List.length_nil, Option.map_some, Option.map_none, Bool.not_true, Bool.not_false, if_true, if_false, Bool.false_eq_true, decide_true, decide_false, sz_ok, sz_lt, Nat.reduceLeDiff, Nat.reduceAdd, Nat.zero_le, Int.reduceNeg, S1_idx, S1_sub, hm4, hm5, hd1, hd2, hd3, hdl, len_sct, p1, p2, p3, hl0, i0, ij]
    refine vB_dec (fun c2 => ?_) (fun c2 => ?_)
    · simp only [pr_eq, vk_ok, s_cst, s_glob, s_var, s_tup, s_fz, s_alc, s_bin, s_neg, s_cmp, s_chain, s_isN, s_isB, s_and, s_or, s_and1, s_or1, s_and2, s_or2, s_not, s_ife, s_idx, s_slc, s_call, s_bi, s_isi, s_append, s_dsp, s_dnw, s_m1, s_es0, s_es1, s_ks0, s_ks1, s_no, s_so, s_disp, s_lstOf, s_rng3, s_seq, s_rng1, s_rng2, s_lc, s_lcIf, s_lcB, s_lcBI, s_nil, s_cons, s_expr, s_asg, s_sub, s_par, s_ret, s_retN, s_iff, s_for, s_pass, s_body, vB_true, vB_false, wo_some, wc_true, varD, refD, itD, blD, intD, isNonD, setAll, evT, evTs, binD, cmpD, eqD_int, eqD_bl, eqL_int, eqL_bl, List.getElem?_cons_zero, List.getElem?_cons_succ, List.set_cons_zero, List.set_cons_succ, List.length_cons, List.length_nil, Option.map_some, Option.map_none, Bool.not_true, Bool.not_false, if_true, if_false, Bool.false_eq_true, decide_true, decide_false, sz_ok, sz_lt, Nat.reduceLeDiff, Nat.reduceAdd, Nat.zero_le, Int.reduceNeg, S1_idx, S1_sub, hm4, hm5, hd1, hd2, hd3, hdl, len_sct, p1, p2, p3, hl0, i0, ij]
      refine vB_dec (fun c3 => ?_) (fun c3 => ?_)
      · simp only [pr_eq, vk_ok, s_cst, s_glob, s_var, s_tup, s_fz, s_alc, s_bin, s_neg, s_cmp, s_chain, s_isN, s_isB, s_and, s_or, s_and1, s_or1, s_and2, s_or2, s_not, s_ife, s_idx, s_slc, s_call, s_bi, s_isi, s_append, s_dsp, s_dnw, s_m1, s_es0, s_es1, s_ks0, s_ks1, s_no, s_so, s_disp, s_lstOf, s_rng3, s_seq, s_rng1, s_rng2, s_lc, s_lcIf, s_lcB, s_lcBI, s_nil, s_cons, s_expr, s_asg, s_sub, s_par, s_ret, s_retN, s_iff, s_for, s_pass, s_body, vB_true, vB_false, wo_some, wc_true, varD, refD, itD, blD, intD, isNonD, setAll, evT, evTs, binD, cmpD, eqD_int, eqD_bl, eqL_int, eqL_bl, List.getElem?_cons_zero, List.getElem?_cons_succ, List.set_cons_zero, List.set_cons_succ, List.length_cons, List.length_nil, Option.map_some, Option.map_none, Bool.not_true, Bool.not_false, if_true, if_false, Bool.false_eq_true, decide_true, decide_false, sz_ok, sz_lt, Nat.reduceLeDiff, Nat.reduceAdd, Nat.zero_le, Int.reduceNeg, S1_idx, S1_sub, hm4, hm5, hd1, hd2, hd3, hdl, len_sct, p1, p2, p3, hl0, i0, ij, hsm]
        refine vS_go (fun _ ρ m => m = S1 (a + 1) w ∧ ∃ (own : Int) (v u : Option D), ρ = [some (.sct (ofI ns)), some (.ref 0), some (D.int (a + 1)), u, some (D.int own), v]) ⟨rfl, _, _, _, rfl⟩ ?_ ?_
        · rintro i x ρ m hx ⟨rfl, own, v, u, rfl⟩
          simp only [pr_eq, vk_ok, s_cst, s_glob, s_var, s_tup, s_fz, s_alc, s_bin, s_neg, s_cmp, s_chain, s_isN, s_isB, s_and, s_or, s_and1, s_or1, s_and2, s_or2, s_not, s_ife, s_idx, s_slc, s_call, s_bi, s_isi, s_append, s_dsp, s_dnw, s_m1, s_es0, s_es1, s_ks0, s_ks1, s_no, s_so, s_disp, s_lstOf, s_rng3, s_seq, s_rng1, s_rng2, s_lc, s_lcIf, s_lcB, s_lcBI, s_nil, s_cons, s_expr, s_asg, s_sub, s_par, s_ret, s_retN, s_iff, s_for, s_pass, s_body, vB_true, vB_false, wo_some, wc_true, varD, refD, itD, blD, intD, isNonD, setAll, evT, evTs, binD, cmpD, eqD_int, eqD_bl, eqL_int, eqL_bl, List.getElem?_cons_zero, List.getElem?_cons_succ, List.set_cons_zero, List.set_cons_succ, List.length_cons, List.length_nil, Option.map_some, Option.map_none, Bool.not_true, Bool.not_false, if_true, if_false, Bool.false_eq_true, decide_true, decide_false, sz_ok, sz_lt, Nat.reduceLeDiff, Nat.reduceAdd, Nat.zero_le, Int.reduceNeg, hd2]
          exact ⟨trivial, _, _, _, rfl⟩
        · rintro ρ m ⟨rfl, own, v, u, rfl⟩
          simp only [pr_eq, vk_ok, s_cst, s_glob, s_var, s_tup, s_fz, s_alc, s_bin, s_neg, s_cmp, s_chain, s_isN, s_isB, s_and, s_or, s_and1, s_or1, s_and2, s_or2, s_not, s_ife, s_idx, s_slc, s_call, s_bi, s_isi, s_append, s_dsp, s_dnw, s_m1, s_es0, s_es1, s_ks0, s_ks1, s_no, s_so, s_disp, s_lstOf, s_rng3, s_seq, s_rng1, s_rng2, s_lc, s_lcIf, s_lcB, s_lcBI, s_nil, s_cons, s_expr, s_asg, s_sub, s_par, s_ret, s_retN, s_iff, s_for, s_pass, s_body, vB_true, vB_false, wo_some, wc_true, varD, refD, itD, blD, intD, isNonD, setAll, evT, evTs, binD, cmpD, eqD_int, eqD_bl, eqL_int, eqL_bl, List.getElem?_cons_zero, List.getElem?_cons_succ, List.set_cons_zero, List.set_cons_succ, List.length_cons, List.length_nil, Option.map_some, Option.map_none, Bool.not_true, Bool.not_false, if_true, if_false, Bool.false_eq_true, decide_true, decide_false, sz_ok, sz_lt, Nat.reduceLeDiff, Nat.reduceAdd, Nat.zero_le, Int.reduceNeg, p2, fin]
          exact q _ (Int.emod_nonneg _ (by decide))
      · simp only [pr_eq, vk_ok, s_cst, s_glob, s_var, s_tup, s_fz, s_alc, s_bin, s_neg, s_cmp, s_chain, s_isN, s_isB, s_and, s_or, s_and1, s_or1, s_and2, s_or2, s_not, s_ife, s_idx, s_slc, s_call, s_bi, s_isi, s_append, s_dsp, s_dnw, s_m1, s_es0, s_es1, s_ks0, s_ks1, s_no, s_so, s_disp, s_lstOf, s_rng3, s_seq, s_rng1, s_rng2, s_lc, s_lcIf, s_lcB, s_lcBI, s_nil, s_cons, s_expr, s_asg, s_sub, s_par, s_ret, s_retN, s_iff, s_for, s_pass, s_body, vB_true, vB_false, wo_some, wc_true, varD, refD, itD, blD, intD, isNonD, setAll, evT, evTs, binD, cmpD, eqD_int, eqD_bl, eqL_int, eqL_bl, List.getElem?_cons_zero, List.getElem?_cons_succ, List.set_cons_zero, List.set_cons_succ, List.length_cons, List.length_nil, Option.map_some, Option.map_none, Bool.not_true, Bool.not_false, if_true, if_false, Bool.false_eq_true, decide_true, decide_false, sz_ok, sz_lt, Nat.reduceLeDiff, Nat.reduceAdd, Nat.zero_le, Int.reduceNeg, S1_idx, S1_sub, hm4, hm5, hd1, hd2, hd3, hdl, len_sct, p1, p2, p3, hl0, i0, ij, e1, fin, decide_true]
        exact q _ (Int.ediv_nonneg (Int.emod_nonneg _ (by decide)) (by decide))
    · simp only [pr_eq, vk_ok, s_cst, s_glob, s_var, s_tup, s_fz, s_alc, s_bin, s_neg, s_cmp, s_chain, s_isN, s_isB, s_and, s_or, s_and1, s_or1, s_and2, s_or2, s_not, s_ife, s_idx, s_slc, s_call, s_bi, s_isi, s_append, s_dsp, s_dnw, s_m1, s_es0, s_es1, s_ks0, s_ks1, s_no, s_so, s_disp, s_lstOf, s_rng3, s_seq, s_rng1, s_rng2, s_lc, s_lcIf, s_lcB, s_lcBI, s_nil, s_cons, s_expr, s_asg, s_sub, s_par, s_ret, s_retN, s_iff, s_for, s_pass, s_body, vB_true, vB_false, wo_some, wc_true, varD, refD, itD, blD, intD, isNonD, setAll, evT, evTs, binD, cmpD, eqD_int, eqD_bl, eqL_int, eqL_bl, List.getElem?_cons_zero, List.getElem?_cons_succ, List.set_cons_zero, List.set_cons_succ, List.length_cons, List.length_nil, Option.map_some, Option.map_none, Bool.not_true, Bool.not_false, if_true, if_false, Bool.false_eq_true, decide_true, decide_false, sz_ok, sz_lt, Nat.reduceLeDiff, Nat.reduceAdd, Nat.zero_le, Int.reduceNeg, S1_idx, S1_sub, hm4, hm5, hd1, hd2, hd3, hdl, len_sct, p1, p2, p3, hl0, i0, ij, e1, fin, decide_true]
      exact q _ (Int.ediv_nonneg (Int.emod_nonneg _ (by decide)) (by decide))
  · have e1 : decide ((0 : Int) < (ns.length : Int)) = false := decide_eq_false c1
    simp only [pr_eq, vk_ok, s_cst, s_glob, s_var, s_tup, s_fz, s_alc, s_bin, s_neg, s_cmp, s_chain, s_isN, s_isB, s_and, s_or, s_and1, s_or1, s_and2, s_or2, s_not, s_ife, s_idx, s_slc, s_call, s_bi, s_isi, s_append, s_dsp, s_dnw, s_m1, s_es0, s_es1, s_ks0, s_ks1, s_no, s_so, s_disp, s_lstOf, s_rng3, s_seq, s_rng1, s_rng2, s_lc, s_lcIf, s_lcB, s_lcBI, s_nil, s_cons, s_expr, s_asg, s_sub, s_par, s_ret, s_retN, s_iff, s_for, s_pass, s_body, vB_true, vB_false, wo_some, wc_true, varD, refD, itD, blD, intD, isNonD, setAll, evT, evTs, binD, cmpD, eqD_int, eqD_bl, eqL_int, eqL_bl, List.getElem?_cons_zero, List.getElem?_cons_succ, List.set_cons_zero, List.set_cons_succ, List.length_cons, List.length_nil, Option.map_some, Option.map_none, Bool.not_true, Bool.not_false, if_true, if_false, Bool.false_eq_true, decide_true, decide_false, sz_ok, sz_lt, Nat.reduceLeDiff, Nat.reduceAdd, Nat.zero_le, Int.reduceNeg, S1_idx, S1_sub, hm4, hd1, hd2, hd3, len_sct, p1, p2, p3, e1, fin, decide_true]
    exact q _ (Int.ediv_nonneg (Int.emod_nonneg _ (by decide)) (by decide))

/-- what is left behind tells of nothing -/
def Gb (w : Hs) : Prop := ∀ n, w.all (closedO n) = true
theorem S1_closed {a : Int} {w : Hs} (h : Gb w) (n : Nat) : (S1 a w).all (closedO n) = true := by
  unfold S1
  rw [List.all_cons, h n]; rfl
theorem S1_app (a : Int) (w : Hs) (o : O) : S1 a w ++ [o] = S1 a (w ++ [o]) := rfl
theorem S1_get (a : Int) (w : Hs) (o : O) : (S1 a (w ++ [o]))[w.length + 1]? = some o := by simp [S1]
theorem S1_set (a : Int) (w : Hs) (o o' : O) : (S1 a (w ++ [o])).set (w.length + 1) o' = S1 a (w ++ [o']) := by simp [S1]
theorem S1_lst (a : Int) (w : Hs) (l : List D) : lstAt (S1 a (w ++ [.lst l])) (w.length + 1) = some l := lst_at (S1_get a w _)
theorem S1_ix (a : Int) (w : Hs) (l : List D) (i : Int) : idxD (S1 a (w ++ [.lst l])) (.ref (w.length + 1)) (.int i) = L2.atI l i := by simp only [idxD, S1_get]
theorem pick3 (m : Hs) (a b c n : Int) : ∃ v, idxD m (.lst [.int a, .int b, .int c]) (.int (n % 3)) = some (.int v) ∧ (v = a ∨ v = b ∨ v = c) := by
  have h0 : 0 ≤ n % 3 := Int.emod_nonneg _ (by decide)
  have h1 : n % 3 < 3 := Int.emod_lt_of_pos _ (by decide)
  obtain h | h | h : n % 3 = 0 ∨ n % 3 = 1 ∨ n % 3 = 2 := by omega
  · rw [h]; exact ⟨a, rfl, by simp⟩
  · rw [h]; exact ⟨b, rfl, by simp⟩
  · rw [h]; exact ⟨c, rfl, by simp⟩
def needD (l a b c d g : Int) : D := .tup [.int l, .tup [.int a, .int b], .tup [.int c, .int d], .int g]
structure NeedOk (l a b c d g : Int) : Prop where
  l0 : 0 ≤ l
  l1 : l ≤ 99
  a0 : 0 ≤ a
  ab : a ≤ b
  b1 : b ≤ 99
  c0 : 0 ≤ c
  cd : c ≤ d
  d1 : d ≤ 99
  g0 : 0 ≤ g
  g1 : g ≤ 99
theorem bi_min (m : Hs) (i j : Int) : biD m .min2 [.int i, .int j] = some (.int (if j < i then j else i)) := rfl
theorem need_ok {k : Nat} {ns : List Int} {a : Int} {w : Hs} {Q : D → Hs → Prop} (hl : ns.length ≤ 63) (h0 : 0 ≤ a) (h1 : a < 900000) (hw : Gb w) (q : ∀ l b c d e g : Int, NeedOk l b c d e g → Q (needD l b c d e g) (S1 (a + 5) w)) :
    vk (runFn P1 G1 (k + 2) 11 [.sct (ofI ns), .ref 0] (S1 a w)) Q := by
  have e3 : ∀ x, L2.CDivW x 3 := fun x => cdw (by decide) (by decide)
  have e9 : ∀ x, L2.CDivW x 9 := fun x => cdw (by decide) (by decide)
  have e900 : ∀ x, L2.CDivW x 900 := fun x => cdw (by decide) (by decide)
  have q3 : (0 : Int) < 3 := by decide
  have s2 : small 2 = true := rfl
  have hr2 : rngL 0 (Int.toNat 2) = [.int 0, .int 1] := rfl
  refine vk_call b11 .drop [some (.sct (ofI ns)), some (.ref 0), none, none, none, none, none, none] rfl rfl rfl rfl rfl ?_
  unfold b11
  simp only [pr_eq, vk_ok, s_cst, s_glob, s_var, s_tup, s_fz, s_alc, s_bin, s_neg, s_cmp, s_chain, s_isN, s_isB, s_and, s_or, s_and1, s_or1, s_and2, s_or2, s_not, s_ife, s_idx, s_slc, s_call, s_bi, s_isi, s_append, s_dsp, s_dnw, s_m1, s_es0, s_es1, s_ks0, s_ks1, s_no, s_so, s_disp, s_lstOf, s_rng3, s_seq, s_rng1, s_rng2, s_lc, s_lcIf, s_lcB, s_lcBI, s_nil, s_cons, s_expr, s_asg, s_sub, s_par, s_ret, s_retN, s_iff, s_for, s_pass, s_body, vB_true, vB_false, wo_some, wc_true, varD, refD, itD, blD, intD, isNonD, setAll, evT, evTs, binD, cmpD, eqD_int, eqD_bl, eqL_int, eqL_bl, List.getElem?_cons_zero, List.getElem?_cons_succ, List.set_cons_zero, List.set_cons_succ, List.length_cons, List.length_nil, Option.map_some, Option.map_none, Bool.not_true, Bool.not_false, if_true, if_false, Bool.false_eq_true, decide_true, decide_false, sz_ok, sz_lt, Nat.reduceLeDiff, Nat.reduceAdd, Nat.zero_le, Int.reduceNeg]
  refine cell_ok hl h0 (by omega) fun n hn => ?_
  obtain ⟨wd, ew, hwd⟩ := pick3 (S1 (a + 1) w) 4 12 100 n
  have pw : 0 < wd := by omega
  simp only [pr_eq, vk_ok, s_cst, s_glob, s_var, s_tup, s_fz, s_alc, s_bin, s_neg, s_cmp, s_chain, s_isN, s_isB, s_and, s_or, s_and1, s_or1, s_and2, s_or2, s_not, s_ife, s_idx, s_slc, s_call, s_bi, s_isi, s_append, s_dsp, s_dnw, s_m1, s_es0, s_es1, s_ks0, s_ks1, s_no, s_so, s_disp, s_lstOf, s_rng3, s_seq, s_rng1, s_rng2, s_lc, s_lcIf, s_lcB, s_lcBI, s_nil, s_cons, s_expr, s_asg, s_sub, s_par, s_ret, s_retN, s_iff, s_for, s_pass, s_body, vB_true, vB_false, wo_some, wc_true, varD, refD, itD, blD, intD, isNonD, setAll, evT, evTs, binD, cmpD, eqD_int, eqD_bl, eqL_int, eqL_bl, List.getElem?_cons_zero, List.getElem?_cons_succ, List.set_cons_zero, List.set_cons_succ, List.length_cons, List.length_nil, Option.map_some, Option.map_none, Bool.not_true, Bool.not_false, if_true, if_false, Bool.false_eq_true, decide_true, decide_false, sz_ok, sz_lt, Nat.reduceLeDiff, Nat.reduceAdd, Nat.zero_le, Int.reduceNeg, q3, ew, s2, hr2, S1_len, S1_app]
  refine vS_go1 ?_
  simp only [pr_eq, vk_ok, s_cst, s_glob, s_var, s_tup, s_fz, s_alc, s_bin, s_neg, s_cmp, s_chain, s_isN, s_isB, s_and, s_or, s_and1, s_or1, s_and2, s_or2, s_not, s_ife, s_idx, s_slc, s_call, s_bi, s_isi, s_append, s_dsp, s_dnw, s_m1, s_es0, s_es1, s_ks0, s_ks1, s_no, s_so, s_disp, s_lstOf, s_rng3, s_seq, s_rng1, s_rng2, s_lc, s_lcIf, s_lcB, s_lcBI, s_nil, s_cons, s_expr, s_asg, s_sub, s_par, s_ret, s_retN, s_iff, s_for, s_pass, s_body, vB_true, vB_false, wo_some, wc_true, varD, refD, itD, blD, intD, isNonD, setAll, evT, evTs, binD, cmpD, eqD_int, eqD_bl, eqL_int, eqL_bl, List.getElem?_cons_zero, List.getElem?_cons_succ, List.set_cons_zero, List.set_cons_succ, List.length_cons, List.length_nil, Option.map_some, Option.map_none, Bool.not_true, Bool.not_false, if_true, if_false, Bool.false_eq_true, decide_true, decide_false, sz_ok, sz_lt, Nat.reduceLeDiff, Nat.reduceAdd, Nat.zero_le, Int.reduceNeg]
  refine cell_ok hl (by omega) (by omega) fun r1 hr1 => ?_
  simp only [pr_eq, vk_ok, s_cst, s_glob, s_var, s_tup, s_fz, s_alc, s_bin, s_neg, s_cmp, s_chain, s_isN, s_isB, s_and, s_or, s_and1, s_or1, s_and2, s_or2, s_not, s_ife, s_idx, s_slc, s_call, s_bi, s_isi, s_append, s_dsp, s_dnw, s_m1, s_es0, s_es1, s_ks0, s_ks1, s_no, s_so, s_disp, s_lstOf, s_rng3, s_seq, s_rng1, s_rng2, s_lc, s_lcIf, s_lcB, s_lcBI, s_nil, s_cons, s_expr, s_asg, s_sub, s_par, s_ret, s_retN, s_iff, s_for, s_pass, s_body, vB_true, vB_false, wo_some, wc_true, varD, refD, itD, blD, intD, isNonD, setAll, evT, evTs, binD, cmpD, eqD_int, eqD_bl, eqL_int, eqL_bl, List.getElem?_cons_zero, List.getElem?_cons_succ, List.set_cons_zero, List.set_cons_succ, List.length_cons, List.length_nil, Option.map_some, Option.map_none, Bool.not_true, Bool.not_false, if_true, if_false, Bool.false_eq_true, decide_true, decide_false, sz_ok, sz_lt, Nat.reduceLeDiff, Nat.reduceAdd, Nat.zero_le, Int.reduceNeg, pw]
  refine cell_ok hl (by omega) (by omega) fun r2 hr2' => ?_
  obtain ⟨w2, ew2, hw2⟩ := pick3 (S1 (a + 1 + 1 + 1) (w ++ [.lst []])) 1 3 100 (n / 3)
  have pw2 : 0 < w2 := by omega
  simp only [pr_eq, vk_ok, s_cst, s_glob, s_var, s_tup, s_fz, s_alc, s_bin, s_neg, s_cmp, s_chain, s_isN, s_isB, s_and, s_or, s_and1, s_or1, s_and2, s_or2, s_not, s_ife, s_idx, s_slc, s_call, s_bi, s_isi, s_append, s_dsp, s_dnw, s_m1, s_es0, s_es1, s_ks0, s_ks1, s_no, s_so, s_disp, s_lstOf, s_rng3, s_seq, s_rng1, s_rng2, s_lc, s_lcIf, s_lcB, s_lcBI, s_nil, s_cons, s_expr, s_asg, s_sub, s_par, s_ret, s_retN, s_iff, s_for, s_pass, s_body, vB_true, vB_false, wo_some, wc_true, varD, refD, itD, blD, intD, isNonD, setAll, evT, evTs, binD, cmpD, eqD_int, eqD_bl, eqL_int, eqL_bl, List.getElem?_cons_zero, List.getElem?_cons_succ, List.set_cons_zero, List.set_cons_succ, List.length_cons, List.length_nil, Option.map_some, Option.map_none, Bool.not_true, Bool.not_false, if_true, if_false, Bool.false_eq_true, decide_true, decide_false, sz_ok, sz_lt, Nat.reduceLeDiff, Nat.reduceAdd, Nat.zero_le, Int.reduceNeg, q3, e3, ew2, pw2, bi_min, S1_lst, S1_set, List.nil_append]
  refine vS_go1 ?_
  simp only [pr_eq, vk_ok, s_cst, s_glob, s_var, s_tup, s_fz, s_alc, s_bin, s_neg, s_cmp, s_chain, s_isN, s_isB, s_and, s_or, s_and1, s_or1, s_and2, s_or2, s_not, s_ife, s_idx, s_slc, s_call, s_bi, s_isi, s_append, s_dsp, s_dnw, s_m1, s_es0, s_es1, s_ks0, s_ks1, s_no, s_so, s_disp, s_lstOf, s_rng3, s_seq, s_rng1, s_rng2, s_lc, s_lcIf, s_lcB, s_lcBI, s_nil, s_cons, s_expr, s_asg, s_sub, s_par, s_ret, s_retN, s_iff, s_for, s_pass, s_body, vB_true, vB_false, wo_some, wc_true, varD, refD, itD, blD, intD, isNonD, setAll, evT, evTs, binD, cmpD, eqD_int, eqD_bl, eqL_int, eqL_bl, List.getElem?_cons_zero, List.getElem?_cons_succ, List.set_cons_zero, List.set_cons_succ, List.length_cons, List.length_nil, Option.map_some, Option.map_none, Bool.not_true, Bool.not_false, if_true, if_false, Bool.false_eq_true, decide_true, decide_false, sz_ok, sz_lt, Nat.reduceLeDiff, Nat.reduceAdd, Nat.zero_le, Int.reduceNeg]
  refine cell_ok hl (by omega) (by omega) fun r3 hr3 => ?_
  simp only [pr_eq, vk_ok, s_cst, s_glob, s_var, s_tup, s_fz, s_alc, s_bin, s_neg, s_cmp, s_chain, s_isN, s_isB, s_and, s_or, s_and1, s_or1, s_and2, s_or2, s_not, s_ife, s_idx, s_slc, s_call, s_bi, s_isi, s_append, s_dsp, s_dnw, s_m1, s_es0, s_es1, s_ks0, s_ks1, s_no, s_so, s_disp, s_lstOf, s_rng3, s_seq, s_rng1, s_rng2, s_lc, s_lcIf, s_lcB, s_lcBI, s_nil, s_cons, s_expr, s_asg, s_sub, s_par, s_ret, s_retN, s_iff, s_for, s_pass, s_body, vB_true, vB_false, wo_some, wc_true, varD, refD, itD, blD, intD, isNonD, setAll, evT, evTs, binD, cmpD, eqD_int, eqD_bl, eqL_int, eqL_bl, List.getElem?_cons_zero, List.getElem?_cons_succ, List.set_cons_zero, List.set_cons_succ, List.length_cons, List.length_nil, Option.map_some, Option.map_none, Bool.not_true, Bool.not_false, if_true, if_false, Bool.false_eq_true, decide_true, decide_false, sz_ok, sz_lt, Nat.reduceLeDiff, Nat.reduceAdd, Nat.zero_le, Int.reduceNeg, pw]
  refine cell_ok hl (by omega) (by omega) fun r4 hr4 => ?_
  obtain ⟨w3, ew3, hw3⟩ := pick3 (S1 (a + 1 + 1 + 1 + 1 + 1) (w ++ [.lst [.tup [.int (r1 % wd), .int (if r1 % wd + r2 % w2 < 99 then r1 % wd + r2 % w2 else 99)]]])) 1 3 100 (n / 3)
  have pw3 : 0 < w3 := by omega
  simp only [pr_eq, vk_ok, s_cst, s_glob, s_var, s_tup, s_fz, s_alc, s_bin, s_neg, s_cmp, s_chain, s_isN, s_isB, s_and, s_or, s_and1, s_or1, s_and2, s_or2, s_not, s_ife, s_idx, s_slc, s_call, s_bi, s_isi, s_append, s_dsp, s_dnw, s_m1, s_es0, s_es1, s_ks0, s_ks1, s_no, s_so, s_disp, s_lstOf, s_rng3, s_seq, s_rng1, s_rng2, s_lc, s_lcIf, s_lcB, s_lcBI, s_nil, s_cons, s_expr, s_asg, s_sub, s_par, s_ret, s_retN, s_iff, s_for, s_pass, s_body, vB_true, vB_false, wo_some, wc_true, varD, refD, itD, blD, intD, isNonD, setAll, evT, evTs, binD, cmpD, eqD_int, eqD_bl, eqL_int, eqL_bl, List.getElem?_cons_zero, List.getElem?_cons_succ, List.set_cons_zero, List.set_cons_succ, List.length_cons, List.length_nil, Option.map_some, Option.map_none, Bool.not_true, Bool.not_false, if_true, if_false, Bool.false_eq_true, decide_true, decide_false, sz_ok, sz_lt, Nat.reduceLeDiff, Nat.reduceAdd, Nat.zero_le, Int.reduceNeg, q3, e3, ew3, pw3, bi_min, S1_lst, S1_set, List.cons_append, List.nil_append, vS_go0]
  have at0 : ∀ x y : D, L2.atI [x, y] 0 = some x := fun _ _ => rfl
  have at1 : ∀ x y : D, L2.atI [x, y] 1 = some y := fun _ _ => rfl
  simp only [pr_eq, vk_ok, s_cst, s_glob, s_var, s_tup, s_fz, s_alc, s_bin, s_neg, s_cmp, s_chain, s_isN, s_isB, s_and, s_or, s_and1, s_or1, s_and2, s_or2, s_not, s_ife, s_idx, s_slc, s_call, s_bi, s_isi, s_append, s_dsp, s_dnw, s_m1, s_es0, s_es1, s_ks0, s_ks1, s_no, s_so, s_disp, s_lstOf, s_rng3, s_seq, s_rng1, s_rng2, s_lc, s_lcIf, s_lcB, s_lcBI, s_nil, s_cons, s_expr, s_asg, s_sub, s_par, s_ret, s_retN, s_iff, s_for, s_pass, s_body, vB_true, vB_false, wo_some, wc_true, varD, refD, itD, blD, intD, isNonD, setAll, evT, evTs, binD, cmpD, eqD_int, eqD_bl, eqL_int, eqL_bl, List.getElem?_cons_zero, List.getElem?_cons_succ, List.set_cons_zero, List.set_cons_succ, List.length_cons, List.length_nil, Option.map_some, Option.map_none, Bool.not_true, Bool.not_false, if_true, if_false, Bool.false_eq_true, decide_true, decide_false, sz_ok, sz_lt, Nat.reduceLeDiff, Nat.reduceAdd, Nat.zero_le, Int.reduceNeg, e9, e900, pw, S1_ix, at0, at1]
  simp only [← S1_app]
  rw [vk_drop (n := w.length + 1) (m := S1 (a + 1 + 1 + 1 + 1 + 1) w) (d' := needD (n / 9 % wd) (r1 % wd) (if r1 % wd + r2 % w2 < 99 then r1 % wd + r2 % w2 else 99) (r3 % wd) (if r3 % wd + r4 % w3 < 99 then r3 % wd + r4 % w3 else 99) (n / 900 % wd)) rfl (S1_closed hw _) rfl]
  have e5 : a + 1 + 1 + 1 + 1 + 1 = a + 5 := by omega
  rw [e5]
  have m1 := md (n / 9) wd pw
  have m2 := md r1 wd pw
  have m3 := md r2 w2 pw2
  have m4 := md r3 wd pw
  have m5 := md r4 w3 pw3
  have m6 := md (n / 900) wd pw
  refine q _ _ _ _ _ _ ⟨?_, ?_, ?_, ?_, ?_, ?_, ?_, ?_, ?_, ?_⟩ <;> (try split) <;> omega
end Lw

set_option Elab.async false
set_option linter.all false
set_option maxRecDepth 100000
set_option maxHeartbeats 4000000
namespace Lw
open PySem (Str PyData)
/-! ### levels of a need -/
def lvOk (l a b c d g x at' : Int) : Bool := if at' = 0 then decide (x ≤ l) else if at' = 3 then decide (g ≤ x) else if at' = 1 then decide (a ≤ x ∧ x ≤ b) else decide (c ≤ x ∧ x ≤ d)
theorem nd0 (m : Hs) (l a b c d g : Int) : idxD m (needD l a b c d g) (.int 0) = some (.int l) := rfl
theorem nd1 (m : Hs) (l a b c d g : Int) : idxD m (needD l a b c d g) (.int 1) = some (.tup [.int a, .int b]) := rfl
theorem nd2 (m : Hs) (l a b c d g : Int) : idxD m (needD l a b c d g) (.int 2) = some (.tup [.int c, .int d]) := rfl
theorem nd3 (m : Hs) (l a b c d g : Int) : idxD m (needD l a b c d g) (.int 3) = some (.int g) := rfl
theorem pr0 (m : Hs) (a b : D) : idxD m (.tup [a, b]) (.int 0) = some a := rfl
theorem pr1 (m : Hs) (a b : D) : idxD m (.tup [a, b]) (.int 1) = some b := rfl
theorem fits_ok {k : Nat} {m : Hs} {l a b c d g x i : Int} {Q : D → Hs → Prop} (h : i = 0 ∨ i = 1 ∨ i = 2 ∨ i = 3) (q : Q (.bl (lvOk l a b c d g x i)) m) : vk (runFn P1 G1 (k + 1) 12 [.int x, needD l a b c d g, .int i] m) Q := by
  refine vk_call b12 .drop [some (.int x), some (needD l a b c d g), some (.int i)] rfl rfl rfl rfl rfl ?_
  unfold b12
  have d00 : decide ((0 : Int) = 0) = true := rfl
  have d10 : decide ((1 : Int) = 0) = false := rfl
  have d20 : decide ((2 : Int) = 0) = false := rfl
  have d30 : decide ((3 : Int) = 0) = false := rfl
  have d13 : decide ((1 : Int) = 3) = false := rfl
  have d23 : decide ((2 : Int) = 3) = false := rfl
  have d33 : decide ((3 : Int) = 3) = true := rfl
  obtain rfl | rfl | rfl | rfl := h
  · simp only [pr_eq, vk_ok, s_cst, s_glob, s_var, s_tup, s_fz, s_alc, s_bin, s_neg, s_cmp, s_chain, s_isN, s_isB, s_and, s_or, s_and1, s_or1, s_and2, s_or2, s_not, s_ife, s_idx, s_slc, s_call, s_bi, s_isi, s_append, s_dsp, s_dnw, s_m1, s_es0, s_es1, s_ks0, s_ks1, s_no, s_so, s_disp, s_lstOf, s_rng3, s_seq, s_rng1, s_rng2, s_lc, s_lcIf, s_lcB, s_lcBI, s_nil, s_cons, s_expr, s_asg, s_sub, s_par, s_ret, s_retN, s_iff, s_for, s_pass, s_body, vB_true, vB_false, wo_some, wc_true, varD, refD, itD, blD, intD, isNonD, setAll, evT, evTs, binD, cmpD, eqD_int, eqD_bl, eqL_int, eqL_bl, List.getElem?_cons_zero, List.getElem?_cons_succ, List.set_cons_zero, List.set_cons_succ, List.length_cons, List.length_nil, Option.map_some, Option.map_none, Bool.not_true, Bool.not_false, if_true, if_false, Bool.false_eq_true, decide_true, decide_false, sz_ok, sz_lt, Nat.reduceLeDiff, Nat.reduceAdd, Nat.zero_le, Int.reduceNeg, d00, nd0]
    rw [vk_leave rfl]
    exact q
  · simp only [pr_eq, vk_ok, s_cst, s_glob, s_var, s_tup, s_fz, s_alc, s_bin, s_neg, s_cmp, s_chain, s_isN, s_isB, s_and, s_or, s_and1, s_or1, s_and2, s_or2, s_not, s_ife, s_idx, s_slc, s_call, s_bi, s_isi, s_append, s_dsp, s_dnw, s_m1, s_es0, s_es1, s_ks0, s_ks1, s_no, s_so, s_disp, s_lstOf, s_rng3, s_seq, s_rng1, s_rng2, s_lc, s_lcIf, s_lcB, s_lcBI, s_nil, s_cons, s_expr, s_asg, s_sub, s_par, s_ret, s_retN, s_iff, s_for, s_pass, s_body, vB_true, vB_false, wo_some, wc_true, varD, refD, itD, blD, intD, isNonD, setAll, evT, evTs, binD, cmpD, eqD_int, eqD_bl, eqL_int, eqL_bl, List.getElem?_cons_zero, List.getElem?_cons_succ, List.set_cons_zero, List.set_cons_succ, List.length_cons, List.length_nil, Option.map_some, Option.map_none, Bool.not_true, Bool.not_false, if_true, if_false, Bool.false_eq_true, decide_true, decide_false, sz_ok, sz_lt, Nat.reduceLeDiff, Nat.reduceAdd, Nat.zero_le, Int.reduceNeg, d10, d13, nd1, pr0, pr1]
    have e : ∀ y : Bool, y = lvOk l a b c d g x 1 → vk (leave .drop m.length (.rt (.bl y) m)) Q := by
      intro y hy
      rw [vk_leave rfl, hy]; exact q
    refine vB_dec (fun h1 => ?_) (fun h1 => ?_)
    · simp only [pr_eq, vk_ok, s_cst, s_glob, s_var, s_tup, s_fz, s_alc, s_bin, s_neg, s_cmp, s_chain, s_isN, s_isB, s_and, s_or, s_and1, s_or1, s_and2, s_or2, s_not, s_ife, s_idx, s_slc, s_call, s_bi, s_isi, s_append, s_dsp, s_dnw, s_m1, s_es0, s_es1, s_ks0, s_ks1, s_no, s_so, s_disp, s_lstOf, s_rng3, s_seq, s_rng1, s_rng2, s_lc, s_lcIf, s_lcB, s_lcBI, s_nil, s_cons, s_expr, s_asg, s_sub, s_par, s_ret, s_retN, s_iff, s_for, s_pass, s_body, vB_true, vB_false, wo_some, wc_true, varD, refD, itD, blD, intD, isNonD, setAll, evT, evTs, binD, cmpD, eqD_int, eqD_bl, eqL_int, eqL_bl, List.getElem?_cons_zero, List.getElem?_cons_succ, List.set_cons_zero, List.set_cons_succ, List.length_cons, List.length_nil, Option.map_some, Option.map_none, Bool.not_true, Bool.not_false, if_true, if_false, Bool.false_eq_true, decide_true, decide_false, sz_ok, sz_lt, Nat.reduceLeDiff, Nat.reduceAdd, Nat.zero_le, Int.reduceNeg]
      exact e false (by simp [lvOk]; omega)
    · simp only [pr_eq, vk_ok, s_cst, s_glob, s_var, s_tup, s_fz, s_alc, s_bin, s_neg, s_cmp, s_chain, s_isN, s_isB, s_and, s_or, s_and1, s_or1, s_and2, s_or2, s_not, s_ife, s_idx, s_slc, s_call, s_bi, s_isi, s_append, s_dsp, s_dnw, s_m1, s_es0, s_es1, s_ks0, s_ks1, s_no, s_so, s_disp, s_lstOf, s_rng3, s_seq, s_rng1, s_rng2, s_lc, s_lcIf, s_lcB, s_lcBI, s_nil, s_cons, s_expr, s_asg, s_sub, s_par, s_ret, s_retN, s_iff, s_for, s_pass, s_body, vB_true, vB_false, wo_some, wc_true, varD, refD, itD, blD, intD, isNonD, setAll, evT, evTs, binD, cmpD, eqD_int, eqD_bl, eqL_int, eqL_bl, List.getElem?_cons_zero, List.getElem?_cons_succ, List.set_cons_zero, List.set_cons_succ, List.length_cons, List.length_nil, Option.map_some, Option.map_none, Bool.not_true, Bool.not_false, if_true, if_false, Bool.false_eq_true, decide_true, decide_false, sz_ok, sz_lt, Nat.reduceLeDiff, Nat.reduceAdd, Nat.zero_le, Int.reduceNeg, nd1, pr0, pr1]
      exact e _ (by by_cases h2 : b < x <;> simp [lvOk, h2] <;> omega)
  · simp only [pr_eq, vk_ok, s_cst, s_glob, s_var, s_tup, s_fz, s_alc, s_bin, s_neg, s_cmp, s_chain, s_isN, s_isB, s_and, s_or, s_and1, s_or1, s_and2, s_or2, s_not, s_ife, s_idx, s_slc, s_call, s_bi, s_isi, s_append, s_dsp, s_dnw, s_m1, s_es0, s_es1, s_ks0, s_ks1, s_no, s_so, s_disp, s_lstOf, s_rng3, s_seq, s_rng1, s_rng2, s_lc, s_lcIf, s_lcB, s_lcBI, s_nil, s_cons, s_expr, s_asg, s_sub, s_par, s_ret, s_retN, s_iff, s_for, s_pass, s_body, vB_true, vB_false, wo_some, wc_true, varD, refD, itD, blD, intD, isNonD, setAll, evT, evTs, binD, cmpD, eqD_int, eqD_bl, eqL_int, eqL_bl, List.getElem?_cons_zero, List.getElem?_cons_succ, List.set_cons_zero, List.set_cons_succ, List.length_cons, List.length_nil, Option.map_some, Option.map_none, Bool.not_true, Bool.not_false, if_true, if_false, Bool.false_eq_true, decide_true, decide_false, sz_ok, sz_lt, Nat.reduceLeDiff, Nat.reduceAdd, Nat.zero_le, Int.reduceNeg, d20, d23, nd2, pr0, pr1]
    have e : ∀ y : Bool, y = lvOk l a b c d g x 2 → vk (leave .drop m.length (.rt (.bl y) m)) Q := by
      intro y hy
      rw [vk_leave rfl, hy]; exact q
    refine vB_dec (fun h1 => ?_) (fun h1 => ?_)
    · simp only [pr_eq, vk_ok, s_cst, s_glob, s_var, s_tup, s_fz, s_alc, s_bin, s_neg, s_cmp, s_chain, s_isN, s_isB, s_and, s_or, s_and1, s_or1, s_and2, s_or2, s_not, s_ife, s_idx, s_slc, s_call, s_bi, s_isi, s_append, s_dsp, s_dnw, s_m1, s_es0, s_es1, s_ks0, s_ks1, s_no, s_so, s_disp, s_lstOf, s_rng3, s_seq, s_rng1, s_rng2, s_lc, s_lcIf, s_lcB, s_lcBI, s_nil, s_cons, s_expr, s_asg, s_sub, s_par, s_ret, s_retN, s_iff, s_for, s_pass, s_body, vB_true, vB_false, wo_some, wc_true, varD, refD, itD, blD, intD, isNonD, setAll, evT, evTs, binD, cmpD, eqD_int, eqD_bl, eqL_int, eqL_bl, List.getElem?_cons_zero, List.getElem?_cons_succ, List.set_cons_zero, List.set_cons_succ, List.length_cons, List.length_nil, Option.map_some, Option.map_none, Bool.not_true, Bool.not_false, if_true, if_false, Bool.false_eq_true, decide_true, decide_false, sz_ok, sz_lt, Nat.reduceLeDiff, Nat.reduceAdd, Nat.zero_le, Int.reduceNeg]
      exact e false (by simp [lvOk]; omega)
    · simp only [pr_eq, vk_ok, s_cst, s_glob, s_var, s_tup, s_fz, s_alc, s_bin, s_neg, s_cmp, s_chain, s_isN, s_isB, s_and, s_or, s_and1, s_or1, s_and2, s_or2, s_not, s_ife, s_idx, s_slc, s_call, s_bi, s_isi, s_append, s_dsp, s_dnw, s_m1, s_es0, s_es1, s_ks0, s_ks1, s_no, s_so, s_disp, s_lstOf, s_rng3, s_seq, s_rng1, s_rng2, s_lc, s_lcIf, s_lcB, s_lcBI, s_nil, s_cons, s_expr, s_asg, s_sub, s_par, s_ret, s_retN, s_iff, s_for, s_pass, s_body, vB_true, vB_false, wo_some, wc_true, varD, refD, itD, blD, intD, isNonD, setAll, evT, evTs, binD, cmpD, eqD_int, eqD_bl, eqL_int, eqL_bl, List.getElem?_cons_zero, List.getElem?_cons_succ, List.set_cons_zero, List.set_cons_succ, List.length_cons, List.length_nil, Option.map_some, Option.map_none, Bool.not_true, Bool.not_false, if_true, if_false, Bool.false_eq_true, decide_true, decide_false, sz_ok, sz_lt, Nat.reduceLeDiff, Nat.reduceAdd, Nat.zero_le, Int.reduceNeg, nd2, pr0, pr1]
      exact e _ (by by_cases h2 : d < x <;> simp [lvOk, h2] <;> omega)
  · simp only [pr_eq, vk_ok, s_cst, s_glob, s_var, s_tup, s_fz, s_alc, s_bin, s_neg, s_cmp, s_chain, s_isN, s_isB, s_and, s_or, s_and1, s_or1, s_and2, s_or2, s_not, s_ife, s_idx, s_slc, s_call, s_bi, s_isi, s_append, s_dsp, s_dnw, s_m1, s_es0, s_es1, s_ks0, s_ks1, s_no, s_so, s_disp, s_lstOf, s_rng3, s_seq, s_rng1, s_rng2, s_lc, s_lcIf, s_lcB, s_lcBI, s_nil, s_cons, s_expr, s_asg, s_sub, s_par, s_ret, s_retN, s_iff, s_for, s_pass, s_body, vB_true, vB_false, wo_some, wc_true, varD, refD, itD, blD, intD, isNonD, setAll, evT, evTs, binD, cmpD, eqD_int, eqD_bl, eqL_int, eqL_bl, List.getElem?_cons_zero, List.getElem?_cons_succ, List.set_cons_zero, List.set_cons_succ, List.length_cons, List.length_nil, Option.map_some, Option.map_none, Bool.not_true, Bool.not_false, if_true, if_false, Bool.false_eq_true, decide_true, decide_false, sz_ok, sz_lt, Nat.reduceLeDiff, Nat.reduceAdd, Nat.zero_le, Int.reduceNeg, d30, d33, nd3]
    rw [vk_leave rfl]
    exact q
theorem bxor {P R : Prop} [Decidable P] [Decidable R] (h : P ↔ R) : decide P = decide R := decide_eq_decide.mpr h
/-- does: each level fits -/
theorem does_ok {k : Nat} {m : Hs} {l a b c d g x0 x1 x2 x3 : Int} {Q : D → Hs → Prop} (q : Q (.bl (lvOk l a b c d g x0 0 && lvOk l a b c d g x1 1 && lvOk l a b c d g x2 2 && lvOk l a b c d g x3 3)) m) :
    vk (runFn P1 G1 (k + 1) 7 [.tup [.int x0, .int x1, .int x2, .int x3], needD l a b c d g] m) Q := by
  refine vk_call b7 .drop [some (.tup [.int x0, .int x1, .int x2, .int x3]), some (needD l a b c d g), none, none, none, none] rfl rfl rfl rfl rfl ?_
  have e : ∀ y : Bool, y = (lvOk l a b c d g x0 0 && lvOk l a b c d g x1 1 && lvOk l a b c d g x2 2 && lvOk l a b c d g x3 3) → vk (leave .drop m.length (.rt (.bl y) m)) Q := by
    intro y hy
    rw [vk_leave rfl, hy]; exact q
  unfold b7
  simp only [pr_eq, vk_ok, s_cst, s_glob, s_var, s_tup, s_fz, s_alc, s_bin, s_neg, s_cmp, s_chain, s_isN, s_isB, s_and, s_or, s_and1, s_or1, s_and2, s_or2, s_not, s_ife, s_idx, s_slc, s_call, s_bi, s_isi, s_append, s_dsp, s_dnw, s_m1, s_es0, s_es1, s_ks0, s_ks1, s_no, s_so, s_disp, s_lstOf, s_rng3, s_seq, s_rng1, s_rng2, s_lc, s_lcIf, s_lcB, s_lcBI, s_nil, s_cons, s_expr, s_asg, s_sub, s_par, s_ret, s_retN, s_iff, s_for, s_pass, s_body, vB_true, vB_false, wo_some, wc_true, varD, refD, itD, blD, intD, isNonD, setAll, evT, evTs, binD, cmpD, eqD_int, eqD_bl, eqL_int, eqL_bl, List.getElem?_cons_zero, List.getElem?_cons_succ, List.set_cons_zero, List.set_cons_succ, List.length_cons, List.length_nil, Option.map_some, Option.map_none, Bool.not_true, Bool.not_false, if_true, if_false, Bool.false_eq_true, decide_true, decide_false, sz_ok, sz_lt, Nat.reduceLeDiff, Nat.reduceAdd, Nat.zero_le, Int.reduceNeg, nd0, nd1, nd2, nd3, pr0, pr1]
  refine vB_dec (fun h1 => ?_) (fun h1 => ?_)
  · simp only [pr_eq, vk_ok, s_cst, s_glob, s_var, s_tup, s_fz, s_alc, s_bin, s_neg, s_cmp, s_chain, s_isN, s_isB, s_and, s_or, s_and1, s_or1, s_and2, s_or2, s_not, s_ife, s_idx, s_slc, s_call, s_bi, s_isi, s_append, s_dsp, s_dnw, s_m1, s_es0, s_es1, s_ks0, s_ks1, s_no, s_so, s_disp, s_lstOf, s_rng3, s_seq, s_rng1, s_rng2, s_lc, s_lcIf, s_lcB, s_lcBI, s_nil, s_cons, s_expr, s_asg, s_sub, s_par, s_ret, s_retN, s_iff, s_for, s_pass, s_body, vB_true, vB_false, wo_some, wc_true, varD, refD, itD, blD, intD, isNonD, setAll, evT, evTs, binD, cmpD, eqD_int, eqD_bl, eqL_int, eqL_bl, List.getElem?_cons_zero, List.getElem?_cons_succ, List.set_cons_zero, List.set_cons_succ, List.length_cons, List.length_nil, Option.map_some, Option.map_none, Bool.not_true, Bool.not_false, if_true, if_false, Bool.false_eq_true, decide_true, decide_false, sz_ok, sz_lt, Nat.reduceLeDiff, Nat.reduceAdd, Nat.zero_le, Int.reduceNeg]
    exact e false (by simp [lvOk]; omega)
  · simp only [pr_eq, vk_ok, s_cst, s_glob, s_var, s_tup, s_fz, s_alc, s_bin, s_neg, s_cmp, s_chain, s_isN, s_isB, s_and, s_or, s_and1, s_or1, s_and2, s_or2, s_not, s_ife, s_idx, s_slc, s_call, s_bi, s_isi, s_append, s_dsp, s_dnw, s_m1, s_es0, s_es1, s_ks0, s_ks1, s_no, s_so, s_disp, s_lstOf, s_rng3, s_seq, s_rng1, s_rng2, s_lc, s_lcIf, s_lcB, s_lcBI, s_nil, s_cons, s_expr, s_asg, s_sub, s_par, s_ret, s_retN, s_iff, s_for, s_pass, s_body, vB_true, vB_false, wo_some, wc_true, varD, refD, itD, blD, intD, isNonD, setAll, evT, evTs, binD, cmpD, eqD_int, eqD_bl, eqL_int, eqL_bl, List.getElem?_cons_zero, List.getElem?_cons_succ, List.set_cons_zero, List.set_cons_succ, List.length_cons, List.length_nil, Option.map_some, Option.map_none, Bool.not_true, Bool.not_false, if_true, if_false, Bool.false_eq_true, decide_true, decide_false, sz_ok, sz_lt, Nat.reduceLeDiff, Nat.reduceAdd, Nat.zero_le, Int.reduceNeg, nd0, nd1, nd2, nd3, pr0, pr1]
    refine vB_dec (fun h2 => ?_) (fun h2 => ?_)
    · simp only [pr_eq, vk_ok, s_cst, s_glob, s_var, s_tup, s_fz, s_alc, s_bin, s_neg, s_cmp, s_chain, s_isN, s_isB, s_and, s_or, s_and1, s_or1, s_and2, s_or2, s_not, s_ife, s_idx, s_slc, s_call, s_bi, s_isi, s_append, s_dsp, s_dnw, s_m1, s_es0, s_es1, s_ks0, s_ks1, s_no, s_so, s_disp, s_lstOf, s_rng3, s_seq, s_rng1, s_rng2, s_lc, s_lcIf, s_lcB, s_lcBI, s_nil, s_cons, s_expr, s_asg, s_sub, s_par, s_ret, s_retN, s_iff, s_for, s_pass, s_body, vB_true, vB_false, wo_some, wc_true, varD, refD, itD, blD, intD, isNonD, setAll, evT, evTs, binD, cmpD, eqD_int, eqD_bl, eqL_int, eqL_bl, List.getElem?_cons_zero, List.getElem?_cons_succ, List.set_cons_zero, List.set_cons_succ, List.length_cons, List.length_nil, Option.map_some, Option.map_none, Bool.not_true, Bool.not_false, if_true, if_false, Bool.false_eq_true, decide_true, decide_false, sz_ok, sz_lt, Nat.reduceLeDiff, Nat.reduceAdd, Nat.zero_le, Int.reduceNeg]
      exact e false (by simp [lvOk]; omega)
    · simp only [pr_eq, vk_ok, s_cst, s_glob, s_var, s_tup, s_fz, s_alc, s_bin, s_neg, s_cmp, s_chain, s_isN, s_isB, s_and, s_or, s_and1, s_or1, s_and2, s_or2, s_not, s_ife, s_idx, s_slc, s_call, s_bi, s_isi, s_append, s_dsp, s_dnw, s_m1, s_es0, s_es1, s_ks0, s_ks1, s_no, s_so, s_disp, s_lstOf, s_rng3, s_seq, s_rng1, s_rng2, s_lc, s_lcIf, s_lcB, s_lcBI, s_nil, s_cons, s_expr, s_asg, s_sub, s_par, s_ret, s_retN, s_iff, s_for, s_pass, s_body, vB_true, vB_false, wo_some, wc_true, varD, refD, itD, blD, intD, isNonD, setAll, evT, evTs, binD, cmpD, eqD_int, eqD_bl, eqL_int, eqL_bl, List.getElem?_cons_zero, List.getElem?_cons_succ, List.set_cons_zero, List.set_cons_succ, List.length_cons, List.length_nil, Option.map_some, Option.map_none, Bool.not_true, Bool.not_false, if_true, if_false, Bool.false_eq_true, decide_true, decide_false, sz_ok, sz_lt, Nat.reduceLeDiff, Nat.reduceAdd, Nat.zero_le, Int.reduceNeg, nd0, nd1, nd2, nd3, pr0, pr1]
      refine vB_dec (fun h3 => ?_) (fun h3 => ?_)
      · simp only [pr_eq, vk_ok, s_cst, s_glob, s_var, s_tup, s_fz, s_alc, s_bin, s_neg, s_cmp, s_chain, s_isN, s_isB, s_and, s_or, s_and1, s_or1, s_and2, s_or2, s_not, s_ife, s_idx, s_slc, s_call, s_bi, s_isi, s_append, s_dsp, s_dnw, s_m1, s_es0, s_es1, s_ks0, s_ks1, s_no, s_so, s_disp, s_lstOf, s_rng3, s_seq, s_rng1, s_rng2, s_lc, s_lcIf, s_lcB, s_lcBI, s_nil, s_cons, s_expr, s_asg, s_sub, s_par, s_ret, s_retN, s_iff, s_for, s_pass, s_body, vB_true, vB_false, wo_some, wc_true, varD, refD, itD, blD, intD, isNonD, setAll, evT, evTs, binD, cmpD, eqD_int, eqD_bl, eqL_int, eqL_bl, List.getElem?_cons_zero, List.getElem?_cons_succ, List.set_cons_zero, List.set_cons_succ, List.length_cons, List.length_nil, Option.map_some, Option.map_none, Bool.not_true, Bool.not_false, if_true, if_false, Bool.false_eq_true, decide_true, decide_false, sz_ok, sz_lt, Nat.reduceLeDiff, Nat.reduceAdd, Nat.zero_le, Int.reduceNeg, nd0, nd1, nd2, nd3, pr0, pr1]
        refine vB_dec (fun h4 => ?_) (fun h4 => ?_)
        · simp only [pr_eq, vk_ok, s_cst, s_glob, s_var, s_tup, s_fz, s_alc, s_bin, s_neg, s_cmp, s_chain, s_isN, s_isB, s_and, s_or, s_and1, s_or1, s_and2, s_or2, s_not, s_ife, s_idx, s_slc, s_call, s_bi, s_isi, s_append, s_dsp, s_dnw, s_m1, s_es0, s_es1, s_ks0, s_ks1, s_no, s_so, s_disp, s_lstOf, s_rng3, s_seq, s_rng1, s_rng2, s_lc, s_lcIf, s_lcB, s_lcBI, s_nil, s_cons, s_expr, s_asg, s_sub, s_par, s_ret, s_retN, s_iff, s_for, s_pass, s_body, vB_true, vB_false, wo_some, wc_true, varD, refD, itD, blD, intD, isNonD, setAll, evT, evTs, binD, cmpD, eqD_int, eqD_bl, eqL_int, eqL_bl, List.getElem?_cons_zero, List.getElem?_cons_succ, List.set_cons_zero, List.set_cons_succ, List.length_cons, List.length_nil, Option.map_some, Option.map_none, Bool.not_true, Bool.not_false, if_true, if_false, Bool.false_eq_true, decide_true, decide_false, sz_ok, sz_lt, Nat.reduceLeDiff, Nat.reduceAdd, Nat.zero_le, Int.reduceNeg, nd0, nd1, nd2, nd3, pr0, pr1]
          refine vB_dec (fun h5 => ?_) (fun h5 => ?_)
          · simp only [pr_eq, vk_ok, s_cst, s_glob, s_var, s_tup, s_fz, s_alc, s_bin, s_neg, s_cmp, s_chain, s_isN, s_isB, s_and, s_or, s_and1, s_or1, s_and2, s_or2, s_not, s_ife, s_idx, s_slc, s_call, s_bi, s_isi, s_append, s_dsp, s_dnw, s_m1, s_es0, s_es1, s_ks0, s_ks1, s_no, s_so, s_disp, s_lstOf, s_rng3, s_seq, s_rng1, s_rng2, s_lc, s_lcIf, s_lcB, s_lcBI, s_nil, s_cons, s_expr, s_asg, s_sub, s_par, s_ret, s_retN, s_iff, s_for, s_pass, s_body, vB_true, vB_false, wo_some, wc_true, varD, refD, itD, blD, intD, isNonD, setAll, evT, evTs, binD, cmpD, eqD_int, eqD_bl, eqL_int, eqL_bl, List.getElem?_cons_zero, List.getElem?_cons_succ, List.set_cons_zero, List.set_cons_succ, List.length_cons, List.length_nil, Option.map_some, Option.map_none, Bool.not_true, Bool.not_false, if_true, if_false, Bool.false_eq_true, decide_true, decide_false, sz_ok, sz_lt, Nat.reduceLeDiff, Nat.reduceAdd, Nat.zero_le, Int.reduceNeg, nd0, nd1, nd2, nd3, pr0, pr1]
            exact e _ (by by_cases h6 : x2 ≤ d <;> simp [lvOk, h6] <;> omega)
          · (try simp only [pr_eq, vk_ok, s_cst, s_glob, s_var, s_tup, s_fz, s_alc, s_bin, s_neg, s_cmp, s_chain, s_isN, s_isB, s_and, s_or, s_and1, s_or1, s_and2, s_or2, s_not, s_ife, s_idx, s_slc, s_call, s_bi, s_isi, s_append, s_dsp, s_dnw, s_m1, s_es0, s_es1, s_ks0, s_ks1, s_no, s_so, s_disp, s_lstOf, s_rng3, s_seq, s_rng1, s_rng2, s_lc, s_lcIf, s_lcB, s_lcBI, s_nil, s_cons, s_expr, s_asg, s_sub, s_par, s_ret, s_retN, s_iff, s_for, s_pass, s_body, vB_true, vB_false, wo_some, wc_true, varD, refD, itD, blD, intD, isNonD, setAll, evT, evTs, binD, cmpD, eqD_int, eqD_bl, eqL_int, eqL_bl, List.getElem?_cons_zero, List.getElem?_cons_succ, List.set_cons_zero, List.set_cons_succ, List.length_cons, List.length_nil, Option.map_some, Option.map_none, Bool.not_true, Bool.not_false, if_true, if_false, Bool.false_eq_true, decide_true, decide_false, sz_ok, sz_lt, Nat.reduceLeDiff, Nat.reduceAdd, Nat.zero_le, Int.reduceNeg])
            exact e false (by simp [lvOk]; omega)
        · (try simp only [pr_eq, vk_ok, s_cst, s_glob, s_var, s_tup, s_fz, s_alc, s_bin, s_neg, s_cmp, s_chain, s_isN, s_isB, s_and, s_or, s_and1, s_or1, s_and2, s_or2, s_not, s_ife, s_idx, s_slc, s_call, s_bi, s_isi, s_append, s_dsp, s_dnw, s_m1, s_es0, s_es1, s_ks0, s_ks1, s_no, s_so, s_disp, s_lstOf, s_rng3, s_seq, s_rng1, s_rng2, s_lc, s_lcIf, s_lcB, s_lcBI, s_nil, s_cons, s_expr, s_asg, s_sub, s_par, s_ret, s_retN, s_iff, s_for, s_pass, s_body, vB_true, vB_false, wo_some, wc_true, varD, refD, itD, blD, intD, isNonD, setAll, evT, evTs, binD, cmpD, eqD_int, eqD_bl, eqL_int, eqL_bl, List.getElem?_cons_zero, List.getElem?_cons_succ, List.set_cons_zero, List.set_cons_succ, List.length_cons, List.length_nil, Option.map_some, Option.map_none, Bool.not_true, Bool.not_false, if_true, if_false, Bool.false_eq_true, decide_true, decide_false, sz_ok, sz_lt, Nat.reduceLeDiff, Nat.reduceAdd, Nat.zero_le, Int.reduceNeg])
          exact e false (by simp [lvOk]; omega)
      · (try simp only [pr_eq, vk_ok, s_cst, s_glob, s_var, s_tup, s_fz, s_alc, s_bin, s_neg, s_cmp, s_chain, s_isN, s_isB, s_and, s_or, s_and1, s_or1, s_and2, s_or2, s_not, s_ife, s_idx, s_slc, s_call, s_bi, s_isi, s_append, s_dsp, s_dnw, s_m1, s_es0, s_es1, s_ks0, s_ks1, s_no, s_so, s_disp, s_lstOf, s_rng3, s_seq, s_rng1, s_rng2, s_lc, s_lcIf, s_lcB, s_lcBI, s_nil, s_cons, s_expr, s_asg, s_sub, s_par, s_ret, s_retN, s_iff, s_for, s_pass, s_body, vB_true, vB_false, wo_some, wc_true, varD, refD, itD, blD, intD, isNonD, setAll, evT, evTs, binD, cmpD, eqD_int, eqD_bl, eqL_int, eqL_bl, List.getElem?_cons_zero, List.getElem?_cons_succ, List.set_cons_zero, List.set_cons_succ, List.length_cons, List.length_nil, Option.map_some, Option.map_none, Bool.not_true, Bool.not_false, if_true, if_false, Bool.false_eq_true, decide_true, decide_false, sz_ok, sz_lt, Nat.reduceLeDiff, Nat.reduceAdd, Nat.zero_le, Int.reduceNeg])
        exact e false (by simp [lvOk]; omega)
/-- a need within another -/
def within (l a b c d g l' a' b' c' d' g' : Int) : Prop := l ≤ l' ∧ g' ≤ g ∧ (a' ≤ a ∧ b ≤ b') ∧ (c' ≤ c ∧ d ≤ d')
instance (l a b c d g l' a' b' c' d' g' : Int) : Decidable (within l a b c d g l' a' b' c' d' g') := by unfold within; infer_instance
theorem all2 (m : Hs) (p r : Bool) : biD m .all [.lst [.bl p, .bl r]] = some (.bl (p && r)) := by cases p <;> cases r <;> rfl
theorem holds_ok {k : Nat} {m : Hs} {l a b c d g l' a' b' c' d' g' : Int} {Q : D → Hs → Prop} (q : Q (.bl (decide (within l a b c d g l' a' b' c' d' g'))) m) :
    vk (runFn P1 G1 (k + 1) 8 [needD l a b c d g, needD l' a' b' c' d' g'] m) Q := by
  refine vk_call b8 .drop [some (needD l a b c d g), some (needD l' a' b' c' d' g'), none] rfl rfl rfl rfl rfl ?_
  have e : ∀ y : Bool, y = decide (within l a b c d g l' a' b' c' d' g') → vk (leave .drop m.length (.rt (.bl y) m)) Q := by
    intro y hy
    rw [vk_leave rfl, hy]; exact q
  unfold b8
  simp only [pr_eq, vk_ok, s_cst, s_glob, s_var, s_tup, s_fz, s_alc, s_bin, s_neg, s_cmp, s_chain, s_isN, s_isB, s_and, s_or, s_and1, s_or1, s_and2, s_or2, s_not, s_ife, s_idx, s_slc, s_call, s_bi, s_isi, s_append, s_dsp, s_dnw, s_m1, s_es0, s_es1, s_ks0, s_ks1, s_no, s_so, s_disp, s_lstOf, s_rng3, s_seq, s_rng1, s_rng2, s_lc, s_lcIf, s_lcB, s_lcBI, s_nil, s_cons, s_expr, s_asg, s_sub, s_par, s_ret, s_retN, s_iff, s_for, s_pass, s_body, vB_true, vB_false, wo_some, wc_true, varD, refD, itD, blD, intD, isNonD, setAll, evT, evTs, binD, cmpD, eqD_int, eqD_bl, eqL_int, eqL_bl, List.getElem?_cons_zero, List.getElem?_cons_succ, List.set_cons_zero, List.set_cons_succ, List.length_cons, List.length_nil, Option.map_some, Option.map_none, Bool.not_true, Bool.not_false, if_true, if_false, Bool.false_eq_true, decide_true, decide_false, sz_ok, sz_lt, Nat.reduceLeDiff, Nat.reduceAdd, Nat.zero_le, Int.reduceNeg, nd0, nd3]
  refine vB_dec (fun h1 => ?_) (fun h1 => ?_)
  · (try simp only [pr_eq, vk_ok, s_cst, s_glob, s_var, s_tup, s_fz, s_alc, s_bin, s_neg, s_cmp, s_chain, s_isN, s_isB, s_and, s_or, s_and1, s_or1, s_and2, s_or2, s_not, s_ife, s_idx, s_slc, s_call, s_bi, s_isi, s_append, s_dsp, s_dnw, s_m1, s_es0, s_es1, s_ks0, s_ks1, s_no, s_so, s_disp, s_lstOf, s_rng3, s_seq, s_rng1, s_rng2, s_lc, s_lcIf, s_lcB, s_lcBI, s_nil, s_cons, s_expr, s_asg, s_sub, s_par, s_ret, s_retN, s_iff, s_for, s_pass, s_body, vB_true, vB_false, wo_some, wc_true, varD, refD, itD, blD, intD, isNonD, setAll, evT, evTs, binD, cmpD, eqD_int, eqD_bl, eqL_int, eqL_bl, List.getElem?_cons_zero, List.getElem?_cons_succ, List.set_cons_zero, List.set_cons_succ, List.length_cons, List.length_nil, Option.map_some, Option.map_none, Bool.not_true, Bool.not_false, if_true, if_false, Bool.false_eq_true, decide_true, decide_false, sz_ok, sz_lt, Nat.reduceLeDiff, Nat.reduceAdd, Nat.zero_le, Int.reduceNeg])
    exact e false (decide_eq_false (by unfold within; omega)).symm
  · simp only [pr_eq, vk_ok, s_cst, s_glob, s_var, s_tup, s_fz, s_alc, s_bin, s_neg, s_cmp, s_chain, s_isN, s_isB, s_and, s_or, s_and1, s_or1, s_and2, s_or2, s_not, s_ife, s_idx, s_slc, s_call, s_bi, s_isi, s_append, s_dsp, s_dnw, s_m1, s_es0, s_es1, s_ks0, s_ks1, s_no, s_so, s_disp, s_lstOf, s_rng3, s_seq, s_rng1, s_rng2, s_lc, s_lcIf, s_lcB, s_lcBI, s_nil, s_cons, s_expr, s_asg, s_sub, s_par, s_ret, s_retN, s_iff, s_for, s_pass, s_body, vB_true, vB_false, wo_some, wc_true, varD, refD, itD, blD, intD, isNonD, setAll, evT, evTs, binD, cmpD, eqD_int, eqD_bl, eqL_int, eqL_bl, List.getElem?_cons_zero, List.getElem?_cons_succ, List.set_cons_zero, List.set_cons_succ, List.length_cons, List.length_nil, Option.map_some, Option.map_none, Bool.not_true, Bool.not_false, if_true, if_false, Bool.false_eq_true, decide_true, decide_false, sz_ok, sz_lt, Nat.reduceLeDiff, Nat.reduceAdd, Nat.zero_le, Int.reduceNeg, nd0, nd3]
    refine vB_dec (fun h2 => ?_) (fun h2 => ?_)
    · (try simp only [pr_eq, vk_ok, s_cst, s_glob, s_var, s_tup, s_fz, s_alc, s_bin, s_neg, s_cmp, s_chain, s_isN, s_isB, s_and, s_or, s_and1, s_or1, s_and2, s_or2, s_not, s_ife, s_idx, s_slc, s_call, s_bi, s_isi, s_append, s_dsp, s_dnw, s_m1, s_es0, s_es1, s_ks0, s_ks1, s_no, s_so, s_disp, s_lstOf, s_rng3, s_seq, s_rng1, s_rng2, s_lc, s_lcIf, s_lcB, s_lcBI, s_nil, s_cons, s_expr, s_asg, s_sub, s_par, s_ret, s_retN, s_iff, s_for, s_pass, s_body, vB_true, vB_false, wo_some, wc_true, varD, refD, itD, blD, intD, isNonD, setAll, evT, evTs, binD, cmpD, eqD_int, eqD_bl, eqL_int, eqL_bl, List.getElem?_cons_zero, List.getElem?_cons_succ, List.set_cons_zero, List.set_cons_succ, List.length_cons, List.length_nil, Option.map_some, Option.map_none, Bool.not_true, Bool.not_false, if_true, if_false, Bool.false_eq_true, decide_true, decide_false, sz_ok, sz_lt, Nat.reduceLeDiff, Nat.reduceAdd, Nat.zero_le, Int.reduceNeg])
      exact e false (decide_eq_false (by unfold within; omega)).symm
    · simp only [pr_eq, vk_ok, s_cst, s_glob, s_var, s_tup, s_fz, s_alc, s_bin, s_neg, s_cmp, s_chain, s_isN, s_isB, s_and, s_or, s_and1, s_or1, s_and2, s_or2, s_not, s_ife, s_idx, s_slc, s_call, s_bi, s_isi, s_append, s_dsp, s_dnw, s_m1, s_es0, s_es1, s_ks0, s_ks1, s_no, s_so, s_disp, s_lstOf, s_rng3, s_seq, s_rng1, s_rng2, s_lc, s_lcIf, s_lcB, s_lcBI, s_nil, s_cons, s_expr, s_asg, s_sub, s_par, s_ret, s_retN, s_iff, s_for, s_pass, s_body, vB_true, vB_false, wo_some, wc_true, varD, refD, itD, blD, intD, isNonD, setAll, evT, evTs, binD, cmpD, eqD_int, eqD_bl, eqL_int, eqL_bl, List.getElem?_cons_zero, List.getElem?_cons_succ, List.set_cons_zero, List.set_cons_succ, List.length_cons, List.length_nil, Option.map_some, Option.map_none, Bool.not_true, Bool.not_false, if_true, if_false, Bool.false_eq_true, decide_true, decide_false, sz_ok, sz_lt, Nat.reduceLeDiff, Nat.reduceAdd, Nat.zero_le, Int.reduceNeg]
      refine vk_lcGo (g := fun x => match x with | .int 1 => some (.bl (decide (a' ≤ a ∧ b ≤ b'))) | _ => some (.bl (decide (c' ≤ c ∧ d ≤ d')))) ?_ ?_
      · intro x hx
        rcases List.mem_cons.mp hx with rfl | hx
        · simp only [wipe, pr_eq, vk_ok, s_cst, s_glob, s_var, s_tup, s_fz, s_alc, s_bin, s_neg, s_cmp, s_chain, s_isN, s_isB, s_and, s_or, s_and1, s_or1, s_and2, s_or2, s_not, s_ife, s_idx, s_slc, s_call, s_bi, s_isi, s_append, s_dsp, s_dnw, s_m1, s_es0, s_es1, s_ks0, s_ks1, s_no, s_so, s_disp, s_lstOf, s_rng3, s_seq, s_rng1, s_rng2, s_lc, s_lcIf, s_lcB, s_lcBI, s_nil, s_cons, s_expr, s_asg, s_sub, s_par, s_ret, s_retN, s_iff, s_for, s_pass, s_body, vB_true, vB_false, wo_some, wc_true, varD, refD, itD, blD, intD, isNonD, setAll, evT, evTs, binD, cmpD, eqD_int, eqD_bl, eqL_int, eqL_bl, List.getElem?_cons_zero, List.getElem?_cons_succ, List.set_cons_zero, List.set_cons_succ, List.length_cons, List.length_nil, Option.map_some, Option.map_none, Bool.not_true, Bool.not_false, if_true, if_false, Bool.false_eq_true, decide_true, decide_false, sz_ok, sz_lt, Nat.reduceLeDiff, Nat.reduceAdd, Nat.zero_le, Int.reduceNeg, nd1, nd2, pr0, pr1]
          refine vB_dec (fun h3 => ?_) (fun h3 => ?_)
          · simp only [pr_eq, vk_ok, s_cst, s_glob, s_var, s_tup, s_fz, s_alc, s_bin, s_neg, s_cmp, s_chain, s_isN, s_isB, s_and, s_or, s_and1, s_or1, s_and2, s_or2, s_not, s_ife, s_idx, s_slc, s_call, s_bi, s_isi, s_append, s_dsp, s_dnw, s_m1, s_es0, s_es1, s_ks0, s_ks1, s_no, s_so, s_disp, s_lstOf, s_rng3, s_seq, s_rng1, s_rng2, s_lc, s_lcIf, s_lcB, s_lcBI, s_nil, s_cons, s_expr, s_asg, s_sub, s_par, s_ret, s_retN, s_iff, s_for, s_pass, s_body, vB_true, vB_false, wo_some, wc_true, varD, refD, itD, blD, intD, isNonD, setAll, evT, evTs, binD, cmpD, eqD_int, eqD_bl, eqL_int, eqL_bl, List.getElem?_cons_zero, List.getElem?_cons_succ, List.set_cons_zero, List.set_cons_succ, List.length_cons, List.length_nil, Option.map_some, Option.map_none, Bool.not_true, Bool.not_false, if_true, if_false, Bool.false_eq_true, decide_true, decide_false, sz_ok, sz_lt, Nat.reduceLeDiff, Nat.reduceAdd, Nat.zero_le, Int.reduceNeg, nd1, nd2, pr0, pr1]
            refine ⟨trivial, ?_⟩
            simp [h3]
          · exact ⟨rfl, by simp [h3]⟩
        · rcases List.mem_cons.mp hx with rfl | hx
          · simp only [wipe, pr_eq, vk_ok, s_cst, s_glob, s_var, s_tup, s_fz, s_alc, s_bin, s_neg, s_cmp, s_chain, s_isN, s_isB, s_and, s_or, s_and1, s_or1, s_and2, s_or2, s_not, s_ife, s_idx, s_slc, s_call, s_bi, s_isi, s_append, s_dsp, s_dnw, s_m1, s_es0, s_es1, s_ks0, s_ks1, s_no, s_so, s_disp, s_lstOf, s_rng3, s_seq, s_rng1, s_rng2, s_lc, s_lcIf, s_lcB, s_lcBI, s_nil, s_cons, s_expr, s_asg, s_sub, s_par, s_ret, s_retN, s_iff, s_for, s_pass, s_body, vB_true, vB_false, wo_some, wc_true, varD, refD, itD, blD, intD, isNonD, setAll, evT, evTs, binD, cmpD, eqD_int, eqD_bl, eqL_int, eqL_bl, List.getElem?_cons_zero, List.getElem?_cons_succ, List.set_cons_zero, List.set_cons_succ, List.length_cons, List.length_nil, Option.map_some, Option.map_none, Bool.not_true, Bool.not_false, if_true, if_false, Bool.false_eq_true, decide_true, decide_false, sz_ok, sz_lt, Nat.reduceLeDiff, Nat.reduceAdd, Nat.zero_le, Int.reduceNeg, nd1, nd2, pr0, pr1]
            refine vB_dec (fun h3 => ?_) (fun h3 => ?_)
            · simp only [pr_eq, vk_ok, s_cst, s_glob, s_var, s_tup, s_fz, s_alc, s_bin, s_neg, s_cmp, s_chain, s_isN, s_isB, s_and, s_or, s_and1, s_or1, s_and2, s_or2, s_not, s_ife, s_idx, s_slc, s_call, s_bi, s_isi, s_append, s_dsp, s_dnw, s_m1, s_es0, s_es1, s_ks0, s_ks1, s_no, s_so, s_disp, s_lstOf, s_rng3, s_seq, s_rng1, s_rng2, s_lc, s_lcIf, s_lcB, s_lcBI, s_nil, s_cons, s_expr, s_asg, s_sub, s_par, s_ret, s_retN, s_iff, s_for, s_pass, s_body, vB_true, vB_false, wo_some, wc_true, varD, refD, itD, blD, intD, isNonD, setAll, evT, evTs, binD, cmpD, eqD_int, eqD_bl, eqL_int, eqL_bl, List.getElem?_cons_zero, List.getElem?_cons_succ, List.set_cons_zero, List.set_cons_succ, List.length_cons, List.length_nil, Option.map_some, Option.map_none, Bool.not_true, Bool.not_false, if_true, if_false, Bool.false_eq_true, decide_true, decide_false, sz_ok, sz_lt, Nat.reduceLeDiff, Nat.reduceAdd, Nat.zero_le, Int.reduceNeg, nd1, nd2, pr0, pr1]
              refine ⟨trivial, ?_⟩
              simp [h3]
            · exact ⟨rfl, by simp [h3]⟩
          · cases hx
      · have e1 : ([D.int 1, D.int 2].filterMap fun x => match x with | .int 1 => some (D.bl (decide (a' ≤ a ∧ b ≤ b'))) | _ => some (D.bl (decide (c' ≤ c ∧ d ≤ d')))) = [.bl (decide (a' ≤ a ∧ b ≤ b')), .bl (decide (c' ≤ c ∧ d ≤ d'))] := rfl
        rw [e1]
        simp only [pr_eq, vk_ok, s_cst, s_glob, s_var, s_tup, s_fz, s_alc, s_bin, s_neg, s_cmp, s_chain, s_isN, s_isB, s_and, s_or, s_and1, s_or1, s_and2, s_or2, s_not, s_ife, s_idx, s_slc, s_call, s_bi, s_isi, s_append, s_dsp, s_dnw, s_m1, s_es0, s_es1, s_ks0, s_ks1, s_no, s_so, s_disp, s_lstOf, s_rng3, s_seq, s_rng1, s_rng2, s_lc, s_lcIf, s_lcB, s_lcBI, s_nil, s_cons, s_expr, s_asg, s_sub, s_par, s_ret, s_retN, s_iff, s_for, s_pass, s_body, vB_true, vB_false, wo_some, wc_true, varD, refD, itD, blD, intD, isNonD, setAll, evT, evTs, binD, cmpD, eqD_int, eqD_bl, eqL_int, eqL_bl, List.getElem?_cons_zero, List.getElem?_cons_succ, List.set_cons_zero, List.set_cons_succ, List.length_cons, List.length_nil, Option.map_some, Option.map_none, Bool.not_true, Bool.not_false, if_true, if_false, Bool.false_eq_true, decide_true, decide_false, sz_ok, sz_lt, Nat.reduceLeDiff, Nat.reduceAdd, Nat.zero_le, Int.reduceNeg, all2]
        exact e _ (by rw [← Bool.decide_and]; exact bxor (by unfold within; omega))
/-- level by level -/
def levels (l a b c d g l' a' b' c' d' g' i : Int) : Prop := ∀ x : Int, 0 ≤ x → x < 100 → lvOk l a b c d g x i = true → lvOk l' a' b' c' d' g' x i = true
theorem place_ok {k : Nat} {m : Hs} {l a b c d g l' a' b' c' d' g' i : Int} {Q : D → Hs → Prop} (hi : i = 0 ∨ i = 1 ∨ i = 2 ∨ i = 3) (q : ∀ r : Bool, (r = true ↔ levels l a b c d g l' a' b' c' d' g' i) → Q (.bl r) m) :
    vk (runFn P1 G1 (k + 2) 13 [needD l a b c d g, needD l' a' b' c' d' g', .int i] m) Q := by
  refine vk_call b13 .drop [some (needD l a b c d g), some (needD l' a' b' c' d' g'), some (.int i), none] rfl rfl rfl rfl rfl ?_
  have s100 : small 100 = true := rfl
  unfold b13
  simp only [pr_eq, vk_ok, s_cst, s_glob, s_var, s_tup, s_fz, s_alc, s_bin, s_neg, s_cmp, s_chain, s_isN, s_isB, s_and, s_or, s_and1, s_or1, s_and2, s_or2, s_not, s_ife, s_idx, s_slc, s_call, s_bi, s_isi, s_append, s_dsp, s_dnw, s_m1, s_es0, s_es1, s_ks0, s_ks1, s_no, s_so, s_disp, s_lstOf, s_rng3, s_seq, s_rng1, s_rng2, s_lc, s_lcIf, s_lcB, s_lcBI, s_nil, s_cons, s_expr, s_asg, s_sub, s_par, s_ret, s_retN, s_iff, s_for, s_pass, s_body, vB_true, vB_false, wo_some, wc_true, varD, refD, itD, blD, intD, isNonD, setAll, evT, evTs, binD, cmpD, eqD_int, eqD_bl, eqL_int, eqL_bl, List.getElem?_cons_zero, List.getElem?_cons_succ, List.set_cons_zero, List.set_cons_succ, List.length_cons, List.length_nil, Option.map_some, Option.map_none, Bool.not_true, Bool.not_false, if_true, if_false, Bool.false_eq_true, decide_true, decide_false, sz_ok, sz_lt, Nat.reduceLeDiff, Nat.reduceAdd, Nat.zero_le, Int.reduceNeg, s100]
  refine vS_go (fun n ρ m2 => m2 = m ∧ ∃ v : Option D, ρ = [some (needD l a b c d g), some (needD l' a' b' c' d' g'), some (.int i), v] ∧ ∀ x : Int, 0 ≤ x → x < (n : Int) → lvOk l a b c d g x i = true → lvOk l' a' b' c' d' g' x i = true) ⟨rfl, _, rfl, fun x h1 h2 => by omega⟩ ?_ ?_
  · rintro n x ρ m2 hx ⟨rfl, v, rfl, hI⟩
    obtain ⟨hn, rfl⟩ := rngL_get hx
    have hz : (0 : Int) + (n : Int) = (n : Int) := by omega
    rw [hz]
    simp only [pr_eq, vk_ok, s_cst, s_glob, s_var, s_tup, s_fz, s_alc, s_bin, s_neg, s_cmp, s_chain, s_isN, s_isB, s_and, s_or, s_and1, s_or1, s_and2, s_or2, s_not, s_ife, s_idx, s_slc, s_call, s_bi, s_isi, s_append, s_dsp, s_dnw, s_m1, s_es0, s_es1, s_ks0, s_ks1, s_no, s_so, s_disp, s_lstOf, s_rng3, s_seq, s_rng1, s_rng2, s_lc, s_lcIf, s_lcB, s_lcBI, s_nil, s_cons, s_expr, s_asg, s_sub, s_par, s_ret, s_retN, s_iff, s_for, s_pass, s_body, vB_true, vB_false, wo_some, wc_true, varD, refD, itD, blD, intD, isNonD, setAll, evT, evTs, binD, cmpD, eqD_int, eqD_bl, eqL_int, eqL_bl, List.getElem?_cons_zero, List.getElem?_cons_succ, List.set_cons_zero, List.set_cons_succ, List.length_cons, List.length_nil, Option.map_some, Option.map_none, Bool.not_true, Bool.not_false, if_true, if_false, Bool.false_eq_true, decide_true, decide_false, sz_ok, sz_lt, Nat.reduceLeDiff, Nat.reduceAdd, Nat.zero_le, Int.reduceNeg]
    refine fits_ok hi ?_
    refine vB_cases (fun h1 => ?_) (fun h1 => ?_)
    · simp only [pr_eq, vk_ok, s_cst, s_glob, s_var, s_tup, s_fz, s_alc, s_bin, s_neg, s_cmp, s_chain, s_isN, s_isB, s_and, s_or, s_and1, s_or1, s_and2, s_or2, s_not, s_ife, s_idx, s_slc, s_call, s_bi, s_isi, s_append, s_dsp, s_dnw, s_m1, s_es0, s_es1, s_ks0, s_ks1, s_no, s_so, s_disp, s_lstOf, s_rng3, s_seq, s_rng1, s_rng2, s_lc, s_lcIf, s_lcB, s_lcBI, s_nil, s_cons, s_expr, s_asg, s_sub, s_par, s_ret, s_retN, s_iff, s_for, s_pass, s_body, vB_true, vB_false, wo_some, wc_true, varD, refD, itD, blD, intD, isNonD, setAll, evT, evTs, binD, cmpD, eqD_int, eqD_bl, eqL_int, eqL_bl, List.getElem?_cons_zero, List.getElem?_cons_succ, List.set_cons_zero, List.set_cons_succ, List.length_cons, List.length_nil, Option.map_some, Option.map_none, Bool.not_true, Bool.not_false, if_true, if_false, Bool.false_eq_true, decide_true, decide_false, sz_ok, sz_lt, Nat.reduceLeDiff, Nat.reduceAdd, Nat.zero_le, Int.reduceNeg]
      refine fits_ok hi ?_
      simp only [pr_eq, vk_ok, s_cst, s_glob, s_var, s_tup, s_fz, s_alc, s_bin, s_neg, s_cmp, s_chain, s_isN, s_isB, s_and, s_or, s_and1, s_or1, s_and2, s_or2, s_not, s_ife, s_idx, s_slc, s_call, s_bi, s_isi, s_append, s_dsp, s_dnw, s_m1, s_es0, s_es1, s_ks0, s_ks1, s_no, s_so, s_disp, s_lstOf, s_rng3, s_seq, s_rng1, s_rng2, s_lc, s_lcIf, s_lcB, s_lcBI, s_nil, s_cons, s_expr, s_asg, s_sub, s_par, s_ret, s_retN, s_iff, s_for, s_pass, s_body, vB_true, vB_false, wo_some, wc_true, varD, refD, itD, blD, intD, isNonD, setAll, evT, evTs, binD, cmpD, eqD_int, eqD_bl, eqL_int, eqL_bl, List.getElem?_cons_zero, List.getElem?_cons_succ, List.set_cons_zero, List.set_cons_succ, List.length_cons, List.length_nil, Option.map_some, Option.map_none, Bool.not_true, Bool.not_false, if_true, if_false, Bool.false_eq_true, decide_true, decide_false, sz_ok, sz_lt, Nat.reduceLeDiff, Nat.reduceAdd, Nat.zero_le, Int.reduceNeg]
      cases h2 : lvOk l' a' b' c' d' g' (n : Int) i with
      | true =>
        simp only [pr_eq, vk_ok, s_cst, s_glob, s_var, s_tup, s_fz, s_alc, s_bin, s_neg, s_cmp, s_chain, s_isN, s_isB, s_and, s_or, s_and1, s_or1, s_and2, s_or2, s_not, s_ife, s_idx, s_slc, s_call, s_bi, s_isi, s_append, s_dsp, s_dnw, s_m1, s_es0, s_es1, s_ks0, s_ks1, s_no, s_so, s_disp, s_lstOf, s_rng3, s_seq, s_rng1, s_rng2, s_lc, s_lcIf, s_lcB, s_lcBI, s_nil, s_cons, s_expr, s_asg, s_sub, s_par, s_ret, s_retN, s_iff, s_for, s_pass, s_body, vB_true, vB_false, wo_some, wc_true, varD, refD, itD, blD, intD, isNonD, setAll, evT, evTs, binD, cmpD, eqD_int, eqD_bl, eqL_int, eqL_bl, List.getElem?_cons_zero, List.getElem?_cons_succ, List.set_cons_zero, List.set_cons_succ, List.length_cons, List.length_nil, Option.map_some, Option.map_none, Bool.not_true, Bool.not_false, if_true, if_false, Bool.false_eq_true, decide_true, decide_false, sz_ok, sz_lt, Nat.reduceLeDiff, Nat.reduceAdd, Nat.zero_le, Int.reduceNeg]
        refine ⟨trivial, _, rfl, fun x k1 k2 k3 => ?_⟩
        by_cases e : x = (n : Int)
        · rw [e]; exact h2
        · exact hI x k1 (by omega) k3
      | false =>
        simp only [pr_eq, vk_ok, s_cst, s_glob, s_var, s_tup, s_fz, s_alc, s_bin, s_neg, s_cmp, s_chain, s_isN, s_isB, s_and, s_or, s_and1, s_or1, s_and2, s_or2, s_not, s_ife, s_idx, s_slc, s_call, s_bi, s_isi, s_append, s_dsp, s_dnw, s_m1, s_es0, s_es1, s_ks0, s_ks1, s_no, s_so, s_disp, s_lstOf, s_rng3, s_seq, s_rng1, s_rng2, s_lc, s_lcIf, s_lcB, s_lcBI, s_nil, s_cons, s_expr, s_asg, s_sub, s_par, s_ret, s_retN, s_iff, s_for, s_pass, s_body, vB_true, vB_false, wo_some, wc_true, varD, refD, itD, blD, intD, isNonD, setAll, evT, evTs, binD, cmpD, eqD_int, eqD_bl, eqL_int, eqL_bl, List.getElem?_cons_zero, List.getElem?_cons_succ, List.set_cons_zero, List.set_cons_succ, List.length_cons, List.length_nil, Option.map_some, Option.map_none, Bool.not_true, Bool.not_false, if_true, if_false, Bool.false_eq_true, decide_true, decide_false, sz_ok, sz_lt, Nat.reduceLeDiff, Nat.reduceAdd, Nat.zero_le, Int.reduceNeg]
        rw [vk_leave rfl]
        refine q false (Iff.intro (fun z => nomatch z) fun z => ?_)
        have h100 : (n : Int) < 100 := by have : n < 100 := hn; omega
        have := z n (by omega) h100 h1
        rw [h2] at this
        exact this
    · simp only [pr_eq, vk_ok, s_cst, s_glob, s_var, s_tup, s_fz, s_alc, s_bin, s_neg, s_cmp, s_chain, s_isN, s_isB, s_and, s_or, s_and1, s_or1, s_and2, s_or2, s_not, s_ife, s_idx, s_slc, s_call, s_bi, s_isi, s_append, s_dsp, s_dnw, s_m1, s_es0, s_es1, s_ks0, s_ks1, s_no, s_so, s_disp, s_lstOf, s_rng3, s_seq, s_rng1, s_rng2, s_lc, s_lcIf, s_lcB, s_lcBI, s_nil, s_cons, s_expr, s_asg, s_sub, s_par, s_ret, s_retN, s_iff, s_for, s_pass, s_body, vB_true, vB_false, wo_some, wc_true, varD, refD, itD, blD, intD, isNonD, setAll, evT, evTs, binD, cmpD, eqD_int, eqD_bl, eqL_int, eqL_bl, List.getElem?_cons_zero, List.getElem?_cons_succ, List.set_cons_zero, List.set_cons_succ, List.length_cons, List.length_nil, Option.map_some, Option.map_none, Bool.not_true, Bool.not_false, if_true, if_false, Bool.false_eq_true, decide_true, decide_false, sz_ok, sz_lt, Nat.reduceLeDiff, Nat.reduceAdd, Nat.zero_le, Int.reduceNeg]
      refine ⟨trivial, _, rfl, fun x k1 k2 k3 => ?_⟩
      by_cases e : x = (n : Int)
      · rw [e, h1] at k3; cases k3
      · exact hI x k1 (by omega) k3
  · rintro ρ m2 ⟨rfl, v, rfl, hI⟩
    simp only [pr_eq, vk_ok, s_cst, s_glob, s_var, s_tup, s_fz, s_alc, s_bin, s_neg, s_cmp, s_chain, s_isN, s_isB, s_and, s_or, s_and1, s_or1, s_and2, s_or2, s_not, s_ife, s_idx, s_slc, s_call, s_bi, s_isi, s_append, s_dsp, s_dnw, s_m1, s_es0, s_es1, s_ks0, s_ks1, s_no, s_so, s_disp, s_lstOf, s_rng3, s_seq, s_rng1, s_rng2, s_lc, s_lcIf, s_lcB, s_lcBI, s_nil, s_cons, s_expr, s_asg, s_sub, s_par, s_ret, s_retN, s_iff, s_for, s_pass, s_body, vB_true, vB_false, wo_some, wc_true, varD, refD, itD, blD, intD, isNonD, setAll, evT, evTs, binD, cmpD, eqD_int, eqD_bl, eqL_int, eqL_bl, List.getElem?_cons_zero, List.getElem?_cons_succ, List.set_cons_zero, List.set_cons_succ, List.length_cons, List.length_nil, Option.map_some, Option.map_none, Bool.not_true, Bool.not_false, if_true, if_false, Bool.false_eq_true, decide_true, decide_false, sz_ok, sz_lt, Nat.reduceLeDiff, Nat.reduceAdd, Nat.zero_le, Int.reduceNeg]
    rw [vk_leave rfl]
    exact q true ⟨fun _ => fun x k1 k2 k3 => hI x k1 (by rw [rngL_len]; exact k2) k3, fun _ => rfl⟩
end Lw

set_option Elab.async false
set_option linter.all false
set_option maxRecDepth 100000
set_option maxHeartbeats 4000000
namespace Lw
open PySem (Str PyData)
/-! ### the looks at anything -/
/-- a thing that has a type that is known -/
def fineD (m : Hs) : D → Bool
  | .exn _ => false
  | .ref n => match m[n]? with
    | some (.ins _ _) => false
    | some _ => true
    | none => false
  | _ => true
def tyOf (m : Hs) (x : D) (t : Ty) : Bool := match isiD m t x with
  | some b => b
  | none => false
theorem isi_fine {m : Hs} {x : D} (h : fineD m x = true) (t : Ty) : isiD m t x = some (tyOf m x t) := by
  unfold tyOf
  cases x <;> try rfl
  · rename_i n
    simp only [fineD] at h
    simp only [isiD]
    cases e : m[n]? with
    | none => rw [e] at h; cases h
    | some o => cases o <;> first | rfl | (rw [e] at h; cases h)
  · cases h
/-- a whole number from 0 to hi -/
def okW (x : D) (hi : Int) : Bool := match x with
  | .int i => decide (0 ≤ i ∧ i ≤ hi)
  | _ => false
theorem okW_not {m : Hs} {x : D} {hi : Int} (h : tyOf m x .int = false ∨ tyOf m x .bool = true) : okW x hi = false := by
  cases x <;> try rfl
  rcases h with h | h <;> cases h
theorem okW_int {m : Hs} {x : D} {hi : Int} (h : tyOf m x .int = true) (h2 : tyOf m x .bool = false) : ∃ i, x = .int i := by
  cases x <;> try (cases h; done)
  · cases h2
  · exact ⟨_, rfl⟩
  · rename_i n
    unfold tyOf isiD at h
    simp only at h
    cases e : m[n]? with
    | none => rw [e] at h; cases h
    | some o => rw [e] at h; cases o <;> cases h
theorem among_ok {k : Nat} {m : Hs} {x : D} {hi : Int} {Q : D → Hs → Prop} (hf : fineD m x = true) (q : Q (.bl (okW x hi)) m) : vk (runFn P1 G1 (k + 1) 0 [x, .int 0, .int hi] m) Q := by
  refine vk_call b0 .drop [some x, some (.int 0), some (.int hi)] rfl rfl rfl rfl rfl ?_
  unfold b0
  simp only [pr_eq, vk_ok, s_cst, s_glob, s_var, s_tup, s_fz, s_alc, s_bin, s_neg, s_cmp, s_chain, s_isN, s_isB, s_and, s_or, s_and1, s_or1, s_and2, s_or2, s_not, s_ife, s_idx, s_slc, s_call, s_bi, s_isi, s_append, s_dsp, s_dnw, s_m1, s_es0, s_es1, s_ks0, s_ks1, s_no, s_so, s_disp, s_lstOf, s_rng3, s_seq, s_rng1, s_rng2, s_lc, s_lcIf, s_lcB, s_lcBI, s_nil, s_cons, s_expr, s_asg, s_sub, s_par, s_ret, s_retN, s_iff, s_for, s_pass, s_body, vB_true, vB_false, wo_some, wc_true, varD, refD, itD, blD, intD, isNonD, setAll, evT, evTs, binD, cmpD, eqD_int, eqD_bl, eqL_int, eqL_bl, List.getElem?_cons_zero, List.getElem?_cons_succ, List.set_cons_zero, List.set_cons_succ, List.length_cons, List.length_nil, Option.map_some, Option.map_none, Bool.not_true, Bool.not_false, if_true, if_false, Bool.false_eq_true, decide_true, decide_false, sz_ok, sz_lt, Nat.reduceLeDiff, Nat.reduceAdd, Nat.zero_le, Int.reduceNeg, isi_fine hf]
  refine vB_cases (fun h1 => ?_) (fun h1 => ?_)
  · simp only [pr_eq, vk_ok, s_cst, s_glob, s_var, s_tup, s_fz, s_alc, s_bin, s_neg, s_cmp, s_chain, s_isN, s_isB, s_and, s_or, s_and1, s_or1, s_and2, s_or2, s_not, s_ife, s_idx, s_slc, s_call, s_bi, s_isi, s_append, s_dsp, s_dnw, s_m1, s_es0, s_es1, s_ks0, s_ks1, s_no, s_so, s_disp, s_lstOf, s_rng3, s_seq, s_rng1, s_rng2, s_lc, s_lcIf, s_lcB, s_lcBI, s_nil, s_cons, s_expr, s_asg, s_sub, s_par, s_ret, s_retN, s_iff, s_for, s_pass, s_body, vB_true, vB_false, wo_some, wc_true, varD, refD, itD, blD, intD, isNonD, setAll, evT, evTs, binD, cmpD, eqD_int, eqD_bl, eqL_int, eqL_bl, List.getElem?_cons_zero, List.getElem?_cons_succ, List.set_cons_zero, List.set_cons_succ, List.length_cons, List.length_nil, Option.map_some, Option.map_none, Bool.not_true, Bool.not_false, if_true, if_false, Bool.false_eq_true, decide_true, decide_false, sz_ok, sz_lt, Nat.reduceLeDiff, Nat.reduceAdd, Nat.zero_le, Int.reduceNeg, isi_fine hf]
    cases h2 : tyOf m x .bool with
    | true =>
      simp only [pr_eq, vk_ok, s_cst, s_glob, s_var, s_tup, s_fz, s_alc, s_bin, s_neg, s_cmp, s_chain, s_isN, s_isB, s_and, s_or, s_and1, s_or1, s_and2, s_or2, s_not, s_ife, s_idx, s_slc, s_call, s_bi, s_isi, s_append, s_dsp, s_dnw, s_m1, s_es0, s_es1, s_ks0, s_ks1, s_no, s_so, s_disp, s_lstOf, s_rng3, s_seq, s_rng1, s_rng2, s_lc, s_lcIf, s_lcB, s_lcBI, s_nil, s_cons, s_expr, s_asg, s_sub, s_par, s_ret, s_retN, s_iff, s_for, s_pass, s_body, vB_true, vB_false, wo_some, wc_true, varD, refD, itD, blD, intD, isNonD, setAll, evT, evTs, binD, cmpD, eqD_int, eqD_bl, eqL_int, eqL_bl, List.getElem?_cons_zero, List.getElem?_cons_succ, List.set_cons_zero, List.set_cons_succ, List.length_cons, List.length_nil, Option.map_some, Option.map_none, Bool.not_true, Bool.not_false, if_true, if_false, Bool.false_eq_true, decide_true, decide_false, sz_ok, sz_lt, Nat.reduceLeDiff, Nat.reduceAdd, Nat.zero_le, Int.reduceNeg]
      rw [vk_leave rfl, ← okW_not (hi := hi) (.inr h2)]
      exact q
    | false =>
      obtain ⟨i, rfl⟩ := okW_int (hi := hi) h1 h2
      simp only [pr_eq, vk_ok, s_cst, s_glob, s_var, s_tup, s_fz, s_alc, s_bin, s_neg, s_cmp, s_chain, s_isN, s_isB, s_and, s_or, s_and1, s_or1, s_and2, s_or2, s_not, s_ife, s_idx, s_slc, s_call, s_bi, s_isi, s_append, s_dsp, s_dnw, s_m1, s_es0, s_es1, s_ks0, s_ks1, s_no, s_so, s_disp, s_lstOf, s_rng3, s_seq, s_rng1, s_rng2, s_lc, s_lcIf, s_lcB, s_lcBI, s_nil, s_cons, s_expr, s_asg, s_sub, s_par, s_ret, s_retN, s_iff, s_for, s_pass, s_body, vB_true, vB_false, wo_some, wc_true, varD, refD, itD, blD, intD, isNonD, setAll, evT, evTs, binD, cmpD, eqD_int, eqD_bl, eqL_int, eqL_bl, List.getElem?_cons_zero, List.getElem?_cons_succ, List.set_cons_zero, List.set_cons_succ, List.length_cons, List.length_nil, Option.map_some, Option.map_none, Bool.not_true, Bool.not_false, if_true, if_false, Bool.false_eq_true, decide_true, decide_false, sz_ok, sz_lt, Nat.reduceLeDiff, Nat.reduceAdd, Nat.zero_le, Int.reduceNeg]
      refine vB_dec (fun h3 => ?_) (fun h3 => ?_)
      · simp only [pr_eq, vk_ok, s_cst, s_glob, s_var, s_tup, s_fz, s_alc, s_bin, s_neg, s_cmp, s_chain, s_isN, s_isB, s_and, s_or, s_and1, s_or1, s_and2, s_or2, s_not, s_ife, s_idx, s_slc, s_call, s_bi, s_isi, s_append, s_dsp, s_dnw, s_m1, s_es0, s_es1, s_ks0, s_ks1, s_no, s_so, s_disp, s_lstOf, s_rng3, s_seq, s_rng1, s_rng2, s_lc, s_lcIf, s_lcB, s_lcBI, s_nil, s_cons, s_expr, s_asg, s_sub, s_par, s_ret, s_retN, s_iff, s_for, s_pass, s_body, vB_true, vB_false, wo_some, wc_true, varD, refD, itD, blD, intD, isNonD, setAll, evT, evTs, binD, cmpD, eqD_int, eqD_bl, eqL_int, eqL_bl, List.getElem?_cons_zero, List.getElem?_cons_succ, List.set_cons_zero, List.set_cons_succ, List.length_cons, List.length_nil, Option.map_some, Option.map_none, Bool.not_true, Bool.not_false, if_true, if_false, Bool.false_eq_true, decide_true, decide_false, sz_ok, sz_lt, Nat.reduceLeDiff, Nat.reduceAdd, Nat.zero_le, Int.reduceNeg]
        rw [vk_leave rfl]
        have e : decide (i ≤ hi) = okW (.int i) hi := by simp [okW, h3]
        rw [e]; exact q
      · (try simp only [pr_eq, vk_ok, s_cst, s_glob, s_var, s_tup, s_fz, s_alc, s_bin, s_neg, s_cmp, s_chain, s_isN, s_isB, s_and, s_or, s_and1, s_or1, s_and2, s_or2, s_not, s_ife, s_idx, s_slc, s_call, s_bi, s_isi, s_append, s_dsp, s_dnw, s_m1, s_es0, s_es1, s_ks0, s_ks1, s_no, s_so, s_disp, s_lstOf, s_rng3, s_seq, s_rng1, s_rng2, s_lc, s_lcIf, s_lcB, s_lcBI, s_nil, s_cons, s_expr, s_asg, s_sub, s_par, s_ret, s_retN, s_iff, s_for, s_pass, s_body, vB_true, vB_false, wo_some, wc_true, varD, refD, itD, blD, intD, isNonD, setAll, evT, evTs, binD, cmpD, eqD_int, eqD_bl, eqL_int, eqL_bl, List.getElem?_cons_zero, List.getElem?_cons_succ, List.set_cons_zero, List.set_cons_succ, List.length_cons, List.length_nil, Option.map_some, Option.map_none, Bool.not_true, Bool.not_false, if_true, if_false, Bool.false_eq_true, decide_true, decide_false, sz_ok, sz_lt, Nat.reduceLeDiff, Nat.reduceAdd, Nat.zero_le, Int.reduceNeg])
        rw [vk_leave rfl]
        have e : false = okW (.int i) hi := by simp [okW, h3]
        rw [e]; exact q
  · (try simp only [pr_eq, vk_ok, s_cst, s_glob, s_var, s_tup, s_fz, s_alc, s_bin, s_neg, s_cmp, s_chain, s_isN, s_isB, s_and, s_or, s_and1, s_or1, s_and2, s_or2, s_not, s_ife, s_idx, s_slc, s_call, s_bi, s_isi, s_append, s_dsp, s_dnw, s_m1, s_es0, s_es1, s_ks0, s_ks1, s_no, s_so, s_disp, s_lstOf, s_rng3, s_seq, s_rng1, s_rng2, s_lc, s_lcIf, s_lcB, s_lcBI, s_nil, s_cons, s_expr, s_asg, s_sub, s_par, s_ret, s_retN, s_iff, s_for, s_pass, s_body, vB_true, vB_false, wo_some, wc_true, varD, refD, itD, blD, intD, isNonD, setAll, evT, evTs, binD, cmpD, eqD_int, eqD_bl, eqL_int, eqL_bl, List.getElem?_cons_zero, List.getElem?_cons_succ, List.set_cons_zero, List.set_cons_succ, List.length_cons, List.length_nil, Option.map_some, Option.map_none, Bool.not_true, Bool.not_false, if_true, if_false, Bool.false_eq_true, decide_true, decide_false, sz_ok, sz_lt, Nat.reduceLeDiff, Nat.reduceAdd, Nat.zero_le, Int.reduceNeg])
    rw [vk_leave rfl, ← okW_not (hi := hi) (.inl h1)]
    exact q
theorem whole_ok {k : Nat} {m : Hs} {x : D} {hi : Int} {Q : D → Hs → Prop} (hf : fineD m x = true) (q : Q (.bl (okW x hi)) m) : vk (runFn P1 G1 (k + 1) 14 [x, .int hi] m) Q := by
  refine vk_call b14 .drop [some x, some (.int hi)] rfl rfl rfl rfl rfl ?_
  unfold b14
  simp only [pr_eq, vk_ok, s_cst, s_glob, s_var, s_tup, s_fz, s_alc, s_bin, s_neg, s_cmp, s_chain, s_isN, s_isB, s_and, s_or, s_and1, s_or1, s_and2, s_or2, s_not, s_ife, s_idx, s_slc, s_call, s_bi, s_isi, s_append, s_dsp, s_dnw, s_m1, s_es0, s_es1, s_ks0, s_ks1, s_no, s_so, s_disp, s_lstOf, s_rng3, s_seq, s_rng1, s_rng2, s_lc, s_lcIf, s_lcB, s_lcBI, s_nil, s_cons, s_expr, s_asg, s_sub, s_par, s_ret, s_retN, s_iff, s_for, s_pass, s_body, vB_true, vB_false, wo_some, wc_true, varD, refD, itD, blD, intD, isNonD, setAll, evT, evTs, binD, cmpD, eqD_int, eqD_bl, eqL_int, eqL_bl, List.getElem?_cons_zero, List.getElem?_cons_succ, List.set_cons_zero, List.set_cons_succ, List.length_cons, List.length_nil, Option.map_some, Option.map_none, Bool.not_true, Bool.not_false, if_true, if_false, Bool.false_eq_true, decide_true, decide_false, sz_ok, sz_lt, Nat.reduceLeDiff, Nat.reduceAdd, Nat.zero_le, Int.reduceNeg, isi_fine hf]
  refine vB_cases (fun h1 => ?_) (fun h1 => ?_)
  · simp only [pr_eq, vk_ok, s_cst, s_glob, s_var, s_tup, s_fz, s_alc, s_bin, s_neg, s_cmp, s_chain, s_isN, s_isB, s_and, s_or, s_and1, s_or1, s_and2, s_or2, s_not, s_ife, s_idx, s_slc, s_call, s_bi, s_isi, s_append, s_dsp, s_dnw, s_m1, s_es0, s_es1, s_ks0, s_ks1, s_no, s_so, s_disp, s_lstOf, s_rng3, s_seq, s_rng1, s_rng2, s_lc, s_lcIf, s_lcB, s_lcBI, s_nil, s_cons, s_expr, s_asg, s_sub, s_par, s_ret, s_retN, s_iff, s_for, s_pass, s_body, vB_true, vB_false, wo_some, wc_true, varD, refD, itD, blD, intD, isNonD, setAll, evT, evTs, binD, cmpD, eqD_int, eqD_bl, eqL_int, eqL_bl, List.getElem?_cons_zero, List.getElem?_cons_succ, List.set_cons_zero, List.set_cons_succ, List.length_cons, List.length_nil, Option.map_some, Option.map_none, Bool.not_true, Bool.not_false, if_true, if_false, Bool.false_eq_true, decide_true, decide_false, sz_ok, sz_lt, Nat.reduceLeDiff, Nat.reduceAdd, Nat.zero_le, Int.reduceNeg, isi_fine hf]
    cases h2 : tyOf m x .bool with
    | true =>
      simp only [pr_eq, vk_ok, s_cst, s_glob, s_var, s_tup, s_fz, s_alc, s_bin, s_neg, s_cmp, s_chain, s_isN, s_isB, s_and, s_or, s_and1, s_or1, s_and2, s_or2, s_not, s_ife, s_idx, s_slc, s_call, s_bi, s_isi, s_append, s_dsp, s_dnw, s_m1, s_es0, s_es1, s_ks0, s_ks1, s_no, s_so, s_disp, s_lstOf, s_rng3, s_seq, s_rng1, s_rng2, s_lc, s_lcIf, s_lcB, s_lcBI, s_nil, s_cons, s_expr, s_asg, s_sub, s_par, s_ret, s_retN, s_iff, s_for, s_pass, s_body, vB_true, vB_false, wo_some, wc_true, varD, refD, itD, blD, intD, isNonD, setAll, evT, evTs, binD, cmpD, eqD_int, eqD_bl, eqL_int, eqL_bl, List.getElem?_cons_zero, List.getElem?_cons_succ, List.set_cons_zero, List.set_cons_succ, List.length_cons, List.length_nil, Option.map_some, Option.map_none, Bool.not_true, Bool.not_false, if_true, if_false, Bool.false_eq_true, decide_true, decide_false, sz_ok, sz_lt, Nat.reduceLeDiff, Nat.reduceAdd, Nat.zero_le, Int.reduceNeg]
      rw [vk_leave rfl, ← okW_not (hi := hi) (.inr h2)]
      exact q
    | false =>
      obtain ⟨i, rfl⟩ := okW_int (hi := hi) h1 h2
      simp only [pr_eq, vk_ok, s_cst, s_glob, s_var, s_tup, s_fz, s_alc, s_bin, s_neg, s_cmp, s_chain, s_isN, s_isB, s_and, s_or, s_and1, s_or1, s_and2, s_or2, s_not, s_ife, s_idx, s_slc, s_call, s_bi, s_isi, s_append, s_dsp, s_dnw, s_m1, s_es0, s_es1, s_ks0, s_ks1, s_no, s_so, s_disp, s_lstOf, s_rng3, s_seq, s_rng1, s_rng2, s_lc, s_lcIf, s_lcB, s_lcBI, s_nil, s_cons, s_expr, s_asg, s_sub, s_par, s_ret, s_retN, s_iff, s_for, s_pass, s_body, vB_true, vB_false, wo_some, wc_true, varD, refD, itD, blD, intD, isNonD, setAll, evT, evTs, binD, cmpD, eqD_int, eqD_bl, eqL_int, eqL_bl, List.getElem?_cons_zero, List.getElem?_cons_succ, List.set_cons_zero, List.set_cons_succ, List.length_cons, List.length_nil, Option.map_some, Option.map_none, Bool.not_true, Bool.not_false, if_true, if_false, Bool.false_eq_true, decide_true, decide_false, sz_ok, sz_lt, Nat.reduceLeDiff, Nat.reduceAdd, Nat.zero_le, Int.reduceNeg]
      refine vB_dec (fun h3 => ?_) (fun h3 => ?_)
      · simp only [pr_eq, vk_ok, s_cst, s_glob, s_var, s_tup, s_fz, s_alc, s_bin, s_neg, s_cmp, s_chain, s_isN, s_isB, s_and, s_or, s_and1, s_or1, s_and2, s_or2, s_not, s_ife, s_idx, s_slc, s_call, s_bi, s_isi, s_append, s_dsp, s_dnw, s_m1, s_es0, s_es1, s_ks0, s_ks1, s_no, s_so, s_disp, s_lstOf, s_rng3, s_seq, s_rng1, s_rng2, s_lc, s_lcIf, s_lcB, s_lcBI, s_nil, s_cons, s_expr, s_asg, s_sub, s_par, s_ret, s_retN, s_iff, s_for, s_pass, s_body, vB_true, vB_false, wo_some, wc_true, varD, refD, itD, blD, intD, isNonD, setAll, evT, evTs, binD, cmpD, eqD_int, eqD_bl, eqL_int, eqL_bl, List.getElem?_cons_zero, List.getElem?_cons_succ, List.set_cons_zero, List.set_cons_succ, List.length_cons, List.length_nil, Option.map_some, Option.map_none, Bool.not_true, Bool.not_false, if_true, if_false, Bool.false_eq_true, decide_true, decide_false, sz_ok, sz_lt, Nat.reduceLeDiff, Nat.reduceAdd, Nat.zero_le, Int.reduceNeg]
        rw [vk_leave rfl]
        have e : decide (i ≤ hi) = okW (.int i) hi := by simp [okW, h3]
        rw [e]; exact q
      · (try simp only [pr_eq, vk_ok, s_cst, s_glob, s_var, s_tup, s_fz, s_alc, s_bin, s_neg, s_cmp, s_chain, s_isN, s_isB, s_and, s_or, s_and1, s_or1, s_and2, s_or2, s_not, s_ife, s_idx, s_slc, s_call, s_bi, s_isi, s_append, s_dsp, s_dnw, s_m1, s_es0, s_es1, s_ks0, s_ks1, s_no, s_so, s_disp, s_lstOf, s_rng3, s_seq, s_rng1, s_rng2, s_lc, s_lcIf, s_lcB, s_lcBI, s_nil, s_cons, s_expr, s_asg, s_sub, s_par, s_ret, s_retN, s_iff, s_for, s_pass, s_body, vB_true, vB_false, wo_some, wc_true, varD, refD, itD, blD, intD, isNonD, setAll, evT, evTs, binD, cmpD, eqD_int, eqD_bl, eqL_int, eqL_bl, List.getElem?_cons_zero, List.getElem?_cons_succ, List.set_cons_zero, List.set_cons_succ, List.length_cons, List.length_nil, Option.map_some, Option.map_none, Bool.not_true, Bool.not_false, if_true, if_false, Bool.false_eq_true, decide_true, decide_false, sz_ok, sz_lt, Nat.reduceLeDiff, Nat.reduceAdd, Nat.zero_le, Int.reduceNeg])
        rw [vk_leave rfl]
        have e : false = okW (.int i) hi := by simp [okW, h3]
        rw [e]; exact q
  · (try simp only [pr_eq, vk_ok, s_cst, s_glob, s_var, s_tup, s_fz, s_alc, s_bin, s_neg, s_cmp, s_chain, s_isN, s_isB, s_and, s_or, s_and1, s_or1, s_and2, s_or2, s_not, s_ife, s_idx, s_slc, s_call, s_bi, s_isi, s_append, s_dsp, s_dnw, s_m1, s_es0, s_es1, s_ks0, s_ks1, s_no, s_so, s_disp, s_lstOf, s_rng3, s_seq, s_rng1, s_rng2, s_lc, s_lcIf, s_lcB, s_lcBI, s_nil, s_cons, s_expr, s_asg, s_sub, s_par, s_ret, s_retN, s_iff, s_for, s_pass, s_body, vB_true, vB_false, wo_some, wc_true, varD, refD, itD, blD, intD, isNonD, setAll, evT, evTs, binD, cmpD, eqD_int, eqD_bl, eqL_int, eqL_bl, List.getElem?_cons_zero, List.getElem?_cons_succ, List.set_cons_zero, List.set_cons_succ, List.length_cons, List.length_nil, Option.map_some, Option.map_none, Bool.not_true, Bool.not_false, if_true, if_false, Bool.false_eq_true, decide_true, decide_false, sz_ok, sz_lt, Nat.reduceLeDiff, Nat.reduceAdd, Nat.zero_le, Int.reduceNeg])
    rw [vk_leave rfl, ← okW_not (hi := hi) (.inl h1)]
    exact q
end Lw

set_option Elab.async false
set_option linter.all false
set_option maxRecDepth 100000
set_option maxHeartbeats 4000000
namespace Lw
open PySem (Str PyData)
/-! ### rows -/
theorem ty_tup {m : Hs} {x : D} (h : tyOf m x .tuple = true) (hk : ∀ l, x ≠ .ktp l) : ∃ l, x = .tup l := by
  cases x <;> try (cases h; done)
  · exact ⟨_, rfl⟩
  · rename_i n
    unfold tyOf isiD at h
    simp only at h
    cases e : m[n]? with
    | none => rw [e] at h; cases h
    | some o => rw [e] at h; cases o <;> cases h
  · exact absurd rfl (hk _)
theorem len_tup (m : Hs) (l : List D) : biD m .len [.tup l] = some (.int l.length) := rfl
theorem row_ok {k : Nat} {m : Hs} {x : D} {n : Int} {Q : D → Hs → Prop} (hf : fineD m x = true) (hk : ∀ l, x ≠ .ktp l) (q1 : ∀ l, x = .tup l → Q (.bl (decide ((l.length : Int) = n))) m) (q0 : (∀ l, x ≠ .tup l) → Q (.bl false) m) : vk (runFn P1 G1 (k + 1) 3 [x, .int n] m) Q := by
  refine vk_call b3 .drop [some x, some (.int n)] rfl rfl rfl rfl rfl ?_
  unfold b3
  simp only [pr_eq, vk_ok, s_cst, s_glob, s_var, s_tup, s_fz, s_alc, s_bin, s_neg, s_cmp, s_chain, s_isN, s_isB, s_and, s_or, s_and1, s_or1, s_and2, s_or2, s_not, s_ife, s_idx, s_slc, s_call, s_bi, s_isi, s_append, s_dsp, s_dnw, s_m1, s_es0, s_es1, s_ks0, s_ks1, s_no, s_so, s_disp, s_lstOf, s_rng3, s_seq, s_rng1, s_rng2, s_lc, s_lcIf, s_lcB, s_lcBI, s_nil, s_cons, s_expr, s_asg, s_sub, s_par, s_ret, s_retN, s_iff, s_for, s_pass, s_body, vB_true, vB_false, wo_some, wc_true, varD, refD, itD, blD, intD, isNonD, setAll, evT, evTs, binD, cmpD, eqD_int, eqD_bl, eqL_int, eqL_bl, List.getElem?_cons_zero, List.getElem?_cons_succ, List.set_cons_zero, List.set_cons_succ, List.length_cons, List.length_nil, Option.map_some, Option.map_none, Bool.not_true, Bool.not_false, if_true, if_false, Bool.false_eq_true, decide_true, decide_false, sz_ok, sz_lt, Nat.reduceLeDiff, Nat.reduceAdd, Nat.zero_le, Int.reduceNeg, isi_fine hf]
  refine vB_cases (fun h1 => ?_) (fun h1 => ?_)
  · obtain ⟨l, rfl⟩ := ty_tup h1 hk
    simp only [pr_eq, vk_ok, s_cst, s_glob, s_var, s_tup, s_fz, s_alc, s_bin, s_neg, s_cmp, s_chain, s_isN, s_isB, s_and, s_or, s_and1, s_or1, s_and2, s_or2, s_not, s_ife, s_idx, s_slc, s_call, s_bi, s_isi, s_append, s_dsp, s_dnw, s_m1, s_es0, s_es1, s_ks0, s_ks1, s_no, s_so, s_disp, s_lstOf, s_rng3, s_seq, s_rng1, s_rng2, s_lc, s_lcIf, s_lcB, s_lcBI, s_nil, s_cons, s_expr, s_asg, s_sub, s_par, s_ret, s_retN, s_iff, s_for, s_pass, s_body, vB_true, vB_false, wo_some, wc_true, varD, refD, itD, blD, intD, isNonD, setAll, evT, evTs, binD, cmpD, eqD_int, eqD_bl, eqL_int, eqL_bl, List.getElem?_cons_zero, List.getElem?_cons_succ, List.set_cons_zero, List.set_cons_succ, List.length_cons, List.length_nil, Option.map_some, Option.map_none, Bool.not_true, Bool.not_false, if_true, if_false, Bool.false_eq_true, decide_true, decide_false, sz_ok, sz_lt, Nat.reduceLeDiff, Nat.reduceAdd, Nat.zero_le, Int.reduceNeg, len_tup]
    rw [vk_leave rfl]
    exact q1 l rfl
  · (try simp only [pr_eq, vk_ok, s_cst, s_glob, s_var, s_tup, s_fz, s_alc, s_bin, s_neg, s_cmp, s_chain, s_isN, s_isB, s_and, s_or, s_and1, s_or1, s_and2, s_or2, s_not, s_ife, s_idx, s_slc, s_call, s_bi, s_isi, s_append, s_dsp, s_dnw, s_m1, s_es0, s_es1, s_ks0, s_ks1, s_no, s_so, s_disp, s_lstOf, s_rng3, s_seq, s_rng1, s_rng2, s_lc, s_lcIf, s_lcB, s_lcBI, s_nil, s_cons, s_expr, s_asg, s_sub, s_par, s_ret, s_retN, s_iff, s_for, s_pass, s_body, vB_true, vB_false, wo_some, wc_true, varD, refD, itD, blD, intD, isNonD, setAll, evT, evTs, binD, cmpD, eqD_int, eqD_bl, eqL_int, eqL_bl, List.getElem?_cons_zero, List.getElem?_cons_succ, List.set_cons_zero, List.set_cons_succ, List.length_cons, List.length_nil, Option.map_some, Option.map_none, Bool.not_true, Bool.not_false, if_true, if_false, Bool.false_eq_true, decide_true, decide_false, sz_ok, sz_lt, Nat.reduceLeDiff, Nat.reduceAdd, Nat.zero_le, Int.reduceNeg])
    rw [vk_leave rfl]
    exact q0 fun l e => by subst e; cases h1
end Lw

set_option Elab.async false
set_option linter.all false
set_option maxRecDepth 100000
set_option maxHeartbeats 4000000
namespace Lw
open PySem (Str PyData)
/-! ### cares -/
def okCare (x : D) : Bool := match x with
  | .tup l => decide ((l.length : Int) = 4) && l.all fun y => okW y 99
  | _ => false
/-- a thing, and if it is a tuple what is in it -/
structure Fine (m : Hs) (x : D) : Prop where
  me : fineD m x = true
  nk : ∀ l, x ≠ .ktp l
  it : ∀ l, x = .tup l → ∀ y ∈ l, fineD m y = true
  sm : ∀ l, x = .tup l → l.length ≤ 1000
theorem all_bls : ∀ (m : Hs) (l : List Bool), biD m .all [.lst (l.map D.bl)] = some (.bl (l.all id)) := by
  intro m l
  have : blsD (l.map D.bl) = some l := by
    induction l with
    | nil => rfl
    | cons b l ih => simp only [List.map_cons, blsD, blD, ih]
  simp [biD, lstD, this]
theorem care_ok {k : Nat} {m : Hs} {x : D} {Q : D → Hs → Prop} (hf : Fine m x) (q : Q (.bl (okCare x)) m) : vk (runFn P1 G1 (k + 2) 4 [x] m) Q := by
  refine vk_call b4 .drop [some x, none] rfl rfl rfl rfl rfl ?_
  have g3 : G1 3 = some (.int 99) := rfl
  unfold b4
  simp only [pr_eq, vk_ok, s_cst, s_glob, s_var, s_tup, s_fz, s_alc, s_bin, s_neg, s_cmp, s_chain, s_isN, s_isB, s_and, s_or, s_and1, s_or1, s_and2, s_or2, s_not, s_ife, s_idx, s_slc, s_call, s_bi, s_isi, s_append, s_dsp, s_dnw, s_m1, s_es0, s_es1, s_ks0, s_ks1, s_no, s_so, s_disp, s_lstOf, s_rng3, s_seq, s_rng1, s_rng2, s_lc, s_lcIf, s_lcB, s_lcBI, s_nil, s_cons, s_expr, s_asg, s_sub, s_par, s_ret, s_retN, s_iff, s_for, s_pass, s_body, vB_true, vB_false, wo_some, wc_true, varD, refD, itD, blD, intD, isNonD, setAll, evT, evTs, binD, cmpD, eqD_int, eqD_bl, eqL_int, eqL_bl, List.getElem?_cons_zero, List.getElem?_cons_succ, List.set_cons_zero, List.set_cons_succ, List.length_cons, List.length_nil, Option.map_some, Option.map_none, Bool.not_true, Bool.not_false, if_true, if_false, Bool.false_eq_true, decide_true, decide_false, sz_ok, sz_lt, Nat.reduceLeDiff, Nat.reduceAdd, Nat.zero_le, Int.reduceNeg]
  refine row_ok hf.me hf.nk (fun l e => ?_) (fun hne => ?_)
  · subst e
    refine vB_dec (fun h1 => ?_) (fun h1 => ?_)
    · simp only [pr_eq, vk_ok, s_cst, s_glob, s_var, s_tup, s_fz, s_alc, s_bin, s_neg, s_cmp, s_chain, s_isN, s_isB, s_and, s_or, s_and1, s_or1, s_and2, s_or2, s_not, s_ife, s_idx, s_slc, s_call, s_bi, s_isi, s_append, s_dsp, s_dnw, s_m1, s_es0, s_es1, s_ks0, s_ks1, s_no, s_so, s_disp, s_lstOf, s_rng3, s_seq, s_rng1, s_rng2, s_lc, s_lcIf, s_lcB, s_lcBI, s_nil, s_cons, s_expr, s_asg, s_sub, s_par, s_ret, s_retN, s_iff, s_for, s_pass, s_body, vB_true, vB_false, wo_some, wc_true, varD, refD, itD, blD, intD, isNonD, setAll, evT, evTs, binD, cmpD, eqD_int, eqD_bl, eqL_int, eqL_bl, List.getElem?_cons_zero, List.getElem?_cons_succ, List.set_cons_zero, List.set_cons_succ, List.length_cons, List.length_nil, Option.map_some, Option.map_none, Bool.not_true, Bool.not_false, if_true, if_false, Bool.false_eq_true, decide_true, decide_false, sz_ok, sz_lt, Nat.reduceLeDiff, Nat.reduceAdd, Nat.zero_le, Int.reduceNeg]
      refine wc_of (by rw [PySem.sizeLine_eq]; have := hf.sm l rfl; omega) ?_
      refine vk_lcGo (g := fun y => some (.bl (okW y 99))) ?_ ?_
      · intro y hy
        simp only [wipe, pr_eq, vk_ok, s_cst, s_glob, s_var, s_tup, s_fz, s_alc, s_bin, s_neg, s_cmp, s_chain, s_isN, s_isB, s_and, s_or, s_and1, s_or1, s_and2, s_or2, s_not, s_ife, s_idx, s_slc, s_call, s_bi, s_isi, s_append, s_dsp, s_dnw, s_m1, s_es0, s_es1, s_ks0, s_ks1, s_no, s_so, s_disp, s_lstOf, s_rng3, s_seq, s_rng1, s_rng2, s_lc, s_lcIf, s_lcB, s_lcBI, s_nil, s_cons, s_expr, s_asg, s_sub, s_par, s_ret, s_retN, s_iff, s_for, s_pass, s_body, vB_true, vB_false, wo_some, wc_true, varD, refD, itD, blD, intD, isNonD, setAll, evT, evTs, binD, cmpD, eqD_int, eqD_bl, eqL_int, eqL_bl, List.getElem?_cons_zero, List.getElem?_cons_succ, List.set_cons_zero, List.set_cons_succ, List.length_cons, List.length_nil, Option.map_some, Option.map_none, Bool.not_true, Bool.not_false, if_true, if_false, Bool.false_eq_true, decide_true, decide_false, sz_ok, sz_lt, Nat.reduceLeDiff, Nat.reduceAdd, Nat.zero_le, Int.reduceNeg, g3]
        refine among_ok (hf.it l rfl y hy) ?_
        exact ⟨rfl, rfl⟩
      · have e1 : (l.filterMap fun y => some (D.bl (okW y 99))) = (l.map fun y => okW y 99).map D.bl := by
          rw [List.filterMap_eq_map', List.map_map]; rfl
        rw [e1]
        simp only [pr_eq, vk_ok, s_cst, s_glob, s_var, s_tup, s_fz, s_alc, s_bin, s_neg, s_cmp, s_chain, s_isN, s_isB, s_and, s_or, s_and1, s_or1, s_and2, s_or2, s_not, s_ife, s_idx, s_slc, s_call, s_bi, s_isi, s_append, s_dsp, s_dnw, s_m1, s_es0, s_es1, s_ks0, s_ks1, s_no, s_so, s_disp, s_lstOf, s_rng3, s_seq, s_rng1, s_rng2, s_lc, s_lcIf, s_lcB, s_lcBI, s_nil, s_cons, s_expr, s_asg, s_sub, s_par, s_ret, s_retN, s_iff, s_for, s_pass, s_body, vB_true, vB_false, wo_some, wc_true, varD, refD, itD, blD, intD, isNonD, setAll, evT, evTs, binD, cmpD, eqD_int, eqD_bl, eqL_int, eqL_bl, List.getElem?_cons_zero, List.getElem?_cons_succ, List.set_cons_zero, List.set_cons_succ, List.length_cons, List.length_nil, Option.map_some, Option.map_none, Bool.not_true, Bool.not_false, if_true, if_false, Bool.false_eq_true, decide_true, decide_false, sz_ok, sz_lt, Nat.reduceLeDiff, Nat.reduceAdd, Nat.zero_le, Int.reduceNeg, all_bls]
        rw [vk_leave rfl]
        have e2 : okCare (.tup l) = (l.map fun y => okW y 99).all id := by simp [okCare, h1, List.all_map, Function.comp_def]
        rw [← e2]; exact q
    · (try simp only [pr_eq, vk_ok, s_cst, s_glob, s_var, s_tup, s_fz, s_alc, s_bin, s_neg, s_cmp, s_chain, s_isN, s_isB, s_and, s_or, s_and1, s_or1, s_and2, s_or2, s_not, s_ife, s_idx, s_slc, s_call, s_bi, s_isi, s_append, s_dsp, s_dnw, s_m1, s_es0, s_es1, s_ks0, s_ks1, s_no, s_so, s_disp, s_lstOf, s_rng3, s_seq, s_rng1, s_rng2, s_lc, s_lcIf, s_lcB, s_lcBI, s_nil, s_cons, s_expr, s_asg, s_sub, s_par, s_ret, s_retN, s_iff, s_for, s_pass, s_body, vB_true, vB_false, wo_some, wc_true, varD, refD, itD, blD, intD, isNonD, setAll, evT, evTs, binD, cmpD, eqD_int, eqD_bl, eqL_int, eqL_bl, List.getElem?_cons_zero, List.getElem?_cons_succ, List.set_cons_zero, List.set_cons_succ, List.length_cons, List.length_nil, Option.map_some, Option.map_none, Bool.not_true, Bool.not_false, if_true, if_false, Bool.false_eq_true, decide_true, decide_false, sz_ok, sz_lt, Nat.reduceLeDiff, Nat.reduceAdd, Nat.zero_le, Int.reduceNeg])
      rw [vk_leave rfl]
      have e2 : okCare (.tup l) = false := by simp [okCare, h1]
      rw [← e2]; exact q
  · (try simp only [pr_eq, vk_ok, s_cst, s_glob, s_var, s_tup, s_fz, s_alc, s_bin, s_neg, s_cmp, s_chain, s_isN, s_isB, s_and, s_or, s_and1, s_or1, s_and2, s_or2, s_not, s_ife, s_idx, s_slc, s_call, s_bi, s_isi, s_append, s_dsp, s_dnw, s_m1, s_es0, s_es1, s_ks0, s_ks1, s_no, s_so, s_disp, s_lstOf, s_rng3, s_seq, s_rng1, s_rng2, s_lc, s_lcIf, s_lcB, s_lcBI, s_nil, s_cons, s_expr, s_asg, s_sub, s_par, s_ret, s_retN, s_iff, s_for, s_pass, s_body, vB_true, vB_false, wo_some, wc_true, varD, refD, itD, blD, intD, isNonD, setAll, evT, evTs, binD, cmpD, eqD_int, eqD_bl, eqL_int, eqL_bl, List.getElem?_cons_zero, List.getElem?_cons_succ, List.set_cons_zero, List.set_cons_succ, List.length_cons, List.length_nil, Option.map_some, Option.map_none, Bool.not_true, Bool.not_false, if_true, if_false, Bool.false_eq_true, decide_true, decide_false, sz_ok, sz_lt, Nat.reduceLeDiff, Nat.reduceAdd, Nat.zero_le, Int.reduceNeg])
    rw [vk_leave rfl]
    have e2 : okCare x = false := by cases x <;> first | rfl | exact absurd rfl (hne _)
    rw [← e2]; exact q
theorem eqL_lst0 {m : Hs} {l : List D} (h : l ≠ []) : eqL m (.lst l) (.lst []) = some false := by
  unfold eqL
  cases e : eqD m (.lst l) (.lst []) with
  | some r =>
    simp only
    unfold eqD at e
    split at e
    · rename_i x y h1 h2
      split at e
      · cases e
        simp only [dp, dpW, dpAll, Option.map_some, Option.some.injEq] at h1 h2
        subst h2
        cases l with
        | nil => exact absurd rfl h
        | cons z l =>
          simp only [dpAll] at h1
          split at h1
          · simp only [Option.map_some, Option.some.injEq] at h1
            subst h1
            simp [PyData.eqv, PyData.eqvAll]
          · simp at h1
      · cases e
    · cases e
  | none =>
    simp only [lstD]
    rw [if_neg]
    cases l with
    | nil => exact absurd rfl h
    | cons _ _ => simp
theorem eqL_nil0 (m : Hs) : eqL m (.lst []) (.lst []) = some true := eqL_of (by rw [eqD_ints (isInts_nil m) (isInts_nil m)]; simp)
theorem lawcare_ok {k : Nat} {m : Hs} {x : D} {Q : D → Hs → Prop} (hf : Fine m x) (q : Q (.bl (okCare x)) m) : vk (runFn P1 G1 (k + 2) 15 [x] m) Q := by
  refine vk_call b15 .drop [some x, none] rfl rfl rfl rfl rfl ?_
  unfold b15
  simp only [pr_eq, vk_ok, s_cst, s_glob, s_var, s_tup, s_fz, s_alc, s_bin, s_neg, s_cmp, s_chain, s_isN, s_isB, s_and, s_or, s_and1, s_or1, s_and2, s_or2, s_not, s_ife, s_idx, s_slc, s_call, s_bi, s_isi, s_append, s_dsp, s_dnw, s_m1, s_es0, s_es1, s_ks0, s_ks1, s_no, s_so, s_disp, s_lstOf, s_rng3, s_seq, s_rng1, s_rng2, s_lc, s_lcIf, s_lcB, s_lcBI, s_nil, s_cons, s_expr, s_asg, s_sub, s_par, s_ret, s_retN, s_iff, s_for, s_pass, s_body, vB_true, vB_false, wo_some, wc_true, varD, refD, itD, blD, intD, isNonD, setAll, evT, evTs, binD, cmpD, eqD_int, eqD_bl, eqL_int, eqL_bl, List.getElem?_cons_zero, List.getElem?_cons_succ, List.set_cons_zero, List.set_cons_succ, List.length_cons, List.length_nil, Option.map_some, Option.map_none, Bool.not_true, Bool.not_false, if_true, if_false, Bool.false_eq_true, decide_true, decide_false, sz_ok, sz_lt, Nat.reduceLeDiff, Nat.reduceAdd, Nat.zero_le, Int.reduceNeg, isi_fine hf.me]
  cases ht : tyOf m x .tuple with
  | false =>
    simp only [pr_eq, vk_ok, s_cst, s_glob, s_var, s_tup, s_fz, s_alc, s_bin, s_neg, s_cmp, s_chain, s_isN, s_isB, s_and, s_or, s_and1, s_or1, s_and2, s_or2, s_not, s_ife, s_idx, s_slc, s_call, s_bi, s_isi, s_append, s_dsp, s_dnw, s_m1, s_es0, s_es1, s_ks0, s_ks1, s_no, s_so, s_disp, s_lstOf, s_rng3, s_seq, s_rng1, s_rng2, s_lc, s_lcIf, s_lcB, s_lcBI, s_nil, s_cons, s_expr, s_asg, s_sub, s_par, s_ret, s_retN, s_iff, s_for, s_pass, s_body, vB_true, vB_false, wo_some, wc_true, varD, refD, itD, blD, intD, isNonD, setAll, evT, evTs, binD, cmpD, eqD_int, eqD_bl, eqL_int, eqL_bl, List.getElem?_cons_zero, List.getElem?_cons_succ, List.set_cons_zero, List.set_cons_succ, List.length_cons, List.length_nil, Option.map_some, Option.map_none, Bool.not_true, Bool.not_false, if_true, if_false, Bool.false_eq_true, decide_true, decide_false, sz_ok, sz_lt, Nat.reduceLeDiff, Nat.reduceAdd, Nat.zero_le, Int.reduceNeg]
    rw [vk_leave rfl]
    have e2 : okCare x = false := by cases x <;> first | rfl | cases ht
    rw [← e2]; exact q
  | true =>
    obtain ⟨l, rfl⟩ := ty_tup ht hf.nk
    simp only [pr_eq, vk_ok, s_cst, s_glob, s_var, s_tup, s_fz, s_alc, s_bin, s_neg, s_cmp, s_chain, s_isN, s_isB, s_and, s_or, s_and1, s_or1, s_and2, s_or2, s_not, s_ife, s_idx, s_slc, s_call, s_bi, s_isi, s_append, s_dsp, s_dnw, s_m1, s_es0, s_es1, s_ks0, s_ks1, s_no, s_so, s_disp, s_lstOf, s_rng3, s_seq, s_rng1, s_rng2, s_lc, s_lcIf, s_lcB, s_lcBI, s_nil, s_cons, s_expr, s_asg, s_sub, s_par, s_ret, s_retN, s_iff, s_for, s_pass, s_body, vB_true, vB_false, wo_some, wc_true, varD, refD, itD, blD, intD, isNonD, setAll, evT, evTs, binD, cmpD, eqD_int, eqD_bl, eqL_int, eqL_bl, List.getElem?_cons_zero, List.getElem?_cons_succ, List.set_cons_zero, List.set_cons_succ, List.length_cons, List.length_nil, Option.map_some, Option.map_none, Bool.not_true, Bool.not_false, if_true, if_false, Bool.false_eq_true, decide_true, decide_false, sz_ok, sz_lt, Nat.reduceLeDiff, Nat.reduceAdd, Nat.zero_le, Int.reduceNeg, len_tup]
    refine vB_ndec (fun h1 => ?_) (fun h1 => ?_)
    · simp only [pr_eq, vk_ok, s_cst, s_glob, s_var, s_tup, s_fz, s_alc, s_bin, s_neg, s_cmp, s_chain, s_isN, s_isB, s_and, s_or, s_and1, s_or1, s_and2, s_or2, s_not, s_ife, s_idx, s_slc, s_call, s_bi, s_isi, s_append, s_dsp, s_dnw, s_m1, s_es0, s_es1, s_ks0, s_ks1, s_no, s_so, s_disp, s_lstOf, s_rng3, s_seq, s_rng1, s_rng2, s_lc, s_lcIf, s_lcB, s_lcBI, s_nil, s_cons, s_expr, s_asg, s_sub, s_par, s_ret, s_retN, s_iff, s_for, s_pass, s_body, vB_true, vB_false, wo_some, wc_true, varD, refD, itD, blD, intD, isNonD, setAll, evT, evTs, binD, cmpD, eqD_int, eqD_bl, eqL_int, eqL_bl, List.getElem?_cons_zero, List.getElem?_cons_succ, List.set_cons_zero, List.set_cons_succ, List.length_cons, List.length_nil, Option.map_some, Option.map_none, Bool.not_true, Bool.not_false, if_true, if_false, Bool.false_eq_true, decide_true, decide_false, sz_ok, sz_lt, Nat.reduceLeDiff, Nat.reduceAdd, Nat.zero_le, Int.reduceNeg]
      rw [vk_leave rfl]
      have e2 : okCare (.tup l) = false := by simp [okCare, h1]
      rw [← e2]; exact q
    · simp only [pr_eq, vk_ok, s_cst, s_glob, s_var, s_tup, s_fz, s_alc, s_bin, s_neg, s_cmp, s_chain, s_isN, s_isB, s_and, s_or, s_and1, s_or1, s_and2, s_or2, s_not, s_ife, s_idx, s_slc, s_call, s_bi, s_isi, s_append, s_dsp, s_dnw, s_m1, s_es0, s_es1, s_ks0, s_ks1, s_no, s_so, s_disp, s_lstOf, s_rng3, s_seq, s_rng1, s_rng2, s_lc, s_lcIf, s_lcB, s_lcBI, s_nil, s_cons, s_expr, s_asg, s_sub, s_par, s_ret, s_retN, s_iff, s_for, s_pass, s_body, vB_true, vB_false, wo_some, wc_true, varD, refD, itD, blD, intD, isNonD, setAll, evT, evTs, binD, cmpD, eqD_int, eqD_bl, eqL_int, eqL_bl, List.getElem?_cons_zero, List.getElem?_cons_succ, List.set_cons_zero, List.set_cons_succ, List.length_cons, List.length_nil, Option.map_some, Option.map_none, Bool.not_true, Bool.not_false, if_true, if_false, Bool.false_eq_true, decide_true, decide_false, sz_ok, sz_lt, Nat.reduceLeDiff, Nat.reduceAdd, Nat.zero_le, Int.reduceNeg]
      refine wc_of (by rw [PySem.sizeLine_eq]; have := hf.sm l rfl; omega) ?_
      refine vk_lcGo (g := fun y => if okW y 99 then none else some y) ?_ ?_
      · intro y hy
        simp only [wipe, pr_eq, vk_ok, s_cst, s_glob, s_var, s_tup, s_fz, s_alc, s_bin, s_neg, s_cmp, s_chain, s_isN, s_isB, s_and, s_or, s_and1, s_or1, s_and2, s_or2, s_not, s_ife, s_idx, s_slc, s_call, s_bi, s_isi, s_append, s_dsp, s_dnw, s_m1, s_es0, s_es1, s_ks0, s_ks1, s_no, s_so, s_disp, s_lstOf, s_rng3, s_seq, s_rng1, s_rng2, s_lc, s_lcIf, s_lcB, s_lcBI, s_nil, s_cons, s_expr, s_asg, s_sub, s_par, s_ret, s_retN, s_iff, s_for, s_pass, s_body, vB_true, vB_false, wo_some, wc_true, varD, refD, itD, blD, intD, isNonD, setAll, evT, evTs, binD, cmpD, eqD_int, eqD_bl, eqL_int, eqL_bl, List.getElem?_cons_zero, List.getElem?_cons_succ, List.set_cons_zero, List.set_cons_succ, List.length_cons, List.length_nil, Option.map_some, Option.map_none, Bool.not_true, Bool.not_false, if_true, if_false, Bool.false_eq_true, decide_true, decide_false, sz_ok, sz_lt, Nat.reduceLeDiff, Nat.reduceAdd, Nat.zero_le, Int.reduceNeg]
        refine whole_ok (hf.it l rfl y hy) ?_
        obtain h9 | h9 := Bool.eq_false_or_eq_true (okW y 99)
        · simp only [h9, pr_eq, vk_ok, s_cst, s_glob, s_var, s_tup, s_fz, s_alc, s_bin, s_neg, s_cmp, s_chain, s_isN, s_isB, s_and, s_or, s_and1, s_or1, s_and2, s_or2, s_not, s_ife, s_idx, s_slc, s_call, s_bi, s_isi, s_append, s_dsp, s_dnw, s_m1, s_es0, s_es1, s_ks0, s_ks1, s_no, s_so, s_disp, s_lstOf, s_rng3, s_seq, s_rng1, s_rng2, s_lc, s_lcIf, s_lcB, s_lcBI, s_nil, s_cons, s_expr, s_asg, s_sub, s_par, s_ret, s_retN, s_iff, s_for, s_pass, s_body, vB_true, vB_false, wo_some, wc_true, varD, refD, itD, blD, intD, isNonD, setAll, evT, evTs, binD, cmpD, eqD_int, eqD_bl, eqL_int, eqL_bl, List.getElem?_cons_zero, List.getElem?_cons_succ, List.set_cons_zero, List.set_cons_succ, List.length_cons, List.length_nil, Option.map_some, Option.map_none, Bool.not_true, Bool.not_false, if_true, if_false, Bool.false_eq_true, decide_true, decide_false, sz_ok, sz_lt, Nat.reduceLeDiff, Nat.reduceAdd, Nat.zero_le, Int.reduceNeg]; first | exact ⟨trivial, trivial⟩ | exact ⟨trivial, rfl⟩ | exact ⟨rfl, rfl⟩
        · simp only [h9, pr_eq, vk_ok, s_cst, s_glob, s_var, s_tup, s_fz, s_alc, s_bin, s_neg, s_cmp, s_chain, s_isN, s_isB, s_and, s_or, s_and1, s_or1, s_and2, s_or2, s_not, s_ife, s_idx, s_slc, s_call, s_bi, s_isi, s_append, s_dsp, s_dnw, s_m1, s_es0, s_es1, s_ks0, s_ks1, s_no, s_so, s_disp, s_lstOf, s_rng3, s_seq, s_rng1, s_rng2, s_lc, s_lcIf, s_lcB, s_lcBI, s_nil, s_cons, s_expr, s_asg, s_sub, s_par, s_ret, s_retN, s_iff, s_for, s_pass, s_body, vB_true, vB_false, wo_some, wc_true, varD, refD, itD, blD, intD, isNonD, setAll, evT, evTs, binD, cmpD, eqD_int, eqD_bl, eqL_int, eqL_bl, List.getElem?_cons_zero, List.getElem?_cons_succ, List.set_cons_zero, List.set_cons_succ, List.length_cons, List.length_nil, Option.map_some, Option.map_none, Bool.not_true, Bool.not_false, if_true, if_false, Bool.false_eq_true, decide_true, decide_false, sz_ok, sz_lt, Nat.reduceLeDiff, Nat.reduceAdd, Nat.zero_le, Int.reduceNeg]; first | exact ⟨trivial, trivial⟩ | exact ⟨trivial, rfl⟩ | exact ⟨rfl, rfl⟩
      · cases hc : l.all fun y => okW y 99 with
        | true =>
          have e1 : (l.filterMap fun y => if okW y 99 then none else some y) = [] := by
            rw [List.filterMap_eq_nil_iff]
            intro y hy
            rw [if_pos (List.all_eq_true.mp hc y hy)]
          rw [e1]
          simp only [pr_eq, vk_ok, s_cst, s_glob, s_var, s_tup, s_fz, s_alc, s_bin, s_neg, s_cmp, s_chain, s_isN, s_isB, s_and, s_or, s_and1, s_or1, s_and2, s_or2, s_not, s_ife, s_idx, s_slc, s_call, s_bi, s_isi, s_append, s_dsp, s_dnw, s_m1, s_es0, s_es1, s_ks0, s_ks1, s_no, s_so, s_disp, s_lstOf, s_rng3, s_seq, s_rng1, s_rng2, s_lc, s_lcIf, s_lcB, s_lcBI, s_nil, s_cons, s_expr, s_asg, s_sub, s_par, s_ret, s_retN, s_iff, s_for, s_pass, s_body, vB_true, vB_false, wo_some, wc_true, varD, refD, itD, blD, intD, isNonD, setAll, evT, evTs, binD, cmpD, eqD_int, eqD_bl, eqL_int, eqL_bl, List.getElem?_cons_zero, List.getElem?_cons_succ, List.set_cons_zero, List.set_cons_succ, List.length_cons, List.length_nil, Option.map_some, Option.map_none, Bool.not_true, Bool.not_false, if_true, if_false, Bool.false_eq_true, decide_true, decide_false, sz_ok, sz_lt, Nat.reduceLeDiff, Nat.reduceAdd, Nat.zero_le, Int.reduceNeg, eqL_nil0]
          rw [vk_leave rfl]
          have e2 : okCare (.tup l) = true := by simp [okCare, h1, hc]
          rw [← e2]; exact q
        | false =>
          have e1 : (l.filterMap fun y => if okW y 99 then none else some y) ≠ [] := by
            intro z
            rw [List.filterMap_eq_nil_iff] at z
            have : (l.all fun y => okW y 99) = true := List.all_eq_true.mpr fun y hy => by
              have := z y hy
              cases h : okW y 99 with
              | true => rfl
              | false => simp [h] at this
            exact Bool.noConfusion (hc.symm.trans this)
          simp only [pr_eq, vk_ok, s_cst, s_glob, s_var, s_tup, s_fz, s_alc, s_bin, s_neg, s_cmp, s_chain, s_isN, s_isB, s_and, s_or, s_and1, s_or1, s_and2, s_or2, s_not, s_ife, s_idx, s_slc, s_call, s_bi, s_isi, s_append, s_dsp, s_dnw, s_m1, s_es0, s_es1, s_ks0, s_ks1, s_no, s_so, s_disp, s_lstOf, s_rng3, s_seq, s_rng1, s_rng2, s_lc, s_lcIf, s_lcB, s_lcBI, s_nil, s_cons, s_expr, s_asg, s_sub, s_par, s_ret, s_retN, s_iff, s_for, s_pass, s_body, vB_true, vB_false, wo_some, wc_true, varD, refD, itD, blD, intD, isNonD, setAll, evT, evTs, binD, cmpD, eqD_int, eqD_bl, eqL_int, eqL_bl, List.getElem?_cons_zero, List.getElem?_cons_succ, List.set_cons_zero, List.set_cons_succ, List.length_cons, List.length_nil, Option.map_some, Option.map_none, Bool.not_true, Bool.not_false, if_true, if_false, Bool.false_eq_true, decide_true, decide_false, sz_ok, sz_lt, Nat.reduceLeDiff, Nat.reduceAdd, Nat.zero_le, Int.reduceNeg, eqL_lst0 e1]
          rw [vk_leave rfl]
          have e2 : okCare (.tup l) = false := by simp only [okCare, hc, Bool.and_false]
          rw [← e2]; exact q
end Lw

set_option Elab.async false
set_option linter.all false
set_option maxRecDepth 100000
set_option maxHeartbeats 4000000
namespace Lw
open PySem (Str PyData)
/-! ### needs -/
def leD : D → D → Bool
  | .int a, .int b => decide (a ≤ b)
  | _, _ => false
def okStr (x : D) : Bool := match x with
  | .tup [y, z] => okW y 99 && okW z 99 && leD y z
  | _ => false
theorem okW_isint {x : D} {hi : Int} (h : okW x hi = true) : ∃ i, x = .int i := by
  cases x <;> first | exact ⟨_, rfl⟩ | cases h
theorem stretch_ok {k : Nat} {m : Hs} {x : D} {Q : D → Hs → Prop} (hf : Fine m x) (q : Q (.bl (okStr x)) m) : vk (runFn P1 G1 (k + 2) 5 [x] m) Q := by
  refine vk_call b5 .drop [some x, none] rfl rfl rfl rfl rfl ?_
  have g3 : G1 3 = some (.int 99) := rfl
  have nope : okStr x = false → vk (leave .drop m.length (.rt (.bl false) m)) Q := by
    intro h
    rw [vk_leave rfl, ← h]; exact q
  unfold b5
  simp only [pr_eq, vk_ok, s_cst, s_glob, s_var, s_tup, s_fz, s_alc, s_bin, s_neg, s_cmp, s_chain, s_isN, s_isB, s_and, s_or, s_and1, s_or1, s_and2, s_or2, s_not, s_ife, s_idx, s_slc, s_call, s_bi, s_isi, s_append, s_dsp, s_dnw, s_m1, s_es0, s_es1, s_ks0, s_ks1, s_no, s_so, s_disp, s_lstOf, s_rng3, s_seq, s_rng1, s_rng2, s_lc, s_lcIf, s_lcB, s_lcBI, s_nil, s_cons, s_expr, s_asg, s_sub, s_par, s_ret, s_retN, s_iff, s_for, s_pass, s_body, vB_true, vB_false, wo_some, wc_true, varD, refD, itD, blD, intD, isNonD, setAll, evT, evTs, binD, cmpD, eqD_int, eqD_bl, eqL_int, eqL_bl, List.getElem?_cons_zero, List.getElem?_cons_succ, List.set_cons_zero, List.set_cons_succ, List.length_cons, List.length_nil, Option.map_some, Option.map_none, Bool.not_true, Bool.not_false, if_true, if_false, Bool.false_eq_true, decide_true, decide_false, sz_ok, sz_lt, Nat.reduceLeDiff, Nat.reduceAdd, Nat.zero_le, Int.reduceNeg]
  refine row_ok hf.me hf.nk (fun l e => ?_) (fun hne => ?_)
  · subst e
    simp only [pr_eq, vk_ok, s_cst, s_glob, s_var, s_tup, s_fz, s_alc, s_bin, s_neg, s_cmp, s_chain, s_isN, s_isB, s_and, s_or, s_and1, s_or1, s_and2, s_or2, s_not, s_ife, s_idx, s_slc, s_call, s_bi, s_isi, s_append, s_dsp, s_dnw, s_m1, s_es0, s_es1, s_ks0, s_ks1, s_no, s_so, s_disp, s_lstOf, s_rng3, s_seq, s_rng1, s_rng2, s_lc, s_lcIf, s_lcB, s_lcBI, s_nil, s_cons, s_expr, s_asg, s_sub, s_par, s_ret, s_retN, s_iff, s_for, s_pass, s_body, vB_true, vB_false, wo_some, wc_true, varD, refD, itD, blD, intD, isNonD, setAll, evT, evTs, binD, cmpD, eqD_int, eqD_bl, eqL_int, eqL_bl, List.getElem?_cons_zero, List.getElem?_cons_succ, List.set_cons_zero, List.set_cons_succ, List.length_cons, List.length_nil, Option.map_some, Option.map_none, Bool.not_true, Bool.not_false, if_true, if_false, Bool.false_eq_true, decide_true, decide_false, sz_ok, sz_lt, Nat.reduceLeDiff, Nat.reduceAdd, Nat.zero_le, Int.reduceNeg]
    refine vB_ndec (fun h1 => ?_) (fun h1 => ?_)
    · (try simp only [pr_eq, vk_ok, s_cst, s_glob, s_var, s_tup, s_fz, s_alc, s_bin, s_neg, s_cmp, s_chain, s_isN, s_isB, s_and, s_or, s_and1, s_or1, s_and2, s_or2, s_not, s_ife, s_idx, s_slc, s_call, s_bi, s_isi, s_append, s_dsp, s_dnw, s_m1, s_es0, s_es1, s_ks0, s_ks1, s_no, s_so, s_disp, s_lstOf, s_rng3, s_seq, s_rng1, s_rng2, s_lc, s_lcIf, s_lcB, s_lcBI, s_nil, s_cons, s_expr, s_asg, s_sub, s_par, s_ret, s_retN, s_iff, s_for, s_pass, s_body, vB_true, vB_false, wo_some, wc_true, varD, refD, itD, blD, intD, isNonD, setAll, evT, evTs, binD, cmpD, eqD_int, eqD_bl, eqL_int, eqL_bl, List.getElem?_cons_zero, List.getElem?_cons_succ, List.set_cons_zero, List.set_cons_succ, List.length_cons, List.length_nil, Option.map_some, Option.map_none, Bool.not_true, Bool.not_false, if_true, if_false, Bool.false_eq_true, decide_true, decide_false, sz_ok, sz_lt, Nat.reduceLeDiff, Nat.reduceAdd, Nat.zero_le, Int.reduceNeg])
      refine nope ?_
      match l, h1 with
      | [], _ => rfl
      | [_], _ => rfl
      | [_, _], h1 => exact absurd rfl h1
      | _ :: _ :: _ :: _, _ => rfl
    · simp only [pr_eq, vk_ok, s_cst, s_glob, s_var, s_tup, s_fz, s_alc, s_bin, s_neg, s_cmp, s_chain, s_isN, s_isB, s_and, s_or, s_and1, s_or1, s_and2, s_or2, s_not, s_ife, s_idx, s_slc, s_call, s_bi, s_isi, s_append, s_dsp, s_dnw, s_m1, s_es0, s_es1, s_ks0, s_ks1, s_no, s_so, s_disp, s_lstOf, s_rng3, s_seq, s_rng1, s_rng2, s_lc, s_lcIf, s_lcB, s_lcBI, s_nil, s_cons, s_expr, s_asg, s_sub, s_par, s_ret, s_retN, s_iff, s_for, s_pass, s_body, vB_true, vB_false, wo_some, wc_true, varD, refD, itD, blD, intD, isNonD, setAll, evT, evTs, binD, cmpD, eqD_int, eqD_bl, eqL_int, eqL_bl, List.getElem?_cons_zero, List.getElem?_cons_succ, List.set_cons_zero, List.set_cons_succ, List.length_cons, List.length_nil, Option.map_some, Option.map_none, Bool.not_true, Bool.not_false, if_true, if_false, Bool.false_eq_true, decide_true, decide_false, sz_ok, sz_lt, Nat.reduceLeDiff, Nat.reduceAdd, Nat.zero_le, Int.reduceNeg]
      refine wc_of (by rw [PySem.sizeLine_eq]; omega) ?_
      refine vk_lcGo (g := fun y => some (.bl (okW y 99))) ?_ ?_
      · intro y hy
        simp only [wipe, pr_eq, vk_ok, s_cst, s_glob, s_var, s_tup, s_fz, s_alc, s_bin, s_neg, s_cmp, s_chain, s_isN, s_isB, s_and, s_or, s_and1, s_or1, s_and2, s_or2, s_not, s_ife, s_idx, s_slc, s_call, s_bi, s_isi, s_append, s_dsp, s_dnw, s_m1, s_es0, s_es1, s_ks0, s_ks1, s_no, s_so, s_disp, s_lstOf, s_rng3, s_seq, s_rng1, s_rng2, s_lc, s_lcIf, s_lcB, s_lcBI, s_nil, s_cons, s_expr, s_asg, s_sub, s_par, s_ret, s_retN, s_iff, s_for, s_pass, s_body, vB_true, vB_false, wo_some, wc_true, varD, refD, itD, blD, intD, isNonD, setAll, evT, evTs, binD, cmpD, eqD_int, eqD_bl, eqL_int, eqL_bl, List.getElem?_cons_zero, List.getElem?_cons_succ, List.set_cons_zero, List.set_cons_succ, List.length_cons, List.length_nil, Option.map_some, Option.map_none, Bool.not_true, Bool.not_false, if_true, if_false, Bool.false_eq_true, decide_true, decide_false, sz_ok, sz_lt, Nat.reduceLeDiff, Nat.reduceAdd, Nat.zero_le, Int.reduceNeg, g3]
        refine among_ok (hf.it l rfl y hy) ?_
        exact ⟨rfl, rfl⟩
      · have e1 : (l.filterMap fun y => some (D.bl (okW y 99))) = (l.map fun y => okW y 99).map D.bl := by
          rw [List.filterMap_eq_map', List.map_map]; rfl
        rw [e1]
        simp only [pr_eq, vk_ok, s_cst, s_glob, s_var, s_tup, s_fz, s_alc, s_bin, s_neg, s_cmp, s_chain, s_isN, s_isB, s_and, s_or, s_and1, s_or1, s_and2, s_or2, s_not, s_ife, s_idx, s_slc, s_call, s_bi, s_isi, s_append, s_dsp, s_dnw, s_m1, s_es0, s_es1, s_ks0, s_ks1, s_no, s_so, s_disp, s_lstOf, s_rng3, s_seq, s_rng1, s_rng2, s_lc, s_lcIf, s_lcB, s_lcBI, s_nil, s_cons, s_expr, s_asg, s_sub, s_par, s_ret, s_retN, s_iff, s_for, s_pass, s_body, vB_true, vB_false, wo_some, wc_true, varD, refD, itD, blD, intD, isNonD, setAll, evT, evTs, binD, cmpD, eqD_int, eqD_bl, eqL_int, eqL_bl, List.getElem?_cons_zero, List.getElem?_cons_succ, List.set_cons_zero, List.set_cons_succ, List.length_cons, List.length_nil, Option.map_some, Option.map_none, Bool.not_true, Bool.not_false, if_true, if_false, Bool.false_eq_true, decide_true, decide_false, sz_ok, sz_lt, Nat.reduceLeDiff, Nat.reduceAdd, Nat.zero_le, Int.reduceNeg, all_bls]
        match l, h1 with
        | [y, z], _ =>
          have e2 : ([y, z].map fun y => okW y 99).all id = (okW y 99 && okW z 99) := by simp
          rw [e2]
          obtain h9 | h9 := Bool.eq_false_or_eq_true (okW y 99 && okW z 99)
          · obtain ⟨ha, hb⟩ := Bool.and_eq_true_iff.mp h9
            obtain ⟨a, rfl⟩ := okW_isint ha
            obtain ⟨b, rfl⟩ := okW_isint hb
            simp only [h9, pr_eq, vk_ok, s_cst, s_glob, s_var, s_tup, s_fz, s_alc, s_bin, s_neg, s_cmp, s_chain, s_isN, s_isB, s_and, s_or, s_and1, s_or1, s_and2, s_or2, s_not, s_ife, s_idx, s_slc, s_call, s_bi, s_isi, s_append, s_dsp, s_dnw, s_m1, s_es0, s_es1, s_ks0, s_ks1, s_no, s_so, s_disp, s_lstOf, s_rng3, s_seq, s_rng1, s_rng2, s_lc, s_lcIf, s_lcB, s_lcBI, s_nil, s_cons, s_expr, s_asg, s_sub, s_par, s_ret, s_retN, s_iff, s_for, s_pass, s_body, vB_true, vB_false, wo_some, wc_true, varD, refD, itD, blD, intD, isNonD, setAll, evT, evTs, binD, cmpD, eqD_int, eqD_bl, eqL_int, eqL_bl, List.getElem?_cons_zero, List.getElem?_cons_succ, List.set_cons_zero, List.set_cons_succ, List.length_cons, List.length_nil, Option.map_some, Option.map_none, Bool.not_true, Bool.not_false, if_true, if_false, Bool.false_eq_true, decide_true, decide_false, sz_ok, sz_lt, Nat.reduceLeDiff, Nat.reduceAdd, Nat.zero_le, Int.reduceNeg, pr0, pr1]
            rw [vk_leave rfl]
            have e3 : okStr (.tup [.int a, .int b]) = decide (a ≤ b) := by
              show ((okW (.int a) 99 && okW (.int b) 99) && decide (a ≤ b)) = _
              rw [h9, Bool.true_and]
            rw [← e3]; exact q
          · simp only [h9, pr_eq, vk_ok, s_cst, s_glob, s_var, s_tup, s_fz, s_alc, s_bin, s_neg, s_cmp, s_chain, s_isN, s_isB, s_and, s_or, s_and1, s_or1, s_and2, s_or2, s_not, s_ife, s_idx, s_slc, s_call, s_bi, s_isi, s_append, s_dsp, s_dnw, s_m1, s_es0, s_es1, s_ks0, s_ks1, s_no, s_so, s_disp, s_lstOf, s_rng3, s_seq, s_rng1, s_rng2, s_lc, s_lcIf, s_lcB, s_lcBI, s_nil, s_cons, s_expr, s_asg, s_sub, s_par, s_ret, s_retN, s_iff, s_for, s_pass, s_body, vB_true, vB_false, wo_some, wc_true, varD, refD, itD, blD, intD, isNonD, setAll, evT, evTs, binD, cmpD, eqD_int, eqD_bl, eqL_int, eqL_bl, List.getElem?_cons_zero, List.getElem?_cons_succ, List.set_cons_zero, List.set_cons_succ, List.length_cons, List.length_nil, Option.map_some, Option.map_none, Bool.not_true, Bool.not_false, if_true, if_false, Bool.false_eq_true, decide_true, decide_false, sz_ok, sz_lt, Nat.reduceLeDiff, Nat.reduceAdd, Nat.zero_le, Int.reduceNeg]
            refine nope ?_
            show ((okW y 99 && okW z 99) && leD y z) = false
            rw [h9, Bool.false_and]
        | [], h1 => exact absurd h1 (by decide)
        | [_], h1 => exact absurd h1 (by simp)
        | _ :: _ :: _ :: _, h1 => exact absurd h1 (by simp; omega)
  · simp only [pr_eq, vk_ok, s_cst, s_glob, s_var, s_tup, s_fz, s_alc, s_bin, s_neg, s_cmp, s_chain, s_isN, s_isB, s_and, s_or, s_and1, s_or1, s_and2, s_or2, s_not, s_ife, s_idx, s_slc, s_call, s_bi, s_isi, s_append, s_dsp, s_dnw, s_m1, s_es0, s_es1, s_ks0, s_ks1, s_no, s_so, s_disp, s_lstOf, s_rng3, s_seq, s_rng1, s_rng2, s_lc, s_lcIf, s_lcB, s_lcBI, s_nil, s_cons, s_expr, s_asg, s_sub, s_par, s_ret, s_retN, s_iff, s_for, s_pass, s_body, vB_true, vB_false, wo_some, wc_true, varD, refD, itD, blD, intD, isNonD, setAll, evT, evTs, binD, cmpD, eqD_int, eqD_bl, eqL_int, eqL_bl, List.getElem?_cons_zero, List.getElem?_cons_succ, List.set_cons_zero, List.set_cons_succ, List.length_cons, List.length_nil, Option.map_some, Option.map_none, Bool.not_true, Bool.not_false, if_true, if_false, Bool.false_eq_true, decide_true, decide_false, sz_ok, sz_lt, Nat.reduceLeDiff, Nat.reduceAdd, Nat.zero_le, Int.reduceNeg]
    refine nope ?_
    cases x <;> first | rfl | exact absurd rfl (hne _)
end Lw

set_option Elab.async false
set_option linter.all false
set_option maxRecDepth 100000
set_option maxHeartbeats 4000000
namespace Lw
open PySem (Str PyData)
def okNeed (x : D) : Bool := match x with
  | .tup [p, u, v, r] => okW p 99 && okW r 99 && okStr u && okStr v
  | _ => false
theorem q40 (m : Hs) (a b c d : D) : idxD m (.tup [a, b, c, d]) (.int 0) = some a := rfl
theorem q41 (m : Hs) (a b c d : D) : idxD m (.tup [a, b, c, d]) (.int 1) = some b := rfl
theorem q42 (m : Hs) (a b c d : D) : idxD m (.tup [a, b, c, d]) (.int 2) = some c := rfl
theorem q43 (m : Hs) (a b c d : D) : idxD m (.tup [a, b, c, d]) (.int 3) = some d := rfl
structure Fine2 (m : Hs) (x : D) : Prop extends Fine m x where
  deep : ∀ l, x = .tup l → ∀ y ∈ l, Fine m y
theorem four {l : List D} (h : (l.length : Int) = 4) : ∃ a b c d, l = [a, b, c, d] := by
  match l, h with
  | [a, b, c, d], _ => exact ⟨a, b, c, d, rfl⟩
  | [], h => exact absurd h (by decide)
  | [_], h => exact absurd h (by simp)
  | [_, _], h => exact absurd h (by simp)
  | [_, _, _], h => exact absurd h (by simp)
  | _ :: _ :: _ :: _ :: _ :: _, h => exact absurd h (by simp; omega)
theorem notfour {l : List D} (h : ¬ (l.length : Int) = 4) : okNeed (.tup l) = false := by
  match l, h with
  | [_, _, _, _], h => exact absurd rfl h
  | [], _ => rfl
  | [_], _ => rfl
  | [_, _], _ => rfl
  | [_, _, _], _ => rfl
  | _ :: _ :: _ :: _ :: _ :: _, _ => rfl
theorem need2_ok {k : Nat} {m : Hs} {x : D} {Q : D → Hs → Prop} (hf : Fine2 m x) (q : Q (.bl (okNeed x)) m) : vk (runFn P1 G1 (k + 3) 6 [x] m) Q := by
  refine vk_call b6 .drop [some x] rfl rfl rfl rfl rfl ?_
  have g3 : G1 3 = some (.int 99) := rfl
  have nope : okNeed x = false → vk (leave .drop m.length (.rt (.bl false) m)) Q := by
    intro h
    rw [vk_leave rfl, ← h]; exact q
  unfold b6
  simp only [pr_eq, vk_ok, s_cst, s_glob, s_var, s_tup, s_fz, s_alc, s_bin, s_neg, s_cmp, s_chain, s_isN, s_isB, s_and, s_or, s_and1, s_or1, s_and2, s_or2, s_not, s_ife, s_idx, s_slc, s_call, s_bi, s_isi, s_append, s_dsp, s_dnw, s_m1, s_es0, s_es1, s_ks0, s_ks1, s_no, s_so, s_disp, s_lstOf, s_rng3, s_seq, s_rng1, s_rng2, s_lc, s_lcIf, s_lcB, s_lcBI, s_nil, s_cons, s_expr, s_asg, s_sub, s_par, s_ret, s_retN, s_iff, s_for, s_pass, s_body, vB_true, vB_false, wo_some, wc_true, varD, refD, itD, blD, intD, isNonD, setAll, evT, evTs, binD, cmpD, eqD_int, eqD_bl, eqL_int, eqL_bl, List.getElem?_cons_zero, List.getElem?_cons_succ, List.set_cons_zero, List.set_cons_succ, List.length_cons, List.length_nil, Option.map_some, Option.map_none, Bool.not_true, Bool.not_false, if_true, if_false, Bool.false_eq_true, decide_true, decide_false, sz_ok, sz_lt, Nat.reduceLeDiff, Nat.reduceAdd, Nat.zero_le, Int.reduceNeg]
  refine row_ok hf.me hf.nk (fun l e => ?_) (fun hne => ?_)
  · subst e
    simp only [pr_eq, vk_ok, s_cst, s_glob, s_var, s_tup, s_fz, s_alc, s_bin, s_neg, s_cmp, s_chain, s_isN, s_isB, s_and, s_or, s_and1, s_or1, s_and2, s_or2, s_not, s_ife, s_idx, s_slc, s_call, s_bi, s_isi, s_append, s_dsp, s_dnw, s_m1, s_es0, s_es1, s_ks0, s_ks1, s_no, s_so, s_disp, s_lstOf, s_rng3, s_seq, s_rng1, s_rng2, s_lc, s_lcIf, s_lcB, s_lcBI, s_nil, s_cons, s_expr, s_asg, s_sub, s_par, s_ret, s_retN, s_iff, s_for, s_pass, s_body, vB_true, vB_false, wo_some, wc_true, varD, refD, itD, blD, intD, isNonD, setAll, evT, evTs, binD, cmpD, eqD_int, eqD_bl, eqL_int, eqL_bl, List.getElem?_cons_zero, List.getElem?_cons_succ, List.set_cons_zero, List.set_cons_succ, List.length_cons, List.length_nil, Option.map_some, Option.map_none, Bool.not_true, Bool.not_false, if_true, if_false, Bool.false_eq_true, decide_true, decide_false, sz_ok, sz_lt, Nat.reduceLeDiff, Nat.reduceAdd, Nat.zero_le, Int.reduceNeg]
    refine vB_ndec (fun h1 => ?_) (fun h1 => ?_)
    · (try simp only [pr_eq, vk_ok, s_cst, s_glob, s_var, s_tup, s_fz, s_alc, s_bin, s_neg, s_cmp, s_chain, s_isN, s_isB, s_and, s_or, s_and1, s_or1, s_and2, s_or2, s_not, s_ife, s_idx, s_slc, s_call, s_bi, s_isi, s_append, s_dsp, s_dnw, s_m1, s_es0, s_es1, s_ks0, s_ks1, s_no, s_so, s_disp, s_lstOf, s_rng3, s_seq, s_rng1, s_rng2, s_lc, s_lcIf, s_lcB, s_lcBI, s_nil, s_cons, s_expr, s_asg, s_sub, s_par, s_ret, s_retN, s_iff, s_for, s_pass, s_body, vB_true, vB_false, wo_some, wc_true, varD, refD, itD, blD, intD, isNonD, setAll, evT, evTs, binD, cmpD, eqD_int, eqD_bl, eqL_int, eqL_bl, List.getElem?_cons_zero, List.getElem?_cons_succ, List.set_cons_zero, List.set_cons_succ, List.length_cons, List.length_nil, Option.map_some, Option.map_none, Bool.not_true, Bool.not_false, if_true, if_false, Bool.false_eq_true, decide_true, decide_false, sz_ok, sz_lt, Nat.reduceLeDiff, Nat.reduceAdd, Nat.zero_le, Int.reduceNeg])
      exact nope (notfour h1)
    · obtain ⟨p, u, v, r, rfl⟩ := four h1
      have fp := hf.it _ rfl p (by simp)
      have fr := hf.it _ rfl r (by simp)
      have fu := hf.deep _ rfl u (by simp)
      have fv := hf.deep _ rfl v (by simp)
      simp only [pr_eq, vk_ok, s_cst, s_glob, s_var, s_tup, s_fz, s_alc, s_bin, s_neg, s_cmp, s_chain, s_isN, s_isB, s_and, s_or, s_and1, s_or1, s_and2, s_or2, s_not, s_ife, s_idx, s_slc, s_call, s_bi, s_isi, s_append, s_dsp, s_dnw, s_m1, s_es0, s_es1, s_ks0, s_ks1, s_no, s_so, s_disp, s_lstOf, s_rng3, s_seq, s_rng1, s_rng2, s_lc, s_lcIf, s_lcB, s_lcBI, s_nil, s_cons, s_expr, s_asg, s_sub, s_par, s_ret, s_retN, s_iff, s_for, s_pass, s_body, vB_true, vB_false, wo_some, wc_true, varD, refD, itD, blD, intD, isNonD, setAll, evT, evTs, binD, cmpD, eqD_int, eqD_bl, eqL_int, eqL_bl, List.getElem?_cons_zero, List.getElem?_cons_succ, List.set_cons_zero, List.set_cons_succ, List.length_cons, List.length_nil, Option.map_some, Option.map_none, Bool.not_true, Bool.not_false, if_true, if_false, Bool.false_eq_true, decide_true, decide_false, sz_ok, sz_lt, Nat.reduceLeDiff, Nat.reduceAdd, Nat.zero_le, Int.reduceNeg, q40, g3]
      refine among_ok fp ?_
      obtain h2 | h2 := Bool.eq_false_or_eq_true (okW p 99)
      · simp only [h2, pr_eq, vk_ok, s_cst, s_glob, s_var, s_tup, s_fz, s_alc, s_bin, s_neg, s_cmp, s_chain, s_isN, s_isB, s_and, s_or, s_and1, s_or1, s_and2, s_or2, s_not, s_ife, s_idx, s_slc, s_call, s_bi, s_isi, s_append, s_dsp, s_dnw, s_m1, s_es0, s_es1, s_ks0, s_ks1, s_no, s_so, s_disp, s_lstOf, s_rng3, s_seq, s_rng1, s_rng2, s_lc, s_lcIf, s_lcB, s_lcBI, s_nil, s_cons, s_expr, s_asg, s_sub, s_par, s_ret, s_retN, s_iff, s_for, s_pass, s_body, vB_true, vB_false, wo_some, wc_true, varD, refD, itD, blD, intD, isNonD, setAll, evT, evTs, binD, cmpD, eqD_int, eqD_bl, eqL_int, eqL_bl, List.getElem?_cons_zero, List.getElem?_cons_succ, List.set_cons_zero, List.set_cons_succ, List.length_cons, List.length_nil, Option.map_some, Option.map_none, Bool.not_true, Bool.not_false, if_true, if_false, Bool.false_eq_true, decide_true, decide_false, sz_ok, sz_lt, Nat.reduceLeDiff, Nat.reduceAdd, Nat.zero_le, Int.reduceNeg, q43, g3]
        refine among_ok fr ?_
        obtain h3 | h3 := Bool.eq_false_or_eq_true (okW r 99)
        · simp only [h3, pr_eq, vk_ok, s_cst, s_glob, s_var, s_tup, s_fz, s_alc, s_bin, s_neg, s_cmp, s_chain, s_isN, s_isB, s_and, s_or, s_and1, s_or1, s_and2, s_or2, s_not, s_ife, s_idx, s_slc, s_call, s_bi, s_isi, s_append, s_dsp, s_dnw, s_m1, s_es0, s_es1, s_ks0, s_ks1, s_no, s_so, s_disp, s_lstOf, s_rng3, s_seq, s_rng1, s_rng2, s_lc, s_lcIf, s_lcB, s_lcBI, s_nil, s_cons, s_expr, s_asg, s_sub, s_par, s_ret, s_retN, s_iff, s_for, s_pass, s_body, vB_true, vB_false, wo_some, wc_true, varD, refD, itD, blD, intD, isNonD, setAll, evT, evTs, binD, cmpD, eqD_int, eqD_bl, eqL_int, eqL_bl, List.getElem?_cons_zero, List.getElem?_cons_succ, List.set_cons_zero, List.set_cons_succ, List.length_cons, List.length_nil, Option.map_some, Option.map_none, Bool.not_true, Bool.not_false, if_true, if_false, Bool.false_eq_true, decide_true, decide_false, sz_ok, sz_lt, Nat.reduceLeDiff, Nat.reduceAdd, Nat.zero_le, Int.reduceNeg, q41]
          refine stretch_ok fu ?_
          obtain h4 | h4 := Bool.eq_false_or_eq_true (okStr u)
          · simp only [h4, pr_eq, vk_ok, s_cst, s_glob, s_var, s_tup, s_fz, s_alc, s_bin, s_neg, s_cmp, s_chain, s_isN, s_isB, s_and, s_or, s_and1, s_or1, s_and2, s_or2, s_not, s_ife, s_idx, s_slc, s_call, s_bi, s_isi, s_append, s_dsp, s_dnw, s_m1, s_es0, s_es1, s_ks0, s_ks1, s_no, s_so, s_disp, s_lstOf, s_rng3, s_seq, s_rng1, s_rng2, s_lc, s_lcIf, s_lcB, s_lcBI, s_nil, s_cons, s_expr, s_asg, s_sub, s_par, s_ret, s_retN, s_iff, s_for, s_pass, s_body, vB_true, vB_false, wo_some, wc_true, varD, refD, itD, blD, intD, isNonD, setAll, evT, evTs, binD, cmpD, eqD_int, eqD_bl, eqL_int, eqL_bl, List.getElem?_cons_zero, List.getElem?_cons_succ, List.set_cons_zero, List.set_cons_succ, List.length_cons, List.length_nil, Option.map_some, Option.map_none, Bool.not_true, Bool.not_false, if_true, if_false, Bool.false_eq_true, decide_true, decide_false, sz_ok, sz_lt, Nat.reduceLeDiff, Nat.reduceAdd, Nat.zero_le, Int.reduceNeg, q42]
            refine stretch_ok fv ?_
            simp only [pr_eq, vk_ok, s_cst, s_glob, s_var, s_tup, s_fz, s_alc, s_bin, s_neg, s_cmp, s_chain, s_isN, s_isB, s_and, s_or, s_and1, s_or1, s_and2, s_or2, s_not, s_ife, s_idx, s_slc, s_call, s_bi, s_isi, s_append, s_dsp, s_dnw, s_m1, s_es0, s_es1, s_ks0, s_ks1, s_no, s_so, s_disp, s_lstOf, s_rng3, s_seq, s_rng1, s_rng2, s_lc, s_lcIf, s_lcB, s_lcBI, s_nil, s_cons, s_expr, s_asg, s_sub, s_par, s_ret, s_retN, s_iff, s_for, s_pass, s_body, vB_true, vB_false, wo_some, wc_true, varD, refD, itD, blD, intD, isNonD, setAll, evT, evTs, binD, cmpD, eqD_int, eqD_bl, eqL_int, eqL_bl, List.getElem?_cons_zero, List.getElem?_cons_succ, List.set_cons_zero, List.set_cons_succ, List.length_cons, List.length_nil, Option.map_some, Option.map_none, Bool.not_true, Bool.not_false, if_true, if_false, Bool.false_eq_true, decide_true, decide_false, sz_ok, sz_lt, Nat.reduceLeDiff, Nat.reduceAdd, Nat.zero_le, Int.reduceNeg]
            rw [vk_leave rfl]
            have e : okNeed (.tup [p, u, v, r]) = okStr v := by simp [okNeed, h2, h3, h4]
            rw [← e]; exact q
          · simp only [h4, pr_eq, vk_ok, s_cst, s_glob, s_var, s_tup, s_fz, s_alc, s_bin, s_neg, s_cmp, s_chain, s_isN, s_isB, s_and, s_or, s_and1, s_or1, s_and2, s_or2, s_not, s_ife, s_idx, s_slc, s_call, s_bi, s_isi, s_append, s_dsp, s_dnw, s_m1, s_es0, s_es1, s_ks0, s_ks1, s_no, s_so, s_disp, s_lstOf, s_rng3, s_seq, s_rng1, s_rng2, s_lc, s_lcIf, s_lcB, s_lcBI, s_nil, s_cons, s_expr, s_asg, s_sub, s_par, s_ret, s_retN, s_iff, s_for, s_pass, s_body, vB_true, vB_false, wo_some, wc_true, varD, refD, itD, blD, intD, isNonD, setAll, evT, evTs, binD, cmpD, eqD_int, eqD_bl, eqL_int, eqL_bl, List.getElem?_cons_zero, List.getElem?_cons_succ, List.set_cons_zero, List.set_cons_succ, List.length_cons, List.length_nil, Option.map_some, Option.map_none, Bool.not_true, Bool.not_false, if_true, if_false, Bool.false_eq_true, decide_true, decide_false, sz_ok, sz_lt, Nat.reduceLeDiff, Nat.reduceAdd, Nat.zero_le, Int.reduceNeg]
            exact nope (by simp [okNeed, h4])
        · simp only [h3, pr_eq, vk_ok, s_cst, s_glob, s_var, s_tup, s_fz, s_alc, s_bin, s_neg, s_cmp, s_chain, s_isN, s_isB, s_and, s_or, s_and1, s_or1, s_and2, s_or2, s_not, s_ife, s_idx, s_slc, s_call, s_bi, s_isi, s_append, s_dsp, s_dnw, s_m1, s_es0, s_es1, s_ks0, s_ks1, s_no, s_so, s_disp, s_lstOf, s_rng3, s_seq, s_rng1, s_rng2, s_lc, s_lcIf, s_lcB, s_lcBI, s_nil, s_cons, s_expr, s_asg, s_sub, s_par, s_ret, s_retN, s_iff, s_for, s_pass, s_body, vB_true, vB_false, wo_some, wc_true, varD, refD, itD, blD, intD, isNonD, setAll, evT, evTs, binD, cmpD, eqD_int, eqD_bl, eqL_int, eqL_bl, List.getElem?_cons_zero, List.getElem?_cons_succ, List.set_cons_zero, List.set_cons_succ, List.length_cons, List.length_nil, Option.map_some, Option.map_none, Bool.not_true, Bool.not_false, if_true, if_false, Bool.false_eq_true, decide_true, decide_false, sz_ok, sz_lt, Nat.reduceLeDiff, Nat.reduceAdd, Nat.zero_le, Int.reduceNeg]
          exact nope (by simp [okNeed, h3])
      · simp only [h2, pr_eq, vk_ok, s_cst, s_glob, s_var, s_tup, s_fz, s_alc, s_bin, s_neg, s_cmp, s_chain, s_isN, s_isB, s_and, s_or, s_and1, s_or1, s_and2, s_or2, s_not, s_ife, s_idx, s_slc, s_call, s_bi, s_isi, s_append, s_dsp, s_dnw, s_m1, s_es0, s_es1, s_ks0, s_ks1, s_no, s_so, s_disp, s_lstOf, s_rng3, s_seq, s_rng1, s_rng2, s_lc, s_lcIf, s_lcB, s_lcBI, s_nil, s_cons, s_expr, s_asg, s_sub, s_par, s_ret, s_retN, s_iff, s_for, s_pass, s_body, vB_true, vB_false, wo_some, wc_true, varD, refD, itD, blD, intD, isNonD, setAll, evT, evTs, binD, cmpD, eqD_int, eqD_bl, eqL_int, eqL_bl, List.getElem?_cons_zero, List.getElem?_cons_succ, List.set_cons_zero, List.set_cons_succ, List.length_cons, List.length_nil, Option.map_some, Option.map_none, Bool.not_true, Bool.not_false, if_true, if_false, Bool.false_eq_true, decide_true, decide_false, sz_ok, sz_lt, Nat.reduceLeDiff, Nat.reduceAdd, Nat.zero_le, Int.reduceNeg]
        exact nope (by simp [okNeed, h2])
  · simp only [pr_eq, vk_ok, s_cst, s_glob, s_var, s_tup, s_fz, s_alc, s_bin, s_neg, s_cmp, s_chain, s_isN, s_isB, s_and, s_or, s_and1, s_or1, s_and2, s_or2, s_not, s_ife, s_idx, s_slc, s_call, s_bi, s_isi, s_append, s_dsp, s_dnw, s_m1, s_es0, s_es1, s_ks0, s_ks1, s_no, s_so, s_disp, s_lstOf, s_rng3, s_seq, s_rng1, s_rng2, s_lc, s_lcIf, s_lcB, s_lcBI, s_nil, s_cons, s_expr, s_asg, s_sub, s_par, s_ret, s_retN, s_iff, s_for, s_pass, s_body, vB_true, vB_false, wo_some, wc_true, varD, refD, itD, blD, intD, isNonD, setAll, evT, evTs, binD, cmpD, eqD_int, eqD_bl, eqL_int, eqL_bl, List.getElem?_cons_zero, List.getElem?_cons_succ, List.set_cons_zero, List.set_cons_succ, List.length_cons, List.length_nil, Option.map_some, Option.map_none, Bool.not_true, Bool.not_false, if_true, if_false, Bool.false_eq_true, decide_true, decide_false, sz_ok, sz_lt, Nat.reduceLeDiff, Nat.reduceAdd, Nat.zero_le, Int.reduceNeg]
    refine nope ?_
    cases x <;> first | rfl | exact absurd rfl (hne _)
end Lw

set_option Elab.async false
set_option linter.all false
set_option maxRecDepth 100000
set_option maxHeartbeats 4000000
namespace Lw
open PySem (Str PyData)
/-! ### needs by the law -/
theorem slc13 (m : Hs) (p u v r : D) : slcD m (.tup [p, u, v, r]) (some 1) (some 3) = some (.tup [u, v]) := rfl
def turnB : Ss := match b16 with | .cons _ (.cons (.forS _ _ b) _) => b | _ => .nil
theorem okStr_tup {l : List D} (h : ¬ (l.length : Int) = 2) : okStr (.tup l) = false := by
  match l, h with
  | [], _ => rfl
  | [_], _ => rfl
  | [_, _], h => exact absurd rfl h
  | _ :: _ :: _ :: _, _ => rfl
theorem two {l : List D} (h : (l.length : Int) = 2) : ∃ a b, l = [a, b] := by
  match l, h with
  | [a, b], _ => exact ⟨a, b, rfl⟩
  | [], h => exact absurd h (by decide)
  | [_], h => exact absurd h (by simp)
  | _ :: _ :: _ :: _, h => exact absurd h (by simp; omega)
theorem turn_ok {k : Nat} {m : Hs} {x y : D} {v : Option D} {N : Env → Hs → Prop} {Z : D → Hs → Prop} (hf : Fine m y) (hn : okStr y = true → N [some x, some y] m) (hz : okStr y = false → Z (.bl false) m) :
    vS (fBody ⟨runFn P1 G1 (k + 1), G1⟩ (.nm 1) turnB y [some x, v] m) N Z := by
  unfold turnB b16
  simp only [pr_eq, vk_ok, s_cst, s_glob, s_var, s_tup, s_fz, s_alc, s_bin, s_neg, s_cmp, s_chain, s_isN, s_isB, s_and, s_or, s_and1, s_or1, s_and2, s_or2, s_not, s_ife, s_idx, s_slc, s_call, s_bi, s_isi, s_append, s_dsp, s_dnw, s_m1, s_es0, s_es1, s_ks0, s_ks1, s_no, s_so, s_disp, s_lstOf, s_rng3, s_seq, s_rng1, s_rng2, s_lc, s_lcIf, s_lcB, s_lcBI, s_nil, s_cons, s_expr, s_asg, s_sub, s_par, s_ret, s_retN, s_iff, s_for, s_pass, s_body, vB_true, vB_false, wo_some, wc_true, varD, refD, itD, blD, intD, isNonD, setAll, evT, evTs, bin_add, bin_sub, bin_mul, bin_div, bin_mod, bin_addS, bin_addT, bin_addL, cmp_eq, cmp_ne, cmp_in, cmp_nin, cmp_lt, cmp_le, cmp_gt, cmp_ge, eqD_int, eqD_bl, eqL_int, eqL_bl, List.getElem?_cons_zero, List.getElem?_cons_succ, List.set_cons_zero, List.set_cons_succ, List.length_cons, List.length_nil, Option.map_some, Option.map_none, Bool.not_true, Bool.not_false, if_true, if_false, Bool.false_eq_true, decide_true, decide_false, sz_ok, sz_lt, Nat.reduceLeDiff, Nat.reduceAdd, Nat.zero_le, Int.reduceNeg, wipe, cdw_t, cmul_r, cmul_l, Int.reduceLT, Int.reduceLE, isi_fine hf.me]
  cases ht : tyOf m y .tuple with
  | false =>
    simp only [pr_eq, vk_ok, s_cst, s_glob, s_var, s_tup, s_fz, s_alc, s_bin, s_neg, s_cmp, s_chain, s_isN, s_isB, s_and, s_or, s_and1, s_or1, s_and2, s_or2, s_not, s_ife, s_idx, s_slc, s_call, s_bi, s_isi, s_append, s_dsp, s_dnw, s_m1, s_es0, s_es1, s_ks0, s_ks1, s_no, s_so, s_disp, s_lstOf, s_rng3, s_seq, s_rng1, s_rng2, s_lc, s_lcIf, s_lcB, s_lcBI, s_nil, s_cons, s_expr, s_asg, s_sub, s_par, s_ret, s_retN, s_iff, s_for, s_pass, s_body, vB_true, vB_false, wo_some, wc_true, varD, refD, itD, blD, intD, isNonD, setAll, evT, evTs, bin_add, bin_sub, bin_mul, bin_div, bin_mod, bin_addS, bin_addT, bin_addL, cmp_eq, cmp_ne, cmp_in, cmp_nin, cmp_lt, cmp_le, cmp_gt, cmp_ge, eqD_int, eqD_bl, eqL_int, eqL_bl, List.getElem?_cons_zero, List.getElem?_cons_succ, List.set_cons_zero, List.set_cons_succ, List.length_cons, List.length_nil, Option.map_some, Option.map_none, Bool.not_true, Bool.not_false, if_true, if_false, Bool.false_eq_true, decide_true, decide_false, sz_ok, sz_lt, Nat.reduceLeDiff, Nat.reduceAdd, Nat.zero_le, Int.reduceNeg, wipe, cdw_t, cmul_r, cmul_l, Int.reduceLT, Int.reduceLE]
    exact hz (by cases y <;> first | rfl | cases ht)
  | true =>
    obtain ⟨l, rfl⟩ := ty_tup ht hf.nk
    simp only [pr_eq, vk_ok, s_cst, s_glob, s_var, s_tup, s_fz, s_alc, s_bin, s_neg, s_cmp, s_chain, s_isN, s_isB, s_and, s_or, s_and1, s_or1, s_and2, s_or2, s_not, s_ife, s_idx, s_slc, s_call, s_bi, s_isi, s_append, s_dsp, s_dnw, s_m1, s_es0, s_es1, s_ks0, s_ks1, s_no, s_so, s_disp, s_lstOf, s_rng3, s_seq, s_rng1, s_rng2, s_lc, s_lcIf, s_lcB, s_lcBI, s_nil, s_cons, s_expr, s_asg, s_sub, s_par, s_ret, s_retN, s_iff, s_for, s_pass, s_body, vB_true, vB_false, wo_some, wc_true, varD, refD, itD, blD, intD, isNonD, setAll, evT, evTs, bin_add, bin_sub, bin_mul, bin_div, bin_mod, bin_addS, bin_addT, bin_addL, cmp_eq, cmp_ne, cmp_in, cmp_nin, cmp_lt, cmp_le, cmp_gt, cmp_ge, eqD_int, eqD_bl, eqL_int, eqL_bl, List.getElem?_cons_zero, List.getElem?_cons_succ, List.set_cons_zero, List.set_cons_succ, List.length_cons, List.length_nil, Option.map_some, Option.map_none, Bool.not_true, Bool.not_false, if_true, if_false, Bool.false_eq_true, decide_true, decide_false, sz_ok, sz_lt, Nat.reduceLeDiff, Nat.reduceAdd, Nat.zero_le, Int.reduceNeg, wipe, cdw_t, cmul_r, cmul_l, Int.reduceLT, Int.reduceLE, len_tup]
    refine vB_ndec (fun h1 => ?_) (fun h1 => ?_)
    · (try simp only [pr_eq, vk_ok, s_cst, s_glob, s_var, s_tup, s_fz, s_alc, s_bin, s_neg, s_cmp, s_chain, s_isN, s_isB, s_and, s_or, s_and1, s_or1, s_and2, s_or2, s_not, s_ife, s_idx, s_slc, s_call, s_bi, s_isi, s_append, s_dsp, s_dnw, s_m1, s_es0, s_es1, s_ks0, s_ks1, s_no, s_so, s_disp, s_lstOf, s_rng3, s_seq, s_rng1, s_rng2, s_lc, s_lcIf, s_lcB, s_lcBI, s_nil, s_cons, s_expr, s_asg, s_sub, s_par, s_ret, s_retN, s_iff, s_for, s_pass, s_body, vB_true, vB_false, wo_some, wc_true, varD, refD, itD, blD, intD, isNonD, setAll, evT, evTs, bin_add, bin_sub, bin_mul, bin_div, bin_mod, bin_addS, bin_addT, bin_addL, cmp_eq, cmp_ne, cmp_in, cmp_nin, cmp_lt, cmp_le, cmp_gt, cmp_ge, eqD_int, eqD_bl, eqL_int, eqL_bl, List.getElem?_cons_zero, List.getElem?_cons_succ, List.set_cons_zero, List.set_cons_succ, List.length_cons, List.length_nil, Option.map_some, Option.map_none, Bool.not_true, Bool.not_false, if_true, if_false, Bool.false_eq_true, decide_true, decide_false, sz_ok, sz_lt, Nat.reduceLeDiff, Nat.reduceAdd, Nat.zero_le, Int.reduceNeg, wipe, cdw_t, cmul_r, cmul_l, Int.reduceLT, Int.reduceLE])
      exact hz (okStr_tup h1)
    · obtain ⟨a, b, rfl⟩ := two h1
      have fa := hf.it _ rfl a (by simp)
      have fb := hf.it _ rfl b (by simp)
      simp only [pr_eq, vk_ok, s_cst, s_glob, s_var, s_tup, s_fz, s_alc, s_bin, s_neg, s_cmp, s_chain, s_isN, s_isB, s_and, s_or, s_and1, s_or1, s_and2, s_or2, s_not, s_ife, s_idx, s_slc, s_call, s_bi, s_isi, s_append, s_dsp, s_dnw, s_m1, s_es0, s_es1, s_ks0, s_ks1, s_no, s_so, s_disp, s_lstOf, s_rng3, s_seq, s_rng1, s_rng2, s_lc, s_lcIf, s_lcB, s_lcBI, s_nil, s_cons, s_expr, s_asg, s_sub, s_par, s_ret, s_retN, s_iff, s_for, s_pass, s_body, vB_true, vB_false, wo_some, wc_true, varD, refD, itD, blD, intD, isNonD, setAll, evT, evTs, bin_add, bin_sub, bin_mul, bin_div, bin_mod, bin_addS, bin_addT, bin_addL, cmp_eq, cmp_ne, cmp_in, cmp_nin, cmp_lt, cmp_le, cmp_gt, cmp_ge, eqD_int, eqD_bl, eqL_int, eqL_bl, List.getElem?_cons_zero, List.getElem?_cons_succ, List.set_cons_zero, List.set_cons_succ, List.length_cons, List.length_nil, Option.map_some, Option.map_none, Bool.not_true, Bool.not_false, if_true, if_false, Bool.false_eq_true, decide_true, decide_false, sz_ok, sz_lt, Nat.reduceLeDiff, Nat.reduceAdd, Nat.zero_le, Int.reduceNeg, wipe, cdw_t, cmul_r, cmul_l, Int.reduceLT, Int.reduceLE, pr0]
      refine whole_ok fa ?_
      obtain h2 | h2 := Bool.eq_false_or_eq_true (okW a 99)
      · simp only [pr_eq, vk_ok, s_cst, s_glob, s_var, s_tup, s_fz, s_alc, s_bin, s_neg, s_cmp, s_chain, s_isN, s_isB, s_and, s_or, s_and1, s_or1, s_and2, s_or2, s_not, s_ife, s_idx, s_slc, s_call, s_bi, s_isi, s_append, s_dsp, s_dnw, s_m1, s_es0, s_es1, s_ks0, s_ks1, s_no, s_so, s_disp, s_lstOf, s_rng3, s_seq, s_rng1, s_rng2, s_lc, s_lcIf, s_lcB, s_lcBI, s_nil, s_cons, s_expr, s_asg, s_sub, s_par, s_ret, s_retN, s_iff, s_for, s_pass, s_body, vB_true, vB_false, wo_some, wc_true, varD, refD, itD, blD, intD, isNonD, setAll, evT, evTs, bin_add, bin_sub, bin_mul, bin_div, bin_mod, bin_addS, bin_addT, bin_addL, cmp_eq, cmp_ne, cmp_in, cmp_nin, cmp_lt, cmp_le, cmp_gt, cmp_ge, eqD_int, eqD_bl, eqL_int, eqL_bl, List.getElem?_cons_zero, List.getElem?_cons_succ, List.set_cons_zero, List.set_cons_succ, List.length_cons, List.length_nil, Option.map_some, Option.map_none, Bool.not_true, Bool.not_false, if_true, if_false, Bool.false_eq_true, decide_true, decide_false, sz_ok, sz_lt, Nat.reduceLeDiff, Nat.reduceAdd, Nat.zero_le, Int.reduceNeg, wipe, cdw_t, cmul_r, cmul_l, Int.reduceLT, Int.reduceLE, h2, pr1]
        refine whole_ok fb ?_
        obtain h3 | h3 := Bool.eq_false_or_eq_true (okW b 99)
        · obtain ⟨i, rfl⟩ := okW_isint h2
          obtain ⟨j, rfl⟩ := okW_isint h3
          simp only [pr_eq, vk_ok, s_cst, s_glob, s_var, s_tup, s_fz, s_alc, s_bin, s_neg, s_cmp, s_chain, s_isN, s_isB, s_and, s_or, s_and1, s_or1, s_and2, s_or2, s_not, s_ife, s_idx, s_slc, s_call, s_bi, s_isi, s_append, s_dsp, s_dnw, s_m1, s_es0, s_es1, s_ks0, s_ks1, s_no, s_so, s_disp, s_lstOf, s_rng3, s_seq, s_rng1, s_rng2, s_lc, s_lcIf, s_lcB, s_lcBI, s_nil, s_cons, s_expr, s_asg, s_sub, s_par, s_ret, s_retN, s_iff, s_for, s_pass, s_body, vB_true, vB_false, wo_some, wc_true, varD, refD, itD, blD, intD, isNonD, setAll, evT, evTs, bin_add, bin_sub, bin_mul, bin_div, bin_mod, bin_addS, bin_addT, bin_addL, cmp_eq, cmp_ne, cmp_in, cmp_nin, cmp_lt, cmp_le, cmp_gt, cmp_ge, eqD_int, eqD_bl, eqL_int, eqL_bl, List.getElem?_cons_zero, List.getElem?_cons_succ, List.set_cons_zero, List.set_cons_succ, List.length_cons, List.length_nil, Option.map_some, Option.map_none, Bool.not_true, Bool.not_false, if_true, if_false, Bool.false_eq_true, decide_true, decide_false, sz_ok, sz_lt, Nat.reduceLeDiff, Nat.reduceAdd, Nat.zero_le, Int.reduceNeg, wipe, cdw_t, cmul_r, cmul_l, Int.reduceLT, Int.reduceLE, h3, pr0, pr1]
          refine vB_dec (fun h4 => ?_) (fun h4 => ?_)
          · (try simp only [pr_eq, vk_ok, s_cst, s_glob, s_var, s_tup, s_fz, s_alc, s_bin, s_neg, s_cmp, s_chain, s_isN, s_isB, s_and, s_or, s_and1, s_or1, s_and2, s_or2, s_not, s_ife, s_idx, s_slc, s_call, s_bi, s_isi, s_append, s_dsp, s_dnw, s_m1, s_es0, s_es1, s_ks0, s_ks1, s_no, s_so, s_disp, s_lstOf, s_rng3, s_seq, s_rng1, s_rng2, s_lc, s_lcIf, s_lcB, s_lcBI, s_nil, s_cons, s_expr, s_asg, s_sub, s_par, s_ret, s_retN, s_iff, s_for, s_pass, s_body, vB_true, vB_false, wo_some, wc_true, varD, refD, itD, blD, intD, isNonD, setAll, evT, evTs, bin_add, bin_sub, bin_mul, bin_div, bin_mod, bin_addS, bin_addT, bin_addL, cmp_eq, cmp_ne, cmp_in, cmp_nin, cmp_lt, cmp_le, cmp_gt, cmp_ge, eqD_int, eqD_bl, eqL_int, eqL_bl, List.getElem?_cons_zero, List.getElem?_cons_succ, List.set_cons_zero, List.set_cons_succ, List.length_cons, List.length_nil, Option.map_some, Option.map_none, Bool.not_true, Bool.not_false, if_true, if_false, Bool.false_eq_true, decide_true, decide_false, sz_ok, sz_lt, Nat.reduceLeDiff, Nat.reduceAdd, Nat.zero_le, Int.reduceNeg, wipe, cdw_t, cmul_r, cmul_l, Int.reduceLT, Int.reduceLE])
            exact hz (by simp [okStr, leD]; omega)
          · (try simp only [pr_eq, vk_ok, s_cst, s_glob, s_var, s_tup, s_fz, s_alc, s_bin, s_neg, s_cmp, s_chain, s_isN, s_isB, s_and, s_or, s_and1, s_or1, s_and2, s_or2, s_not, s_ife, s_idx, s_slc, s_call, s_bi, s_isi, s_append, s_dsp, s_dnw, s_m1, s_es0, s_es1, s_ks0, s_ks1, s_no, s_so, s_disp, s_lstOf, s_rng3, s_seq, s_rng1, s_rng2, s_lc, s_lcIf, s_lcB, s_lcBI, s_nil, s_cons, s_expr, s_asg, s_sub, s_par, s_ret, s_retN, s_iff, s_for, s_pass, s_body, vB_true, vB_false, wo_some, wc_true, varD, refD, itD, blD, intD, isNonD, setAll, evT, evTs, bin_add, bin_sub, bin_mul, bin_div, bin_mod, bin_addS, bin_addT, bin_addL, cmp_eq, cmp_ne, cmp_in, cmp_nin, cmp_lt, cmp_le, cmp_gt, cmp_ge, eqD_int, eqD_bl, eqL_int, eqL_bl, List.getElem?_cons_zero, List.getElem?_cons_succ, List.set_cons_zero, List.set_cons_succ, List.length_cons, List.length_nil, Option.map_some, Option.map_none, Bool.not_true, Bool.not_false, if_true, if_false, Bool.false_eq_true, decide_true, decide_false, sz_ok, sz_lt, Nat.reduceLeDiff, Nat.reduceAdd, Nat.zero_le, Int.reduceNeg, wipe, cdw_t, cmul_r, cmul_l, Int.reduceLT, Int.reduceLE])
            exact hn (by simp [okStr, leD, h2, h3]; omega)
        · simp only [pr_eq, vk_ok, s_cst, s_glob, s_var, s_tup, s_fz, s_alc, s_bin, s_neg, s_cmp, s_chain, s_isN, s_isB, s_and, s_or, s_and1, s_or1, s_and2, s_or2, s_not, s_ife, s_idx, s_slc, s_call, s_bi, s_isi, s_append, s_dsp, s_dnw, s_m1, s_es0, s_es1, s_ks0, s_ks1, s_no, s_so, s_disp, s_lstOf, s_rng3, s_seq, s_rng1, s_rng2, s_lc, s_lcIf, s_lcB, s_lcBI, s_nil, s_cons, s_expr, s_asg, s_sub, s_par, s_ret, s_retN, s_iff, s_for, s_pass, s_body, vB_true, vB_false, wo_some, wc_true, varD, refD, itD, blD, intD, isNonD, setAll, evT, evTs, bin_add, bin_sub, bin_mul, bin_div, bin_mod, bin_addS, bin_addT, bin_addL, cmp_eq, cmp_ne, cmp_in, cmp_nin, cmp_lt, cmp_le, cmp_gt, cmp_ge, eqD_int, eqD_bl, eqL_int, eqL_bl, List.getElem?_cons_zero, List.getElem?_cons_succ, List.set_cons_zero, List.set_cons_succ, List.length_cons, List.length_nil, Option.map_some, Option.map_none, Bool.not_true, Bool.not_false, if_true, if_false, Bool.false_eq_true, decide_true, decide_false, sz_ok, sz_lt, Nat.reduceLeDiff, Nat.reduceAdd, Nat.zero_le, Int.reduceNeg, wipe, cdw_t, cmul_r, cmul_l, Int.reduceLT, Int.reduceLE, h3]
          exact hz (by simp [okStr, h3])
      · simp only [pr_eq, vk_ok, s_cst, s_glob, s_var, s_tup, s_fz, s_alc, s_bin, s_neg, s_cmp, s_chain, s_isN, s_isB, s_and, s_or, s_and1, s_or1, s_and2, s_or2, s_not, s_ife, s_idx, s_slc, s_call, s_bi, s_isi, s_append, s_dsp, s_dnw, s_m1, s_es0, s_es1, s_ks0, s_ks1, s_no, s_so, s_disp, s_lstOf, s_rng3, s_seq, s_rng1, s_rng2, s_lc, s_lcIf, s_lcB, s_lcBI, s_nil, s_cons, s_expr, s_asg, s_sub, s_par, s_ret, s_retN, s_iff, s_for, s_pass, s_body, vB_true, vB_false, wo_some, wc_true, varD, refD, itD, blD, intD, isNonD, setAll, evT, evTs, bin_add, bin_sub, bin_mul, bin_div, bin_mod, bin_addS, bin_addT, bin_addL, cmp_eq, cmp_ne, cmp_in, cmp_nin, cmp_lt, cmp_le, cmp_gt, cmp_ge, eqD_int, eqD_bl, eqL_int, eqL_bl, List.getElem?_cons_zero, List.getElem?_cons_succ, List.set_cons_zero, List.set_cons_succ, List.length_cons, List.length_nil, Option.map_some, Option.map_none, Bool.not_true, Bool.not_false, if_true, if_false, Bool.false_eq_true, decide_true, decide_false, sz_ok, sz_lt, Nat.reduceLeDiff, Nat.reduceAdd, Nat.zero_le, Int.reduceNeg, wipe, cdw_t, cmul_r, cmul_l, Int.reduceLT, Int.reduceLE, h2]
        exact hz (by simp [okStr, h2])
theorem lawneed_ok {k : Nat} {m : Hs} {x : D} {Q : D → Hs → Prop} (hf : Fine2 m x) (q : Q (.bl (okNeed x)) m) : vk (runFn P1 G1 (k + 2) 16 [x] m) Q := by
  refine vk_call b16 .drop [some (x), none] rfl rfl rfl rfl rfl ?_
  unfold b16
  have nope : okNeed x = false → vk (leave .drop m.length (.rt (.bl false) m)) Q := by
    intro h
    rw [vk_leave rfl, ← h]; exact q
  simp only [pr_eq, vk_ok, s_cst, s_glob, s_var, s_tup, s_fz, s_alc, s_bin, s_neg, s_cmp, s_chain, s_isN, s_isB, s_and, s_or, s_and1, s_or1, s_and2, s_or2, s_not, s_ife, s_idx, s_slc, s_call, s_bi, s_isi, s_append, s_dsp, s_dnw, s_m1, s_es0, s_es1, s_ks0, s_ks1, s_no, s_so, s_disp, s_lstOf, s_rng3, s_seq, s_rng1, s_rng2, s_lc, s_lcIf, s_lcB, s_lcBI, s_nil, s_cons, s_expr, s_asg, s_sub, s_par, s_ret, s_retN, s_iff, s_for, s_pass, s_body, vB_true, vB_false, wo_some, wc_true, varD, refD, itD, blD, intD, isNonD, setAll, evT, evTs, bin_add, bin_sub, bin_mul, bin_div, bin_mod, bin_addS, bin_addT, bin_addL, cmp_eq, cmp_ne, cmp_in, cmp_nin, cmp_lt, cmp_le, cmp_gt, cmp_ge, eqD_int, eqD_bl, eqL_int, eqL_bl, List.getElem?_cons_zero, List.getElem?_cons_succ, List.set_cons_zero, List.set_cons_succ, List.length_cons, List.length_nil, Option.map_some, Option.map_none, Bool.not_true, Bool.not_false, if_true, if_false, Bool.false_eq_true, decide_true, decide_false, sz_ok, sz_lt, Nat.reduceLeDiff, Nat.reduceAdd, Nat.zero_le, Int.reduceNeg, wipe, cdw_t, cmul_r, cmul_l, Int.reduceLT, Int.reduceLE, isi_fine hf.me]
  cases ht : tyOf m x .tuple with
  | false =>
    simp only [pr_eq, vk_ok, s_cst, s_glob, s_var, s_tup, s_fz, s_alc, s_bin, s_neg, s_cmp, s_chain, s_isN, s_isB, s_and, s_or, s_and1, s_or1, s_and2, s_or2, s_not, s_ife, s_idx, s_slc, s_call, s_bi, s_isi, s_append, s_dsp, s_dnw, s_m1, s_es0, s_es1, s_ks0, s_ks1, s_no, s_so, s_disp, s_lstOf, s_rng3, s_seq, s_rng1, s_rng2, s_lc, s_lcIf, s_lcB, s_lcBI, s_nil, s_cons, s_expr, s_asg, s_sub, s_par, s_ret, s_retN, s_iff, s_for, s_pass, s_body, vB_true, vB_false, wo_some, wc_true, varD, refD, itD, blD, intD, isNonD, setAll, evT, evTs, bin_add, bin_sub, bin_mul, bin_div, bin_mod, bin_addS, bin_addT, bin_addL, cmp_eq, cmp_ne, cmp_in, cmp_nin, cmp_lt, cmp_le, cmp_gt, cmp_ge, eqD_int, eqD_bl, eqL_int, eqL_bl, List.getElem?_cons_zero, List.getElem?_cons_succ, List.set_cons_zero, List.set_cons_succ, List.length_cons, List.length_nil, Option.map_some, Option.map_none, Bool.not_true, Bool.not_false, if_true, if_false, Bool.false_eq_true, decide_true, decide_false, sz_ok, sz_lt, Nat.reduceLeDiff, Nat.reduceAdd, Nat.zero_le, Int.reduceNeg, wipe, cdw_t, cmul_r, cmul_l, Int.reduceLT, Int.reduceLE]
    exact nope (by cases x <;> first | rfl | cases ht)
  | true =>
    obtain ⟨l, rfl⟩ := ty_tup ht hf.nk
    simp only [pr_eq, vk_ok, s_cst, s_glob, s_var, s_tup, s_fz, s_alc, s_bin, s_neg, s_cmp, s_chain, s_isN, s_isB, s_and, s_or, s_and1, s_or1, s_and2, s_or2, s_not, s_ife, s_idx, s_slc, s_call, s_bi, s_isi, s_append, s_dsp, s_dnw, s_m1, s_es0, s_es1, s_ks0, s_ks1, s_no, s_so, s_disp, s_lstOf, s_rng3, s_seq, s_rng1, s_rng2, s_lc, s_lcIf, s_lcB, s_lcBI, s_nil, s_cons, s_expr, s_asg, s_sub, s_par, s_ret, s_retN, s_iff, s_for, s_pass, s_body, vB_true, vB_false, wo_some, wc_true, varD, refD, itD, blD, intD, isNonD, setAll, evT, evTs, bin_add, bin_sub, bin_mul, bin_div, bin_mod, bin_addS, bin_addT, bin_addL, cmp_eq, cmp_ne, cmp_in, cmp_nin, cmp_lt, cmp_le, cmp_gt, cmp_ge, eqD_int, eqD_bl, eqL_int, eqL_bl, List.getElem?_cons_zero, List.getElem?_cons_succ, List.set_cons_zero, List.set_cons_succ, List.length_cons, List.length_nil, Option.map_some, Option.map_none, Bool.not_true, Bool.not_false, if_true, if_false, Bool.false_eq_true, decide_true, decide_false, sz_ok, sz_lt, Nat.reduceLeDiff, Nat.reduceAdd, Nat.zero_le, Int.reduceNeg, wipe, cdw_t, cmul_r, cmul_l, Int.reduceLT, Int.reduceLE, len_tup]
    refine vB_ndec (fun h1 => ?_) (fun h1 => ?_)
    · (try simp only [pr_eq, vk_ok, s_cst, s_glob, s_var, s_tup, s_fz, s_alc, s_bin, s_neg, s_cmp, s_chain, s_isN, s_isB, s_and, s_or, s_and1, s_or1, s_and2, s_or2, s_not, s_ife, s_idx, s_slc, s_call, s_bi, s_isi, s_append, s_dsp, s_dnw, s_m1, s_es0, s_es1, s_ks0, s_ks1, s_no, s_so, s_disp, s_lstOf, s_rng3, s_seq, s_rng1, s_rng2, s_lc, s_lcIf, s_lcB, s_lcBI, s_nil, s_cons, s_expr, s_asg, s_sub, s_par, s_ret, s_retN, s_iff, s_for, s_pass, s_body, vB_true, vB_false, wo_some, wc_true, varD, refD, itD, blD, intD, isNonD, setAll, evT, evTs, bin_add, bin_sub, bin_mul, bin_div, bin_mod, bin_addS, bin_addT, bin_addL, cmp_eq, cmp_ne, cmp_in, cmp_nin, cmp_lt, cmp_le, cmp_gt, cmp_ge, eqD_int, eqD_bl, eqL_int, eqL_bl, List.getElem?_cons_zero, List.getElem?_cons_succ, List.set_cons_zero, List.set_cons_succ, List.length_cons, List.length_nil, Option.map_some, Option.map_none, Bool.not_true, Bool.not_false, if_true, if_false, Bool.false_eq_true, decide_true, decide_false, sz_ok, sz_lt, Nat.reduceLeDiff, Nat.reduceAdd, Nat.zero_le, Int.reduceNeg, wipe, cdw_t, cmul_r, cmul_l, Int.reduceLT, Int.reduceLE])
      exact nope (notfour h1)
    · obtain ⟨p, u, v, r, rfl⟩ := four h1
      have fp := hf.it _ rfl p (by simp)
      have fr := hf.it _ rfl r (by simp)
      have fu := hf.deep _ rfl u (by simp)
      have fv := hf.deep _ rfl v (by simp)
      simp only [pr_eq, vk_ok, s_cst, s_glob, s_var, s_tup, s_fz, s_alc, s_bin, s_neg, s_cmp, s_chain, s_isN, s_isB, s_and, s_or, s_and1, s_or1, s_and2, s_or2, s_not, s_ife, s_idx, s_slc, s_call, s_bi, s_isi, s_append, s_dsp, s_dnw, s_m1, s_es0, s_es1, s_ks0, s_ks1, s_no, s_so, s_disp, s_lstOf, s_rng3, s_seq, s_rng1, s_rng2, s_lc, s_lcIf, s_lcB, s_lcBI, s_nil, s_cons, s_expr, s_asg, s_sub, s_par, s_ret, s_retN, s_iff, s_for, s_pass, s_body, vB_true, vB_false, wo_some, wc_true, varD, refD, itD, blD, intD, isNonD, setAll, evT, evTs, bin_add, bin_sub, bin_mul, bin_div, bin_mod, bin_addS, bin_addT, bin_addL, cmp_eq, cmp_ne, cmp_in, cmp_nin, cmp_lt, cmp_le, cmp_gt, cmp_ge, eqD_int, eqD_bl, eqL_int, eqL_bl, List.getElem?_cons_zero, List.getElem?_cons_succ, List.set_cons_zero, List.set_cons_succ, List.length_cons, List.length_nil, Option.map_some, Option.map_none, Bool.not_true, Bool.not_false, if_true, if_false, Bool.false_eq_true, decide_true, decide_false, sz_ok, sz_lt, Nat.reduceLeDiff, Nat.reduceAdd, Nat.zero_le, Int.reduceNeg, wipe, cdw_t, cmul_r, cmul_l, Int.reduceLT, Int.reduceLE, q40]
      refine whole_ok fp ?_
      obtain h2 | h2 := Bool.eq_false_or_eq_true (okW p 99)
      · simp only [pr_eq, vk_ok, s_cst, s_glob, s_var, s_tup, s_fz, s_alc, s_bin, s_neg, s_cmp, s_chain, s_isN, s_isB, s_and, s_or, s_and1, s_or1, s_and2, s_or2, s_not, s_ife, s_idx, s_slc, s_call, s_bi, s_isi, s_append, s_dsp, s_dnw, s_m1, s_es0, s_es1, s_ks0, s_ks1, s_no, s_so, s_disp, s_lstOf, s_rng3, s_seq, s_rng1, s_rng2, s_lc, s_lcIf, s_lcB, s_lcBI, s_nil, s_cons, s_expr, s_asg, s_sub, s_par, s_ret, s_retN, s_iff, s_for, s_pass, s_body, vB_true, vB_false, wo_some, wc_true, varD, refD, itD, blD, intD, isNonD, setAll, evT, evTs, bin_add, bin_sub, bin_mul, bin_div, bin_mod, bin_addS, bin_addT, bin_addL, cmp_eq, cmp_ne, cmp_in, cmp_nin, cmp_lt, cmp_le, cmp_gt, cmp_ge, eqD_int, eqD_bl, eqL_int, eqL_bl, List.getElem?_cons_zero, List.getElem?_cons_succ, List.set_cons_zero, List.set_cons_succ, List.length_cons, List.length_nil, Option.map_some, Option.map_none, Bool.not_true, Bool.not_false, if_true, if_false, Bool.false_eq_true, decide_true, decide_false, sz_ok, sz_lt, Nat.reduceLeDiff, Nat.reduceAdd, Nat.zero_le, Int.reduceNeg, wipe, cdw_t, cmul_r, cmul_l, Int.reduceLT, Int.reduceLE, h2, q43]
        refine whole_ok fr ?_
        obtain h3 | h3 := Bool.eq_false_or_eq_true (okW r 99)
        · simp only [pr_eq, vk_ok, s_cst, s_glob, s_var, s_tup, s_fz, s_alc, s_bin, s_neg, s_cmp, s_chain, s_isN, s_isB, s_and, s_or, s_and1, s_or1, s_and2, s_or2, s_not, s_ife, s_idx, s_slc, s_call, s_bi, s_isi, s_append, s_dsp, s_dnw, s_m1, s_es0, s_es1, s_ks0, s_ks1, s_no, s_so, s_disp, s_lstOf, s_rng3, s_seq, s_rng1, s_rng2, s_lc, s_lcIf, s_lcB, s_lcBI, s_nil, s_cons, s_expr, s_asg, s_sub, s_par, s_ret, s_retN, s_iff, s_for, s_pass, s_body, vB_true, vB_false, wo_some, wc_true, varD, refD, itD, blD, intD, isNonD, setAll, evT, evTs, bin_add, bin_sub, bin_mul, bin_div, bin_mod, bin_addS, bin_addT, bin_addL, cmp_eq, cmp_ne, cmp_in, cmp_nin, cmp_lt, cmp_le, cmp_gt, cmp_ge, eqD_int, eqD_bl, eqL_int, eqL_bl, List.getElem?_cons_zero, List.getElem?_cons_succ, List.set_cons_zero, List.set_cons_succ, List.length_cons, List.length_nil, Option.map_some, Option.map_none, Bool.not_true, Bool.not_false, if_true, if_false, Bool.false_eq_true, decide_true, decide_false, sz_ok, sz_lt, Nat.reduceLeDiff, Nat.reduceAdd, Nat.zero_le, Int.reduceNeg, wipe, cdw_t, cmul_r, cmul_l, Int.reduceLT, Int.reduceLE, h3, slc13]
          refine vS_go1 (turn_ok fu (fun h4 => ?_) (fun h4 => nope (by simp [okNeed, h4])))
          refine vS_go1 (turn_ok fv (fun h5 => ?_) (fun h5 => nope (by simp [okNeed, h5])))
          simp only [pr_eq, vk_ok, s_cst, s_glob, s_var, s_tup, s_fz, s_alc, s_bin, s_neg, s_cmp, s_chain, s_isN, s_isB, s_and, s_or, s_and1, s_or1, s_and2, s_or2, s_not, s_ife, s_idx, s_slc, s_call, s_bi, s_isi, s_append, s_dsp, s_dnw, s_m1, s_es0, s_es1, s_ks0, s_ks1, s_no, s_so, s_disp, s_lstOf, s_rng3, s_seq, s_rng1, s_rng2, s_lc, s_lcIf, s_lcB, s_lcBI, s_nil, s_cons, s_expr, s_asg, s_sub, s_par, s_ret, s_retN, s_iff, s_for, s_pass, s_body, vB_true, vB_false, wo_some, wc_true, varD, refD, itD, blD, intD, isNonD, setAll, evT, evTs, bin_add, bin_sub, bin_mul, bin_div, bin_mod, bin_addS, bin_addT, bin_addL, cmp_eq, cmp_ne, cmp_in, cmp_nin, cmp_lt, cmp_le, cmp_gt, cmp_ge, eqD_int, eqD_bl, eqL_int, eqL_bl, List.getElem?_cons_zero, List.getElem?_cons_succ, List.set_cons_zero, List.set_cons_succ, List.length_cons, List.length_nil, Option.map_some, Option.map_none, Bool.not_true, Bool.not_false, if_true, if_false, Bool.false_eq_true, decide_true, decide_false, sz_ok, sz_lt, Nat.reduceLeDiff, Nat.reduceAdd, Nat.zero_le, Int.reduceNeg, wipe, cdw_t, cmul_r, cmul_l, Int.reduceLT, Int.reduceLE, vS_go0]
          rw [vk_leave rfl]
          have e : okNeed (.tup [p, u, v, r]) = true := by simp [okNeed, h2, h3, h4, h5]
          rw [← e]; exact q
        · simp only [pr_eq, vk_ok, s_cst, s_glob, s_var, s_tup, s_fz, s_alc, s_bin, s_neg, s_cmp, s_chain, s_isN, s_isB, s_and, s_or, s_and1, s_or1, s_and2, s_or2, s_not, s_ife, s_idx, s_slc, s_call, s_bi, s_isi, s_append, s_dsp, s_dnw, s_m1, s_es0, s_es1, s_ks0, s_ks1, s_no, s_so, s_disp, s_lstOf, s_rng3, s_seq, s_rng1, s_rng2, s_lc, s_lcIf, s_lcB, s_lcBI, s_nil, s_cons, s_expr, s_asg, s_sub, s_par, s_ret, s_retN, s_iff, s_for, s_pass, s_body, vB_true, vB_false, wo_some, wc_true, varD, refD, itD, blD, intD, isNonD, setAll, evT, evTs, bin_add, bin_sub, bin_mul, bin_div, bin_mod, bin_addS, bin_addT, bin_addL, cmp_eq, cmp_ne, cmp_in, cmp_nin, cmp_lt, cmp_le, cmp_gt, cmp_ge, eqD_int, eqD_bl, eqL_int, eqL_bl, List.getElem?_cons_zero, List.getElem?_cons_succ, List.set_cons_zero, List.set_cons_succ, List.length_cons, List.length_nil, Option.map_some, Option.map_none, Bool.not_true, Bool.not_false, if_true, if_false, Bool.false_eq_true, decide_true, decide_false, sz_ok, sz_lt, Nat.reduceLeDiff, Nat.reduceAdd, Nat.zero_le, Int.reduceNeg, wipe, cdw_t, cmul_r, cmul_l, Int.reduceLT, Int.reduceLE, h3]
          exact nope (by simp [okNeed, h3])
      · simp only [pr_eq, vk_ok, s_cst, s_glob, s_var, s_tup, s_fz, s_alc, s_bin, s_neg, s_cmp, s_chain, s_isN, s_isB, s_and, s_or, s_and1, s_or1, s_and2, s_or2, s_not, s_ife, s_idx, s_slc, s_call, s_bi, s_isi, s_append, s_dsp, s_dnw, s_m1, s_es0, s_es1, s_ks0, s_ks1, s_no, s_so, s_disp, s_lstOf, s_rng3, s_seq, s_rng1, s_rng2, s_lc, s_lcIf, s_lcB, s_lcBI, s_nil, s_cons, s_expr, s_asg, s_sub, s_par, s_ret, s_retN, s_iff, s_for, s_pass, s_body, vB_true, vB_false, wo_some, wc_true, varD, refD, itD, blD, intD, isNonD, setAll, evT, evTs, bin_add, bin_sub, bin_mul, bin_div, bin_mod, bin_addS, bin_addT, bin_addL, cmp_eq, cmp_ne, cmp_in, cmp_nin, cmp_lt, cmp_le, cmp_gt, cmp_ge, eqD_int, eqD_bl, eqL_int, eqL_bl, List.getElem?_cons_zero, List.getElem?_cons_succ, List.set_cons_zero, List.set_cons_succ, List.length_cons, List.length_nil, Option.map_some, Option.map_none, Bool.not_true, Bool.not_false, if_true, if_false, Bool.false_eq_true, decide_true, decide_false, sz_ok, sz_lt, Nat.reduceLeDiff, Nat.reduceAdd, Nat.zero_le, Int.reduceNeg, wipe, cdw_t, cmul_r, cmul_l, Int.reduceLT, Int.reduceLE, h2]
        exact nope (by simp [okNeed, h2])
end Lw

set_option Elab.async false
set_option linter.all false
set_option maxRecDepth 100000
set_option maxHeartbeats 4000000
namespace Lw
open PySem (Str PyData)
/-! ### names, days -/
def lettersS : Str := "abcdefghijklmnopqrstuvwxyz"
def okName (x : D) : Bool := match x with
  | .str s => decide (1 ≤ s.length ∧ s.length ≤ 8) && s.cps.toList.all fun c => decide (c ∈ lettersS.cps.toList)
  | _ => false
structure NameFine (m : Hs) (x : D) : Prop where
  me : fineD m x = true
  st : ∀ s, x = .str s → s.length ≤ 1000
theorem ty_str {m : Hs} {x : D} (h : tyOf m x .str = true) : ∃ s, x = .str s := by
  cases x <;> try (cases h; done)
  · exact ⟨_, rfl⟩
  · rename_i n
    unfold tyOf isiD at h
    simp only at h
    cases e : m[n]? with
    | none => rw [e] at h; cases h
    | some o => rw [e] at h; cases o <;> cases h
theorem len_str {m : Hs} {s : Str} (h : s.length ≤ 1000) : biD m .len [.str s] = some (.int s.length) := by
  show (if s.length ≤ PySem.sizeLine then _ else _) = _
  rw [if_pos (by rw [PySem.sizeLine_eq]; omega)]
theorem has_sign (m : Hs) (c : Nat) (z : Str) : hasD m (.str ⟨#[c]⟩) (.str z) = some (decide (c ∈ z.cps.toList)) := rfl
theorem notin_d (m : Hs) (a b : D) : cmpD m .notin a b = (hasD m a b).map (!·) := rfl
theorem isin_d (m : Hs) (a b : D) : cmpD m .isin a b = hasD m a b := rfl
theorem signs_len {s : Str} (h : s.length ≤ 1000) : ((s.cps.toList.map fun c => D.str ⟨#[c]⟩).length ≤ PySem.sizeLine) = True := by
  refine sz_ok ?_
  rw [List.length_map, Array.length_toList]; exact h
theorem name_ok {k : Nat} {m : Hs} {x : D} {Q : D → Hs → Prop} (hf : NameFine m x) (q : Q (.bl (okName x)) m) : vk (runFn P1 G1 (k + 1) 2 [x] m) Q := by
  refine vk_call b2 .drop [some (x), none] rfl rfl rfl rfl rfl ?_
  unfold b2
  have g1 : G1 1 = some (.int 8) := rfl
  have g2 : G1 2 = some (.str lettersS) := rfl
  have nope : okName x = false → vk (leave .drop m.length (.rt (.bl false) m)) Q := by
    intro h
    rw [vk_leave rfl, ← h]; exact q
  simp only [pr_eq, vk_ok, s_cst, s_glob, s_var, s_tup, s_fz, s_alc, s_bin, s_neg, s_cmp, s_chain, s_isN, s_isB, s_and, s_or, s_and1, s_or1, s_and2, s_or2, s_not, s_ife, s_idx, s_slc, s_call, s_bi, s_isi, s_append, s_dsp, s_dnw, s_m1, s_es0, s_es1, s_ks0, s_ks1, s_no, s_so, s_disp, s_lstOf, s_rng3, s_seq, s_rng1, s_rng2, s_lc, s_lcIf, s_lcB, s_lcBI, s_nil, s_cons, s_expr, s_asg, s_sub, s_par, s_ret, s_retN, s_iff, s_for, s_pass, s_body, vB_true, vB_false, wo_some, wc_true, varD, refD, itD, blD, intD, isNonD, setAll, evT, evTs, bin_add, bin_sub, bin_mul, bin_div, bin_mod, bin_addS, bin_addT, bin_addL, cmp_eq, cmp_ne, cmp_in, cmp_nin, cmp_lt, cmp_le, cmp_gt, cmp_ge, eqD_int, eqD_bl, eqL_int, eqL_bl, List.getElem?_cons_zero, List.getElem?_cons_succ, List.set_cons_zero, List.set_cons_succ, List.length_cons, List.length_nil, Option.map_some, Option.map_none, Bool.not_true, Bool.not_false, if_true, if_false, Bool.false_eq_true, decide_true, decide_false, sz_ok, sz_lt, Nat.reduceLeDiff, Nat.reduceAdd, Nat.zero_le, Int.reduceNeg, wipe, cdw_t, cmul_r, cmul_l, Int.reduceLT, Int.reduceLE, isi_fine hf.me]
  cases ht : tyOf m x .str with
  | false =>
    simp only [pr_eq, vk_ok, s_cst, s_glob, s_var, s_tup, s_fz, s_alc, s_bin, s_neg, s_cmp, s_chain, s_isN, s_isB, s_and, s_or, s_and1, s_or1, s_and2, s_or2, s_not, s_ife, s_idx, s_slc, s_call, s_bi, s_isi, s_append, s_dsp, s_dnw, s_m1, s_es0, s_es1, s_ks0, s_ks1, s_no, s_so, s_disp, s_lstOf, s_rng3, s_seq, s_rng1, s_rng2, s_lc, s_lcIf, s_lcB, s_lcBI, s_nil, s_cons, s_expr, s_asg, s_sub, s_par, s_ret, s_retN, s_iff, s_for, s_pass, s_body, vB_true, vB_false, wo_some, wc_true, varD, refD, itD, blD, intD, isNonD, setAll, evT, evTs, bin_add, bin_sub, bin_mul, bin_div, bin_mod, bin_addS, bin_addT, bin_addL, cmp_eq, cmp_ne, cmp_in, cmp_nin, cmp_lt, cmp_le, cmp_gt, cmp_ge, eqD_int, eqD_bl, eqL_int, eqL_bl, List.getElem?_cons_zero, List.getElem?_cons_succ, List.set_cons_zero, List.set_cons_succ, List.length_cons, List.length_nil, Option.map_some, Option.map_none, Bool.not_true, Bool.not_false, if_true, if_false, Bool.false_eq_true, decide_true, decide_false, sz_ok, sz_lt, Nat.reduceLeDiff, Nat.reduceAdd, Nat.zero_le, Int.reduceNeg, wipe, cdw_t, cmul_r, cmul_l, Int.reduceLT, Int.reduceLE]
    exact nope (by cases x <;> first | rfl | cases ht)
  | true =>
    obtain ⟨s, rfl⟩ := ty_str ht
    have hs := hf.st s rfl
    simp only [pr_eq, vk_ok, s_cst, s_glob, s_var, s_tup, s_fz, s_alc, s_bin, s_neg, s_cmp, s_chain, s_isN, s_isB, s_and, s_or, s_and1, s_or1, s_and2, s_or2, s_not, s_ife, s_idx, s_slc, s_call, s_bi, s_isi, s_append, s_dsp, s_dnw, s_m1, s_es0, s_es1, s_ks0, s_ks1, s_no, s_so, s_disp, s_lstOf, s_rng3, s_seq, s_rng1, s_rng2, s_lc, s_lcIf, s_lcB, s_lcBI, s_nil, s_cons, s_expr, s_asg, s_sub, s_par, s_ret, s_retN, s_iff, s_for, s_pass, s_body, vB_true, vB_false, wo_some, wc_true, varD, refD, itD, blD, intD, isNonD, setAll, evT, evTs, bin_add, bin_sub, bin_mul, bin_div, bin_mod, bin_addS, bin_addT, bin_addL, cmp_eq, cmp_ne, cmp_in, cmp_nin, cmp_lt, cmp_le, cmp_gt, cmp_ge, eqD_int, eqD_bl, eqL_int, eqL_bl, List.getElem?_cons_zero, List.getElem?_cons_succ, List.set_cons_zero, List.set_cons_succ, List.length_cons, List.length_nil, Option.map_some, Option.map_none, Bool.not_true, Bool.not_false, if_true, if_false, Bool.false_eq_true, decide_true, decide_false, sz_ok, sz_lt, Nat.reduceLeDiff, Nat.reduceAdd, Nat.zero_le, Int.reduceNeg, wipe, cdw_t, cmul_r, cmul_l, Int.reduceLT, Int.reduceLE, len_str hs]
    refine vB_dec (fun h1 => ?_) (fun h1 => ?_)
    · simp only [pr_eq, vk_ok, s_cst, s_glob, s_var, s_tup, s_fz, s_alc, s_bin, s_neg, s_cmp, s_chain, s_isN, s_isB, s_and, s_or, s_and1, s_or1, s_and2, s_or2, s_not, s_ife, s_idx, s_slc, s_call, s_bi, s_isi, s_append, s_dsp, s_dnw, s_m1, s_es0, s_es1, s_ks0, s_ks1, s_no, s_so, s_disp, s_lstOf, s_rng3, s_seq, s_rng1, s_rng2, s_lc, s_lcIf, s_lcB, s_lcBI, s_nil, s_cons, s_expr, s_asg, s_sub, s_par, s_ret, s_retN, s_iff, s_for, s_pass, s_body, vB_true, vB_false, wo_some, wc_true, varD, refD, itD, blD, intD, isNonD, setAll, evT, evTs, bin_add, bin_sub, bin_mul, bin_div, bin_mod, bin_addS, bin_addT, bin_addL, cmp_eq, cmp_ne, cmp_in, cmp_nin, cmp_lt, cmp_le, cmp_gt, cmp_ge, eqD_int, eqD_bl, eqL_int, eqL_bl, List.getElem?_cons_zero, List.getElem?_cons_succ, List.set_cons_zero, List.set_cons_succ, List.length_cons, List.length_nil, Option.map_some, Option.map_none, Bool.not_true, Bool.not_false, if_true, if_false, Bool.false_eq_true, decide_true, decide_false, sz_ok, sz_lt, Nat.reduceLeDiff, Nat.reduceAdd, Nat.zero_le, Int.reduceNeg, wipe, cdw_t, cmul_r, cmul_l, Int.reduceLT, Int.reduceLE, len_str hs, g1]
      refine vB_ndec (fun h2 => ?_) (fun h2 => ?_)
      · (try simp only [pr_eq, vk_ok, s_cst, s_glob, s_var, s_tup, s_fz, s_alc, s_bin, s_neg, s_cmp, s_chain, s_isN, s_isB, s_and, s_or, s_and1, s_or1, s_and2, s_or2, s_not, s_ife, s_idx, s_slc, s_call, s_bi, s_isi, s_append, s_dsp, s_dnw, s_m1, s_es0, s_es1, s_ks0, s_ks1, s_no, s_so, s_disp, s_lstOf, s_rng3, s_seq, s_rng1, s_rng2, s_lc, s_lcIf, s_lcB, s_lcBI, s_nil, s_cons, s_expr, s_asg, s_sub, s_par, s_ret, s_retN, s_iff, s_for, s_pass, s_body, vB_true, vB_false, wo_some, wc_true, varD, refD, itD, blD, intD, isNonD, setAll, evT, evTs, bin_add, bin_sub, bin_mul, bin_div, bin_mod, bin_addS, bin_addT, bin_addL, cmp_eq, cmp_ne, cmp_in, cmp_nin, cmp_lt, cmp_le, cmp_gt, cmp_ge, eqD_int, eqD_bl, eqL_int, eqL_bl, List.getElem?_cons_zero, List.getElem?_cons_succ, List.set_cons_zero, List.set_cons_succ, List.length_cons, List.length_nil, Option.map_some, Option.map_none, Bool.not_true, Bool.not_false, if_true, if_false, Bool.false_eq_true, decide_true, decide_false, sz_ok, sz_lt, Nat.reduceLeDiff, Nat.reduceAdd, Nat.zero_le, Int.reduceNeg, wipe, cdw_t, cmul_r, cmul_l, Int.reduceLT, Int.reduceLE])
        exact nope (by simp only [okName]; rw [decide_eq_false (by omega)]; rfl)
      · simp only [pr_eq, vk_ok, s_cst, s_glob, s_var, s_tup, s_fz, s_alc, s_bin, s_neg, s_cmp, s_chain, s_isN, s_isB, s_and, s_or, s_and1, s_or1, s_and2, s_or2, s_not, s_ife, s_idx, s_slc, s_call, s_bi, s_isi, s_append, s_dsp, s_dnw, s_m1, s_es0, s_es1, s_ks0, s_ks1, s_no, s_so, s_disp, s_lstOf, s_rng3, s_seq, s_rng1, s_rng2, s_lc, s_lcIf, s_lcB, s_lcBI, s_nil, s_cons, s_expr, s_asg, s_sub, s_par, s_ret, s_retN, s_iff, s_for, s_pass, s_body, vB_true, vB_false, wo_some, wc_true, varD, refD, itD, blD, intD, isNonD, setAll, evT, evTs, bin_add, bin_sub, bin_mul, bin_div, bin_mod, bin_addS, bin_addT, bin_addL, cmp_eq, cmp_ne, cmp_in, cmp_nin, cmp_lt, cmp_le, cmp_gt, cmp_ge, eqD_int, eqD_bl, eqL_int, eqL_bl, List.getElem?_cons_zero, List.getElem?_cons_succ, List.set_cons_zero, List.set_cons_succ, List.length_cons, List.length_nil, Option.map_some, Option.map_none, Bool.not_true, Bool.not_false, if_true, if_false, Bool.false_eq_true, decide_true, decide_false, sz_ok, sz_lt, Nat.reduceLeDiff, Nat.reduceAdd, Nat.zero_le, Int.reduceNeg, wipe, cdw_t, cmul_r, cmul_l, Int.reduceLT, Int.reduceLE, itD, signs_len hs]
        refine vk_lcM s.cps.toList _ (fun c => .bl (decide (c ∈ lettersS.cps.toList))) ?_ ?_
        · intro c hc
          simp only [pr_eq, vk_ok, s_cst, s_glob, s_var, s_tup, s_fz, s_alc, s_bin, s_neg, s_cmp, s_chain, s_isN, s_isB, s_and, s_or, s_and1, s_or1, s_and2, s_or2, s_not, s_ife, s_idx, s_slc, s_call, s_bi, s_isi, s_append, s_dsp, s_dnw, s_m1, s_es0, s_es1, s_ks0, s_ks1, s_no, s_so, s_disp, s_lstOf, s_rng3, s_seq, s_rng1, s_rng2, s_lc, s_lcIf, s_lcB, s_lcBI, s_nil, s_cons, s_expr, s_asg, s_sub, s_par, s_ret, s_retN, s_iff, s_for, s_pass, s_body, vB_true, vB_false, wo_some, wc_true, varD, refD, itD, blD, intD, isNonD, setAll, evT, evTs, bin_add, bin_sub, bin_mul, bin_div, bin_mod, bin_addS, bin_addT, bin_addL, cmp_eq, cmp_ne, cmp_in, cmp_nin, cmp_lt, cmp_le, cmp_gt, cmp_ge, eqD_int, eqD_bl, eqL_int, eqL_bl, List.getElem?_cons_zero, List.getElem?_cons_succ, List.set_cons_zero, List.set_cons_succ, List.length_cons, List.length_nil, Option.map_some, Option.map_none, Bool.not_true, Bool.not_false, if_true, if_false, Bool.false_eq_true, decide_true, decide_false, sz_ok, sz_lt, Nat.reduceLeDiff, Nat.reduceAdd, Nat.zero_le, Int.reduceNeg, wipe, cdw_t, cmul_r, cmul_l, Int.reduceLT, Int.reduceLE, g2, isin_d, has_sign]
          exact ⟨trivial, trivial⟩
        · have e1 : (s.cps.toList.map fun c => D.bl (decide (c ∈ lettersS.cps.toList))) = (s.cps.toList.map fun c => decide (c ∈ lettersS.cps.toList)).map D.bl := by rw [List.map_map]; rfl
          rw [e1]
          simp only [pr_eq, vk_ok, s_cst, s_glob, s_var, s_tup, s_fz, s_alc, s_bin, s_neg, s_cmp, s_chain, s_isN, s_isB, s_and, s_or, s_and1, s_or1, s_and2, s_or2, s_not, s_ife, s_idx, s_slc, s_call, s_bi, s_isi, s_append, s_dsp, s_dnw, s_m1, s_es0, s_es1, s_ks0, s_ks1, s_no, s_so, s_disp, s_lstOf, s_rng3, s_seq, s_rng1, s_rng2, s_lc, s_lcIf, s_lcB, s_lcBI, s_nil, s_cons, s_expr, s_asg, s_sub, s_par, s_ret, s_retN, s_iff, s_for, s_pass, s_body, vB_true, vB_false, wo_some, wc_true, varD, refD, itD, blD, intD, isNonD, setAll, evT, evTs, bin_add, bin_sub, bin_mul, bin_div, bin_mod, bin_addS, bin_addT, bin_addL, cmp_eq, cmp_ne, cmp_in, cmp_nin, cmp_lt, cmp_le, cmp_gt, cmp_ge, eqD_int, eqD_bl, eqL_int, eqL_bl, List.getElem?_cons_zero, List.getElem?_cons_succ, List.set_cons_zero, List.set_cons_succ, List.length_cons, List.length_nil, Option.map_some, Option.map_none, Bool.not_true, Bool.not_false, if_true, if_false, Bool.false_eq_true, decide_true, decide_false, sz_ok, sz_lt, Nat.reduceLeDiff, Nat.reduceAdd, Nat.zero_le, Int.reduceNeg, wipe, cdw_t, cmul_r, cmul_l, Int.reduceLT, Int.reduceLE, all_bls]
          rw [vk_leave rfl]
          have e2 : okName (.str s) = (s.cps.toList.map fun c => decide (c ∈ lettersS.cps.toList)).all id := by
            simp only [okName, List.all_map]
            rw [decide_eq_true (by omega), Bool.true_and]; rfl
          rw [← e2]; exact q
    · (try simp only [pr_eq, vk_ok, s_cst, s_glob, s_var, s_tup, s_fz, s_alc, s_bin, s_neg, s_cmp, s_chain, s_isN, s_isB, s_and, s_or, s_and1, s_or1, s_and2, s_or2, s_not, s_ife, s_idx, s_slc, s_call, s_bi, s_isi, s_append, s_dsp, s_dnw, s_m1, s_es0, s_es1, s_ks0, s_ks1, s_no, s_so, s_disp, s_lstOf, s_rng3, s_seq, s_rng1, s_rng2, s_lc, s_lcIf, s_lcB, s_lcBI, s_nil, s_cons, s_expr, s_asg, s_sub, s_par, s_ret, s_retN, s_iff, s_for, s_pass, s_body, vB_true, vB_false, wo_some, wc_true, varD, refD, itD, blD, intD, isNonD, setAll, evT, evTs, bin_add, bin_sub, bin_mul, bin_div, bin_mod, bin_addS, bin_addT, bin_addL, cmp_eq, cmp_ne, cmp_in, cmp_nin, cmp_lt, cmp_le, cmp_gt, cmp_ge, eqD_int, eqD_bl, eqL_int, eqL_bl, List.getElem?_cons_zero, List.getElem?_cons_succ, List.set_cons_zero, List.set_cons_succ, List.length_cons, List.length_nil, Option.map_some, Option.map_none, Bool.not_true, Bool.not_false, if_true, if_false, Bool.false_eq_true, decide_true, decide_false, sz_ok, sz_lt, Nat.reduceLeDiff, Nat.reduceAdd, Nat.zero_le, Int.reduceNeg, wipe, cdw_t, cmul_r, cmul_l, Int.reduceLT, Int.reduceLE])
      exact nope (by simp [okName]; omega)
theorem lawname_ok {k : Nat} {m : Hs} {x : D} {Q : D → Hs → Prop} (hf : NameFine m x) (q : Q (.bl (okName x)) m) : vk (runFn P1 G1 (k + 1) 19 [x] m) Q := by
  refine vk_call b19 .drop [some (x), none] rfl rfl rfl rfl rfl ?_
  unfold b19
  have nope : okName x = false → vk (leave .drop m.length (.rt (.bl false) m)) Q := by
    intro h
    rw [vk_leave rfl, ← h]; exact q
  have lt : (PySem.Str.ofString "abcdefghijklmnopqrstuvwxyz") = lettersS := rfl
  simp only [pr_eq, vk_ok, s_cst, s_glob, s_var, s_tup, s_fz, s_alc, s_bin, s_neg, s_cmp, s_chain, s_isN, s_isB, s_and, s_or, s_and1, s_or1, s_and2, s_or2, s_not, s_ife, s_idx, s_slc, s_call, s_bi, s_isi, s_append, s_dsp, s_dnw, s_m1, s_es0, s_es1, s_ks0, s_ks1, s_no, s_so, s_disp, s_lstOf, s_rng3, s_seq, s_rng1, s_rng2, s_lc, s_lcIf, s_lcB, s_lcBI, s_nil, s_cons, s_expr, s_asg, s_sub, s_par, s_ret, s_retN, s_iff, s_for, s_pass, s_body, vB_true, vB_false, wo_some, wc_true, varD, refD, itD, blD, intD, isNonD, setAll, evT, evTs, bin_add, bin_sub, bin_mul, bin_div, bin_mod, bin_addS, bin_addT, bin_addL, cmp_eq, cmp_ne, cmp_in, cmp_nin, cmp_lt, cmp_le, cmp_gt, cmp_ge, eqD_int, eqD_bl, eqL_int, eqL_bl, List.getElem?_cons_zero, List.getElem?_cons_succ, List.set_cons_zero, List.set_cons_succ, List.length_cons, List.length_nil, Option.map_some, Option.map_none, Bool.not_true, Bool.not_false, if_true, if_false, Bool.false_eq_true, decide_true, decide_false, sz_ok, sz_lt, Nat.reduceLeDiff, Nat.reduceAdd, Nat.zero_le, Int.reduceNeg, wipe, cdw_t, cmul_r, cmul_l, Int.reduceLT, Int.reduceLE, isi_fine hf.me]
  cases ht : tyOf m x .str with
  | false =>
    simp only [pr_eq, vk_ok, s_cst, s_glob, s_var, s_tup, s_fz, s_alc, s_bin, s_neg, s_cmp, s_chain, s_isN, s_isB, s_and, s_or, s_and1, s_or1, s_and2, s_or2, s_not, s_ife, s_idx, s_slc, s_call, s_bi, s_isi, s_append, s_dsp, s_dnw, s_m1, s_es0, s_es1, s_ks0, s_ks1, s_no, s_so, s_disp, s_lstOf, s_rng3, s_seq, s_rng1, s_rng2, s_lc, s_lcIf, s_lcB, s_lcBI, s_nil, s_cons, s_expr, s_asg, s_sub, s_par, s_ret, s_retN, s_iff, s_for, s_pass, s_body, vB_true, vB_false, wo_some, wc_true, varD, refD, itD, blD, intD, isNonD, setAll, evT, evTs, bin_add, bin_sub, bin_mul, bin_div, bin_mod, bin_addS, bin_addT, bin_addL, cmp_eq, cmp_ne, cmp_in, cmp_nin, cmp_lt, cmp_le, cmp_gt, cmp_ge, eqD_int, eqD_bl, eqL_int, eqL_bl, List.getElem?_cons_zero, List.getElem?_cons_succ, List.set_cons_zero, List.set_cons_succ, List.length_cons, List.length_nil, Option.map_some, Option.map_none, Bool.not_true, Bool.not_false, if_true, if_false, Bool.false_eq_true, decide_true, decide_false, sz_ok, sz_lt, Nat.reduceLeDiff, Nat.reduceAdd, Nat.zero_le, Int.reduceNeg, wipe, cdw_t, cmul_r, cmul_l, Int.reduceLT, Int.reduceLE]
    exact nope (by cases x <;> first | rfl | cases ht)
  | true =>
    obtain ⟨s, rfl⟩ := ty_str ht
    have hs := hf.st s rfl
    simp only [pr_eq, vk_ok, s_cst, s_glob, s_var, s_tup, s_fz, s_alc, s_bin, s_neg, s_cmp, s_chain, s_isN, s_isB, s_and, s_or, s_and1, s_or1, s_and2, s_or2, s_not, s_ife, s_idx, s_slc, s_call, s_bi, s_isi, s_append, s_dsp, s_dnw, s_m1, s_es0, s_es1, s_ks0, s_ks1, s_no, s_so, s_disp, s_lstOf, s_rng3, s_seq, s_rng1, s_rng2, s_lc, s_lcIf, s_lcB, s_lcBI, s_nil, s_cons, s_expr, s_asg, s_sub, s_par, s_ret, s_retN, s_iff, s_for, s_pass, s_body, vB_true, vB_false, wo_some, wc_true, varD, refD, itD, blD, intD, isNonD, setAll, evT, evTs, bin_add, bin_sub, bin_mul, bin_div, bin_mod, bin_addS, bin_addT, bin_addL, cmp_eq, cmp_ne, cmp_in, cmp_nin, cmp_lt, cmp_le, cmp_gt, cmp_ge, eqD_int, eqD_bl, eqL_int, eqL_bl, List.getElem?_cons_zero, List.getElem?_cons_succ, List.set_cons_zero, List.set_cons_succ, List.length_cons, List.length_nil, Option.map_some, Option.map_none, Bool.not_true, Bool.not_false, if_true, if_false, Bool.false_eq_true, decide_true, decide_false, sz_ok, sz_lt, Nat.reduceLeDiff, Nat.reduceAdd, Nat.zero_le, Int.reduceNeg, wipe, cdw_t, cmul_r, cmul_l, Int.reduceLT, Int.reduceLE, len_str hs]
    refine vB_dec (fun h1 => ?_) (fun h1 => ?_)
    · simp only [pr_eq, vk_ok, s_cst, s_glob, s_var, s_tup, s_fz, s_alc, s_bin, s_neg, s_cmp, s_chain, s_isN, s_isB, s_and, s_or, s_and1, s_or1, s_and2, s_or2, s_not, s_ife, s_idx, s_slc, s_call, s_bi, s_isi, s_append, s_dsp, s_dnw, s_m1, s_es0, s_es1, s_ks0, s_ks1, s_no, s_so, s_disp, s_lstOf, s_rng3, s_seq, s_rng1, s_rng2, s_lc, s_lcIf, s_lcB, s_lcBI, s_nil, s_cons, s_expr, s_asg, s_sub, s_par, s_ret, s_retN, s_iff, s_for, s_pass, s_body, vB_true, vB_false, wo_some, wc_true, varD, refD, itD, blD, intD, isNonD, setAll, evT, evTs, bin_add, bin_sub, bin_mul, bin_div, bin_mod, bin_addS, bin_addT, bin_addL, cmp_eq, cmp_ne, cmp_in, cmp_nin, cmp_lt, cmp_le, cmp_gt, cmp_ge, eqD_int, eqD_bl, eqL_int, eqL_bl, List.getElem?_cons_zero, List.getElem?_cons_succ, List.set_cons_zero, List.set_cons_succ, List.length_cons, List.length_nil, Option.map_some, Option.map_none, Bool.not_true, Bool.not_false, if_true, if_false, Bool.false_eq_true, decide_true, decide_false, sz_ok, sz_lt, Nat.reduceLeDiff, Nat.reduceAdd, Nat.zero_le, Int.reduceNeg, wipe, cdw_t, cmul_r, cmul_l, Int.reduceLT, Int.reduceLE, len_str hs]
      refine vB_ndec (fun h2 => ?_) (fun h2 => ?_)
      · (try simp only [pr_eq, vk_ok, s_cst, s_glob, s_var, s_tup, s_fz, s_alc, s_bin, s_neg, s_cmp, s_chain, s_isN, s_isB, s_and, s_or, s_and1, s_or1, s_and2, s_or2, s_not, s_ife, s_idx, s_slc, s_call, s_bi, s_isi, s_append, s_dsp, s_dnw, s_m1, s_es0, s_es1, s_ks0, s_ks1, s_no, s_so, s_disp, s_lstOf, s_rng3, s_seq, s_rng1, s_rng2, s_lc, s_lcIf, s_lcB, s_lcBI, s_nil, s_cons, s_expr, s_asg, s_sub, s_par, s_ret, s_retN, s_iff, s_for, s_pass, s_body, vB_true, vB_false, wo_some, wc_true, varD, refD, itD, blD, intD, isNonD, setAll, evT, evTs, bin_add, bin_sub, bin_mul, bin_div, bin_mod, bin_addS, bin_addT, bin_addL, cmp_eq, cmp_ne, cmp_in, cmp_nin, cmp_lt, cmp_le, cmp_gt, cmp_ge, eqD_int, eqD_bl, eqL_int, eqL_bl, List.getElem?_cons_zero, List.getElem?_cons_succ, List.set_cons_zero, List.set_cons_succ, List.length_cons, List.length_nil, Option.map_some, Option.map_none, Bool.not_true, Bool.not_false, if_true, if_false, Bool.false_eq_true, decide_true, decide_false, sz_ok, sz_lt, Nat.reduceLeDiff, Nat.reduceAdd, Nat.zero_le, Int.reduceNeg, wipe, cdw_t, cmul_r, cmul_l, Int.reduceLT, Int.reduceLE])
        exact nope (by simp only [okName]; rw [decide_eq_false (by omega)]; rfl)
      · simp only [pr_eq, vk_ok, s_cst, s_glob, s_var, s_tup, s_fz, s_alc, s_bin, s_neg, s_cmp, s_chain, s_isN, s_isB, s_and, s_or, s_and1, s_or1, s_and2, s_or2, s_not, s_ife, s_idx, s_slc, s_call, s_bi, s_isi, s_append, s_dsp, s_dnw, s_m1, s_es0, s_es1, s_ks0, s_ks1, s_no, s_so, s_disp, s_lstOf, s_rng3, s_seq, s_rng1, s_rng2, s_lc, s_lcIf, s_lcB, s_lcBI, s_nil, s_cons, s_expr, s_asg, s_sub, s_par, s_ret, s_retN, s_iff, s_for, s_pass, s_body, vB_true, vB_false, wo_some, wc_true, varD, refD, itD, blD, intD, isNonD, setAll, evT, evTs, bin_add, bin_sub, bin_mul, bin_div, bin_mod, bin_addS, bin_addT, bin_addL, cmp_eq, cmp_ne, cmp_in, cmp_nin, cmp_lt, cmp_le, cmp_gt, cmp_ge, eqD_int, eqD_bl, eqL_int, eqL_bl, List.getElem?_cons_zero, List.getElem?_cons_succ, List.set_cons_zero, List.set_cons_succ, List.length_cons, List.length_nil, Option.map_some, Option.map_none, Bool.not_true, Bool.not_false, if_true, if_false, Bool.false_eq_true, decide_true, decide_false, sz_ok, sz_lt, Nat.reduceLeDiff, Nat.reduceAdd, Nat.zero_le, Int.reduceNeg, wipe, cdw_t, cmul_r, cmul_l, Int.reduceLT, Int.reduceLE, itD, signs_len hs, lt]
        refine vk_lcP s.cps.toList _ (fun c => .str ⟨#[c]⟩) (fun c => !decide (c ∈ lettersS.cps.toList)) ?_ ?_
        · intro c hc
          simp only [pr_eq, vk_ok, s_cst, s_glob, s_var, s_tup, s_fz, s_alc, s_bin, s_neg, s_cmp, s_chain, s_isN, s_isB, s_and, s_or, s_and1, s_or1, s_and2, s_or2, s_not, s_ife, s_idx, s_slc, s_call, s_bi, s_isi, s_append, s_dsp, s_dnw, s_m1, s_es0, s_es1, s_ks0, s_ks1, s_no, s_so, s_disp, s_lstOf, s_rng3, s_seq, s_rng1, s_rng2, s_lc, s_lcIf, s_lcB, s_lcBI, s_nil, s_cons, s_expr, s_asg, s_sub, s_par, s_ret, s_retN, s_iff, s_for, s_pass, s_body, vB_true, vB_false, wo_some, wc_true, varD, refD, itD, blD, intD, isNonD, setAll, evT, evTs, bin_add, bin_sub, bin_mul, bin_div, bin_mod, bin_addS, bin_addT, bin_addL, cmp_eq, cmp_ne, cmp_in, cmp_nin, cmp_lt, cmp_le, cmp_gt, cmp_ge, eqD_int, eqD_bl, eqL_int, eqL_bl, List.getElem?_cons_zero, List.getElem?_cons_succ, List.set_cons_zero, List.set_cons_succ, List.length_cons, List.length_nil, Option.map_some, Option.map_none, Bool.not_true, Bool.not_false, if_true, if_false, Bool.false_eq_true, decide_true, decide_false, sz_ok, sz_lt, Nat.reduceLeDiff, Nat.reduceAdd, Nat.zero_le, Int.reduceNeg, wipe, cdw_t, cmul_r, cmul_l, Int.reduceLT, Int.reduceLE, notin_d, has_sign]
          refine vB_ndec (fun h3 => ?_) (fun h3 => ?_)
          · (try simp only [pr_eq, vk_ok, s_cst, s_glob, s_var, s_tup, s_fz, s_alc, s_bin, s_neg, s_cmp, s_chain, s_isN, s_isB, s_and, s_or, s_and1, s_or1, s_and2, s_or2, s_not, s_ife, s_idx, s_slc, s_call, s_bi, s_isi, s_append, s_dsp, s_dnw, s_m1, s_es0, s_es1, s_ks0, s_ks1, s_no, s_so, s_disp, s_lstOf, s_rng3, s_seq, s_rng1, s_rng2, s_lc, s_lcIf, s_lcB, s_lcBI, s_nil, s_cons, s_expr, s_asg, s_sub, s_par, s_ret, s_retN, s_iff, s_for, s_pass, s_body, vB_true, vB_false, wo_some, wc_true, varD, refD, itD, blD, intD, isNonD, setAll, evT, evTs, bin_add, bin_sub, bin_mul, bin_div, bin_mod, bin_addS, bin_addT, bin_addL, cmp_eq, cmp_ne, cmp_in, cmp_nin, cmp_lt, cmp_le, cmp_gt, cmp_ge, eqD_int, eqD_bl, eqL_int, eqL_bl, List.getElem?_cons_zero, List.getElem?_cons_succ, List.set_cons_zero, List.set_cons_succ, List.length_cons, List.length_nil, Option.map_some, Option.map_none, Bool.not_true, Bool.not_false, if_true, if_false, Bool.false_eq_true, decide_true, decide_false, sz_ok, sz_lt, Nat.reduceLeDiff, Nat.reduceAdd, Nat.zero_le, Int.reduceNeg, wipe, cdw_t, cmul_r, cmul_l, Int.reduceLT, Int.reduceLE, h3])
            (first | trivial | exact ⟨trivial, trivial⟩ | exact ⟨rfl, rfl⟩ | exact ⟨trivial, rfl⟩ | exact ⟨rfl, trivial⟩ | (simp; done))
          · (try simp only [pr_eq, vk_ok, s_cst, s_glob, s_var, s_tup, s_fz, s_alc, s_bin, s_neg, s_cmp, s_chain, s_isN, s_isB, s_and, s_or, s_and1, s_or1, s_and2, s_or2, s_not, s_ife, s_idx, s_slc, s_call, s_bi, s_isi, s_append, s_dsp, s_dnw, s_m1, s_es0, s_es1, s_ks0, s_ks1, s_no, s_so, s_disp, s_lstOf, s_rng3, s_seq, s_rng1, s_rng2, s_lc, s_lcIf, s_lcB, s_lcBI, s_nil, s_cons, s_expr, s_asg, s_sub, s_par, s_ret, s_retN, s_iff, s_for, s_pass, s_body, vB_true, vB_false, wo_some, wc_true, varD, refD, itD, blD, intD, isNonD, setAll, evT, evTs, bin_add, bin_sub, bin_mul, bin_div, bin_mod, bin_addS, bin_addT, bin_addL, cmp_eq, cmp_ne, cmp_in, cmp_nin, cmp_lt, cmp_le, cmp_gt, cmp_ge, eqD_int, eqD_bl, eqL_int, eqL_bl, List.getElem?_cons_zero, List.getElem?_cons_succ, List.set_cons_zero, List.set_cons_succ, List.length_cons, List.length_nil, Option.map_some, Option.map_none, Bool.not_true, Bool.not_false, if_true, if_false, Bool.false_eq_true, decide_true, decide_false, sz_ok, sz_lt, Nat.reduceLeDiff, Nat.reduceAdd, Nat.zero_le, Int.reduceNeg, wipe, cdw_t, cmul_r, cmul_l, Int.reduceLT, Int.reduceLE, h3])
            (first | trivial | exact ⟨trivial, trivial⟩ | exact ⟨rfl, rfl⟩ | exact ⟨trivial, rfl⟩ | exact ⟨rfl, trivial⟩ | (simp; done))
        · skip
          cases hc : s.cps.toList.all fun c => decide (c ∈ lettersS.cps.toList) with
          | true =>
            have e2 : (s.cps.toList.filter fun c => !decide (c ∈ lettersS.cps.toList)) = [] := by
              rw [List.filter_eq_nil_iff]
              intro c hcm
              have := List.all_eq_true.mp hc c hcm
              simp only [this]; decide
            rw [e2]
            simp only [pr_eq, vk_ok, s_cst, s_glob, s_var, s_tup, s_fz, s_alc, s_bin, s_neg, s_cmp, s_chain, s_isN, s_isB, s_and, s_or, s_and1, s_or1, s_and2, s_or2, s_not, s_ife, s_idx, s_slc, s_call, s_bi, s_isi, s_append, s_dsp, s_dnw, s_m1, s_es0, s_es1, s_ks0, s_ks1, s_no, s_so, s_disp, s_lstOf, s_rng3, s_seq, s_rng1, s_rng2, s_lc, s_lcIf, s_lcB, s_lcBI, s_nil, s_cons, s_expr, s_asg, s_sub, s_par, s_ret, s_retN, s_iff, s_for, s_pass, s_body, vB_true, vB_false, wo_some, wc_true, varD, refD, itD, blD, intD, isNonD, setAll, evT, evTs, bin_add, bin_sub, bin_mul, bin_div, bin_mod, bin_addS, bin_addT, bin_addL, cmp_eq, cmp_ne, cmp_in, cmp_nin, cmp_lt, cmp_le, cmp_gt, cmp_ge, eqD_int, eqD_bl, eqL_int, eqL_bl, List.getElem?_cons_zero, List.getElem?_cons_succ, List.set_cons_zero, List.set_cons_succ, List.length_cons, List.length_nil, Option.map_some, Option.map_none, Bool.not_true, Bool.not_false, if_true, if_false, Bool.false_eq_true, decide_true, decide_false, sz_ok, sz_lt, Nat.reduceLeDiff, Nat.reduceAdd, Nat.zero_le, Int.reduceNeg, wipe, cdw_t, cmul_r, cmul_l, Int.reduceLT, Int.reduceLE, List.map_nil, eqL_nil0]
            rw [vk_leave rfl]
            have e3 : okName (.str s) = true := by
              simp only [okName, hc]
              rw [decide_eq_true (by omega)]; rfl
            rw [← e3]; exact q
          | false =>
            have e2 : ((s.cps.toList.filter fun c => !decide (c ∈ lettersS.cps.toList)).map fun c => D.str ⟨#[c]⟩) ≠ [] := by
              intro z
              rw [List.map_eq_nil_iff, List.filter_eq_nil_iff] at z
              have : (s.cps.toList.all fun c => decide (c ∈ lettersS.cps.toList)) = true := List.all_eq_true.mpr fun c hcm => by
                have := z c hcm
                simpa using this
              exact Bool.noConfusion (hc.symm.trans this)
            simp only [pr_eq, vk_ok, s_cst, s_glob, s_var, s_tup, s_fz, s_alc, s_bin, s_neg, s_cmp, s_chain, s_isN, s_isB, s_and, s_or, s_and1, s_or1, s_and2, s_or2, s_not, s_ife, s_idx, s_slc, s_call, s_bi, s_isi, s_append, s_dsp, s_dnw, s_m1, s_es0, s_es1, s_ks0, s_ks1, s_no, s_so, s_disp, s_lstOf, s_rng3, s_seq, s_rng1, s_rng2, s_lc, s_lcIf, s_lcB, s_lcBI, s_nil, s_cons, s_expr, s_asg, s_sub, s_par, s_ret, s_retN, s_iff, s_for, s_pass, s_body, vB_true, vB_false, wo_some, wc_true, varD, refD, itD, blD, intD, isNonD, setAll, evT, evTs, bin_add, bin_sub, bin_mul, bin_div, bin_mod, bin_addS, bin_addT, bin_addL, cmp_eq, cmp_ne, cmp_in, cmp_nin, cmp_lt, cmp_le, cmp_gt, cmp_ge, eqD_int, eqD_bl, eqL_int, eqL_bl, List.getElem?_cons_zero, List.getElem?_cons_succ, List.set_cons_zero, List.set_cons_succ, List.length_cons, List.length_nil, Option.map_some, Option.map_none, Bool.not_true, Bool.not_false, if_true, if_false, Bool.false_eq_true, decide_true, decide_false, sz_ok, sz_lt, Nat.reduceLeDiff, Nat.reduceAdd, Nat.zero_le, Int.reduceNeg, wipe, cdw_t, cmul_r, cmul_l, Int.reduceLT, Int.reduceLE, eqL_lst0 e2]
            exact nope (by simp only [okName, hc, Bool.and_false])
    · (try simp only [pr_eq, vk_ok, s_cst, s_glob, s_var, s_tup, s_fz, s_alc, s_bin, s_neg, s_cmp, s_chain, s_isN, s_isB, s_and, s_or, s_and1, s_or1, s_and2, s_or2, s_not, s_ife, s_idx, s_slc, s_call, s_bi, s_isi, s_append, s_dsp, s_dnw, s_m1, s_es0, s_es1, s_ks0, s_ks1, s_no, s_so, s_disp, s_lstOf, s_rng3, s_seq, s_rng1, s_rng2, s_lc, s_lcIf, s_lcB, s_lcBI, s_nil, s_cons, s_expr, s_asg, s_sub, s_par, s_ret, s_retN, s_iff, s_for, s_pass, s_body, vB_true, vB_false, wo_some, wc_true, varD, refD, itD, blD, intD, isNonD, setAll, evT, evTs, bin_add, bin_sub, bin_mul, bin_div, bin_mod, bin_addS, bin_addT, bin_addL, cmp_eq, cmp_ne, cmp_in, cmp_nin, cmp_lt, cmp_le, cmp_gt, cmp_ge, eqD_int, eqD_bl, eqL_int, eqL_bl, List.getElem?_cons_zero, List.getElem?_cons_succ, List.set_cons_zero, List.set_cons_succ, List.length_cons, List.length_nil, Option.map_some, Option.map_none, Bool.not_true, Bool.not_false, if_true, if_false, Bool.false_eq_true, decide_true, decide_false, sz_ok, sz_lt, Nat.reduceLeDiff, Nat.reduceAdd, Nat.zero_le, Int.reduceNeg, wipe, cdw_t, cmul_r, cmul_l, Int.reduceLT, Int.reduceLE])
      exact nope (by simp [okName]; omega)
theorem day_ok {k : Nat} {m : Hs} {x : D} {Q : D → Hs → Prop} (hf : fineD m x = true) (q : Q (.bl (okW x 9999)) m) : vk (runFn P1 G1 (k + 2) 1 [x] m) Q := by
  refine vk_call b1 .drop [some (x)] rfl rfl rfl rfl rfl ?_
  unfold b1
  have g0 : G1 0 = some (.int 9999) := rfl
  simp only [pr_eq, vk_ok, s_cst, s_glob, s_var, s_tup, s_fz, s_alc, s_bin, s_neg, s_cmp, s_chain, s_isN, s_isB, s_and, s_or, s_and1, s_or1, s_and2, s_or2, s_not, s_ife, s_idx, s_slc, s_call, s_bi, s_isi, s_append, s_dsp, s_dnw, s_m1, s_es0, s_es1, s_ks0, s_ks1, s_no, s_so, s_disp, s_lstOf, s_rng3, s_seq, s_rng1, s_rng2, s_lc, s_lcIf, s_lcB, s_lcBI, s_nil, s_cons, s_expr, s_asg, s_sub, s_par, s_ret, s_retN, s_iff, s_for, s_pass, s_body, vB_true, vB_false, wo_some, wc_true, varD, refD, itD, blD, intD, isNonD, setAll, evT, evTs, bin_add, bin_sub, bin_mul, bin_div, bin_mod, bin_addS, bin_addT, bin_addL, cmp_eq, cmp_ne, cmp_in, cmp_nin, cmp_lt, cmp_le, cmp_gt, cmp_ge, eqD_int, eqD_bl, eqL_int, eqL_bl, List.getElem?_cons_zero, List.getElem?_cons_succ, List.set_cons_zero, List.set_cons_succ, List.length_cons, List.length_nil, Option.map_some, Option.map_none, Bool.not_true, Bool.not_false, if_true, if_false, Bool.false_eq_true, decide_true, decide_false, sz_ok, sz_lt, Nat.reduceLeDiff, Nat.reduceAdd, Nat.zero_le, Int.reduceNeg, wipe, cdw_t, cmul_r, cmul_l, Int.reduceLT, Int.reduceLE, g0]
  refine among_ok hf ?_
  rw [vk_leave rfl]
  exact q
theorem alike_ok {k : Nat} {m : Hs} {p r : Bool} {Q : D → Hs → Prop} (q : Q (.bl (decide (p = r))) m) : vk (runFn P1 G1 (k + 1) 20 [.bl p, .bl r] m) Q := by
  refine vk_call b20 .drop [some (.bl p), some (.bl r)] rfl rfl rfl rfl rfl ?_
  unfold b20
  have i1 : isiD m .bool (.bl p) = some true := rfl
  simp only [pr_eq, vk_ok, s_cst, s_glob, s_var, s_tup, s_fz, s_alc, s_bin, s_neg, s_cmp, s_chain, s_isN, s_isB, s_and, s_or, s_and1, s_or1, s_and2, s_or2, s_not, s_ife, s_idx, s_slc, s_call, s_bi, s_isi, s_append, s_dsp, s_dnw, s_m1, s_es0, s_es1, s_ks0, s_ks1, s_no, s_so, s_disp, s_lstOf, s_rng3, s_seq, s_rng1, s_rng2, s_lc, s_lcIf, s_lcB, s_lcBI, s_nil, s_cons, s_expr, s_asg, s_sub, s_par, s_ret, s_retN, s_iff, s_for, s_pass, s_body, vB_true, vB_false, wo_some, wc_true, varD, refD, itD, blD, intD, isNonD, setAll, evT, evTs, bin_add, bin_sub, bin_mul, bin_div, bin_mod, bin_addS, bin_addT, bin_addL, cmp_eq, cmp_ne, cmp_in, cmp_nin, cmp_lt, cmp_le, cmp_gt, cmp_ge, eqD_int, eqD_bl, eqL_int, eqL_bl, List.getElem?_cons_zero, List.getElem?_cons_succ, List.set_cons_zero, List.set_cons_succ, List.length_cons, List.length_nil, Option.map_some, Option.map_none, Bool.not_true, Bool.not_false, if_true, if_false, Bool.false_eq_true, decide_true, decide_false, sz_ok, sz_lt, Nat.reduceLeDiff, Nat.reduceAdd, Nat.zero_le, Int.reduceNeg, wipe, cdw_t, cmul_r, cmul_l, Int.reduceLT, Int.reduceLE, i1]
  rw [vk_leave rfl]
  exact q
/-! ### drawn texts -/
theorem idx_letters (m : Hs) (n : Int) : ∃ c, idxD m (.str "abcdefghijklmnopqrstuvwxyz") (.int (n % 26)) = some (.str ⟨#[c]⟩) := by
  have hl : (PySem.Str.ofString "abcdefghijklmnopqrstuvwxyz").length = 26 := by decide +kernel
  have hl2 : ((PySem.Str.ofString "abcdefghijklmnopqrstuvwxyz").cps.toList).length = 26 := by rw [Array.length_toList]; exact hl
  have h := md n 26 (by decide)
  have h1 : (n % 26).toNat < ((PySem.Str.ofString "abcdefghijklmnopqrstuvwxyz").cps.toList).length := by omega
  refine ⟨((PySem.Str.ofString "abcdefghijklmnopqrstuvwxyz").cps.toList)[(n % 26).toNat], ?_⟩
  simp only [idxD, hl]
  rw [if_pos (by rw [PySem.sizeLine_eq]; decide)]
  have h3 : (n % 26) < (((PySem.Str.ofString "abcdefghijklmnopqrstuvwxyz").cps.toList).length : Int) := by omega
  simp only [L2.atI, L2.ixN, if_pos h.1, if_pos h3, Option.bind_some, List.getElem?_eq_getElem h1, Option.map_some]
theorem join_len : ∀ l : List Str, (∀ s ∈ l, s.length = 1) → (PySem.Txt.join (PySem.Str.ofString "") l).length = l.length := PySem.W.KT.join_ones
theorem str_app (m : Hs) (s t : Str) (h : s.length ≤ 500) (h2 : t.length ≤ 500) : binD m .add (.str s) (.str t) = some (.str (s ++ t)) := by
  show (if s.length + t.length ≤ PySem.sizeLine then _ else _) = _
  rw [if_pos (by rw [PySem.sizeLine_eq]; omega)]
theorem app_len (s t : Str) : (s ++ t).length = s.length + t.length := PySem.Str.length_append ..
end Lw

set_option Elab.async false
set_option linter.all false
set_option maxRecDepth 100000
set_option maxHeartbeats 4000000
namespace Lw
open PySem (Str PyData)
/-! ### drawn texts, odd things -/
def letAt (n : Int) : Nat := lettersS.cps.toList.getD (n % 26).toNat 0
theorem idx_let (m : Hs) (n : Int) : idxD m (.str "abcdefghijklmnopqrstuvwxyz") (.int (n % 26)) = some (.str ⟨#[letAt n]⟩) := by
  have hl : lettersS.length = 26 := by decide +kernel
  have hl2 : lettersS.cps.toList.length = 26 := by rw [Array.length_toList]; exact hl
  have h := md n 26 (by decide)
  have h1 : (n % 26).toNat < lettersS.cps.toList.length := by omega
  show (if lettersS.length ≤ PySem.sizeLine then (L2.atI lettersS.cps.toList (n % 26)).map fun c => D.str ⟨#[c]⟩ else none) = _
  rw [if_pos (by rw [PySem.sizeLine_eq, hl]; decide)]
  have h3 : (n % 26) < (lettersS.cps.toList.length : Int) := by omega
  show (L2.atI lettersS.cps.toList (n % 26)).map _ = _
  simp only [L2.atI, L2.ixN, if_pos h.1, if_pos h3, Option.bind_some, List.getElem?_eq_getElem h1, Option.map_some]
  unfold letAt
  rw [List.getD_eq_getElem?_getD, List.getElem?_eq_getElem h1]; rfl
theorem strsD_map (l : List Str) : strsD (l.map D.str) = some l := by
  induction l with
  | nil => rfl
  | cons s l ih => simp only [List.map_cons, strsD, strD, ih]
theorem ones_sum {α : Type} (g : α → Nat) (l : List α) : ((l.map fun a => (⟨#[g a]⟩ : Str)).map (·.length)).sum = l.length := by
  induction l with
  | nil => rfl
  | cons a l ih => rw [List.map_cons, List.map_cons, List.sum_cons, ih, List.length_cons]; show 1 + l.length = _; omega
def joined {α : Type} (g : α → Nat) (l : List α) : Str := PySem.Txt.join (PySem.Str.ofString "") (l.map fun a => (⟨#[g a]⟩ : Str))
theorem joined_len {α : Type} (g : α → Nat) (l : List α) : (joined g l).length = l.length := by
  unfold joined
  rw [join_len _ (fun s hs => by obtain ⟨a, _, rfl⟩ := List.mem_map.mp hs; rfl), List.length_map]
theorem join_d {α : Type} (m : Hs) (g : α → Nat) (l : List α) (h : l.length ≤ 1000) : m1D m .join (.str "") (.lst (l.map fun a => D.str ⟨#[g a]⟩)) = some (.str (joined g l)) := by
  have e : (l.map fun a => D.str ⟨#[g a]⟩) = (l.map fun a => (⟨#[g a]⟩ : Str)).map D.str := by rw [List.map_map]; rfl
  have h0 : (PySem.Str.ofString "").length = 0 := by decide +kernel
  rw [e]
  simp only [m1D, seqD, lstD, Option.bind_some, strsD_map]
  rw [ones_sum, List.length_map, h0, if_pos (by omega)]
  rfl
theorem rcv_str (m : Hs) (s : Str) : (rcv m .join (.str s) = true) = True := by simp [rcv]
theorem pick9 {m : Hs} {l : List D} {n : Int} (h : l.length = 9) : idxD m (.lst l) (.int (n % 9)) = some (selD l n) := idx_sel (by rw [h]; rfl) (by decide)
theorem slc_str {s : Str} (m : Hs) (lo hi : Option Int) (h : s.length ≤ 1000) : slcD m (.str s) lo hi = some (.str (L2.cutS s lo hi)) := by
  show (if s.length ≤ PySem.sizeLine then _ else _) = _
  rw [if_pos (by rw [PySem.sizeLine_eq]; omega)]
theorem nf_str {m : Hs} {s : Str} (h : s.length ≤ 1000) : NameFine m (.str s) := ⟨rfl, fun t e => by cases e; exact h⟩
theorem closed_sel {n : Nat} {l : List D} (i : Int) (h0 : l ≠ []) (h : ∀ x ∈ l, closedD n x = true) : closedD n (selD l i) = true := h _ (selD_mem i h0)
theorem text_ok {k : Nat} {m : Hs} {n : Int} {Q : D → Hs → Prop} (q : ∀ x, NameFine m x → Q x m) : vk (runFn P1 G1 (k + 1) 18 [.int n] m) Q := by
  refine vk_call b18 .drop [some (.int n), none, none, none, none] rfl rfl rfl rfl rfl ?_
  unfold b18
  have h9 := md n 9 (by decide)
  have s9 : (small (n % 9) = true) = True := eq_true (decide_eq_true ⟨by omega, by omega⟩)
  have l9 : ((rngL 0 (n % 9).toNat).length ≤ PySem.sizeLine) = True := sz_ok (by rw [rngL_len]; omega)
  simp only [pr_eq, vk_ok, s_cst, s_glob, s_var, s_tup, s_fz, s_alc, s_bin, s_neg, s_cmp, s_chain, s_isN, s_isB, s_and, s_or, s_and1, s_or1, s_and2, s_or2, s_not, s_ife, s_idx, s_slc, s_call, s_bi, s_isi, s_append, s_dsp, s_dnw, s_m1, s_es0, s_es1, s_ks0, s_ks1, s_no, s_so, s_disp, s_lstOf, s_rng3, s_seq, s_rng1, s_rng2, s_lc, s_lcIf, s_lcB, s_lcBI, s_nil, s_cons, s_expr, s_asg, s_sub, s_par, s_ret, s_retN, s_iff, s_for, s_pass, s_body, vB_true, vB_false, wo_some, wc_true, varD, refD, itD, blD, intD, isNonD, setAll, evT, evTs, bin_add, bin_sub, bin_mul, bin_div, bin_mod, bin_addS, bin_addT, bin_addL, cmp_eq, cmp_ne, cmp_in, cmp_nin, cmp_lt, cmp_le, cmp_gt, cmp_ge, eqD_int, eqD_bl, eqL_int, eqL_bl, List.getElem?_cons_zero, List.getElem?_cons_succ, List.set_cons_zero, List.set_cons_succ, List.length_cons, List.length_nil, Option.map_some, Option.map_none, Bool.not_true, Bool.not_false, if_true, if_false, Bool.false_eq_true, decide_true, decide_false, sz_ok, sz_lt, Nat.reduceLeDiff, Nat.reduceAdd, Nat.zero_le, Int.reduceNeg, wipe, cdw_t, cmul_r, cmul_l, Int.reduceLT, Int.reduceLE, s9, l9]
  simp only [rcv_str]
  simp only [pr_eq, vk_ok, s_cst, s_glob, s_var, s_tup, s_fz, s_alc, s_bin, s_neg, s_cmp, s_chain, s_isN, s_isB, s_and, s_or, s_and1, s_or1, s_and2, s_or2, s_not, s_ife, s_idx, s_slc, s_call, s_bi, s_isi, s_append, s_dsp, s_dnw, s_m1, s_es0, s_es1, s_ks0, s_ks1, s_no, s_so, s_disp, s_lstOf, s_rng3, s_seq, s_rng1, s_rng2, s_lc, s_lcIf, s_lcB, s_lcBI, s_nil, s_cons, s_expr, s_asg, s_sub, s_par, s_ret, s_retN, s_iff, s_for, s_pass, s_body, vB_true, vB_false, wo_some, wc_true, varD, refD, itD, blD, intD, isNonD, setAll, evT, evTs, bin_add, bin_sub, bin_mul, bin_div, bin_mod, bin_addS, bin_addT, bin_addL, cmp_eq, cmp_ne, cmp_in, cmp_nin, cmp_lt, cmp_le, cmp_gt, cmp_ge, eqD_int, eqD_bl, eqL_int, eqL_bl, List.getElem?_cons_zero, List.getElem?_cons_succ, List.set_cons_zero, List.set_cons_succ, List.length_cons, List.length_nil, Option.map_some, Option.map_none, Bool.not_true, Bool.not_false, if_true, if_false, Bool.false_eq_true, decide_true, decide_false, sz_ok, sz_lt, Nat.reduceLeDiff, Nat.reduceAdd, Nat.zero_le, Int.reduceNeg, wipe, cdw_t, cmul_r, cmul_l, Int.reduceLT, Int.reduceLE, s9, l9]
  refine vk_lcM (List.range (n % 9).toNat) _ (fun i => .str ⟨#[letAt (n / 9 + 5 * (0 + (i : Int)))]⟩) ?_ ?_
  · intro i hi
    simp only [pr_eq, vk_ok, s_cst, s_glob, s_var, s_tup, s_fz, s_alc, s_bin, s_neg, s_cmp, s_chain, s_isN, s_isB, s_and, s_or, s_and1, s_or1, s_and2, s_or2, s_not, s_ife, s_idx, s_slc, s_call, s_bi, s_isi, s_append, s_dsp, s_dnw, s_m1, s_es0, s_es1, s_ks0, s_ks1, s_no, s_so, s_disp, s_lstOf, s_rng3, s_seq, s_rng1, s_rng2, s_lc, s_lcIf, s_lcB, s_lcBI, s_nil, s_cons, s_expr, s_asg, s_sub, s_par, s_ret, s_retN, s_iff, s_for, s_pass, s_body, vB_true, vB_false, wo_some, wc_true, varD, refD, itD, blD, intD, isNonD, setAll, evT, evTs, bin_add, bin_sub, bin_mul, bin_div, bin_mod, bin_addS, bin_addT, bin_addL, cmp_eq, cmp_ne, cmp_in, cmp_nin, cmp_lt, cmp_le, cmp_gt, cmp_ge, eqD_int, eqD_bl, eqL_int, eqL_bl, List.getElem?_cons_zero, List.getElem?_cons_succ, List.set_cons_zero, List.set_cons_succ, List.length_cons, List.length_nil, Option.map_some, Option.map_none, Bool.not_true, Bool.not_false, if_true, if_false, Bool.false_eq_true, decide_true, decide_false, sz_ok, sz_lt, Nat.reduceLeDiff, Nat.reduceAdd, Nat.zero_le, Int.reduceNeg, wipe, cdw_t, cmul_r, cmul_l, Int.reduceLT, Int.reduceLE, idx_let]
    (first | trivial | exact ⟨trivial, trivial⟩ | exact ⟨rfl, rfl⟩ | exact ⟨trivial, rfl⟩ | exact ⟨rfl, trivial⟩ | (simp; done))
  have hl : (List.range (n % 9).toNat).length ≤ 1000 := by rw [List.length_range]; omega
  simp only [pr_eq, vk_ok, s_cst, s_glob, s_var, s_tup, s_fz, s_alc, s_bin, s_neg, s_cmp, s_chain, s_isN, s_isB, s_and, s_or, s_and1, s_or1, s_and2, s_or2, s_not, s_ife, s_idx, s_slc, s_call, s_bi, s_isi, s_append, s_dsp, s_dnw, s_m1, s_es0, s_es1, s_ks0, s_ks1, s_no, s_so, s_disp, s_lstOf, s_rng3, s_seq, s_rng1, s_rng2, s_lc, s_lcIf, s_lcB, s_lcBI, s_nil, s_cons, s_expr, s_asg, s_sub, s_par, s_ret, s_retN, s_iff, s_for, s_pass, s_body, vB_true, vB_false, wo_some, wc_true, varD, refD, itD, blD, intD, isNonD, setAll, evT, evTs, bin_add, bin_sub, bin_mul, bin_div, bin_mod, bin_addS, bin_addT, bin_addL, cmp_eq, cmp_ne, cmp_in, cmp_nin, cmp_lt, cmp_le, cmp_gt, cmp_ge, eqD_int, eqD_bl, eqL_int, eqL_bl, List.getElem?_cons_zero, List.getElem?_cons_succ, List.set_cons_zero, List.set_cons_succ, List.length_cons, List.length_nil, Option.map_some, Option.map_none, Bool.not_true, Bool.not_false, if_true, if_false, Bool.false_eq_true, decide_true, decide_false, sz_ok, sz_lt, Nat.reduceLeDiff, Nat.reduceAdd, Nat.zero_le, Int.reduceNeg, wipe, cdw_t, cmul_r, cmul_l, Int.reduceLT, Int.reduceLE, join_d _ _ _ hl]
  generalize hw : joined (fun (i : Nat) => letAt (n / 9 + 5 * (0 + (i : Int)))) (List.range (n % 9).toNat) = w
  have hwl : w.length ≤ 9 := by rw [← hw, joined_len, List.length_range]; omega
  have la : (PySem.Str.ofString "A").length = 1 := by decide +kernel
  have l1 : (PySem.Str.ofString "1").length = 1 := by decide +kernel
  have lb : (PySem.Str.ofString " ").length = 1 := by decide +kernel
  have ll : ∀ c, (⟨#[c]⟩ : Str).length = 1 := fun _ => rfl
  have lz : ∀ a b : Nat, a ≤ 9 → b ≤ 9 → (a + b ≤ PySem.sizeLine) = True := fun a b h h2 => sz_ok (by omega)
  have w1 := lz w.length 1 (by omega) (by omega)
  have w2 := lz 1 w.length (by omega) (by omega)
  simp only [pr_eq, vk_ok, s_cst, s_glob, s_var, s_tup, s_fz, s_alc, s_bin, s_neg, s_cmp, s_chain, s_isN, s_isB, s_and, s_or, s_and1, s_or1, s_and2, s_or2, s_not, s_ife, s_idx, s_slc, s_call, s_bi, s_isi, s_append, s_dsp, s_dnw, s_m1, s_es0, s_es1, s_ks0, s_ks1, s_no, s_so, s_disp, s_lstOf, s_rng3, s_seq, s_rng1, s_rng2, s_lc, s_lcIf, s_lcB, s_lcBI, s_nil, s_cons, s_expr, s_asg, s_sub, s_par, s_ret, s_retN, s_iff, s_for, s_pass, s_body, vB_true, vB_false, wo_some, wc_true, varD, refD, itD, blD, intD, isNonD, setAll, evT, evTs, bin_add, bin_sub, bin_mul, bin_div, bin_mod, bin_addS, bin_addT, bin_addL, cmp_eq, cmp_ne, cmp_in, cmp_nin, cmp_lt, cmp_le, cmp_gt, cmp_ge, eqD_int, eqD_bl, eqL_int, eqL_bl, List.getElem?_cons_zero, List.getElem?_cons_succ, List.set_cons_zero, List.set_cons_succ, List.length_cons, List.length_nil, Option.map_some, Option.map_none, Bool.not_true, Bool.not_false, if_true, if_false, Bool.false_eq_true, decide_true, decide_false, sz_ok, sz_lt, Nat.reduceLeDiff, Nat.reduceAdd, Nat.zero_le, Int.reduceNeg, wipe, cdw_t, cmul_r, cmul_l, Int.reduceLT, Int.reduceLE, ownD, idx_let, w1, w2, la, l1, lb, ll, slc_str _ _ _ (show w.length ≤ 1000 by omega), List.cons_append, List.nil_append, seld9]
  rw [vk_leave rfl]
  refine q _ ?_
  have := selD_mem (l := [.str w, .str (w ++ ⟨#[letAt n]⟩), .str (w ++ "A"), .str ("1" ++ w), .str (w ++ " "), .lst [.str w], .non, .int 5, .str (L2.cutS w none (some 1))]) (n / 234) (by simp)
  generalize selD _ _ = x at this ⊢
  simp only [List.mem_cons, List.not_mem_nil, or_false] at this
  have al := app_len
  obtain rfl | rfl | rfl | rfl | rfl | rfl | rfl | rfl | rfl := this
  · exact nf_str (by omega)
  · exact nf_str (by rw [al, ll]; omega)
  · exact nf_str (by rw [al, la]; omega)
  · exact nf_str (by rw [al, l1]; omega)
  · exact nf_str (by rw [al, lb]; omega)
  · exact ⟨rfl, fun s e => nomatch e⟩
  · exact ⟨rfl, fun s e => nomatch e⟩
  · exact ⟨rfl, fun s e => nomatch e⟩
  · exact nf_str (Nat.le_trans (L2.cutS_length ..) (by omega))
end Lw

set_option Elab.async false
set_option linter.all false
set_option maxRecDepth 100000
set_option maxHeartbeats 4000000
namespace Lw
open PySem (Str PyData)
/-! ### odd things -/
theorem fine_int (m : Hs) (i : Int) : Fine m (.int i) := ⟨rfl, fun _ e => (nomatch e), fun _ e => (nomatch e), fun _ e => (nomatch e)⟩
theorem fine_bl (m : Hs) (i : Bool) : Fine m (.bl i) := ⟨rfl, fun _ e => (nomatch e), fun _ e => (nomatch e), fun _ e => (nomatch e)⟩
theorem fine_tupI {m : Hs} {l : List D} (h : ∀ y ∈ l, fineD m y = true) (hl : l.length ≤ 1000) : Fine m (.tup l) := ⟨rfl, fun _ e => (nomatch e), fun _ e => by cases e; exact h, fun _ e => by cases e; exact hl⟩
theorem fine2_tup {m : Hs} {l : List D} (h : ∀ y ∈ l, Fine m y) (hl : l.length ≤ 1000) : Fine2 m (.tup l) := ⟨fine_tupI (fun y hy => (h y hy).me) hl, fun _ e => by cases e; exact h⟩
theorem fine2_of {m : Hs} {x : D} (h : Fine m x) (n : ∀ l, x ≠ .tup l) : Fine2 m x := ⟨h, fun l e => absurd e (n l)⟩
/-- what stands at a place of a care or a need -/
def PartOk (y : D) : Prop := ∀ m n, Fine m y ∧ closedD n y = true
theorem part_int (i : Int) : PartOk (.int i) := fun m n => ⟨fine_int m i, rfl⟩
theorem part_pair (i j : Int) : PartOk (.tup [.int i, .int j]) := fun m n => ⟨fine_tupI (by simp [fineD]) (by simp), rfl⟩
def shortI : ∀ n : Nat, n < 100 → (PyData.shown (.int (n : Int))).length ≤ 13 := by decide +kernel
theorem short_int {i : Int} (h : 0 ≤ i) (h2 : i ≤ 99) : (PyData.shown (.int i)).length ≤ 13 := by
  have := shortI i.toNat (by omega)
  rwa [show ((i.toNat : Nat) : Int) = i by omega] at this
theorem log_small {i : Int} (h : 0 ≤ i) (h2 : i ≤ 99) : i.natAbs.log2 < 1920 := by
  by_cases h0 : i.natAbs = 0
  · rw [h0]; decide
  · exact (Nat.log2_lt h0).mpr (Nat.lt_of_lt_of_le (show i.natAbs < 2 ^ 7 by omega) (Nat.pow_le_pow_right (by decide) (by decide)))
theorem sh_ok {m : Hs} {x : D} {d : PyData} (h : dp m x = some d) (h1 : PyData.layable0 d = true) (h2 : d.showable = true) (h3 : d.depth ≤ 60) (h4 : d.intsShort 13 = true) : shD m x = some d.shown := by
  have h5 := PyProof.Rows.shown_le13 h1 h4
  simp only [shD, h, PySem.SeqAt.shaped_of_layable h1, h2, decide_eq_true h3, Bool.and_self, Bool.true_and]
  rw [if_pos (by rw [decide_eq_true_eq, PySem.sizeLine_eq]; omega)]
theorem weight_int {i : Int} (h : 0 ≤ i) (h2 : i ≤ 99) : (if (i == 0) = true then 0 else i.natAbs.log2 + 1) ≤ 7 := by
  split
  · omega
  · rename_i h0
    have : i.natAbs ≠ 0 := fun z => h0 (by rw [show i = 0 by omega]; rfl)
    have := (Nat.log2_lt this).mpr (show i.natAbs < 2 ^ 7 by omega)
    omega
theorem sh_care {a b c d : Int} (h : ∀ i ∈ [a, b, c, d], 0 ≤ i ∧ i ≤ 99) : ∃ s, ∀ m, shD m (.tup [.int a, .int b, .int c, .int d]) = some s := by
  have ha := h a (by simp)
  have hb := h b (by simp)
  have hc := h c (by simp)
  have hd := h d (by simp)
  have wa := weight_int ha.1 ha.2
  have wb := weight_int hb.1 hb.2
  have wc := weight_int hc.1 hc.2
  have wd := weight_int hd.1 hd.2
  refine ⟨_, fun m => sh_ok (d := .tuple [.int a, .int b, .int c, .int d]) rfl ?_ ?_ ?_ ?_⟩
  · show ((_ && _) && _) = true
    rw [Bool.and_eq_true, Bool.and_eq_true]
    refine ⟨⟨rfl, rfl⟩, decide_eq_true ?_⟩
    simp only [PyData.weight, PyData.weightAll]
    omega
  · simp only [PyData.showable, PyData.showableAll, decide_eq_true (log_small ha.1 ha.2), decide_eq_true (log_small hb.1 hb.2), decide_eq_true (log_small hc.1 hc.2), decide_eq_true (log_small hd.1 hd.2), Bool.and_self]
  · simp [PyData.depth, PyData.depthAll]
  · simp only [PyData.intsShort, PyData.intsShortAll, decide_eq_true (short_int ha.1 ha.2), decide_eq_true (short_int hb.1 hb.2), decide_eq_true (short_int hc.1 hc.2), decide_eq_true (short_int hd.1 hd.2), Bool.and_self]
theorem sh_need {l a b c d g : Int} (h : NeedOk l a b c d g) : ∃ s, ∀ m, shD m (needD l a b c d g) = some s := by
  obtain ⟨l0, l1, a0, ab, b1, c0, cd, d1, g0, g1⟩ := h
  have wl := weight_int l0 l1
  have wa := weight_int a0 (by omega : a ≤ 99)
  have wb := weight_int (by omega : 0 ≤ b) b1
  have wc := weight_int c0 (by omega : c ≤ 99)
  have wd := weight_int (by omega : 0 ≤ d) d1
  have wg := weight_int g0 g1
  have sl := log_small l0 l1
  have sa := log_small a0 (by omega : a ≤ 99)
  have sb := log_small (by omega : 0 ≤ b) b1
  have sc := log_small c0 (by omega : c ≤ 99)
  have sd := log_small (by omega : 0 ≤ d) d1
  have sg := log_small g0 g1
  have tl := short_int l0 l1
  have ta := short_int a0 (by omega : a ≤ 99)
  have tb := short_int (by omega : 0 ≤ b) b1
  have tc := short_int c0 (by omega : c ≤ 99)
  have td := short_int (by omega : 0 ≤ d) d1
  have tg := short_int g0 g1
  refine ⟨_, fun m => sh_ok (d := .tuple [.int l, .tuple [.int a, .int b], .tuple [.int c, .int d], .int g]) rfl ?_ ?_ ?_ ?_⟩
  · show ((_ && _) && _) = true
    rw [Bool.and_eq_true, Bool.and_eq_true]
    refine ⟨⟨rfl, rfl⟩, decide_eq_true ?_⟩
    simp only [PyData.weight, PyData.weightAll]
    omega
  · simp only [PyData.showable, PyData.showableAll, decide_eq_true sl, decide_eq_true sa, decide_eq_true sb, decide_eq_true sc, decide_eq_true sd, decide_eq_true sg, Bool.and_self]
  · simp [PyData.depth, PyData.depthAll]
  · simp only [PyData.intsShort, PyData.intsShortAll, decide_eq_true tl, decide_eq_true ta, decide_eq_true tb, decide_eq_true tc, decide_eq_true td, decide_eq_true tg, Bool.and_self]
/-- the drop: what was made goes, if nothing tells of it -/
theorem vk_any {m w : Hs} {d : D} {Q : D → Hs → Prop} (hc : m.all (closedO m.length) = true) (hr : ∀ i, d ≠ .ref i) (q1 : closedD m.length d = true → Q d m) (q2 : Q d (m ++ w)) : vk (leave .drop m.length (.rt d (m ++ w))) Q := by
  cases h : closedD m.length d with
  | true => rw [vk_drop rfl hc (d' := d) (by cases d <;> first | exact absurd rfl (hr _) | simp [thaw, h])]; exact q1 h
  | false =>
    have e : thaw (m ++ w) m.length d = none := by cases d <;> first | exact absurd rfl (hr _) | simp [thaw, h]
    unfold leave vk wok
    simp only [List.take_left', hc, List.length_append, Nat.le_add_right, decide_true, Bool.and_self, if_true, e]
    exact q2
theorem fine_back {m w : Hs} {x : D} (h : Fine2 (m ++ w) x) (c : closedD m.length x = true) : Fine2 m x := by
  have f : ∀ y, fineD (m ++ w) y = true → closedD m.length y = true → fineD m y = true := by
    intro y hy cy
    cases y <;> try (first | rfl | exact hy)
    rename_i i
    have hi : i < m.length := by simpa [closedD] using cy
    simp only [fineD, List.getElem?_append_left hi] at hy
    exact hy
  have ca : ∀ {l : List D}, closedA m.length l = true → ∀ y ∈ l, closedD m.length y = true := by
    intro l
    induction l with
    | nil => intro _ y hy; cases hy
    | cons z l ih =>
      intro h y hy
      simp only [closedA, Bool.and_eq_true] at h
      rcases List.mem_cons.mp hy with rfl | hy
      · exact h.1
      · exact ih h.2 y hy
  have g : ∀ y, Fine (m ++ w) y → closedD m.length y = true → Fine m y := fun y hy cy =>
    ⟨f y hy.me cy, hy.nk, fun l e z hz => by subst e; exact f z (hy.it l rfl z hz) (ca (by simpa [closedD] using cy) z hz), hy.sm⟩
  exact ⟨g x h.toFine c, fun l e y hy => by subst e; exact g y (h.deep l rfl y hy) (ca (by simpa [closedD] using c) y hy)⟩
theorem mem_cut {l : List D} {lo hi : Option Int} {y : D} (h : y ∈ cut l lo hi) : y ∈ l := List.mem_of_mem_drop (List.mem_of_mem_take h)
theorem len_cut {l : List D} {lo hi : Option Int} : (cut l lo hi).length ≤ l.length := by
  unfold cut
  rw [List.length_take, List.length_drop]; omega
theorem slc_tup (m : Hs) (l : List D) (lo hi : Option Int) : slcD m (.tup l) lo hi = some (.tup (cut l lo hi)) := rfl
theorem seq_tup (m : Hs) (l : List D) : seqD m (.tup l) = some l := rfl
theorem closedA_all {n : Nat} {l : List D} (h : ∀ y ∈ l, closedD n y = true) : closedA n l = true := by
  induction l with
  | nil => rfl
  | cons z l ih => simp only [closedA, h z List.mem_cons_self, ih fun y hy => h y (List.mem_cons_of_mem _ hy), Bool.and_self]
theorem str1_tup {m : Hs} {l : List D} {s : Str} (h : shD m (.tup l) = some s) : biD m .str1 [.tup l] = some (.str s) := by simp [biD, isRefD, h]
/-- the odd parts -/
theorem odd_ok {k : Nat} {a : Int} {w : Hs} {x0 x1 x2 x3 l b c d e g n : Int} {Q : D → Hs → Prop} (hw : Gb w) (hc : ∀ i ∈ [x0, x1, x2, x3], 0 ≤ i ∧ i ≤ 99) (hd : NeedOk l b c d e g)
    (q : ∀ x w', Gb w' → Fine2 (S1 a w') x → Q x (S1 a w')) : vk (runFn P1 G1 (k + 1) 17 [.tup [.int x0, .int x1, .int x2, .int x3], needD l b c d e g, .int n] (S1 a w)) Q := by
  obtain ⟨t, et, ht, hpt, s, hs⟩ : ∃ t, selD [.tup [.int x0, .int x1, .int x2, .int x3], needD l b c d e g] n = .tup t ∧ t.length = 4 ∧ (∀ y ∈ t, PartOk y) ∧ ∃ s, ∀ m, shD m (.tup t) = some s := by
    have := selD_mem (l := [.tup [.int x0, .int x1, .int x2, .int x3], needD l b c d e g]) n (by simp)
    simp only [List.mem_cons, List.not_mem_nil, or_false] at this
    rcases this with h | h <;> rw [h]
    · refine ⟨_, rfl, rfl, ?_, sh_care hc⟩
      intro y hy
      simp only [List.mem_cons, List.not_mem_nil, or_false] at hy
      obtain rfl | rfl | rfl | rfl := hy <;> exact part_int _
    · refine ⟨_, rfl, rfl, ?_, sh_need hd⟩
      intro y hy
      simp only [List.mem_cons, List.not_mem_nil, or_false] at hy
      obtain rfl | rfl | rfl | rfl := hy <;> first | exact part_int _ | exact part_pair _ _
  refine vk_call b17 .drop [some (.tup [.int x0, .int x1, .int x2, .int x3]), some (needD l b c d e g), some (.int n), none, none, none, none] rfl rfl rfl rfl rfl ?_
  unfold b17
  simp only [pr_eq, vk_ok, s_cst, s_glob, s_var, s_tup, s_fz, s_alc, s_bin, s_neg, s_cmp, s_chain, s_isN, s_isB, s_and, s_or, s_and1, s_or1, s_and2, s_or2, s_not, s_ife, s_idx, s_slc, s_call, s_bi, s_isi, s_append, s_dsp, s_dnw, s_m1, s_es0, s_es1, s_ks0, s_ks1, s_no, s_so, s_disp, s_lstOf, s_rng3, s_seq, s_rng1, s_rng2, s_lc, s_lcIf, s_lcB, s_lcBI, s_nil, s_cons, s_expr, s_asg, s_sub, s_par, s_ret, s_retN, s_iff, s_for, s_pass, s_body, vB_true, vB_false, wo_some, wc_true, varD, refD, itD, blD, intD, isNonD, setAll, evT, evTs, bin_add, bin_sub, bin_mul, bin_div, bin_mod, bin_addS, bin_addT, bin_addL, cmp_eq, cmp_ne, cmp_in, cmp_nin, cmp_lt, cmp_le, cmp_gt, cmp_ge, eqD_int, eqD_bl, eqL_int, eqL_bl, List.getElem?_cons_zero, List.getElem?_cons_succ, List.set_cons_zero, List.set_cons_succ, List.length_cons, List.length_nil, Option.map_some, Option.map_none, Bool.not_true, Bool.not_false, if_true, if_false, Bool.false_eq_true, decide_true, decide_false, sz_ok, sz_lt, Nat.reduceLeDiff, Nat.reduceAdd, Nat.zero_le, Int.reduceNeg, wipe, cdw_t, cmul_r, cmul_l, Int.reduceLT, Int.reduceLE, seld15, seld2, et]
  have gw : Gb (w ++ [.dK []]) := fun n => by rw [List.all_append, hw n]; rfl
  have one := selD_mem (l := [D.bl true, .non, .int (0 - 1), .int 100, .str "5", .tup [.int 5], .lst [.int 5], .int 99, .int 0, .tup [.int 7, .int 5], .tup [.int 0, .int 99], .tup [.int 5, .int 5, .int 5], .ref (S1 a w).length, .tup [.int 5, .bl true], .tup [.int 100, .int 100]]) (n / 8) (by simp)
  generalize selD _ (n / 8) = o at one ⊢
  have ho : ∀ i, closedD i o = true ∨ o = .ref (S1 a w).length := by
    intro i
    simp only [List.mem_cons, List.not_mem_nil, or_false] at one
    obtain rfl | rfl | rfl | rfl | rfl | rfl | rfl | rfl | rfl | rfl | rfl | rfl | rfl | rfl | rfl := one <;> first | exact .inl rfl | exact .inr rfl
  have hm : S1 a w ++ [.dK []] = S1 a (w ++ [.dK []]) := rfl
  have fo : Fine2 (S1 a w ++ [.dK []]) o := by
    simp only [List.mem_cons, List.not_mem_nil, or_false] at one
    obtain rfl | rfl | rfl | rfl | rfl | rfl | rfl | rfl | rfl | rfl | rfl | rfl | rfl | rfl | rfl := one <;> first
      | exact fine2_tup (by intro y hy; simp only [List.mem_cons, List.not_mem_nil, or_false] at hy; rcases hy with rfl | rfl | rfl <;> first | exact fine_int _ _ | exact fine_bl _ _) (by simp)
      | exact fine2_tup (by intro y hy; simp only [List.mem_cons, List.not_mem_nil, or_false] at hy; rcases hy with rfl | rfl <;> first | exact fine_int _ _ | exact fine_bl _ _) (by simp)
      | exact fine2_tup (by intro y hy; simp only [List.mem_cons, List.not_mem_nil, or_false] at hy; rcases hy with rfl; exact fine_int _ _) (by simp)
      | exact fine2_of ⟨rfl, fun _ e => (nomatch e), fun _ e => (nomatch e), fun _ e => (nomatch e)⟩ (fun _ e => (nomatch e))
      | exact fine2_of ⟨by simp [fineD], fun _ e => (nomatch e), fun _ e => (nomatch e), fun _ e => (nomatch e)⟩ (fun _ e => (nomatch e))
  have fin : ∀ x, Fine2 (S1 a w ++ [.dK []]) x → vk (leave .drop (S1 a w).length (.rt x (S1 a w ++ [.dK []]))) Q := by
    intro x hx
    by_cases hr : ∃ i, x = .ref i
    · obtain ⟨i, rfl⟩ := hr
      have cl := S1_closed (a := a) hw (S1 a w).length
      cases hi : decide (i < (S1 a w).length) with
      | true =>
        rw [vk_drop rfl cl (d' := .ref i) (by rw [thaw, if_pos (of_decide_eq_true hi)])]
        exact q _ _ hw (fine_back hx (by simpa [closedD] using hi))
      | false =>
        have hme := hx.me
        have e : i = (S1 a w).length := by
          have : i < (S1 a w ++ [O.dK []]).length := by
            refine Classical.byContradiction fun z => ?_
            simp only [fineD, List.getElem?_eq_none (Nat.not_lt.mp z)] at hme
            cases hme
          rw [List.length_append] at this
          have := of_decide_eq_false hi
          simp at *
          omega
        have e2 : thaw (S1 a w ++ [O.dK []]) (S1 a w).length (.ref i) = none := by
          rw [thaw, if_neg (of_decide_eq_false hi), e]
          simp
        unfold leave vk wok
        simp only [List.take_left', cl, List.length_append, Nat.le_add_right, decide_true, Bool.and_self, if_true, e2]
        exact q _ _ gw hx
    · exact vk_any (S1_closed hw _) (fun i e => hr ⟨i, e⟩) (fun c => q _ _ hw (fine_back hx c)) (q _ _ gw hx)
  have sub : ∀ l' : List D, (∀ y ∈ l', y ∈ t ∨ y = o) → l'.length ≤ 1000 → Fine2 (S1 a w ++ [.dK []]) (.tup l') := fun l' h1 h2 => fine2_tup (fun y hy => by
    rcases h1 y hy with h | rfl
    · exact (hpt y h _ 0).1
    · exact fo.toFine) h2
  have lz : ∀ (lo hi : Option Int) (j : Nat), j ≤ 9 → ((cut t lo hi).length + j ≤ PySem.sizeLine) = True := fun lo hi j hj => sz_ok (by have := @len_cut t lo hi; omega)
  have lz2 : ∀ (lo hi lo' hi' : Option Int), ((cut t lo hi).length + 1 + (cut t lo' hi').length ≤ PySem.sizeLine) = True := fun lo hi lo' hi' => sz_ok (by have := @len_cut t lo hi; have := @len_cut t lo' hi'; omega)
  have l4 : (t.length + 1 ≤ PySem.sizeLine) = True := sz_ok (by omega)
  refine vB_dec (fun h1 => ?_) (fun h1 => ?_)
  · simp only [pr_eq, vk_ok, s_cst, s_glob, s_var, s_tup, s_fz, s_alc, s_bin, s_neg, s_cmp, s_chain, s_isN, s_isB, s_and, s_or, s_and1, s_or1, s_and2, s_or2, s_not, s_ife, s_idx, s_slc, s_call, s_bi, s_isi, s_append, s_dsp, s_dnw, s_m1, s_es0, s_es1, s_ks0, s_ks1, s_no, s_so, s_disp, s_lstOf, s_rng3, s_seq, s_rng1, s_rng2, s_lc, s_lcIf, s_lcB, s_lcBI, s_nil, s_cons, s_expr, s_asg, s_sub, s_par, s_ret, s_retN, s_iff, s_for, s_pass, s_body, vB_true, vB_false, wo_some, wc_true, varD, refD, itD, blD, intD, isNonD, setAll, evT, evTs, bin_add, bin_sub, bin_mul, bin_div, bin_mod, bin_addS, bin_addT, bin_addL, cmp_eq, cmp_ne, cmp_in, cmp_nin, cmp_lt, cmp_le, cmp_gt, cmp_ge, eqD_int, eqD_bl, eqL_int, eqL_bl, List.getElem?_cons_zero, List.getElem?_cons_succ, List.set_cons_zero, List.set_cons_succ, List.length_cons, List.length_nil, Option.map_some, Option.map_none, Bool.not_true, Bool.not_false, if_true, if_false, Bool.false_eq_true, decide_true, decide_false, sz_ok, sz_lt, Nat.reduceLeDiff, Nat.reduceAdd, Nat.zero_le, Int.reduceNeg, wipe, cdw_t, cmul_r, cmul_l, Int.reduceLT, Int.reduceLE, seq_tup, slc_tup, l4, str1_tup (hs _), seld6]
    refine fin _ ?_
    have := selD_mem (l := [.lst t, .tup (cut t none (some 3)), .tup (t ++ [o]), o, .str s, .non]) (n / 1080) (by simp)
    generalize selD _ (n / 1080) = x at this ⊢
    simp only [List.mem_cons, List.not_mem_nil, or_false] at this
    obtain rfl | rfl | rfl | rfl | rfl | rfl := this
    · exact fine2_of ⟨rfl, fun _ e => (nomatch e), fun _ e => (nomatch e), fun _ e => (nomatch e)⟩ (fun _ e => (nomatch e))
    · exact sub _ (fun y hy => .inl (mem_cut hy)) (by have := @len_cut t none (some 3); omega)
    · exact sub _ (fun y hy => by rcases List.mem_append.mp hy with h | h <;> first | exact .inl h | exact .inr (by simpa using h)) (by simp; omega)
    · exact fo
    · exact fine2_of ⟨rfl, fun _ e => (nomatch e), fun _ e => (nomatch e), fun _ e => (nomatch e)⟩ (fun _ e => (nomatch e))
    · exact fine2_of ⟨rfl, fun _ e => (nomatch e), fun _ e => (nomatch e), fun _ e => (nomatch e)⟩ (fun _ e => (nomatch e))
  · simp only [pr_eq, vk_ok, s_cst, s_glob, s_var, s_tup, s_fz, s_alc, s_bin, s_neg, s_cmp, s_chain, s_isN, s_isB, s_and, s_or, s_and1, s_or1, s_and2, s_or2, s_not, s_ife, s_idx, s_slc, s_call, s_bi, s_isi, s_append, s_dsp, s_dnw, s_m1, s_es0, s_es1, s_ks0, s_ks1, s_no, s_so, s_disp, s_lstOf, s_rng3, s_seq, s_rng1, s_rng2, s_lc, s_lcIf, s_lcB, s_lcBI, s_nil, s_cons, s_expr, s_asg, s_sub, s_par, s_ret, s_retN, s_iff, s_for, s_pass, s_body, vB_true, vB_false, wo_some, wc_true, varD, refD, itD, blD, intD, isNonD, setAll, evT, evTs, bin_add, bin_sub, bin_mul, bin_div, bin_mod, bin_addS, bin_addT, bin_addL, cmp_eq, cmp_ne, cmp_in, cmp_nin, cmp_lt, cmp_le, cmp_gt, cmp_ge, eqD_int, eqD_bl, eqL_int, eqL_bl, List.getElem?_cons_zero, List.getElem?_cons_succ, List.set_cons_zero, List.set_cons_succ, List.length_cons, List.length_nil, Option.map_some, Option.map_none, Bool.not_true, Bool.not_false, if_true, if_false, Bool.false_eq_true, decide_true, decide_false, sz_ok, sz_lt, Nat.reduceLeDiff, Nat.reduceAdd, Nat.zero_le, Int.reduceNeg, wipe, cdw_t, cmul_r, cmul_l, Int.reduceLT, Int.reduceLE, slc_tup, lz, lz2, List.length_append]
    refine fin _ (sub _ (fun y hy => ?_) ?_)
    · rcases List.mem_append.mp hy with h | h
      · rcases List.mem_append.mp h with h | h
        · exact .inl (mem_cut h)
        · exact .inr (by simpa using h)
      · exact .inl (mem_cut h)
    · rw [List.length_append, List.length_append]
      have := @len_cut t none (some (n / 2 % 4))
      have := @len_cut t (some (n / 2 % 4 + 1)) none
      simp only [List.length_cons, List.length_nil]
      omega
end Lw

set_option Elab.async false
set_option linter.all false
set_option maxRecDepth 100000
set_option maxHeartbeats 4000000
namespace Lw
open PySem (Str PyData)
/-! ### the law -/
def cr (x0 x1 x2 x3 i : Int) : Int := if i = 0 then x0 else if i = 1 then x1 else if i = 2 then x2 else x3
theorem mem4 {i : Int} (h : i ∈ ([0, 1, 2, 3] : List Int)) : i = 0 ∨ i = 1 ∨ i = 2 ∨ i = 3 := by simpa using h
theorem care_at (m : Hs) {x0 x1 x2 x3 i : Int} (h : i = 0 ∨ i = 1 ∨ i = 2 ∨ i = 3) : idxD m (.tup [.int x0, .int x1, .int x2, .int x3]) (.int i) = some (.int (cr x0 x1 x2 x3 i)) := by
  obtain rfl | rfl | rfl | rfl := h <;> rfl
theorem eqL_ints (m : Hs) (l : List Int) : eqL m (.lst (l.map D.int)) (.lst []) = some (decide (l = [])) := eqL_of (eqD_ints (isInts_lst m l) (isInts_nil m))
theorem filt4 (p : Int → Bool) : decide (([0, 1, 2, 3] : List Int).filter (fun i => !p i) = []) = (p 0 && p 1 && p 2 && p 3) := by
  cases h0 : p 0 <;> cases h1 : p 1 <;> cases h2 : p 2 <;> cases h3 : p 3 <;> simp [List.filter, h0, h1, h2, h3]
theorem four_range : rngL 0 (Int.toNat 4) = ([0, 1, 2, 3] : List Int).map D.int := rfl
theorem lv_iff {l a b c d g l' a' b' c' d' g' : Int} (h : NeedOk l a b c d g) (h' : NeedOk l' a' b' c' d' g') : within l a b c d g l' a' b' c' d' g' ↔
    (levels l a b c d g l' a' b' c' d' g' 0 ∧ levels l a b c d g l' a' b' c' d' g' 1 ∧ levels l a b c d g l' a' b' c' d' g' 2 ∧ levels l a b c d g l' a' b' c' d' g' 3) := by
  obtain ⟨l0, l1, a0, ab, b1, c0, cd, d1, g0, g1⟩ := h
  have e0 : ∀ l a b c d g x, lvOk l a b c d g x 0 = decide (x ≤ l) := fun _ _ _ _ _ _ _ => rfl
  have e1 : ∀ l a b c d g x, lvOk l a b c d g x 1 = decide (a ≤ x ∧ x ≤ b) := fun _ _ _ _ _ _ _ => rfl
  have e2 : ∀ l a b c d g x, lvOk l a b c d g x 2 = decide (c ≤ x ∧ x ≤ d) := fun _ _ _ _ _ _ _ => rfl
  have e3 : ∀ l a b c d g x, lvOk l a b c d g x 3 = decide (g ≤ x) := fun _ _ _ _ _ _ _ => rfl
  unfold within levels
  simp only [e0, e1, e2, e3, decide_eq_true_eq]
  constructor
  · rintro ⟨h1, h2, h3, h4⟩
    exact ⟨fun x _ _ _ => by omega, fun x _ _ _ => by omega, fun x _ _ _ => by omega, fun x _ _ _ => by omega⟩
  · rintro ⟨h1, h2, h3, h4⟩
    have k1 := h1 l l0 (by omega) (by omega)
    have k2 := h2 a a0 (by omega) (by omega)
    have k3 := h2 b (by omega) (by omega) (by omega)
    have k4 := h3 c c0 (by omega) (by omega)
    have k5 := h3 d (by omega) (by omega) (by omega)
    have k6 := h4 g g0 (by omega) (by omega)
    omega
theorem okNeed_need {l a b c d g : Int} (h : NeedOk l a b c d g) : okNeed (needD l a b c d g) = true := by
  obtain ⟨l0, l1, a0, ab, b1, c0, cd, d1, g0, g1⟩ := h
  have w : ∀ i : Int, 0 ≤ i → i ≤ 99 → okW (.int i) 99 = true := fun i h1 h2 => decide_eq_true ⟨h1, h2⟩
  have s1 : okStr (.tup [.int a, .int b]) = true := by
    show (okW (.int a) 99 && okW (.int b) 99 && decide (a ≤ b)) = true
    rw [w a a0 (by omega), w b (by omega) b1, decide_eq_true ab]; rfl
  have s2 : okStr (.tup [.int c, .int d]) = true := by
    show (okW (.int c) 99 && okW (.int d) 99 && decide (c ≤ d)) = true
    rw [w c c0 (by omega), w d (by omega) d1, decide_eq_true cd]; rfl
  show (okW (.int l) 99 && okW (.int g) 99 && okStr (.tup [.int a, .int b]) && okStr (.tup [.int c, .int d])) = true
  rw [w l l0 l1, w g g0 g1, s1, s2]; rfl
theorem fine2_need (m : Hs) (l a b c d g : Int) : Fine2 m (needD l a b c d g) := fine2_tup (fun y hy => by
  simp only [List.mem_cons, List.not_mem_nil, or_false] at hy
  obtain rfl | rfl | rfl | rfl := hy <;> first | exact fine_int _ _ | exact (part_pair _ _ m 0).1) (by simp)
theorem fine2_care (m : Hs) (a b c d : Int) : Fine2 m (.tup [.int a, .int b, .int c, .int d]) := fine2_tup (fun y hy => by
  simp only [List.mem_cons, List.not_mem_nil, or_false] at hy
  obtain rfl | rfl | rfl | rfl := hy <;> exact fine_int _ _) (by simp)
open Classical in
theorem law_ok (P : List Fn) (hP : P = P1) (ns : List Int) (hl : ns.length ≤ 63) : vk (runFn P G1 30 21 [.sct (ofI ns)] []) (fun d _ => d = .bl true) := by
  refine vk_call (F := d21.F) b21 .drop [some (.sct (ofI ns)), none, none, none, none, none, none, none, none, none, none, none, none, none] (by rw [hP]; rfl) rfl rfl rfl rfl ?_
  simp only [hP]
  unfold b21
  have hs0 : ([] ++ [O.lst [.int 0]] : Hs) = S1 0 [] := rfl
  have h21 : small (2 + (ns.length : Int) / 3) = true := decide_eq_true ⟨by omega, by omega⟩
  simp only [pr_eq, vk_ok, s_cst, s_glob, s_var, s_tup, s_fz, s_alc, s_bin, s_neg, s_cmp, s_chain, s_isN, s_isB, s_and, s_or, s_and1, s_or1, s_and2, s_or2, s_not, s_ife, s_idx, s_slc, s_call, s_bi, s_isi, s_append, s_dsp, s_dnw, s_m1, s_es0, s_es1, s_ks0, s_ks1, s_no, s_so, s_disp, s_lstOf, s_rng3, s_seq, s_rng1, s_rng2, s_lc, s_lcIf, s_lcB, s_lcBI, s_nil, s_cons, s_expr, s_asg, s_sub, s_par, s_ret, s_retN, s_iff, s_for, s_pass, s_body, vB_true, vB_false, wo_some, wc_true, varD, refD, itD, blD, intD, isNonD, setAll, evT, evTs, bin_add, bin_sub, bin_mul, bin_div, bin_mod, bin_addS, bin_addT, bin_addL, cmp_eq, cmp_ne, cmp_in, cmp_nin, cmp_lt, cmp_le, cmp_gt, cmp_ge, eqD_int, eqD_bl, eqL_int, eqL_bl, List.getElem?_cons_zero, List.getElem?_cons_succ, List.set_cons_zero, List.set_cons_succ, List.length_cons, List.length_nil, Option.map_some, Option.map_none, Bool.not_true, Bool.not_false, if_true, if_false, Bool.false_eq_true, decide_true, decide_false, sz_ok, sz_lt, Nat.reduceLeDiff, Nat.reduceAdd, Nat.zero_le, Int.reduceNeg, wipe, cdw_t, cmul_r, cmul_l, Int.reduceLT, Int.reduceLE, len_sct, hs0, h21]
  refine vS_go (fun i ρ m => ∃ (a : Int) (w : Hs), (∃ (v2 v3 v4 v5 v6 v7 v8 v9 v10 v11 v12 v13 : Option D), ρ = [some (.sct (ofI ns)), some (.ref 0), v2, v3, v4, v5, v6, v7, v8, v9, v10, v11, v12, v13]) ∧ m = S1 a w ∧ Gb w ∧ i ≤ 23 ∧ a = 17 * (i : Int)) ⟨0, [], ⟨_, _, _, _, _, _, _, _, _, _, _, _, rfl⟩, rfl, (fun n => rfl), by decide, rfl⟩ ?_ ?_
  · rintro i x ρ m hx ⟨a, w, ⟨v2, v3, v4, v5, v6, v7, v8, v9, v10, v11, v12, v13, rfl⟩, rfl, hw, hi, ha⟩
    have hi2 : i < 23 := by
      have := (List.getElem?_eq_some_iff.mp hx).1
      rw [rngL_len] at this
      omega
    simp only [pr_eq, vk_ok, s_cst, s_glob, s_var, s_tup, s_fz, s_alc, s_bin, s_neg, s_cmp, s_chain, s_isN, s_isB, s_and, s_or, s_and1, s_or1, s_and2, s_or2, s_not, s_ife, s_idx, s_slc, s_call, s_bi, s_isi, s_append, s_dsp, s_dnw, s_m1, s_es0, s_es1, s_ks0, s_ks1, s_no, s_so, s_disp, s_lstOf, s_rng3, s_seq, s_rng1, s_rng2, s_lc, s_lcIf, s_lcB, s_lcBI, s_nil, s_cons, s_expr, s_asg, s_sub, s_par, s_ret, s_retN, s_iff, s_for, s_pass, s_body, vB_true, vB_false, wo_some, wc_true, varD, refD, itD, blD, intD, isNonD, setAll, evT, evTs, bin_add, bin_sub, bin_mul, bin_div, bin_mod, bin_addS, bin_addT, bin_addL, cmp_eq, cmp_ne, cmp_in, cmp_nin, cmp_lt, cmp_le, cmp_gt, cmp_ge, eqD_int, eqD_bl, eqL_int, eqL_bl, List.getElem?_cons_zero, List.getElem?_cons_succ, List.set_cons_zero, List.set_cons_succ, List.length_cons, List.length_nil, Option.map_some, Option.map_none, Bool.not_true, Bool.not_false, if_true, if_false, Bool.false_eq_true, decide_true, decide_false, sz_ok, sz_lt, Nat.reduceLeDiff, Nat.reduceAdd, Nat.zero_le, Int.reduceNeg, wipe, cdw_t, cmul_r, cmul_l, Int.reduceLT, Int.reduceLE]
    refine need_ok hl (by omega) (by omega) hw fun l b c d e g hN => ?_
    simp only [pr_eq, vk_ok, s_cst, s_glob, s_var, s_tup, s_fz, s_alc, s_bin, s_neg, s_cmp, s_chain, s_isN, s_isB, s_and, s_or, s_and1, s_or1, s_and2, s_or2, s_not, s_ife, s_idx, s_slc, s_call, s_bi, s_isi, s_append, s_dsp, s_dnw, s_m1, s_es0, s_es1, s_ks0, s_ks1, s_no, s_so, s_disp, s_lstOf, s_rng3, s_seq, s_rng1, s_rng2, s_lc, s_lcIf, s_lcB, s_lcBI, s_nil, s_cons, s_expr, s_asg, s_sub, s_par, s_ret, s_retN, s_iff, s_for, s_pass, s_body, vB_true, vB_false, wo_some, wc_true, varD, refD, itD, blD, intD, isNonD, setAll, evT, evTs, bin_add, bin_sub, bin_mul, bin_div, bin_mod, bin_addS, bin_addT, bin_addL, cmp_eq, cmp_ne, cmp_in, cmp_nin, cmp_lt, cmp_le, cmp_gt, cmp_ge, eqD_int, eqD_bl, eqL_int, eqL_bl, List.getElem?_cons_zero, List.getElem?_cons_succ, List.set_cons_zero, List.set_cons_succ, List.length_cons, List.length_nil, Option.map_some, Option.map_none, Bool.not_true, Bool.not_false, if_true, if_false, Bool.false_eq_true, decide_true, decide_false, sz_ok, sz_lt, Nat.reduceLeDiff, Nat.reduceAdd, Nat.zero_le, Int.reduceNeg, wipe, cdw_t, cmul_r, cmul_l, Int.reduceLT, Int.reduceLE]
    refine need_ok hl (by omega) (by omega) hw fun l' b' c' d' e' g' hN' => ?_
    simp only [pr_eq, vk_ok, s_cst, s_glob, s_var, s_tup, s_fz, s_alc, s_bin, s_neg, s_cmp, s_chain, s_isN, s_isB, s_and, s_or, s_and1, s_or1, s_and2, s_or2, s_not, s_ife, s_idx, s_slc, s_call, s_bi, s_isi, s_append, s_dsp, s_dnw, s_m1, s_es0, s_es1, s_ks0, s_ks1, s_no, s_so, s_disp, s_lstOf, s_rng3, s_seq, s_rng1, s_rng2, s_lc, s_lcIf, s_lcB, s_lcBI, s_nil, s_cons, s_expr, s_asg, s_sub, s_par, s_ret, s_retN, s_iff, s_for, s_pass, s_body, vB_true, vB_false, wo_some, wc_true, varD, refD, itD, blD, intD, isNonD, setAll, evT, evTs, bin_add, bin_sub, bin_mul, bin_div, bin_mod, bin_addS, bin_addT, bin_addL, cmp_eq, cmp_ne, cmp_in, cmp_nin, cmp_lt, cmp_le, cmp_gt, cmp_ge, eqD_int, eqD_bl, eqL_int, eqL_bl, List.getElem?_cons_zero, List.getElem?_cons_succ, List.set_cons_zero, List.set_cons_succ, List.length_cons, List.length_nil, Option.map_some, Option.map_none, Bool.not_true, Bool.not_false, if_true, if_false, Bool.false_eq_true, decide_true, decide_false, sz_ok, sz_lt, Nat.reduceLeDiff, Nat.reduceAdd, Nat.zero_le, Int.reduceNeg, wipe, cdw_t, cmul_r, cmul_l, Int.reduceLT, Int.reduceLE]
    refine cell_ok hl (by omega) (by omega) fun n hn => ?_
    obtain ⟨wd, ew, hwd⟩ := pick3 (S1 (a + 5 + 5 + 1) w) 4 12 100 n
    have pw : 0 < wd := by omega
    have s4 : small 4 = true := rfl
    have r4 : rngL 0 (Int.toNat 4) = [.int 0, .int 1, .int 2, .int 3] := rfl
    simp only [pr_eq, vk_ok, s_cst, s_glob, s_var, s_tup, s_fz, s_alc, s_bin, s_neg, s_cmp, s_chain, s_isN, s_isB, s_and, s_or, s_and1, s_or1, s_and2, s_or2, s_not, s_ife, s_idx, s_slc, s_call, s_bi, s_isi, s_append, s_dsp, s_dnw, s_m1, s_es0, s_es1, s_ks0, s_ks1, s_no, s_so, s_disp, s_lstOf, s_rng3, s_seq, s_rng1, s_rng2, s_lc, s_lcIf, s_lcB, s_lcBI, s_nil, s_cons, s_expr, s_asg, s_sub, s_par, s_ret, s_retN, s_iff, s_for, s_pass, s_body, vB_true, vB_false, wo_some, wc_true, varD, refD, itD, blD, intD, isNonD, setAll, evT, evTs, bin_add, bin_sub, bin_mul, bin_div, bin_mod, bin_addS, bin_addT, bin_addL, cmp_eq, cmp_ne, cmp_in, cmp_nin, cmp_lt, cmp_le, cmp_gt, cmp_ge, eqD_int, eqD_bl, eqL_int, eqL_bl, List.getElem?_cons_zero, List.getElem?_cons_succ, List.set_cons_zero, List.set_cons_succ, List.length_cons, List.length_nil, Option.map_some, Option.map_none, Bool.not_true, Bool.not_false, if_true, if_false, Bool.false_eq_true, decide_true, decide_false, sz_ok, sz_lt, Nat.reduceLeDiff, Nat.reduceAdd, Nat.zero_le, Int.reduceNeg, wipe, cdw_t, cmul_r, cmul_l, Int.reduceLT, Int.reduceLE, ew, s4, r4, s_lc1, s_lc0]
    refine cell_ok hl (by omega) (by omega) fun r0 h0 => ?_
    simp only [pr_eq, vk_ok, s_cst, s_glob, s_var, s_tup, s_fz, s_alc, s_bin, s_neg, s_cmp, s_chain, s_isN, s_isB, s_and, s_or, s_and1, s_or1, s_and2, s_or2, s_not, s_ife, s_idx, s_slc, s_call, s_bi, s_isi, s_append, s_dsp, s_dnw, s_m1, s_es0, s_es1, s_ks0, s_ks1, s_no, s_so, s_disp, s_lstOf, s_rng3, s_seq, s_rng1, s_rng2, s_lc, s_lcIf, s_lcB, s_lcBI, s_nil, s_cons, s_expr, s_asg, s_sub, s_par, s_ret, s_retN, s_iff, s_for, s_pass, s_body, vB_true, vB_false, wo_some, wc_true, varD, refD, itD, blD, intD, isNonD, setAll, evT, evTs, bin_add, bin_sub, bin_mul, bin_div, bin_mod, bin_addS, bin_addT, bin_addL, cmp_eq, cmp_ne, cmp_in, cmp_nin, cmp_lt, cmp_le, cmp_gt, cmp_ge, eqD_int, eqD_bl, eqL_int, eqL_bl, List.getElem?_cons_zero, List.getElem?_cons_succ, List.set_cons_zero, List.set_cons_succ, List.length_cons, List.length_nil, Option.map_some, Option.map_none, Bool.not_true, Bool.not_false, if_true, if_false, Bool.false_eq_true, decide_true, decide_false, sz_ok, sz_lt, Nat.reduceLeDiff, Nat.reduceAdd, Nat.zero_le, Int.reduceNeg, wipe, cdw_t, cmul_r, cmul_l, Int.reduceLT, Int.reduceLE, pw, s_lc1, s_lc0]
    refine cell_ok hl (by omega) (by omega) fun r1 h1 => ?_
    simp only [pr_eq, vk_ok, s_cst, s_glob, s_var, s_tup, s_fz, s_alc, s_bin, s_neg, s_cmp, s_chain, s_isN, s_isB, s_and, s_or, s_and1, s_or1, s_and2, s_or2, s_not, s_ife, s_idx, s_slc, s_call, s_bi, s_isi, s_append, s_dsp, s_dnw, s_m1, s_es0, s_es1, s_ks0, s_ks1, s_no, s_so, s_disp, s_lstOf, s_rng3, s_seq, s_rng1, s_rng2, s_lc, s_lcIf, s_lcB, s_lcBI, s_nil, s_cons, s_expr, s_asg, s_sub, s_par, s_ret, s_retN, s_iff, s_for, s_pass, s_body, vB_true, vB_false, wo_some, wc_true, varD, refD, itD, blD, intD, isNonD, setAll, evT, evTs, bin_add, bin_sub, bin_mul, bin_div, bin_mod, bin_addS, bin_addT, bin_addL, cmp_eq, cmp_ne, cmp_in, cmp_nin, cmp_lt, cmp_le, cmp_gt, cmp_ge, eqD_int, eqD_bl, eqL_int, eqL_bl, List.getElem?_cons_zero, List.getElem?_cons_succ, List.set_cons_zero, List.set_cons_succ, List.length_cons, List.length_nil, Option.map_some, Option.map_none, Bool.not_true, Bool.not_false, if_true, if_false, Bool.false_eq_true, decide_true, decide_false, sz_ok, sz_lt, Nat.reduceLeDiff, Nat.reduceAdd, Nat.zero_le, Int.reduceNeg, wipe, cdw_t, cmul_r, cmul_l, Int.reduceLT, Int.reduceLE, pw, s_lc1, s_lc0]
    refine cell_ok hl (by omega) (by omega) fun r2 h2 => ?_
    simp only [pr_eq, vk_ok, s_cst, s_glob, s_var, s_tup, s_fz, s_alc, s_bin, s_neg, s_cmp, s_chain, s_isN, s_isB, s_and, s_or, s_and1, s_or1, s_and2, s_or2, s_not, s_ife, s_idx, s_slc, s_call, s_bi, s_isi, s_append, s_dsp, s_dnw, s_m1, s_es0, s_es1, s_ks0, s_ks1, s_no, s_so, s_disp, s_lstOf, s_rng3, s_seq, s_rng1, s_rng2, s_lc, s_lcIf, s_lcB, s_lcBI, s_nil, s_cons, s_expr, s_asg, s_sub, s_par, s_ret, s_retN, s_iff, s_for, s_pass, s_body, vB_true, vB_false, wo_some, wc_true, varD, refD, itD, blD, intD, isNonD, setAll, evT, evTs, bin_add, bin_sub, bin_mul, bin_div, bin_mod, bin_addS, bin_addT, bin_addL, cmp_eq, cmp_ne, cmp_in, cmp_nin, cmp_lt, cmp_le, cmp_gt, cmp_ge, eqD_int, eqD_bl, eqL_int, eqL_bl, List.getElem?_cons_zero, List.getElem?_cons_succ, List.set_cons_zero, List.set_cons_succ, List.length_cons, List.length_nil, Option.map_some, Option.map_none, Bool.not_true, Bool.not_false, if_true, if_false, Bool.false_eq_true, decide_true, decide_false, sz_ok, sz_lt, Nat.reduceLeDiff, Nat.reduceAdd, Nat.zero_le, Int.reduceNeg, wipe, cdw_t, cmul_r, cmul_l, Int.reduceLT, Int.reduceLE, pw, s_lc1, s_lc0]
    refine cell_ok hl (by omega) (by omega) fun r3 h3 => ?_
    have tu : ∀ (m : Hs) (l : List D), biD m .tup1 [.lst l] = some (.tup l) := fun _ _ => rfl
    simp only [pr_eq, vk_ok, s_cst, s_glob, s_var, s_tup, s_fz, s_alc, s_bin, s_neg, s_cmp, s_chain, s_isN, s_isB, s_and, s_or, s_and1, s_or1, s_and2, s_or2, s_not, s_ife, s_idx, s_slc, s_call, s_bi, s_isi, s_append, s_dsp, s_dnw, s_m1, s_es0, s_es1, s_ks0, s_ks1, s_no, s_so, s_disp, s_lstOf, s_rng3, s_seq, s_rng1, s_rng2, s_lc, s_lcIf, s_lcB, s_lcBI, s_nil, s_cons, s_expr, s_asg, s_sub, s_par, s_ret, s_retN, s_iff, s_for, s_pass, s_body, vB_true, vB_false, wo_some, wc_true, varD, refD, itD, blD, intD, isNonD, setAll, evT, evTs, bin_add, bin_sub, bin_mul, bin_div, bin_mod, bin_addS, bin_addT, bin_addL, cmp_eq, cmp_ne, cmp_in, cmp_nin, cmp_lt, cmp_le, cmp_gt, cmp_ge, eqD_int, eqD_bl, eqL_int, eqL_bl, List.getElem?_cons_zero, List.getElem?_cons_succ, List.set_cons_zero, List.set_cons_succ, List.length_cons, List.length_nil, Option.map_some, Option.map_none, Bool.not_true, Bool.not_false, if_true, if_false, Bool.false_eq_true, decide_true, decide_false, sz_ok, sz_lt, Nat.reduceLeDiff, Nat.reduceAdd, Nat.zero_le, Int.reduceNeg, wipe, cdw_t, cmul_r, cmul_l, Int.reduceLT, Int.reduceLE, pw, s_lc1, s_lc0, ocons_some, tu, s4, four_range, List.length_map]
    have m0 := md r0 wd pw
    have m1 := md r1 wd pw
    have m2 := md r2 wd pw
    have m3 := md r3 wd pw
    generalize r0 % wd = x0 at m0 ⊢
    generalize r1 % wd = x1 at m1 ⊢
    generalize r2 % wd = x2 at m2 ⊢
    generalize r3 % wd = x3 at m3 ⊢
    have hc : ∀ i ∈ [x0, x1, x2, x3], 0 ≤ i ∧ i ≤ 99 := by
      intro i hi
      simp only [List.mem_cons, List.not_mem_nil, or_false] at hi
      omega
    refine vk_lcP ([0, 1, 2, 3] : List Int) _ D.int (fun i => !lvOk l b c d e g (cr x0 x1 x2 x3 i) i) ?_ ?_
    · intro j hj
      have hj4 := mem4 hj
      simp only [pr_eq, vk_ok, s_cst, s_glob, s_var, s_tup, s_fz, s_alc, s_bin, s_neg, s_cmp, s_chain, s_isN, s_isB, s_and, s_or, s_and1, s_or1, s_and2, s_or2, s_not, s_ife, s_idx, s_slc, s_call, s_bi, s_isi, s_append, s_dsp, s_dnw, s_m1, s_es0, s_es1, s_ks0, s_ks1, s_no, s_so, s_disp, s_lstOf, s_rng3, s_seq, s_rng1, s_rng2, s_lc, s_lcIf, s_lcB, s_lcBI, s_nil, s_cons, s_expr, s_asg, s_sub, s_par, s_ret, s_retN, s_iff, s_for, s_pass, s_body, vB_true, vB_false, wo_some, wc_true, varD, refD, itD, blD, intD, isNonD, setAll, evT, evTs, bin_add, bin_sub, bin_mul, bin_div, bin_mod, bin_addS, bin_addT, bin_addL, cmp_eq, cmp_ne, cmp_in, cmp_nin, cmp_lt, cmp_le, cmp_gt, cmp_ge, eqD_int, eqD_bl, eqL_int, eqL_bl, List.getElem?_cons_zero, List.getElem?_cons_succ, List.set_cons_zero, List.set_cons_succ, List.length_cons, List.length_nil, Option.map_some, Option.map_none, Bool.not_true, Bool.not_false, if_true, if_false, Bool.false_eq_true, decide_true, decide_false, sz_ok, sz_lt, Nat.reduceLeDiff, Nat.reduceAdd, Nat.zero_le, Int.reduceNeg, wipe, cdw_t, cmul_r, cmul_l, Int.reduceLT, Int.reduceLE, care_at _ hj4]
      refine fits_ok hj4 ?_
      cases hb : lvOk l b c d e g (cr x0 x1 x2 x3 j) j with
      | true => (try simp only [pr_eq, vk_ok, s_cst, s_glob, s_var, s_tup, s_fz, s_alc, s_bin, s_neg, s_cmp, s_chain, s_isN, s_isB, s_and, s_or, s_and1, s_or1, s_and2, s_or2, s_not, s_ife, s_idx, s_slc, s_call, s_bi, s_isi, s_append, s_dsp, s_dnw, s_m1, s_es0, s_es1, s_ks0, s_ks1, s_no, s_so, s_disp, s_lstOf, s_rng3, s_seq, s_rng1, s_rng2, s_lc, s_lcIf, s_lcB, s_lcBI, s_nil, s_cons, s_expr, s_asg, s_sub, s_par, s_ret, s_retN, s_iff, s_for, s_pass, s_body, vB_true, vB_false, wo_some, wc_true, varD, refD, itD, blD, intD, isNonD, setAll, evT, evTs, bin_add, bin_sub, bin_mul, bin_div, bin_mod, bin_addS, bin_addT, bin_addL, cmp_eq, cmp_ne, cmp_in, cmp_nin, cmp_lt, cmp_le, cmp_gt, cmp_ge, eqD_int, eqD_bl, eqL_int, eqL_bl, List.getElem?_cons_zero, List.getElem?_cons_succ, List.set_cons_zero, List.set_cons_succ, List.length_cons, List.length_nil, Option.map_some, Option.map_none, Bool.not_true, Bool.not_false, if_true, if_false, Bool.false_eq_true, decide_true, decide_false, sz_ok, sz_lt, Nat.reduceLeDiff, Nat.reduceAdd, Nat.zero_le, Int.reduceNeg, wipe, cdw_t, cmul_r, cmul_l, Int.reduceLT, Int.reduceLE]); (first | trivial | exact ⟨trivial, trivial⟩ | exact ⟨rfl, rfl⟩ | exact ⟨trivial, rfl⟩ | exact ⟨rfl, trivial⟩ | (simp; done))
      | false => (try simp only [pr_eq, vk_ok, s_cst, s_glob, s_var, s_tup, s_fz, s_alc, s_bin, s_neg, s_cmp, s_chain, s_isN, s_isB, s_and, s_or, s_and1, s_or1, s_and2, s_or2, s_not, s_ife, s_idx, s_slc, s_call, s_bi, s_isi, s_append, s_dsp, s_dnw, s_m1, s_es0, s_es1, s_ks0, s_ks1, s_no, s_so, s_disp, s_lstOf, s_rng3, s_seq, s_rng1, s_rng2, s_lc, s_lcIf, s_lcB, s_lcBI, s_nil, s_cons, s_expr, s_asg, s_sub, s_par, s_ret, s_retN, s_iff, s_for, s_pass, s_body, vB_true, vB_false, wo_some, wc_true, varD, refD, itD, blD, intD, isNonD, setAll, evT, evTs, bin_add, bin_sub, bin_mul, bin_div, bin_mod, bin_addS, bin_addT, bin_addL, cmp_eq, cmp_ne, cmp_in, cmp_nin, cmp_lt, cmp_le, cmp_gt, cmp_ge, eqD_int, eqD_bl, eqL_int, eqL_bl, List.getElem?_cons_zero, List.getElem?_cons_succ, List.set_cons_zero, List.set_cons_succ, List.length_cons, List.length_nil, Option.map_some, Option.map_none, Bool.not_true, Bool.not_false, if_true, if_false, Bool.false_eq_true, decide_true, decide_false, sz_ok, sz_lt, Nat.reduceLeDiff, Nat.reduceAdd, Nat.zero_le, Int.reduceNeg, wipe, cdw_t, cmul_r, cmul_l, Int.reduceLT, Int.reduceLE]); (first | trivial | exact ⟨trivial, trivial⟩ | exact ⟨rfl, rfl⟩ | exact ⟨trivial, rfl⟩ | exact ⟨rfl, trivial⟩ | (simp; done))
    simp only [pr_eq, vk_ok, s_cst, s_glob, s_var, s_tup, s_fz, s_alc, s_bin, s_neg, s_cmp, s_chain, s_isN, s_isB, s_and, s_or, s_and1, s_or1, s_and2, s_or2, s_not, s_ife, s_idx, s_slc, s_call, s_bi, s_isi, s_append, s_dsp, s_dnw, s_m1, s_es0, s_es1, s_ks0, s_ks1, s_no, s_so, s_disp, s_lstOf, s_rng3, s_seq, s_rng1, s_rng2, s_lc, s_lcIf, s_lcB, s_lcBI, s_nil, s_cons, s_expr, s_asg, s_sub, s_par, s_ret, s_retN, s_iff, s_for, s_pass, s_body, vB_true, vB_false, wo_some, wc_true, varD, refD, itD, blD, intD, isNonD, setAll, evT, evTs, bin_add, bin_sub, bin_mul, bin_div, bin_mod, bin_addS, bin_addT, bin_addL, cmp_eq, cmp_ne, cmp_in, cmp_nin, cmp_lt, cmp_le, cmp_gt, cmp_ge, eqD_int, eqD_bl, eqL_int, eqL_bl, List.getElem?_cons_zero, List.getElem?_cons_succ, List.set_cons_zero, List.set_cons_succ, List.length_cons, List.length_nil, Option.map_some, Option.map_none, Bool.not_true, Bool.not_false, if_true, if_false, Bool.false_eq_true, decide_true, decide_false, sz_ok, sz_lt, Nat.reduceLeDiff, Nat.reduceAdd, Nat.zero_le, Int.reduceNeg, wipe, cdw_t, cmul_r, cmul_l, Int.reduceLT, Int.reduceLE, eqL_ints, filt4 (fun i => lvOk l b c d e g (cr x0 x1 x2 x3 i) i)]
    refine does_ok ?_
    simp only [pr_eq, vk_ok, s_cst, s_glob, s_var, s_tup, s_fz, s_alc, s_bin, s_neg, s_cmp, s_chain, s_isN, s_isB, s_and, s_or, s_and1, s_or1, s_and2, s_or2, s_not, s_ife, s_idx, s_slc, s_call, s_bi, s_isi, s_append, s_dsp, s_dnw, s_m1, s_es0, s_es1, s_ks0, s_ks1, s_no, s_so, s_disp, s_lstOf, s_rng3, s_seq, s_rng1, s_rng2, s_lc, s_lcIf, s_lcB, s_lcBI, s_nil, s_cons, s_expr, s_asg, s_sub, s_par, s_ret, s_retN, s_iff, s_for, s_pass, s_body, vB_true, vB_false, wo_some, wc_true, varD, refD, itD, blD, intD, isNonD, setAll, evT, evTs, bin_add, bin_sub, bin_mul, bin_div, bin_mod, bin_addS, bin_addT, bin_addL, cmp_eq, cmp_ne, cmp_in, cmp_nin, cmp_lt, cmp_le, cmp_gt, cmp_ge, eqD_int, eqD_bl, eqL_int, eqL_bl, List.getElem?_cons_zero, List.getElem?_cons_succ, List.set_cons_zero, List.set_cons_succ, List.length_cons, List.length_nil, Option.map_some, Option.map_none, Bool.not_true, Bool.not_false, if_true, if_false, Bool.false_eq_true, decide_true, decide_false, sz_ok, sz_lt, Nat.reduceLeDiff, Nat.reduceAdd, Nat.zero_le, Int.reduceNeg, wipe, cdw_t, cmul_r, cmul_l, Int.reduceLT, Int.reduceLE]
    refine alike_ok ?_
    have ca : (lvOk l b c d e g x0 0 && lvOk l b c d e g x1 1 && lvOk l b c d e g x2 2 && lvOk l b c d e g x3 3) = (lvOk l b c d e g (cr x0 x1 x2 x3 0) 0 && lvOk l b c d e g (cr x0 x1 x2 x3 1) 1 && lvOk l b c d e g (cr x0 x1 x2 x3 2) 2 && lvOk l b c d e g (cr x0 x1 x2 x3 3) 3) := rfl
    rw [ca]
    simp only [pr_eq, vk_ok, s_cst, s_glob, s_var, s_tup, s_fz, s_alc, s_bin, s_neg, s_cmp, s_chain, s_isN, s_isB, s_and, s_or, s_and1, s_or1, s_and2, s_or2, s_not, s_ife, s_idx, s_slc, s_call, s_bi, s_isi, s_append, s_dsp, s_dnw, s_m1, s_es0, s_es1, s_ks0, s_ks1, s_no, s_so, s_disp, s_lstOf, s_rng3, s_seq, s_rng1, s_rng2, s_lc, s_lcIf, s_lcB, s_lcBI, s_nil, s_cons, s_expr, s_asg, s_sub, s_par, s_ret, s_retN, s_iff, s_for, s_pass, s_body, vB_true, vB_false, wo_some, wc_true, varD, refD, itD, blD, intD, isNonD, setAll, evT, evTs, bin_add, bin_sub, bin_mul, bin_div, bin_mod, bin_addS, bin_addT, bin_addL, cmp_eq, cmp_ne, cmp_in, cmp_nin, cmp_lt, cmp_le, cmp_gt, cmp_ge, eqD_int, eqD_bl, eqL_int, eqL_bl, List.getElem?_cons_zero, List.getElem?_cons_succ, List.set_cons_zero, List.set_cons_succ, List.length_cons, List.length_nil, Option.map_some, Option.map_none, Bool.not_true, Bool.not_false, if_true, if_false, Bool.false_eq_true, decide_true, decide_false, sz_ok, sz_lt, Nat.reduceLeDiff, Nat.reduceAdd, Nat.zero_le, Int.reduceNeg, wipe, cdw_t, cmul_r, cmul_l, Int.reduceLT, Int.reduceLE]
    refine vB_dec (fun c1 => ?_) (fun c1 => ?_)
    · obtain ⟨p1, p2, p3, p4, p5, p6, ho, hO⟩ : ∃ p1 p2 p3 p4 p5 p6, D.tup [.int l, .tup [.int b', .int c'], .tup [.int d, .int e], .int g] = needD p1 p2 p3 p4 p5 p6 ∧ NeedOk p1 p2 p3 p4 p5 p6 :=
        ⟨l, b', c', d, e, g, rfl, ⟨hN.l0, hN.l1, hN'.a0, hN'.ab, hN'.b1, hN.c0, hN.cd, hN.d1, hN.g0, hN.g1⟩⟩
      simp only [pr_eq, vk_ok, s_cst, s_glob, s_var, s_tup, s_fz, s_alc, s_bin, s_neg, s_cmp, s_chain, s_isN, s_isB, s_and, s_or, s_and1, s_or1, s_and2, s_or2, s_not, s_ife, s_idx, s_slc, s_call, s_bi, s_isi, s_append, s_dsp, s_dnw, s_m1, s_es0, s_es1, s_ks0, s_ks1, s_no, s_so, s_disp, s_lstOf, s_rng3, s_seq, s_rng1, s_rng2, s_lc, s_lcIf, s_lcB, s_lcBI, s_nil, s_cons, s_expr, s_asg, s_sub, s_par, s_ret, s_retN, s_iff, s_for, s_pass, s_body, vB_true, vB_false, wo_some, wc_true, varD, refD, itD, blD, intD, isNonD, setAll, evT, evTs, bin_add, bin_sub, bin_mul, bin_div, bin_mod, bin_addS, bin_addT, bin_addL, cmp_eq, cmp_ne, cmp_in, cmp_nin, cmp_lt, cmp_le, cmp_gt, cmp_ge, eqD_int, eqD_bl, eqL_int, eqL_bl, List.getElem?_cons_zero, List.getElem?_cons_succ, List.set_cons_zero, List.set_cons_succ, List.length_cons, List.length_nil, Option.map_some, Option.map_none, Bool.not_true, Bool.not_false, if_true, if_false, Bool.false_eq_true, decide_true, decide_false, sz_ok, sz_lt, Nat.reduceLeDiff, Nat.reduceAdd, Nat.zero_le, Int.reduceNeg, wipe, cdw_t, cmul_r, cmul_l, Int.reduceLT, Int.reduceLE, nd0, nd1, nd2, nd3, ho, s4, four_range, List.length_map]
      refine vk_lcP ([0, 1, 2, 3] : List Int) _ D.int (fun i => !decide (levels l b c d e g p1 p2 p3 p4 p5 p6 i)) ?_ ?_
      · intro j hj
        have hj4 := mem4 hj
        (try simp only [pr_eq, vk_ok, s_cst, s_glob, s_var, s_tup, s_fz, s_alc, s_bin, s_neg, s_cmp, s_chain, s_isN, s_isB, s_and, s_or, s_and1, s_or1, s_and2, s_or2, s_not, s_ife, s_idx, s_slc, s_call, s_bi, s_isi, s_append, s_dsp, s_dnw, s_m1, s_es0, s_es1, s_ks0, s_ks1, s_no, s_so, s_disp, s_lstOf, s_rng3, s_seq, s_rng1, s_rng2, s_lc, s_lcIf, s_lcB, s_lcBI, s_nil, s_cons, s_expr, s_asg, s_sub, s_par, s_ret, s_retN, s_iff, s_for, s_pass, s_body, vB_true, vB_false, wo_some, wc_true, varD, refD, itD, blD, intD, isNonD, setAll, evT, evTs, bin_add, bin_sub, bin_mul, bin_div, bin_mod, bin_addS, bin_addT, bin_addL, cmp_eq, cmp_ne, cmp_in, cmp_nin, cmp_lt, cmp_le, cmp_gt, cmp_ge, eqD_int, eqD_bl, eqL_int, eqL_bl, List.getElem?_cons_zero, List.getElem?_cons_succ, List.set_cons_zero, List.set_cons_succ, List.length_cons, List.length_nil, Option.map_some, Option.map_none, Bool.not_true, Bool.not_false, if_true, if_false, Bool.false_eq_true, decide_true, decide_false, sz_ok, sz_lt, Nat.reduceLeDiff, Nat.reduceAdd, Nat.zero_le, Int.reduceNeg, wipe, cdw_t, cmul_r, cmul_l, Int.reduceLT, Int.reduceLE])
        refine place_ok hj4 fun r hr => ?_
        have er : r = decide (levels l b c d e g p1 p2 p3 p4 p5 p6 j) := by
          cases r with
          | true => exact (decide_eq_true (hr.mp rfl)).symm
          | false => exact (decide_eq_false (fun z => Bool.noConfusion (hr.mpr z))).symm
        subst er
        cases hb : decide (levels l b c d e g p1 p2 p3 p4 p5 p6 j) with
        | true => (try simp only [pr_eq, vk_ok, s_cst, s_glob, s_var, s_tup, s_fz, s_alc, s_bin, s_neg, s_cmp, s_chain, s_isN, s_isB, s_and, s_or, s_and1, s_or1, s_and2, s_or2, s_not, s_ife, s_idx, s_slc, s_call, s_bi, s_isi, s_append, s_dsp, s_dnw, s_m1, s_es0, s_es1, s_ks0, s_ks1, s_no, s_so, s_disp, s_lstOf, s_rng3, s_seq, s_rng1, s_rng2, s_lc, s_lcIf, s_lcB, s_lcBI, s_nil, s_cons, s_expr, s_asg, s_sub, s_par, s_ret, s_retN, s_iff, s_for, s_pass, s_body, vB_true, vB_false, wo_some, wc_true, varD, refD, itD, blD, intD, isNonD, setAll, evT, evTs, bin_add, bin_sub, bin_mul, bin_div, bin_mod, bin_addS, bin_addT, bin_addL, cmp_eq, cmp_ne, cmp_in, cmp_nin, cmp_lt, cmp_le, cmp_gt, cmp_ge, eqD_int, eqD_bl, eqL_int, eqL_bl, List.getElem?_cons_zero, List.getElem?_cons_succ, List.set_cons_zero, List.set_cons_succ, List.length_cons, List.length_nil, Option.map_some, Option.map_none, Bool.not_true, Bool.not_false, if_true, if_false, Bool.false_eq_true, decide_true, decide_false, sz_ok, sz_lt, Nat.reduceLeDiff, Nat.reduceAdd, Nat.zero_le, Int.reduceNeg, wipe, cdw_t, cmul_r, cmul_l, Int.reduceLT, Int.reduceLE]); (first | trivial | exact ⟨trivial, trivial⟩ | exact ⟨rfl, rfl⟩ | exact ⟨trivial, rfl⟩ | exact ⟨rfl, trivial⟩ | (simp; done))
        | false => (try simp only [pr_eq, vk_ok, s_cst, s_glob, s_var, s_tup, s_fz, s_alc, s_bin, s_neg, s_cmp, s_chain, s_isN, s_isB, s_and, s_or, s_and1, s_or1, s_and2, s_or2, s_not, s_ife, s_idx, s_slc, s_call, s_bi, s_isi, s_append, s_dsp, s_dnw, s_m1, s_es0, s_es1, s_ks0, s_ks1, s_no, s_so, s_disp, s_lstOf, s_rng3, s_seq, s_rng1, s_rng2, s_lc, s_lcIf, s_lcB, s_lcBI, s_nil, s_cons, s_expr, s_asg, s_sub, s_par, s_ret, s_retN, s_iff, s_for, s_pass, s_body, vB_true, vB_false, wo_some, wc_true, varD, refD, itD, blD, intD, isNonD, setAll, evT, evTs, bin_add, bin_sub, bin_mul, bin_div, bin_mod, bin_addS, bin_addT, bin_addL, cmp_eq, cmp_ne, cmp_in, cmp_nin, cmp_lt, cmp_le, cmp_gt, cmp_ge, eqD_int, eqD_bl, eqL_int, eqL_bl, List.getElem?_cons_zero, List.getElem?_cons_succ, List.set_cons_zero, List.set_cons_succ, List.length_cons, List.length_nil, Option.map_some, Option.map_none, Bool.not_true, Bool.not_false, if_true, if_false, Bool.false_eq_true, decide_true, decide_false, sz_ok, sz_lt, Nat.reduceLeDiff, Nat.reduceAdd, Nat.zero_le, Int.reduceNeg, wipe, cdw_t, cmul_r, cmul_l, Int.reduceLT, Int.reduceLE]); (first | trivial | exact ⟨trivial, trivial⟩ | exact ⟨rfl, rfl⟩ | exact ⟨trivial, rfl⟩ | exact ⟨rfl, trivial⟩ | (simp; done))
      simp only [pr_eq, vk_ok, s_cst, s_glob, s_var, s_tup, s_fz, s_alc, s_bin, s_neg, s_cmp, s_chain, s_isN, s_isB, s_and, s_or, s_and1, s_or1, s_and2, s_or2, s_not, s_ife, s_idx, s_slc, s_call, s_bi, s_isi, s_append, s_dsp, s_dnw, s_m1, s_es0, s_es1, s_ks0, s_ks1, s_no, s_so, s_disp, s_lstOf, s_rng3, s_seq, s_rng1, s_rng2, s_lc, s_lcIf, s_lcB, s_lcBI, s_nil, s_cons, s_expr, s_asg, s_sub, s_par, s_ret, s_retN, s_iff, s_for, s_pass, s_body, vB_true, vB_false, wo_some, wc_true, varD, refD, itD, blD, intD, isNonD, setAll, evT, evTs, bin_add, bin_sub, bin_mul, bin_div, bin_mod, bin_addS, bin_addT, bin_addL, cmp_eq, cmp_ne, cmp_in, cmp_nin, cmp_lt, cmp_le, cmp_gt, cmp_ge, eqD_int, eqD_bl, eqL_int, eqL_bl, List.getElem?_cons_zero, List.getElem?_cons_succ, List.set_cons_zero, List.set_cons_succ, List.length_cons, List.length_nil, Option.map_some, Option.map_none, Bool.not_true, Bool.not_false, if_true, if_false, Bool.false_eq_true, decide_true, decide_false, sz_ok, sz_lt, Nat.reduceLeDiff, Nat.reduceAdd, Nat.zero_le, Int.reduceNeg, wipe, cdw_t, cmul_r, cmul_l, Int.reduceLT, Int.reduceLE, eqL_ints, filt4 (fun i => decide (levels l b c d e g p1 p2 p3 p4 p5 p6 i))]
      refine holds_ok ?_
      (try simp only [pr_eq, vk_ok, s_cst, s_glob, s_var, s_tup, s_fz, s_alc, s_bin, s_neg, s_cmp, s_chain, s_isN, s_isB, s_and, s_or, s_and1, s_or1, s_and2, s_or2, s_not, s_ife, s_idx, s_slc, s_call, s_bi, s_isi, s_append, s_dsp, s_dnw, s_m1, s_es0, s_es1, s_ks0, s_ks1, s_no, s_so, s_disp, s_lstOf, s_rng3, s_seq, s_rng1, s_rng2, s_lc, s_lcIf, s_lcB, s_lcBI, s_nil, s_cons, s_expr, s_asg, s_sub, s_par, s_ret, s_retN, s_iff, s_for, s_pass, s_body, vB_true, vB_false, wo_some, wc_true, varD, refD, itD, blD, intD, isNonD, setAll, evT, evTs, bin_add, bin_sub, bin_mul, bin_div, bin_mod, bin_addS, bin_addT, bin_addL, cmp_eq, cmp_ne, cmp_in, cmp_nin, cmp_lt, cmp_le, cmp_gt, cmp_ge, eqD_int, eqD_bl, eqL_int, eqL_bl, List.getElem?_cons_zero, List.getElem?_cons_succ, List.set_cons_zero, List.set_cons_succ, List.length_cons, List.length_nil, Option.map_some, Option.map_none, Bool.not_true, Bool.not_false, if_true, if_false, Bool.false_eq_true, decide_true, decide_false, sz_ok, sz_lt, Nat.reduceLeDiff, Nat.reduceAdd, Nat.zero_le, Int.reduceNeg, wipe, cdw_t, cmul_r, cmul_l, Int.reduceLT, Int.reduceLE])
      refine alike_ok ?_
      have cb : decide (within l b c d e g p1 p2 p3 p4 p5 p6) = (decide (levels l b c d e g p1 p2 p3 p4 p5 p6 0) && decide (levels l b c d e g p1 p2 p3 p4 p5 p6 1) && decide (levels l b c d e g p1 p2 p3 p4 p5 p6 2) && decide (levels l b c d e g p1 p2 p3 p4 p5 p6 3)) := by
        rw [← Bool.decide_and, ← Bool.decide_and, ← Bool.decide_and]
        exact decide_eq_decide.mpr ((lv_iff hN hO).trans (by simp only [and_assoc]))
      have cc : decide (within l b c d e g l b c d e g) = true := decide_eq_true (by unfold within; omega)
      simp only [pr_eq, vk_ok, s_cst, s_glob, s_var, s_tup, s_fz, s_alc, s_bin, s_neg, s_cmp, s_chain, s_isN, s_isB, s_and, s_or, s_and1, s_or1, s_and2, s_or2, s_not, s_ife, s_idx, s_slc, s_call, s_bi, s_isi, s_append, s_dsp, s_dnw, s_m1, s_es0, s_es1, s_ks0, s_ks1, s_no, s_so, s_disp, s_lstOf, s_rng3, s_seq, s_rng1, s_rng2, s_lc, s_lcIf, s_lcB, s_lcBI, s_nil, s_cons, s_expr, s_asg, s_sub, s_par, s_ret, s_retN, s_iff, s_for, s_pass, s_body, vB_true, vB_false, wo_some, wc_true, varD, refD, itD, blD, intD, isNonD, setAll, evT, evTs, bin_add, bin_sub, bin_mul, bin_div, bin_mod, bin_addS, bin_addT, bin_addL, cmp_eq, cmp_ne, cmp_in, cmp_nin, cmp_lt, cmp_le, cmp_gt, cmp_ge, eqD_int, eqD_bl, eqL_int, eqL_bl, List.getElem?_cons_zero, List.getElem?_cons_succ, List.set_cons_zero, List.set_cons_succ, List.length_cons, List.length_nil, Option.map_some, Option.map_none, Bool.not_true, Bool.not_false, if_true, if_false, Bool.false_eq_true, decide_true, decide_false, sz_ok, sz_lt, Nat.reduceLeDiff, Nat.reduceAdd, Nat.zero_le, Int.reduceNeg, wipe, cdw_t, cmul_r, cmul_l, Int.reduceLT, Int.reduceLE, cb]
      refine holds_ok ?_
      simp only [pr_eq, vk_ok, s_cst, s_glob, s_var, s_tup, s_fz, s_alc, s_bin, s_neg, s_cmp, s_chain, s_isN, s_isB, s_and, s_or, s_and1, s_or1, s_and2, s_or2, s_not, s_ife, s_idx, s_slc, s_call, s_bi, s_isi, s_append, s_dsp, s_dnw, s_m1, s_es0, s_es1, s_ks0, s_ks1, s_no, s_so, s_disp, s_lstOf, s_rng3, s_seq, s_rng1, s_rng2, s_lc, s_lcIf, s_lcB, s_lcBI, s_nil, s_cons, s_expr, s_asg, s_sub, s_par, s_ret, s_retN, s_iff, s_for, s_pass, s_body, vB_true, vB_false, wo_some, wc_true, varD, refD, itD, blD, intD, isNonD, setAll, evT, evTs, bin_add, bin_sub, bin_mul, bin_div, bin_mod, bin_addS, bin_addT, bin_addL, cmp_eq, cmp_ne, cmp_in, cmp_nin, cmp_lt, cmp_le, cmp_gt, cmp_ge, eqD_int, eqD_bl, eqL_int, eqL_bl, List.getElem?_cons_zero, List.getElem?_cons_succ, List.set_cons_zero, List.set_cons_succ, List.length_cons, List.length_nil, Option.map_some, Option.map_none, Bool.not_true, Bool.not_false, if_true, if_false, Bool.false_eq_true, decide_true, decide_false, sz_ok, sz_lt, Nat.reduceLeDiff, Nat.reduceAdd, Nat.zero_le, Int.reduceNeg, wipe, cdw_t, cmul_r, cmul_l, Int.reduceLT, Int.reduceLE, cc]
      refine alike_ok ?_
      (try simp only [pr_eq, vk_ok, s_cst, s_glob, s_var, s_tup, s_fz, s_alc, s_bin, s_neg, s_cmp, s_chain, s_isN, s_isB, s_and, s_or, s_and1, s_or1, s_and2, s_or2, s_not, s_ife, s_idx, s_slc, s_call, s_bi, s_isi, s_append, s_dsp, s_dnw, s_m1, s_es0, s_es1, s_ks0, s_ks1, s_no, s_so, s_disp, s_lstOf, s_rng3, s_seq, s_rng1, s_rng2, s_lc, s_lcIf, s_lcB, s_lcBI, s_nil, s_cons, s_expr, s_asg, s_sub, s_par, s_ret, s_retN, s_iff, s_for, s_pass, s_body, vB_true, vB_false, wo_some, wc_true, varD, refD, itD, blD, intD, isNonD, setAll, evT, evTs, bin_add, bin_sub, bin_mul, bin_div, bin_mod, bin_addS, bin_addT, bin_addL, cmp_eq, cmp_ne, cmp_in, cmp_nin, cmp_lt, cmp_le, cmp_gt, cmp_ge, eqD_int, eqD_bl, eqL_int, eqL_bl, List.getElem?_cons_zero, List.getElem?_cons_succ, List.set_cons_zero, List.set_cons_succ, List.length_cons, List.length_nil, Option.map_some, Option.map_none, Bool.not_true, Bool.not_false, if_true, if_false, Bool.false_eq_true, decide_true, decide_false, sz_ok, sz_lt, Nat.reduceLeDiff, Nat.reduceAdd, Nat.zero_le, Int.reduceNeg, wipe, cdw_t, cmul_r, cmul_l, Int.reduceLT, Int.reduceLE])
      refine cell_ok hl (by omega) (by omega) fun u hu => ?_
      (try simp only [pr_eq, vk_ok, s_cst, s_glob, s_var, s_tup, s_fz, s_alc, s_bin, s_neg, s_cmp, s_chain, s_isN, s_isB, s_and, s_or, s_and1, s_or1, s_and2, s_or2, s_not, s_ife, s_idx, s_slc, s_call, s_bi, s_isi, s_append, s_dsp, s_dnw, s_m1, s_es0, s_es1, s_ks0, s_ks1, s_no, s_so, s_disp, s_lstOf, s_rng3, s_seq, s_rng1, s_rng2, s_lc, s_lcIf, s_lcB, s_lcBI, s_nil, s_cons, s_expr, s_asg, s_sub, s_par, s_ret, s_retN, s_iff, s_for, s_pass, s_body, vB_true, vB_false, wo_some, wc_true, varD, refD, itD, blD, intD, isNonD, setAll, evT, evTs, bin_add, bin_sub, bin_mul, bin_div, bin_mod, bin_addS, bin_addT, bin_addL, cmp_eq, cmp_ne, cmp_in, cmp_nin, cmp_lt, cmp_le, cmp_gt, cmp_ge, eqD_int, eqD_bl, eqL_int, eqL_bl, List.getElem?_cons_zero, List.getElem?_cons_succ, List.set_cons_zero, List.set_cons_succ, List.length_cons, List.length_nil, Option.map_some, Option.map_none, Bool.not_true, Bool.not_false, if_true, if_false, Bool.false_eq_true, decide_true, decide_false, sz_ok, sz_lt, Nat.reduceLeDiff, Nat.reduceAdd, Nat.zero_le, Int.reduceNeg, wipe, cdw_t, cmul_r, cmul_l, Int.reduceLT, Int.reduceLE])
      refine odd_ok hw hc hN fun x w hw hx => ?_
      (try simp only [pr_eq, vk_ok, s_cst, s_glob, s_var, s_tup, s_fz, s_alc, s_bin, s_neg, s_cmp, s_chain, s_isN, s_isB, s_and, s_or, s_and1, s_or1, s_and2, s_or2, s_not, s_ife, s_idx, s_slc, s_call, s_bi, s_isi, s_append, s_dsp, s_dnw, s_m1, s_es0, s_es1, s_ks0, s_ks1, s_no, s_so, s_disp, s_lstOf, s_rng3, s_seq, s_rng1, s_rng2, s_lc, s_lcIf, s_lcB, s_lcBI, s_nil, s_cons, s_expr, s_asg, s_sub, s_par, s_ret, s_retN, s_iff, s_for, s_pass, s_body, vB_true, vB_false, wo_some, wc_true, varD, refD, itD, blD, intD, isNonD, setAll, evT, evTs, bin_add, bin_sub, bin_mul, bin_div, bin_mod, bin_addS, bin_addT, bin_addL, cmp_eq, cmp_ne, cmp_in, cmp_nin, cmp_lt, cmp_le, cmp_gt, cmp_ge, eqD_int, eqD_bl, eqL_int, eqL_bl, List.getElem?_cons_zero, List.getElem?_cons_succ, List.set_cons_zero, List.set_cons_succ, List.length_cons, List.length_nil, Option.map_some, Option.map_none, Bool.not_true, Bool.not_false, if_true, if_false, Bool.false_eq_true, decide_true, decide_false, sz_ok, sz_lt, Nat.reduceLeDiff, Nat.reduceAdd, Nat.zero_le, Int.reduceNeg, wipe, cdw_t, cmul_r, cmul_l, Int.reduceLT, Int.reduceLE])
      refine care_ok hx.toFine ?_
      (try simp only [pr_eq, vk_ok, s_cst, s_glob, s_var, s_tup, s_fz, s_alc, s_bin, s_neg, s_cmp, s_chain, s_isN, s_isB, s_and, s_or, s_and1, s_or1, s_and2, s_or2, s_not, s_ife, s_idx, s_slc, s_call, s_bi, s_isi, s_append, s_dsp, s_dnw, s_m1, s_es0, s_es1, s_ks0, s_ks1, s_no, s_so, s_disp, s_lstOf, s_rng3, s_seq, s_rng1, s_rng2, s_lc, s_lcIf, s_lcB, s_lcBI, s_nil, s_cons, s_expr, s_asg, s_sub, s_par, s_ret, s_retN, s_iff, s_for, s_pass, s_body, vB_true, vB_false, wo_some, wc_true, varD, refD, itD, blD, intD, isNonD, setAll, evT, evTs, bin_add, bin_sub, bin_mul, bin_div, bin_mod, bin_addS, bin_addT, bin_addL, cmp_eq, cmp_ne, cmp_in, cmp_nin, cmp_lt, cmp_le, cmp_gt, cmp_ge, eqD_int, eqD_bl, eqL_int, eqL_bl, List.getElem?_cons_zero, List.getElem?_cons_succ, List.set_cons_zero, List.set_cons_succ, List.length_cons, List.length_nil, Option.map_some, Option.map_none, Bool.not_true, Bool.not_false, if_true, if_false, Bool.false_eq_true, decide_true, decide_false, sz_ok, sz_lt, Nat.reduceLeDiff, Nat.reduceAdd, Nat.zero_le, Int.reduceNeg, wipe, cdw_t, cmul_r, cmul_l, Int.reduceLT, Int.reduceLE])
      refine lawcare_ok hx.toFine ?_
      (try simp only [pr_eq, vk_ok, s_cst, s_glob, s_var, s_tup, s_fz, s_alc, s_bin, s_neg, s_cmp, s_chain, s_isN, s_isB, s_and, s_or, s_and1, s_or1, s_and2, s_or2, s_not, s_ife, s_idx, s_slc, s_call, s_bi, s_isi, s_append, s_dsp, s_dnw, s_m1, s_es0, s_es1, s_ks0, s_ks1, s_no, s_so, s_disp, s_lstOf, s_rng3, s_seq, s_rng1, s_rng2, s_lc, s_lcIf, s_lcB, s_lcBI, s_nil, s_cons, s_expr, s_asg, s_sub, s_par, s_ret, s_retN, s_iff, s_for, s_pass, s_body, vB_true, vB_false, wo_some, wc_true, varD, refD, itD, blD, intD, isNonD, setAll, evT, evTs, bin_add, bin_sub, bin_mul, bin_div, bin_mod, bin_addS, bin_addT, bin_addL, cmp_eq, cmp_ne, cmp_in, cmp_nin, cmp_lt, cmp_le, cmp_gt, cmp_ge, eqD_int, eqD_bl, eqL_int, eqL_bl, List.getElem?_cons_zero, List.getElem?_cons_succ, List.set_cons_zero, List.set_cons_succ, List.length_cons, List.length_nil, Option.map_some, Option.map_none, Bool.not_true, Bool.not_false, if_true, if_false, Bool.false_eq_true, decide_true, decide_false, sz_ok, sz_lt, Nat.reduceLeDiff, Nat.reduceAdd, Nat.zero_le, Int.reduceNeg, wipe, cdw_t, cmul_r, cmul_l, Int.reduceLT, Int.reduceLE])
      refine alike_ok ?_
      (try simp only [pr_eq, vk_ok, s_cst, s_glob, s_var, s_tup, s_fz, s_alc, s_bin, s_neg, s_cmp, s_chain, s_isN, s_isB, s_and, s_or, s_and1, s_or1, s_and2, s_or2, s_not, s_ife, s_idx, s_slc, s_call, s_bi, s_isi, s_append, s_dsp, s_dnw, s_m1, s_es0, s_es1, s_ks0, s_ks1, s_no, s_so, s_disp, s_lstOf, s_rng3, s_seq, s_rng1, s_rng2, s_lc, s_lcIf, s_lcB, s_lcBI, s_nil, s_cons, s_expr, s_asg, s_sub, s_par, s_ret, s_retN, s_iff, s_for, s_pass, s_body, vB_true, vB_false, wo_some, wc_true, varD, refD, itD, blD, intD, isNonD, setAll, evT, evTs, bin_add, bin_sub, bin_mul, bin_div, bin_mod, bin_addS, bin_addT, bin_addL, cmp_eq, cmp_ne, cmp_in, cmp_nin, cmp_lt, cmp_le, cmp_gt, cmp_ge, eqD_int, eqD_bl, eqL_int, eqL_bl, List.getElem?_cons_zero, List.getElem?_cons_succ, List.set_cons_zero, List.set_cons_succ, List.length_cons, List.length_nil, Option.map_some, Option.map_none, Bool.not_true, Bool.not_false, if_true, if_false, Bool.false_eq_true, decide_true, decide_false, sz_ok, sz_lt, Nat.reduceLeDiff, Nat.reduceAdd, Nat.zero_le, Int.reduceNeg, wipe, cdw_t, cmul_r, cmul_l, Int.reduceLT, Int.reduceLE])
      refine need2_ok hx ?_
      (try simp only [pr_eq, vk_ok, s_cst, s_glob, s_var, s_tup, s_fz, s_alc, s_bin, s_neg, s_cmp, s_chain, s_isN, s_isB, s_and, s_or, s_and1, s_or1, s_and2, s_or2, s_not, s_ife, s_idx, s_slc, s_call, s_bi, s_isi, s_append, s_dsp, s_dnw, s_m1, s_es0, s_es1, s_ks0, s_ks1, s_no, s_so, s_disp, s_lstOf, s_rng3, s_seq, s_rng1, s_rng2, s_lc, s_lcIf, s_lcB, s_lcBI, s_nil, s_cons, s_expr, s_asg, s_sub, s_par, s_ret, s_retN, s_iff, s_for, s_pass, s_body, vB_true, vB_false, wo_some, wc_true, varD, refD, itD, blD, intD, isNonD, setAll, evT, evTs, bin_add, bin_sub, bin_mul, bin_div, bin_mod, bin_addS, bin_addT, bin_addL, cmp_eq, cmp_ne, cmp_in, cmp_nin, cmp_lt, cmp_le, cmp_gt, cmp_ge, eqD_int, eqD_bl, eqL_int, eqL_bl, List.getElem?_cons_zero, List.getElem?_cons_succ, List.set_cons_zero, List.set_cons_succ, List.length_cons, List.length_nil, Option.map_some, Option.map_none, Bool.not_true, Bool.not_false, if_true, if_false, Bool.false_eq_true, decide_true, decide_false, sz_ok, sz_lt, Nat.reduceLeDiff, Nat.reduceAdd, Nat.zero_le, Int.reduceNeg, wipe, cdw_t, cmul_r, cmul_l, Int.reduceLT, Int.reduceLE])
      refine lawneed_ok hx ?_
      (try simp only [pr_eq, vk_ok, s_cst, s_glob, s_var, s_tup, s_fz, s_alc, s_bin, s_neg, s_cmp, s_chain, s_isN, s_isB, s_and, s_or, s_and1, s_or1, s_and2, s_or2, s_not, s_ife, s_idx, s_slc, s_call, s_bi, s_isi, s_append, s_dsp, s_dnw, s_m1, s_es0, s_es1, s_ks0, s_ks1, s_no, s_so, s_disp, s_lstOf, s_rng3, s_seq, s_rng1, s_rng2, s_lc, s_lcIf, s_lcB, s_lcBI, s_nil, s_cons, s_expr, s_asg, s_sub, s_par, s_ret, s_retN, s_iff, s_for, s_pass, s_body, vB_true, vB_false, wo_some, wc_true, varD, refD, itD, blD, intD, isNonD, setAll, evT, evTs, bin_add, bin_sub, bin_mul, bin_div, bin_mod, bin_addS, bin_addT, bin_addL, cmp_eq, cmp_ne, cmp_in, cmp_nin, cmp_lt, cmp_le, cmp_gt, cmp_ge, eqD_int, eqD_bl, eqL_int, eqL_bl, List.getElem?_cons_zero, List.getElem?_cons_succ, List.set_cons_zero, List.set_cons_succ, List.length_cons, List.length_nil, Option.map_some, Option.map_none, Bool.not_true, Bool.not_false, if_true, if_false, Bool.false_eq_true, decide_true, decide_false, sz_ok, sz_lt, Nat.reduceLeDiff, Nat.reduceAdd, Nat.zero_le, Int.reduceNeg, wipe, cdw_t, cmul_r, cmul_l, Int.reduceLT, Int.reduceLE])
      refine alike_ok ?_
      (try simp only [pr_eq, vk_ok, s_cst, s_glob, s_var, s_tup, s_fz, s_alc, s_bin, s_neg, s_cmp, s_chain, s_isN, s_isB, s_and, s_or, s_and1, s_or1, s_and2, s_or2, s_not, s_ife, s_idx, s_slc, s_call, s_bi, s_isi, s_append, s_dsp, s_dnw, s_m1, s_es0, s_es1, s_ks0, s_ks1, s_no, s_so, s_disp, s_lstOf, s_rng3, s_seq, s_rng1, s_rng2, s_lc, s_lcIf, s_lcB, s_lcBI, s_nil, s_cons, s_expr, s_asg, s_sub, s_par, s_ret, s_retN, s_iff, s_for, s_pass, s_body, vB_true, vB_false, wo_some, wc_true, varD, refD, itD, blD, intD, isNonD, setAll, evT, evTs, bin_add, bin_sub, bin_mul, bin_div, bin_mod, bin_addS, bin_addT, bin_addL, cmp_eq, cmp_ne, cmp_in, cmp_nin, cmp_lt, cmp_le, cmp_gt, cmp_ge, eqD_int, eqD_bl, eqL_int, eqL_bl, List.getElem?_cons_zero, List.getElem?_cons_succ, List.set_cons_zero, List.set_cons_succ, List.length_cons, List.length_nil, Option.map_some, Option.map_none, Bool.not_true, Bool.not_false, if_true, if_false, Bool.false_eq_true, decide_true, decide_false, sz_ok, sz_lt, Nat.reduceLeDiff, Nat.reduceAdd, Nat.zero_le, Int.reduceNeg, wipe, cdw_t, cmul_r, cmul_l, Int.reduceLT, Int.reduceLE])
      refine care_ok (fine2_care _ _ _ _ _).toFine ?_
      have oc : okCare (.tup [.int x0, .int x1, .int x2, .int x3]) = true := by
        have w : ∀ i : Int, 0 ≤ i ∧ i ≤ 99 → okW (.int i) 99 = true := fun i h => decide_eq_true h
        simp only [okCare, List.all_cons, List.all_nil, w x0 (hc x0 (by simp)), w x1 (hc x1 (by simp)), w x2 (hc x2 (by simp)), w x3 (hc x3 (by simp))]
        rfl
      simp only [pr_eq, vk_ok, s_cst, s_glob, s_var, s_tup, s_fz, s_alc, s_bin, s_neg, s_cmp, s_chain, s_isN, s_isB, s_and, s_or, s_and1, s_or1, s_and2, s_or2, s_not, s_ife, s_idx, s_slc, s_call, s_bi, s_isi, s_append, s_dsp, s_dnw, s_m1, s_es0, s_es1, s_ks0, s_ks1, s_no, s_so, s_disp, s_lstOf, s_rng3, s_seq, s_rng1, s_rng2, s_lc, s_lcIf, s_lcB, s_lcBI, s_nil, s_cons, s_expr, s_asg, s_sub, s_par, s_ret, s_retN, s_iff, s_for, s_pass, s_body, vB_true, vB_false, wo_some, wc_true, varD, refD, itD, blD, intD, isNonD, setAll, evT, evTs, bin_add, bin_sub, bin_mul, bin_div, bin_mod, bin_addS, bin_addT, bin_addL, cmp_eq, cmp_ne, cmp_in, cmp_nin, cmp_lt, cmp_le, cmp_gt, cmp_ge, eqD_int, eqD_bl, eqL_int, eqL_bl, List.getElem?_cons_zero, List.getElem?_cons_succ, List.set_cons_zero, List.set_cons_succ, List.length_cons, List.length_nil, Option.map_some, Option.map_none, Bool.not_true, Bool.not_false, if_true, if_false, Bool.false_eq_true, decide_true, decide_false, sz_ok, sz_lt, Nat.reduceLeDiff, Nat.reduceAdd, Nat.zero_le, Int.reduceNeg, wipe, cdw_t, cmul_r, cmul_l, Int.reduceLT, Int.reduceLE, oc]
      refine need2_ok (fine2_need _ _ _ _ _ _ _) ?_
      simp only [pr_eq, vk_ok, s_cst, s_glob, s_var, s_tup, s_fz, s_alc, s_bin, s_neg, s_cmp, s_chain, s_isN, s_isB, s_and, s_or, s_and1, s_or1, s_and2, s_or2, s_not, s_ife, s_idx, s_slc, s_call, s_bi, s_isi, s_append, s_dsp, s_dnw, s_m1, s_es0, s_es1, s_ks0, s_ks1, s_no, s_so, s_disp, s_lstOf, s_rng3, s_seq, s_rng1, s_rng2, s_lc, s_lcIf, s_lcB, s_lcBI, s_nil, s_cons, s_expr, s_asg, s_sub, s_par, s_ret, s_retN, s_iff, s_for, s_pass, s_body, vB_true, vB_false, wo_some, wc_true, varD, refD, itD, blD, intD, isNonD, setAll, evT, evTs, bin_add, bin_sub, bin_mul, bin_div, bin_mod, bin_addS, bin_addT, bin_addL, cmp_eq, cmp_ne, cmp_in, cmp_nin, cmp_lt, cmp_le, cmp_gt, cmp_ge, eqD_int, eqD_bl, eqL_int, eqL_bl, List.getElem?_cons_zero, List.getElem?_cons_succ, List.set_cons_zero, List.set_cons_succ, List.length_cons, List.length_nil, Option.map_some, Option.map_none, Bool.not_true, Bool.not_false, if_true, if_false, Bool.false_eq_true, decide_true, decide_false, sz_ok, sz_lt, Nat.reduceLeDiff, Nat.reduceAdd, Nat.zero_le, Int.reduceNeg, wipe, cdw_t, cmul_r, cmul_l, Int.reduceLT, Int.reduceLE, okNeed_need hN]
      refine cell_ok hl (by omega) (by omega) fun v hv => ?_
      (try simp only [pr_eq, vk_ok, s_cst, s_glob, s_var, s_tup, s_fz, s_alc, s_bin, s_neg, s_cmp, s_chain, s_isN, s_isB, s_and, s_or, s_and1, s_or1, s_and2, s_or2, s_not, s_ife, s_idx, s_slc, s_call, s_bi, s_isi, s_append, s_dsp, s_dnw, s_m1, s_es0, s_es1, s_ks0, s_ks1, s_no, s_so, s_disp, s_lstOf, s_rng3, s_seq, s_rng1, s_rng2, s_lc, s_lcIf, s_lcB, s_lcBI, s_nil, s_cons, s_expr, s_asg, s_sub, s_par, s_ret, s_retN, s_iff, s_for, s_pass, s_body, vB_true, vB_false, wo_some, wc_true, varD, refD, itD, blD, intD, isNonD, setAll, evT, evTs, bin_add, bin_sub, bin_mul, bin_div, bin_mod, bin_addS, bin_addT, bin_addL, cmp_eq, cmp_ne, cmp_in, cmp_nin, cmp_lt, cmp_le, cmp_gt, cmp_ge, eqD_int, eqD_bl, eqL_int, eqL_bl, List.getElem?_cons_zero, List.getElem?_cons_succ, List.set_cons_zero, List.set_cons_succ, List.length_cons, List.length_nil, Option.map_some, Option.map_none, Bool.not_true, Bool.not_false, if_true, if_false, Bool.false_eq_true, decide_true, decide_false, sz_ok, sz_lt, Nat.reduceLeDiff, Nat.reduceAdd, Nat.zero_le, Int.reduceNeg, wipe, cdw_t, cmul_r, cmul_l, Int.reduceLT, Int.reduceLE])
      refine text_ok fun y hy => ?_
      simp only [pr_eq, vk_ok, s_cst, s_glob, s_var, s_tup, s_fz, s_alc, s_bin, s_neg, s_cmp, s_chain, s_isN, s_isB, s_and, s_or, s_and1, s_or1, s_and2, s_or2, s_not, s_ife, s_idx, s_slc, s_call, s_bi, s_isi, s_append, s_dsp, s_dnw, s_m1, s_es0, s_es1, s_ks0, s_ks1, s_no, s_so, s_disp, s_lstOf, s_rng3, s_seq, s_rng1, s_rng2, s_lc, s_lcIf, s_lcB, s_lcBI, s_nil, s_cons, s_expr, s_asg, s_sub, s_par, s_ret, s_retN, s_iff, s_for, s_pass, s_body, vB_true, vB_false, wo_some, wc_true, varD, refD, itD, blD, intD, isNonD, setAll, evT, evTs, bin_add, bin_sub, bin_mul, bin_div, bin_mod, bin_addS, bin_addT, bin_addL, cmp_eq, cmp_ne, cmp_in, cmp_nin, cmp_lt, cmp_le, cmp_gt, cmp_ge, eqD_int, eqD_bl, eqL_int, eqL_bl, List.getElem?_cons_zero, List.getElem?_cons_succ, List.set_cons_zero, List.set_cons_succ, List.length_cons, List.length_nil, Option.map_some, Option.map_none, Bool.not_true, Bool.not_false, if_true, if_false, Bool.false_eq_true, decide_true, decide_false, sz_ok, sz_lt, Nat.reduceLeDiff, Nat.reduceAdd, Nat.zero_le, Int.reduceNeg, wipe, cdw_t, cmul_r, cmul_l, Int.reduceLT, Int.reduceLE, seld8]
      refine name_ok hy ?_
      (try simp only [pr_eq, vk_ok, s_cst, s_glob, s_var, s_tup, s_fz, s_alc, s_bin, s_neg, s_cmp, s_chain, s_isN, s_isB, s_and, s_or, s_and1, s_or1, s_and2, s_or2, s_not, s_ife, s_idx, s_slc, s_call, s_bi, s_isi, s_append, s_dsp, s_dnw, s_m1, s_es0, s_es1, s_ks0, s_ks1, s_no, s_so, s_disp, s_lstOf, s_rng3, s_seq, s_rng1, s_rng2, s_lc, s_lcIf, s_lcB, s_lcBI, s_nil, s_cons, s_expr, s_asg, s_sub, s_par, s_ret, s_retN, s_iff, s_for, s_pass, s_body, vB_true, vB_false, wo_some, wc_true, varD, refD, itD, blD, intD, isNonD, setAll, evT, evTs, bin_add, bin_sub, bin_mul, bin_div, bin_mod, bin_addS, bin_addT, bin_addL, cmp_eq, cmp_ne, cmp_in, cmp_nin, cmp_lt, cmp_le, cmp_gt, cmp_ge, eqD_int, eqD_bl, eqL_int, eqL_bl, List.getElem?_cons_zero, List.getElem?_cons_succ, List.set_cons_zero, List.set_cons_succ, List.length_cons, List.length_nil, Option.map_some, Option.map_none, Bool.not_true, Bool.not_false, if_true, if_false, Bool.false_eq_true, decide_true, decide_false, sz_ok, sz_lt, Nat.reduceLeDiff, Nat.reduceAdd, Nat.zero_le, Int.reduceNeg, wipe, cdw_t, cmul_r, cmul_l, Int.reduceLT, Int.reduceLE])
      refine lawname_ok hy ?_
      (try simp only [pr_eq, vk_ok, s_cst, s_glob, s_var, s_tup, s_fz, s_alc, s_bin, s_neg, s_cmp, s_chain, s_isN, s_isB, s_and, s_or, s_and1, s_or1, s_and2, s_or2, s_not, s_ife, s_idx, s_slc, s_call, s_bi, s_isi, s_append, s_dsp, s_dnw, s_m1, s_es0, s_es1, s_ks0, s_ks1, s_no, s_so, s_disp, s_lstOf, s_rng3, s_seq, s_rng1, s_rng2, s_lc, s_lcIf, s_lcB, s_lcBI, s_nil, s_cons, s_expr, s_asg, s_sub, s_par, s_ret, s_retN, s_iff, s_for, s_pass, s_body, vB_true, vB_false, wo_some, wc_true, varD, refD, itD, blD, intD, isNonD, setAll, evT, evTs, bin_add, bin_sub, bin_mul, bin_div, bin_mod, bin_addS, bin_addT, bin_addL, cmp_eq, cmp_ne, cmp_in, cmp_nin, cmp_lt, cmp_le, cmp_gt, cmp_ge, eqD_int, eqD_bl, eqL_int, eqL_bl, List.getElem?_cons_zero, List.getElem?_cons_succ, List.set_cons_zero, List.set_cons_succ, List.length_cons, List.length_nil, Option.map_some, Option.map_none, Bool.not_true, Bool.not_false, if_true, if_false, Bool.false_eq_true, decide_true, decide_false, sz_ok, sz_lt, Nat.reduceLeDiff, Nat.reduceAdd, Nat.zero_le, Int.reduceNeg, wipe, cdw_t, cmul_r, cmul_l, Int.reduceLT, Int.reduceLE])
      refine alike_ok ?_
      (try simp only [pr_eq, vk_ok, s_cst, s_glob, s_var, s_tup, s_fz, s_alc, s_bin, s_neg, s_cmp, s_chain, s_isN, s_isB, s_and, s_or, s_and1, s_or1, s_and2, s_or2, s_not, s_ife, s_idx, s_slc, s_call, s_bi, s_isi, s_append, s_dsp, s_dnw, s_m1, s_es0, s_es1, s_ks0, s_ks1, s_no, s_so, s_disp, s_lstOf, s_rng3, s_seq, s_rng1, s_rng2, s_lc, s_lcIf, s_lcB, s_lcBI, s_nil, s_cons, s_expr, s_asg, s_sub, s_par, s_ret, s_retN, s_iff, s_for, s_pass, s_body, vB_true, vB_false, wo_some, wc_true, varD, refD, itD, blD, intD, isNonD, setAll, evT, evTs, bin_add, bin_sub, bin_mul, bin_div, bin_mod, bin_addS, bin_addT, bin_addL, cmp_eq, cmp_ne, cmp_in, cmp_nin, cmp_lt, cmp_le, cmp_gt, cmp_ge, eqD_int, eqD_bl, eqL_int, eqL_bl, List.getElem?_cons_zero, List.getElem?_cons_succ, List.set_cons_zero, List.set_cons_succ, List.length_cons, List.length_nil, Option.map_some, Option.map_none, Bool.not_true, Bool.not_false, if_true, if_false, Bool.false_eq_true, decide_true, decide_false, sz_ok, sz_lt, Nat.reduceLeDiff, Nat.reduceAdd, Nat.zero_le, Int.reduceNeg, wipe, cdw_t, cmul_r, cmul_l, Int.reduceLT, Int.reduceLE])
      have fd : ∀ m, fineD m (selD [.int (n % 10000), .int 9999, .int (10000 + n % 7), .int (0 - 1 - n % 3), .bl true, .non, .str "5", .int 0] (n / 12)) = true := by
        intro m
        have := selD_mem (l := [D.int (n % 10000), .int 9999, .int (10000 + n % 7), .int (0 - 1 - n % 3), .bl true, .non, .str "5", .int 0]) (n / 12) (by simp)
        generalize selD _ _ = z at this ⊢
        simp only [List.mem_cons, List.not_mem_nil, or_false] at this
        obtain rfl | rfl | rfl | rfl | rfl | rfl | rfl | rfl := this <;> rfl
      refine day_ok (fd _) ?_
      (try simp only [pr_eq, vk_ok, s_cst, s_glob, s_var, s_tup, s_fz, s_alc, s_bin, s_neg, s_cmp, s_chain, s_isN, s_isB, s_and, s_or, s_and1, s_or1, s_and2, s_or2, s_not, s_ife, s_idx, s_slc, s_call, s_bi, s_isi, s_append, s_dsp, s_dnw, s_m1, s_es0, s_es1, s_ks0, s_ks1, s_no, s_so, s_disp, s_lstOf, s_rng3, s_seq, s_rng1, s_rng2, s_lc, s_lcIf, s_lcB, s_lcBI, s_nil, s_cons, s_expr, s_asg, s_sub, s_par, s_ret, s_retN, s_iff, s_for, s_pass, s_body, vB_true, vB_false, wo_some, wc_true, varD, refD, itD, blD, intD, isNonD, setAll, evT, evTs, bin_add, bin_sub, bin_mul, bin_div, bin_mod, bin_addS, bin_addT, bin_addL, cmp_eq, cmp_ne, cmp_in, cmp_nin, cmp_lt, cmp_le, cmp_gt, cmp_ge, eqD_int, eqD_bl, eqL_int, eqL_bl, List.getElem?_cons_zero, List.getElem?_cons_succ, List.set_cons_zero, List.set_cons_succ, List.length_cons, List.length_nil, Option.map_some, Option.map_none, Bool.not_true, Bool.not_false, if_true, if_false, Bool.false_eq_true, decide_true, decide_false, sz_ok, sz_lt, Nat.reduceLeDiff, Nat.reduceAdd, Nat.zero_le, Int.reduceNeg, wipe, cdw_t, cmul_r, cmul_l, Int.reduceLT, Int.reduceLE])
      refine whole_ok (fd _) ?_
      (try simp only [pr_eq, vk_ok, s_cst, s_glob, s_var, s_tup, s_fz, s_alc, s_bin, s_neg, s_cmp, s_chain, s_isN, s_isB, s_and, s_or, s_and1, s_or1, s_and2, s_or2, s_not, s_ife, s_idx, s_slc, s_call, s_bi, s_isi, s_append, s_dsp, s_dnw, s_m1, s_es0, s_es1, s_ks0, s_ks1, s_no, s_so, s_disp, s_lstOf, s_rng3, s_seq, s_rng1, s_rng2, s_lc, s_lcIf, s_lcB, s_lcBI, s_nil, s_cons, s_expr, s_asg, s_sub, s_par, s_ret, s_retN, s_iff, s_for, s_pass, s_body, vB_true, vB_false, wo_some, wc_true, varD, refD, itD, blD, intD, isNonD, setAll, evT, evTs, bin_add, bin_sub, bin_mul, bin_div, bin_mod, bin_addS, bin_addT, bin_addL, cmp_eq, cmp_ne, cmp_in, cmp_nin, cmp_lt, cmp_le, cmp_gt, cmp_ge, eqD_int, eqD_bl, eqL_int, eqL_bl, List.getElem?_cons_zero, List.getElem?_cons_succ, List.set_cons_zero, List.set_cons_succ, List.length_cons, List.length_nil, Option.map_some, Option.map_none, Bool.not_true, Bool.not_false, if_true, if_false, Bool.false_eq_true, decide_true, decide_false, sz_ok, sz_lt, Nat.reduceLeDiff, Nat.reduceAdd, Nat.zero_le, Int.reduceNeg, wipe, cdw_t, cmul_r, cmul_l, Int.reduceLT, Int.reduceLE])
      refine alike_ok ?_
      (try simp only [pr_eq, vk_ok, s_cst, s_glob, s_var, s_tup, s_fz, s_alc, s_bin, s_neg, s_cmp, s_chain, s_isN, s_isB, s_and, s_or, s_and1, s_or1, s_and2, s_or2, s_not, s_ife, s_idx, s_slc, s_call, s_bi, s_isi, s_append, s_dsp, s_dnw, s_m1, s_es0, s_es1, s_ks0, s_ks1, s_no, s_so, s_disp, s_lstOf, s_rng3, s_seq, s_rng1, s_rng2, s_lc, s_lcIf, s_lcB, s_lcBI, s_nil, s_cons, s_expr, s_asg, s_sub, s_par, s_ret, s_retN, s_iff, s_for, s_pass, s_body, vB_true, vB_false, wo_some, wc_true, varD, refD, itD, blD, intD, isNonD, setAll, evT, evTs, bin_add, bin_sub, bin_mul, bin_div, bin_mod, bin_addS, bin_addT, bin_addL, cmp_eq, cmp_ne, cmp_in, cmp_nin, cmp_lt, cmp_le, cmp_gt, cmp_ge, eqD_int, eqD_bl, eqL_int, eqL_bl, List.getElem?_cons_zero, List.getElem?_cons_succ, List.set_cons_zero, List.set_cons_succ, List.length_cons, List.length_nil, Option.map_some, Option.map_none, Bool.not_true, Bool.not_false, if_true, if_false, Bool.false_eq_true, decide_true, decide_false, sz_ok, sz_lt, Nat.reduceLeDiff, Nat.reduceAdd, Nat.zero_le, Int.reduceNeg, wipe, cdw_t, cmul_r, cmul_l, Int.reduceLT, Int.reduceLE])
      exact ⟨_, _, ⟨_, _, _, _, _, _, _, _, _, _, _, _, rfl⟩, rfl, hw, by omega, by omega⟩
    · obtain ⟨p1, p2, p3, p4, p5, p6, ho, hO⟩ : ∃ p1 p2 p3 p4 p5 p6, needD l' b' c' d' e' g' = needD p1 p2 p3 p4 p5 p6 ∧ NeedOk p1 p2 p3 p4 p5 p6 := ⟨l', b', c', d', e', g', rfl, hN'⟩
      simp only [pr_eq, vk_ok, s_cst, s_glob, s_var, s_tup, s_fz, s_alc, s_bin, s_neg, s_cmp, s_chain, s_isN, s_isB, s_and, s_or, s_and1, s_or1, s_and2, s_or2, s_not, s_ife, s_idx, s_slc, s_call, s_bi, s_isi, s_append, s_dsp, s_dnw, s_m1, s_es0, s_es1, s_ks0, s_ks1, s_no, s_so, s_disp, s_lstOf, s_rng3, s_seq, s_rng1, s_rng2, s_lc, s_lcIf, s_lcB, s_lcBI, s_nil, s_cons, s_expr, s_asg, s_sub, s_par, s_ret, s_retN, s_iff, s_for, s_pass, s_body, vB_true, vB_false, wo_some, wc_true, varD, refD, itD, blD, intD, isNonD, setAll, evT, evTs, bin_add, bin_sub, bin_mul, bin_div, bin_mod, bin_addS, bin_addT, bin_addL, cmp_eq, cmp_ne, cmp_in, cmp_nin, cmp_lt, cmp_le, cmp_gt, cmp_ge, eqD_int, eqD_bl, eqL_int, eqL_bl, List.getElem?_cons_zero, List.getElem?_cons_succ, List.set_cons_zero, List.set_cons_succ, List.length_cons, List.length_nil, Option.map_some, Option.map_none, Bool.not_true, Bool.not_false, if_true, if_false, Bool.false_eq_true, decide_true, decide_false, sz_ok, sz_lt, Nat.reduceLeDiff, Nat.reduceAdd, Nat.zero_le, Int.reduceNeg, wipe, cdw_t, cmul_r, cmul_l, Int.reduceLT, Int.reduceLE, ho, s4, four_range, List.length_map]
      refine vk_lcP ([0, 1, 2, 3] : List Int) _ D.int (fun i => !decide (levels l b c d e g p1 p2 p3 p4 p5 p6 i)) ?_ ?_
      · intro j hj
        have hj4 := mem4 hj
        (try simp only [pr_eq, vk_ok, s_cst, s_glob, s_var, s_tup, s_fz, s_alc, s_bin, s_neg, s_cmp, s_chain, s_isN, s_isB, s_and, s_or, s_and1, s_or1, s_and2, s_or2, s_not, s_ife, s_idx, s_slc, s_call, s_bi, s_isi, s_append, s_dsp, s_dnw, s_m1, s_es0, s_es1, s_ks0, s_ks1, s_no, s_so, s_disp, s_lstOf, s_rng3, s_seq, s_rng1, s_rng2, s_lc, s_lcIf, s_lcB, s_lcBI, s_nil, s_cons, s_expr, s_asg, s_sub, s_par, s_ret, s_retN, s_iff, s_for, s_pass, s_body, vB_true, vB_false, wo_some, wc_true, varD, refD, itD, blD, intD, isNonD, setAll, evT, evTs, bin_add, bin_sub, bin_mul, bin_div, bin_mod, bin_addS, bin_addT, bin_addL, cmp_eq, cmp_ne, cmp_in, cmp_nin, cmp_lt, cmp_le, cmp_gt, cmp_ge, eqD_int, eqD_bl, eqL_int, eqL_bl, List.getElem?_cons_zero, List.getElem?_cons_succ, List.set_cons_zero, List.set_cons_succ, List.length_cons, List.length_nil, Option.map_some, Option.map_none, Bool.not_true, Bool.not_false, if_true, if_false, Bool.false_eq_true, decide_true, decide_false, sz_ok, sz_lt, Nat.reduceLeDiff, Nat.reduceAdd, Nat.zero_le, Int.reduceNeg, wipe, cdw_t, cmul_r, cmul_l, Int.reduceLT, Int.reduceLE])
        refine place_ok hj4 fun r hr => ?_
        have er : r = decide (levels l b c d e g p1 p2 p3 p4 p5 p6 j) := by
          cases r with
          | true => exact (decide_eq_true (hr.mp rfl)).symm
          | false => exact (decide_eq_false (fun z => Bool.noConfusion (hr.mpr z))).symm
        subst er
        cases hb : decide (levels l b c d e g p1 p2 p3 p4 p5 p6 j) with
        | true => (try simp only [pr_eq, vk_ok, s_cst, s_glob, s_var, s_tup, s_fz, s_alc, s_bin, s_neg, s_cmp, s_chain, s_isN, s_isB, s_and, s_or, s_and1, s_or1, s_and2, s_or2, s_not, s_ife, s_idx, s_slc, s_call, s_bi, s_isi, s_append, s_dsp, s_dnw, s_m1, s_es0, s_es1, s_ks0, s_ks1, s_no, s_so, s_disp, s_lstOf, s_rng3, s_seq, s_rng1, s_rng2, s_lc, s_lcIf, s_lcB, s_lcBI, s_nil, s_cons, s_expr, s_asg, s_sub, s_par, s_ret, s_retN, s_iff, s_for, s_pass, s_body, vB_true, vB_false, wo_some, wc_true, varD, refD, itD, blD, intD, isNonD, setAll, evT, evTs, bin_add, bin_sub, bin_mul, bin_div, bin_mod, bin_addS, bin_addT, bin_addL, cmp_eq, cmp_ne, cmp_in, cmp_nin, cmp_lt, cmp_le, cmp_gt, cmp_ge, eqD_int, eqD_bl, eqL_int, eqL_bl, List.getElem?_cons_zero, List.getElem?_cons_succ, List.set_cons_zero, List.set_cons_succ, List.length_cons, List.length_nil, Option.map_some, Option.map_none, Bool.not_true, Bool.not_false, if_true, if_false, Bool.false_eq_true, decide_true, decide_false, sz_ok, sz_lt, Nat.reduceLeDiff, Nat.reduceAdd, Nat.zero_le, Int.reduceNeg, wipe, cdw_t, cmul_r, cmul_l, Int.reduceLT, Int.reduceLE]); (first | trivial | exact ⟨trivial, trivial⟩ | exact ⟨rfl, rfl⟩ | exact ⟨trivial, rfl⟩ | exact ⟨rfl, trivial⟩ | (simp; done))
        | false => (try simp only [pr_eq, vk_ok, s_cst, s_glob, s_var, s_tup, s_fz, s_alc, s_bin, s_neg, s_cmp, s_chain, s_isN, s_isB, s_and, s_or, s_and1, s_or1, s_and2, s_or2, s_not, s_ife, s_idx, s_slc, s_call, s_bi, s_isi, s_append, s_dsp, s_dnw, s_m1, s_es0, s_es1, s_ks0, s_ks1, s_no, s_so, s_disp, s_lstOf, s_rng3, s_seq, s_rng1, s_rng2, s_lc, s_lcIf, s_lcB, s_lcBI, s_nil, s_cons, s_expr, s_asg, s_sub, s_par, s_ret, s_retN, s_iff, s_for, s_pass, s_body, vB_true, vB_false, wo_some, wc_true, varD, refD, itD, blD, intD, isNonD, setAll, evT, evTs, bin_add, bin_sub, bin_mul, bin_div, bin_mod, bin_addS, bin_addT, bin_addL, cmp_eq, cmp_ne, cmp_in, cmp_nin, cmp_lt, cmp_le, cmp_gt, cmp_ge, eqD_int, eqD_bl, eqL_int, eqL_bl, List.getElem?_cons_zero, List.getElem?_cons_succ, List.set_cons_zero, List.set_cons_succ, List.length_cons, List.length_nil, Option.map_some, Option.map_none, Bool.not_true, Bool.not_false, if_true, if_false, Bool.false_eq_true, decide_true, decide_false, sz_ok, sz_lt, Nat.reduceLeDiff, Nat.reduceAdd, Nat.zero_le, Int.reduceNeg, wipe, cdw_t, cmul_r, cmul_l, Int.reduceLT, Int.reduceLE]); (first | trivial | exact ⟨trivial, trivial⟩ | exact ⟨rfl, rfl⟩ | exact ⟨trivial, rfl⟩ | exact ⟨rfl, trivial⟩ | (simp; done))
      simp only [pr_eq, vk_ok, s_cst, s_glob, s_var, s_tup, s_fz, s_alc, s_bin, s_neg, s_cmp, s_chain, s_isN, s_isB, s_and, s_or, s_and1, s_or1, s_and2, s_or2, s_not, s_ife, s_idx, s_slc, s_call, s_bi, s_isi, s_append, s_dsp, s_dnw, s_m1, s_es0, s_es1, s_ks0, s_ks1, s_no, s_so, s_disp, s_lstOf, s_rng3, s_seq, s_rng1, s_rng2, s_lc, s_lcIf, s_lcB, s_lcBI, s_nil, s_cons, s_expr, s_asg, s_sub, s_par, s_ret, s_retN, s_iff, s_for, s_pass, s_body, vB_true, vB_false, wo_some, wc_true, varD, refD, itD, blD, intD, isNonD, setAll, evT, evTs, bin_add, bin_sub, bin_mul, bin_div, bin_mod, bin_addS, bin_addT, bin_addL, cmp_eq, cmp_ne, cmp_in, cmp_nin, cmp_lt, cmp_le, cmp_gt, cmp_ge, eqD_int, eqD_bl, eqL_int, eqL_bl, List.getElem?_cons_zero, List.getElem?_cons_succ, List.set_cons_zero, List.set_cons_succ, List.length_cons, List.length_nil, Option.map_some, Option.map_none, Bool.not_true, Bool.not_false, if_true, if_false, Bool.false_eq_true, decide_true, decide_false, sz_ok, sz_lt, Nat.reduceLeDiff, Nat.reduceAdd, Nat.zero_le, Int.reduceNeg, wipe, cdw_t, cmul_r, cmul_l, Int.reduceLT, Int.reduceLE, eqL_ints, filt4 (fun i => decide (levels l b c d e g p1 p2 p3 p4 p5 p6 i))]
      refine holds_ok ?_
      (try simp only [pr_eq, vk_ok, s_cst, s_glob, s_var, s_tup, s_fz, s_alc, s_bin, s_neg, s_cmp, s_chain, s_isN, s_isB, s_and, s_or, s_and1, s_or1, s_and2, s_or2, s_not, s_ife, s_idx, s_slc, s_call, s_bi, s_isi, s_append, s_dsp, s_dnw, s_m1, s_es0, s_es1, s_ks0, s_ks1, s_no, s_so, s_disp, s_lstOf, s_rng3, s_seq, s_rng1, s_rng2, s_lc, s_lcIf, s_lcB, s_lcBI, s_nil, s_cons, s_expr, s_asg, s_sub, s_par, s_ret, s_retN, s_iff, s_for, s_pass, s_body, vB_true, vB_false, wo_some, wc_true, varD, refD, itD, blD, intD, isNonD, setAll, evT, evTs, bin_add, bin_sub, bin_mul, bin_div, bin_mod, bin_addS, bin_addT, bin_addL, cmp_eq, cmp_ne, cmp_in, cmp_nin, cmp_lt, cmp_le, cmp_gt, cmp_ge, eqD_int, eqD_bl, eqL_int, eqL_bl, List.getElem?_cons_zero, List.getElem?_cons_succ, List.set_cons_zero, List.set_cons_succ, List.length_cons, List.length_nil, Option.map_some, Option.map_none, Bool.not_true, Bool.not_false, if_true, if_false, Bool.false_eq_true, decide_true, decide_false, sz_ok, sz_lt, Nat.reduceLeDiff, Nat.reduceAdd, Nat.zero_le, Int.reduceNeg, wipe, cdw_t, cmul_r, cmul_l, Int.reduceLT, Int.reduceLE])
      refine alike_ok ?_
      have cb : decide (within l b c d e g p1 p2 p3 p4 p5 p6) = (decide (levels l b c d e g p1 p2 p3 p4 p5 p6 0) && decide (levels l b c d e g p1 p2 p3 p4 p5 p6 1) && decide (levels l b c d e g p1 p2 p3 p4 p5 p6 2) && decide (levels l b c d e g p1 p2 p3 p4 p5 p6 3)) := by
        rw [← Bool.decide_and, ← Bool.decide_and, ← Bool.decide_and]
        exact decide_eq_decide.mpr ((lv_iff hN hO).trans (by simp only [and_assoc]))
      have cc : decide (within l b c d e g l b c d e g) = true := decide_eq_true (by unfold within; omega)
      simp only [pr_eq, vk_ok, s_cst, s_glob, s_var, s_tup, s_fz, s_alc, s_bin, s_neg, s_cmp, s_chain, s_isN, s_isB, s_and, s_or, s_and1, s_or1, s_and2, s_or2, s_not, s_ife, s_idx, s_slc, s_call, s_bi, s_isi, s_append, s_dsp, s_dnw, s_m1, s_es0, s_es1, s_ks0, s_ks1, s_no, s_so, s_disp, s_lstOf, s_rng3, s_seq, s_rng1, s_rng2, s_lc, s_lcIf, s_lcB, s_lcBI, s_nil, s_cons, s_expr, s_asg, s_sub, s_par, s_ret, s_retN, s_iff, s_for, s_pass, s_body, vB_true, vB_false, wo_some, wc_true, varD, refD, itD, blD, intD, isNonD, setAll, evT, evTs, bin_add, bin_sub, bin_mul, bin_div, bin_mod, bin_addS, bin_addT, bin_addL, cmp_eq, cmp_ne, cmp_in, cmp_nin, cmp_lt, cmp_le, cmp_gt, cmp_ge, eqD_int, eqD_bl, eqL_int, eqL_bl, List.getElem?_cons_zero, List.getElem?_cons_succ, List.set_cons_zero, List.set_cons_succ, List.length_cons, List.length_nil, Option.map_some, Option.map_none, Bool.not_true, Bool.not_false, if_true, if_false, Bool.false_eq_true, decide_true, decide_false, sz_ok, sz_lt, Nat.reduceLeDiff, Nat.reduceAdd, Nat.zero_le, Int.reduceNeg, wipe, cdw_t, cmul_r, cmul_l, Int.reduceLT, Int.reduceLE, cb]
      refine holds_ok ?_
      simp only [pr_eq, vk_ok, s_cst, s_glob, s_var, s_tup, s_fz, s_alc, s_bin, s_neg, s_cmp, s_chain, s_isN, s_isB, s_and, s_or, s_and1, s_or1, s_and2, s_or2, s_not, s_ife, s_idx, s_slc, s_call, s_bi, s_isi, s_append, s_dsp, s_dnw, s_m1, s_es0, s_es1, s_ks0, s_ks1, s_no, s_so, s_disp, s_lstOf, s_rng3, s_seq, s_rng1, s_rng2, s_lc, s_lcIf, s_lcB, s_lcBI, s_nil, s_cons, s_expr, s_asg, s_sub, s_par, s_ret, s_retN, s_iff, s_for, s_pass, s_body, vB_true, vB_false, wo_some, wc_true, varD, refD, itD, blD, intD, isNonD, setAll, evT, evTs, bin_add, bin_sub, bin_mul, bin_div, bin_mod, bin_addS, bin_addT, bin_addL, cmp_eq, cmp_ne, cmp_in, cmp_nin, cmp_lt, cmp_le, cmp_gt, cmp_ge, eqD_int, eqD_bl, eqL_int, eqL_bl, List.getElem?_cons_zero, List.getElem?_cons_succ, List.set_cons_zero, List.set_cons_succ, List.length_cons, List.length_nil, Option.map_some, Option.map_none, Bool.not_true, Bool.not_false, if_true, if_false, Bool.false_eq_true, decide_true, decide_false, sz_ok, sz_lt, Nat.reduceLeDiff, Nat.reduceAdd, Nat.zero_le, Int.reduceNeg, wipe, cdw_t, cmul_r, cmul_l, Int.reduceLT, Int.reduceLE, cc]
      refine alike_ok ?_
      (try simp only [pr_eq, vk_ok, s_cst, s_glob, s_var, s_tup, s_fz, s_alc, s_bin, s_neg, s_cmp, s_chain, s_isN, s_isB, s_and, s_or, s_and1, s_or1, s_and2, s_or2, s_not, s_ife, s_idx, s_slc, s_call, s_bi, s_isi, s_append, s_dsp, s_dnw, s_m1, s_es0, s_es1, s_ks0, s_ks1, s_no, s_so, s_disp, s_lstOf, s_rng3, s_seq, s_rng1, s_rng2, s_lc, s_lcIf, s_lcB, s_lcBI, s_nil, s_cons, s_expr, s_asg, s_sub, s_par, s_ret, s_retN, s_iff, s_for, s_pass, s_body, vB_true, vB_false, wo_some, wc_true, varD, refD, itD, blD, intD, isNonD, setAll, evT, evTs, bin_add, bin_sub, bin_mul, bin_div, bin_mod, bin_addS, bin_addT, bin_addL, cmp_eq, cmp_ne, cmp_in, cmp_nin, cmp_lt, cmp_le, cmp_gt, cmp_ge, eqD_int, eqD_bl, eqL_int, eqL_bl, List.getElem?_cons_zero, List.getElem?_cons_succ, List.set_cons_zero, List.set_cons_succ, List.length_cons, List.length_nil, Option.map_some, Option.map_none, Bool.not_true, Bool.not_false, if_true, if_false, Bool.false_eq_true, decide_true, decide_false, sz_ok, sz_lt, Nat.reduceLeDiff, Nat.reduceAdd, Nat.zero_le, Int.reduceNeg, wipe, cdw_t, cmul_r, cmul_l, Int.reduceLT, Int.reduceLE])
      refine cell_ok hl (by omega) (by omega) fun u hu => ?_
      (try simp only [pr_eq, vk_ok, s_cst, s_glob, s_var, s_tup, s_fz, s_alc, s_bin, s_neg, s_cmp, s_chain, s_isN, s_isB, s_and, s_or, s_and1, s_or1, s_and2, s_or2, s_not, s_ife, s_idx, s_slc, s_call, s_bi, s_isi, s_append, s_dsp, s_dnw, s_m1, s_es0, s_es1, s_ks0, s_ks1, s_no, s_so, s_disp, s_lstOf, s_rng3, s_seq, s_rng1, s_rng2, s_lc, s_lcIf, s_lcB, s_lcBI, s_nil, s_cons, s_expr, s_asg, s_sub, s_par, s_ret, s_retN, s_iff, s_for, s_pass, s_body, vB_true, vB_false, wo_some, wc_true, varD, refD, itD, blD, intD, isNonD, setAll, evT, evTs, bin_add, bin_sub, bin_mul, bin_div, bin_mod, bin_addS, bin_addT, bin_addL, cmp_eq, cmp_ne, cmp_in, cmp_nin, cmp_lt, cmp_le, cmp_gt, cmp_ge, eqD_int, eqD_bl, eqL_int, eqL_bl, List.getElem?_cons_zero, List.getElem?_cons_succ, List.set_cons_zero, List.set_cons_succ, List.length_cons, List.length_nil, Option.map_some, Option.map_none, Bool.not_true, Bool.not_false, if_true, if_false, Bool.false_eq_true, decide_true, decide_false, sz_ok, sz_lt, Nat.reduceLeDiff, Nat.reduceAdd, Nat.zero_le, Int.reduceNeg, wipe, cdw_t, cmul_r, cmul_l, Int.reduceLT, Int.reduceLE])
      refine odd_ok hw hc hN fun x w hw hx => ?_
      (try simp only [pr_eq, vk_ok, s_cst, s_glob, s_var, s_tup, s_fz, s_alc, s_bin, s_neg, s_cmp, s_chain, s_isN, s_isB, s_and, s_or, s_and1, s_or1, s_and2, s_or2, s_not, s_ife, s_idx, s_slc, s_call, s_bi, s_isi, s_append, s_dsp, s_dnw, s_m1, s_es0, s_es1, s_ks0, s_ks1, s_no, s_so, s_disp, s_lstOf, s_rng3, s_seq, s_rng1, s_rng2, s_lc, s_lcIf, s_lcB, s_lcBI, s_nil, s_cons, s_expr, s_asg, s_sub, s_par, s_ret, s_retN, s_iff, s_for, s_pass, s_body, vB_true, vB_false, wo_some, wc_true, varD, refD, itD, blD, intD, isNonD, setAll, evT, evTs, bin_add, bin_sub, bin_mul, bin_div, bin_mod, bin_addS, bin_addT, bin_addL, cmp_eq, cmp_ne, cmp_in, cmp_nin, cmp_lt, cmp_le, cmp_gt, cmp_ge, eqD_int, eqD_bl, eqL_int, eqL_bl, List.getElem?_cons_zero, List.getElem?_cons_succ, List.set_cons_zero, List.set_cons_succ, List.length_cons, List.length_nil, Option.map_some, Option.map_none, Bool.not_true, Bool.not_false, if_true, if_false, Bool.false_eq_true, decide_true, decide_false, sz_ok, sz_lt, Nat.reduceLeDiff, Nat.reduceAdd, Nat.zero_le, Int.reduceNeg, wipe, cdw_t, cmul_r, cmul_l, Int.reduceLT, Int.reduceLE])
      refine care_ok hx.toFine ?_
      (try simp only [pr_eq, vk_ok, s_cst, s_glob, s_var, s_tup, s_fz, s_alc, s_bin, s_neg, s_cmp, s_chain, s_isN, s_isB, s_and, s_or, s_and1, s_or1, s_and2, s_or2, s_not, s_ife, s_idx, s_slc, s_call, s_bi, s_isi, s_append, s_dsp, s_dnw, s_m1, s_es0, s_es1, s_ks0, s_ks1, s_no, s_so, s_disp, s_lstOf, s_rng3, s_seq, s_rng1, s_rng2, s_lc, s_lcIf, s_lcB, s_lcBI, s_nil, s_cons, s_expr, s_asg, s_sub, s_par, s_ret, s_retN, s_iff, s_for, s_pass, s_body, vB_true, vB_false, wo_some, wc_true, varD, refD, itD, blD, intD, isNonD, setAll, evT, evTs, bin_add, bin_sub, bin_mul, bin_div, bin_mod, bin_addS, bin_addT, bin_addL, cmp_eq, cmp_ne, cmp_in, cmp_nin, cmp_lt, cmp_le, cmp_gt, cmp_ge, eqD_int, eqD_bl, eqL_int, eqL_bl, List.getElem?_cons_zero, List.getElem?_cons_succ, List.set_cons_zero, List.set_cons_succ, List.length_cons, List.length_nil, Option.map_some, Option.map_none, Bool.not_true, Bool.not_false, if_true, if_false, Bool.false_eq_true, decide_true, decide_false, sz_ok, sz_lt, Nat.reduceLeDiff, Nat.reduceAdd, Nat.zero_le, Int.reduceNeg, wipe, cdw_t, cmul_r, cmul_l, Int.reduceLT, Int.reduceLE])
      refine lawcare_ok hx.toFine ?_
      (try simp only [pr_eq, vk_ok, s_cst, s_glob, s_var, s_tup, s_fz, s_alc, s_bin, s_neg, s_cmp, s_chain, s_isN, s_isB, s_and, s_or, s_and1, s_or1, s_and2, s_or2, s_not, s_ife, s_idx, s_slc, s_call, s_bi, s_isi, s_append, s_dsp, s_dnw, s_m1, s_es0, s_es1, s_ks0, s_ks1, s_no, s_so, s_disp, s_lstOf, s_rng3, s_seq, s_rng1, s_rng2, s_lc, s_lcIf, s_lcB, s_lcBI, s_nil, s_cons, s_expr, s_asg, s_sub, s_par, s_ret, s_retN, s_iff, s_for, s_pass, s_body, vB_true, vB_false, wo_some, wc_true, varD, refD, itD, blD, intD, isNonD, setAll, evT, evTs, bin_add, bin_sub, bin_mul, bin_div, bin_mod, bin_addS, bin_addT, bin_addL, cmp_eq, cmp_ne, cmp_in, cmp_nin, cmp_lt, cmp_le, cmp_gt, cmp_ge, eqD_int, eqD_bl, eqL_int, eqL_bl, List.getElem?_cons_zero, List.getElem?_cons_succ, List.set_cons_zero, List.set_cons_succ, List.length_cons, List.length_nil, Option.map_some, Option.map_none, Bool.not_true, Bool.not_false, if_true, if_false, Bool.false_eq_true, decide_true, decide_false, sz_ok, sz_lt, Nat.reduceLeDiff, Nat.reduceAdd, Nat.zero_le, Int.reduceNeg, wipe, cdw_t, cmul_r, cmul_l, Int.reduceLT, Int.reduceLE])
      refine alike_ok ?_
      (try simp only [pr_eq, vk_ok, s_cst, s_glob, s_var, s_tup, s_fz, s_alc, s_bin, s_neg, s_cmp, s_chain, s_isN, s_isB, s_and, s_or, s_and1, s_or1, s_and2, s_or2, s_not, s_ife, s_idx, s_slc, s_call, s_bi, s_isi, s_append, s_dsp, s_dnw, s_m1, s_es0, s_es1, s_ks0, s_ks1, s_no, s_so, s_disp, s_lstOf, s_rng3, s_seq, s_rng1, s_rng2, s_lc, s_lcIf, s_lcB, s_lcBI, s_nil, s_cons, s_expr, s_asg, s_sub, s_par, s_ret, s_retN, s_iff, s_for, s_pass, s_body, vB_true, vB_false, wo_some, wc_true, varD, refD, itD, blD, intD, isNonD, setAll, evT, evTs, bin_add, bin_sub, bin_mul, bin_div, bin_mod, bin_addS, bin_addT, bin_addL, cmp_eq, cmp_ne, cmp_in, cmp_nin, cmp_lt, cmp_le, cmp_gt, cmp_ge, eqD_int, eqD_bl, eqL_int, eqL_bl, List.getElem?_cons_zero, List.getElem?_cons_succ, List.set_cons_zero, List.set_cons_succ, List.length_cons, List.length_nil, Option.map_some, Option.map_none, Bool.not_true, Bool.not_false, if_true, if_false, Bool.false_eq_true, decide_true, decide_false, sz_ok, sz_lt, Nat.reduceLeDiff, Nat.reduceAdd, Nat.zero_le, Int.reduceNeg, wipe, cdw_t, cmul_r, cmul_l, Int.reduceLT, Int.reduceLE])
      refine need2_ok hx ?_
      (try simp only [pr_eq, vk_ok, s_cst, s_glob, s_var, s_tup, s_fz, s_alc, s_bin, s_neg, s_cmp, s_chain, s_isN, s_isB, s_and, s_or, s_and1, s_or1, s_and2, s_or2, s_not, s_ife, s_idx, s_slc, s_call, s_bi, s_isi, s_append, s_dsp, s_dnw, s_m1, s_es0, s_es1, s_ks0, s_ks1, s_no, s_so, s_disp, s_lstOf, s_rng3, s_seq, s_rng1, s_rng2, s_lc, s_lcIf, s_lcB, s_lcBI, s_nil, s_cons, s_expr, s_asg, s_sub, s_par, s_ret, s_retN, s_iff, s_for, s_pass, s_body, vB_true, vB_false, wo_some, wc_true, varD, refD, itD, blD, intD, isNonD, setAll, evT, evTs, bin_add, bin_sub, bin_mul, bin_div, bin_mod, bin_addS, bin_addT, bin_addL, cmp_eq, cmp_ne, cmp_in, cmp_nin, cmp_lt, cmp_le, cmp_gt, cmp_ge, eqD_int, eqD_bl, eqL_int, eqL_bl, List.getElem?_cons_zero, List.getElem?_cons_succ, List.set_cons_zero, List.set_cons_succ, List.length_cons, List.length_nil, Option.map_some, Option.map_none, Bool.not_true, Bool.not_false, if_true, if_false, Bool.false_eq_true, decide_true, decide_false, sz_ok, sz_lt, Nat.reduceLeDiff, Nat.reduceAdd, Nat.zero_le, Int.reduceNeg, wipe, cdw_t, cmul_r, cmul_l, Int.reduceLT, Int.reduceLE])
      refine lawneed_ok hx ?_
      (try simp only [pr_eq, vk_ok, s_cst, s_glob, s_var, s_tup, s_fz, s_alc, s_bin, s_neg, s_cmp, s_chain, s_isN, s_isB, s_and, s_or, s_and1, s_or1, s_and2, s_or2, s_not, s_ife, s_idx, s_slc, s_call, s_bi, s_isi, s_append, s_dsp, s_dnw, s_m1, s_es0, s_es1, s_ks0, s_ks1, s_no, s_so, s_disp, s_lstOf, s_rng3, s_seq, s_rng1, s_rng2, s_lc, s_lcIf, s_lcB, s_lcBI, s_nil, s_cons, s_expr, s_asg, s_sub, s_par, s_ret, s_retN, s_iff, s_for, s_pass, s_body, vB_true, vB_false, wo_some, wc_true, varD, refD, itD, blD, intD, isNonD, setAll, evT, evTs, bin_add, bin_sub, bin_mul, bin_div, bin_mod, bin_addS, bin_addT, bin_addL, cmp_eq, cmp_ne, cmp_in, cmp_nin, cmp_lt, cmp_le, cmp_gt, cmp_ge, eqD_int, eqD_bl, eqL_int, eqL_bl, List.getElem?_cons_zero, List.getElem?_cons_succ, List.set_cons_zero, List.set_cons_succ, List.length_cons, List.length_nil, Option.map_some, Option.map_none, Bool.not_true, Bool.not_false, if_true, if_false, Bool.false_eq_true, decide_true, decide_false, sz_ok, sz_lt, Nat.reduceLeDiff, Nat.reduceAdd, Nat.zero_le, Int.reduceNeg, wipe, cdw_t, cmul_r, cmul_l, Int.reduceLT, Int.reduceLE])
      refine alike_ok ?_
      (try simp only [pr_eq, vk_ok, s_cst, s_glob, s_var, s_tup, s_fz, s_alc, s_bin, s_neg, s_cmp, s_chain, s_isN, s_isB, s_and, s_or, s_and1, s_or1, s_and2, s_or2, s_not, s_ife, s_idx, s_slc, s_call, s_bi, s_isi, s_append, s_dsp, s_dnw, s_m1, s_es0, s_es1, s_ks0, s_ks1, s_no, s_so, s_disp, s_lstOf, s_rng3, s_seq, s_rng1, s_rng2, s_lc, s_lcIf, s_lcB, s_lcBI, s_nil, s_cons, s_expr, s_asg, s_sub, s_par, s_ret, s_retN, s_iff, s_for, s_pass, s_body, vB_true, vB_false, wo_some, wc_true, varD, refD, itD, blD, intD, isNonD, setAll, evT, evTs, bin_add, bin_sub, bin_mul, bin_div, bin_mod, bin_addS, bin_addT, bin_addL, cmp_eq, cmp_ne, cmp_in, cmp_nin, cmp_lt, cmp_le, cmp_gt, cmp_ge, eqD_int, eqD_bl, eqL_int, eqL_bl, List.getElem?_cons_zero, List.getElem?_cons_succ, List.set_cons_zero, List.set_cons_succ, List.length_cons, List.length_nil, Option.map_some, Option.map_none, Bool.not_true, Bool.not_false, if_true, if_false, Bool.false_eq_true, decide_true, decide_false, sz_ok, sz_lt, Nat.reduceLeDiff, Nat.reduceAdd, Nat.zero_le, Int.reduceNeg, wipe, cdw_t, cmul_r, cmul_l, Int.reduceLT, Int.reduceLE])
      refine care_ok (fine2_care _ _ _ _ _).toFine ?_
      have oc : okCare (.tup [.int x0, .int x1, .int x2, .int x3]) = true := by
        have w : ∀ i : Int, 0 ≤ i ∧ i ≤ 99 → okW (.int i) 99 = true := fun i h => decide_eq_true h
        simp only [okCare, List.all_cons, List.all_nil, w x0 (hc x0 (by simp)), w x1 (hc x1 (by simp)), w x2 (hc x2 (by simp)), w x3 (hc x3 (by simp))]
        rfl
      simp only [pr_eq, vk_ok, s_cst, s_glob, s_var, s_tup, s_fz, s_alc, s_bin, s_neg, s_cmp, s_chain, s_isN, s_isB, s_and, s_or, s_and1, s_or1, s_and2, s_or2, s_not, s_ife, s_idx, s_slc, s_call, s_bi, s_isi, s_append, s_dsp, s_dnw, s_m1, s_es0, s_es1, s_ks0, s_ks1, s_no, s_so, s_disp, s_lstOf, s_rng3, s_seq, s_rng1, s_rng2, s_lc, s_lcIf, s_lcB, s_lcBI, s_nil, s_cons, s_expr, s_asg, s_sub, s_par, s_ret, s_retN, s_iff, s_for, s_pass, s_body, vB_true, vB_false, wo_some, wc_true, varD, refD, itD, blD, intD, isNonD, setAll, evT, evTs, bin_add, bin_sub, bin_mul, bin_div, bin_mod, bin_addS, bin_addT, bin_addL, cmp_eq, cmp_ne, cmp_in, cmp_nin, cmp_lt, cmp_le, cmp_gt, cmp_ge, eqD_int, eqD_bl, eqL_int, eqL_bl, List.getElem?_cons_zero, List.getElem?_cons_succ, List.set_cons_zero, List.set_cons_succ, List.length_cons, List.length_nil, Option.map_some, Option.map_none, Bool.not_true, Bool.not_false, if_true, if_false, Bool.false_eq_true, decide_true, decide_false, sz_ok, sz_lt, Nat.reduceLeDiff, Nat.reduceAdd, Nat.zero_le, Int.reduceNeg, wipe, cdw_t, cmul_r, cmul_l, Int.reduceLT, Int.reduceLE, oc]
      refine need2_ok (fine2_need _ _ _ _ _ _ _) ?_
      simp only [pr_eq, vk_ok, s_cst, s_glob, s_var, s_tup, s_fz, s_alc, s_bin, s_neg, s_cmp, s_chain, s_isN, s_isB, s_and, s_or, s_and1, s_or1, s_and2, s_or2, s_not, s_ife, s_idx, s_slc, s_call, s_bi, s_isi, s_append, s_dsp, s_dnw, s_m1, s_es0, s_es1, s_ks0, s_ks1, s_no, s_so, s_disp, s_lstOf, s_rng3, s_seq, s_rng1, s_rng2, s_lc, s_lcIf, s_lcB, s_lcBI, s_nil, s_cons, s_expr, s_asg, s_sub, s_par, s_ret, s_retN, s_iff, s_for, s_pass, s_body, vB_true, vB_false, wo_some, wc_true, varD, refD, itD, blD, intD, isNonD, setAll, evT, evTs, bin_add, bin_sub, bin_mul, bin_div, bin_mod, bin_addS, bin_addT, bin_addL, cmp_eq, cmp_ne, cmp_in, cmp_nin, cmp_lt, cmp_le, cmp_gt, cmp_ge, eqD_int, eqD_bl, eqL_int, eqL_bl, List.getElem?_cons_zero, List.getElem?_cons_succ, List.set_cons_zero, List.set_cons_succ, List.length_cons, List.length_nil, Option.map_some, Option.map_none, Bool.not_true, Bool.not_false, if_true, if_false, Bool.false_eq_true, decide_true, decide_false, sz_ok, sz_lt, Nat.reduceLeDiff, Nat.reduceAdd, Nat.zero_le, Int.reduceNeg, wipe, cdw_t, cmul_r, cmul_l, Int.reduceLT, Int.reduceLE, okNeed_need hN]
      refine cell_ok hl (by omega) (by omega) fun v hv => ?_
      (try simp only [pr_eq, vk_ok, s_cst, s_glob, s_var, s_tup, s_fz, s_alc, s_bin, s_neg, s_cmp, s_chain, s_isN, s_isB, s_and, s_or, s_and1, s_or1, s_and2, s_or2, s_not, s_ife, s_idx, s_slc, s_call, s_bi, s_isi, s_append, s_dsp, s_dnw, s_m1, s_es0, s_es1, s_ks0, s_ks1, s_no, s_so, s_disp, s_lstOf, s_rng3, s_seq, s_rng1, s_rng2, s_lc, s_lcIf, s_lcB, s_lcBI, s_nil, s_cons, s_expr, s_asg, s_sub, s_par, s_ret, s_retN, s_iff, s_for, s_pass, s_body, vB_true, vB_false, wo_some, wc_true, varD, refD, itD, blD, intD, isNonD, setAll, evT, evTs, bin_add, bin_sub, bin_mul, bin_div, bin_mod, bin_addS, bin_addT, bin_addL, cmp_eq, cmp_ne, cmp_in, cmp_nin, cmp_lt, cmp_le, cmp_gt, cmp_ge, eqD_int, eqD_bl, eqL_int, eqL_bl, List.getElem?_cons_zero, List.getElem?_cons_succ, List.set_cons_zero, List.set_cons_succ, List.length_cons, List.length_nil, Option.map_some, Option.map_none, Bool.not_true, Bool.not_false, if_true, if_false, Bool.false_eq_true, decide_true, decide_false, sz_ok, sz_lt, Nat.reduceLeDiff, Nat.reduceAdd, Nat.zero_le, Int.reduceNeg, wipe, cdw_t, cmul_r, cmul_l, Int.reduceLT, Int.reduceLE])
      refine text_ok fun y hy => ?_
      simp only [pr_eq, vk_ok, s_cst, s_glob, s_var, s_tup, s_fz, s_alc, s_bin, s_neg, s_cmp, s_chain, s_isN, s_isB, s_and, s_or, s_and1, s_or1, s_and2, s_or2, s_not, s_ife, s_idx, s_slc, s_call, s_bi, s_isi, s_append, s_dsp, s_dnw, s_m1, s_es0, s_es1, s_ks0, s_ks1, s_no, s_so, s_disp, s_lstOf, s_rng3, s_seq, s_rng1, s_rng2, s_lc, s_lcIf, s_lcB, s_lcBI, s_nil, s_cons, s_expr, s_asg, s_sub, s_par, s_ret, s_retN, s_iff, s_for, s_pass, s_body, vB_true, vB_false, wo_some, wc_true, varD, refD, itD, blD, intD, isNonD, setAll, evT, evTs, bin_add, bin_sub, bin_mul, bin_div, bin_mod, bin_addS, bin_addT, bin_addL, cmp_eq, cmp_ne, cmp_in, cmp_nin, cmp_lt, cmp_le, cmp_gt, cmp_ge, eqD_int, eqD_bl, eqL_int, eqL_bl, List.getElem?_cons_zero, List.getElem?_cons_succ, List.set_cons_zero, List.set_cons_succ, List.length_cons, List.length_nil, Option.map_some, Option.map_none, Bool.not_true, Bool.not_false, if_true, if_false, Bool.false_eq_true, decide_true, decide_false, sz_ok, sz_lt, Nat.reduceLeDiff, Nat.reduceAdd, Nat.zero_le, Int.reduceNeg, wipe, cdw_t, cmul_r, cmul_l, Int.reduceLT, Int.reduceLE, seld8]
      refine name_ok hy ?_
      (try simp only [pr_eq, vk_ok, s_cst, s_glob, s_var, s_tup, s_fz, s_alc, s_bin, s_neg, s_cmp, s_chain, s_isN, s_isB, s_and, s_or, s_and1, s_or1, s_and2, s_or2, s_not, s_ife, s_idx, s_slc, s_call, s_bi, s_isi, s_append, s_dsp, s_dnw, s_m1, s_es0, s_es1, s_ks0, s_ks1, s_no, s_so, s_disp, s_lstOf, s_rng3, s_seq, s_rng1, s_rng2, s_lc, s_lcIf, s_lcB, s_lcBI, s_nil, s_cons, s_expr, s_asg, s_sub, s_par, s_ret, s_retN, s_iff, s_for, s_pass, s_body, vB_true, vB_false, wo_some, wc_true, varD, refD, itD, blD, intD, isNonD, setAll, evT, evTs, bin_add, bin_sub, bin_mul, bin_div, bin_mod, bin_addS, bin_addT, bin_addL, cmp_eq, cmp_ne, cmp_in, cmp_nin, cmp_lt, cmp_le, cmp_gt, cmp_ge, eqD_int, eqD_bl, eqL_int, eqL_bl, List.getElem?_cons_zero, List.getElem?_cons_succ, List.set_cons_zero, List.set_cons_succ, List.length_cons, List.length_nil, Option.map_some, Option.map_none, Bool.not_true, Bool.not_false, if_true, if_false, Bool.false_eq_true, decide_true, decide_false, sz_ok, sz_lt, Nat.reduceLeDiff, Nat.reduceAdd, Nat.zero_le, Int.reduceNeg, wipe, cdw_t, cmul_r, cmul_l, Int.reduceLT, Int.reduceLE])
      refine lawname_ok hy ?_
      (try simp only [pr_eq, vk_ok, s_cst, s_glob, s_var, s_tup, s_fz, s_alc, s_bin, s_neg, s_cmp, s_chain, s_isN, s_isB, s_and, s_or, s_and1, s_or1, s_and2, s_or2, s_not, s_ife, s_idx, s_slc, s_call, s_bi, s_isi, s_append, s_dsp, s_dnw, s_m1, s_es0, s_es1, s_ks0, s_ks1, s_no, s_so, s_disp, s_lstOf, s_rng3, s_seq, s_rng1, s_rng2, s_lc, s_lcIf, s_lcB, s_lcBI, s_nil, s_cons, s_expr, s_asg, s_sub, s_par, s_ret, s_retN, s_iff, s_for, s_pass, s_body, vB_true, vB_false, wo_some, wc_true, varD, refD, itD, blD, intD, isNonD, setAll, evT, evTs, bin_add, bin_sub, bin_mul, bin_div, bin_mod, bin_addS, bin_addT, bin_addL, cmp_eq, cmp_ne, cmp_in, cmp_nin, cmp_lt, cmp_le, cmp_gt, cmp_ge, eqD_int, eqD_bl, eqL_int, eqL_bl, List.getElem?_cons_zero, List.getElem?_cons_succ, List.set_cons_zero, List.set_cons_succ, List.length_cons, List.length_nil, Option.map_some, Option.map_none, Bool.not_true, Bool.not_false, if_true, if_false, Bool.false_eq_true, decide_true, decide_false, sz_ok, sz_lt, Nat.reduceLeDiff, Nat.reduceAdd, Nat.zero_le, Int.reduceNeg, wipe, cdw_t, cmul_r, cmul_l, Int.reduceLT, Int.reduceLE])
      refine alike_ok ?_
      (try simp only [pr_eq, vk_ok, s_cst, s_glob, s_var, s_tup, s_fz, s_alc, s_bin, s_neg, s_cmp, s_chain, s_isN, s_isB, s_and, s_or, s_and1, s_or1, s_and2, s_or2, s_not, s_ife, s_idx, s_slc, s_call, s_bi, s_isi, s_append, s_dsp, s_dnw, s_m1, s_es0, s_es1, s_ks0, s_ks1, s_no, s_so, s_disp, s_lstOf, s_rng3, s_seq, s_rng1, s_rng2, s_lc, s_lcIf, s_lcB, s_lcBI, s_nil, s_cons, s_expr, s_asg, s_sub, s_par, s_ret, s_retN, s_iff, s_for, s_pass, s_body, vB_true, vB_false, wo_some, wc_true, varD, refD, itD, blD, intD, isNonD, setAll, evT, evTs, bin_add, bin_sub, bin_mul, bin_div, bin_mod, bin_addS, bin_addT, bin_addL, cmp_eq, cmp_ne, cmp_in, cmp_nin, cmp_lt, cmp_le, cmp_gt, cmp_ge, eqD_int, eqD_bl, eqL_int, eqL_bl, List.getElem?_cons_zero, List.getElem?_cons_succ, List.set_cons_zero, List.set_cons_succ, List.length_cons, List.length_nil, Option.map_some, Option.map_none, Bool.not_true, Bool.not_false, if_true, if_false, Bool.false_eq_true, decide_true, decide_false, sz_ok, sz_lt, Nat.reduceLeDiff, Nat.reduceAdd, Nat.zero_le, Int.reduceNeg, wipe, cdw_t, cmul_r, cmul_l, Int.reduceLT, Int.reduceLE])
      have fd : ∀ m, fineD m (selD [.int (n % 10000), .int 9999, .int (10000 + n % 7), .int (0 - 1 - n % 3), .bl true, .non, .str "5", .int 0] (n / 12)) = true := by
        intro m
        have := selD_mem (l := [D.int (n % 10000), .int 9999, .int (10000 + n % 7), .int (0 - 1 - n % 3), .bl true, .non, .str "5", .int 0]) (n / 12) (by simp)
        generalize selD _ _ = z at this ⊢
        simp only [List.mem_cons, List.not_mem_nil, or_false] at this
        obtain rfl | rfl | rfl | rfl | rfl | rfl | rfl | rfl := this <;> rfl
      refine day_ok (fd _) ?_
      (try simp only [pr_eq, vk_ok, s_cst, s_glob, s_var, s_tup, s_fz, s_alc, s_bin, s_neg, s_cmp, s_chain, s_isN, s_isB, s_and, s_or, s_and1, s_or1, s_and2, s_or2, s_not, s_ife, s_idx, s_slc, s_call, s_bi, s_isi, s_append, s_dsp, s_dnw, s_m1, s_es0, s_es1, s_ks0, s_ks1, s_no, s_so, s_disp, s_lstOf, s_rng3, s_seq, s_rng1, s_rng2, s_lc, s_lcIf, s_lcB, s_lcBI, s_nil, s_cons, s_expr, s_asg, s_sub, s_par, s_ret, s_retN, s_iff, s_for, s_pass, s_body, vB_true, vB_false, wo_some, wc_true, varD, refD, itD, blD, intD, isNonD, setAll, evT, evTs, bin_add, bin_sub, bin_mul, bin_div, bin_mod, bin_addS, bin_addT, bin_addL, cmp_eq, cmp_ne, cmp_in, cmp_nin, cmp_lt, cmp_le, cmp_gt, cmp_ge, eqD_int, eqD_bl, eqL_int, eqL_bl, List.getElem?_cons_zero, List.getElem?_cons_succ, List.set_cons_zero, List.set_cons_succ, List.length_cons, List.length_nil, Option.map_some, Option.map_none, Bool.not_true, Bool.not_false, if_true, if_false, Bool.false_eq_true, decide_true, decide_false, sz_ok, sz_lt, Nat.reduceLeDiff, Nat.reduceAdd, Nat.zero_le, Int.reduceNeg, wipe, cdw_t, cmul_r, cmul_l, Int.reduceLT, Int.reduceLE])
      refine whole_ok (fd _) ?_
      (try simp only [pr_eq, vk_ok, s_cst, s_glob, s_var, s_tup, s_fz, s_alc, s_bin, s_neg, s_cmp, s_chain, s_isN, s_isB, s_and, s_or, s_and1, s_or1, s_and2, s_or2, s_not, s_ife, s_idx, s_slc, s_call, s_bi, s_isi, s_append, s_dsp, s_dnw, s_m1, s_es0, s_es1, s_ks0, s_ks1, s_no, s_so, s_disp, s_lstOf, s_rng3, s_seq, s_rng1, s_rng2, s_lc, s_lcIf, s_lcB, s_lcBI, s_nil, s_cons, s_expr, s_asg, s_sub, s_par, s_ret, s_retN, s_iff, s_for, s_pass, s_body, vB_true, vB_false, wo_some, wc_true, varD, refD, itD, blD, intD, isNonD, setAll, evT, evTs, bin_add, bin_sub, bin_mul, bin_div, bin_mod, bin_addS, bin_addT, bin_addL, cmp_eq, cmp_ne, cmp_in, cmp_nin, cmp_lt, cmp_le, cmp_gt, cmp_ge, eqD_int, eqD_bl, eqL_int, eqL_bl, List.getElem?_cons_zero, List.getElem?_cons_succ, List.set_cons_zero, List.set_cons_succ, List.length_cons, List.length_nil, Option.map_some, Option.map_none, Bool.not_true, Bool.not_false, if_true, if_false, Bool.false_eq_true, decide_true, decide_false, sz_ok, sz_lt, Nat.reduceLeDiff, Nat.reduceAdd, Nat.zero_le, Int.reduceNeg, wipe, cdw_t, cmul_r, cmul_l, Int.reduceLT, Int.reduceLE])
      refine alike_ok ?_
      (try simp only [pr_eq, vk_ok, s_cst, s_glob, s_var, s_tup, s_fz, s_alc, s_bin, s_neg, s_cmp, s_chain, s_isN, s_isB, s_and, s_or, s_and1, s_or1, s_and2, s_or2, s_not, s_ife, s_idx, s_slc, s_call, s_bi, s_isi, s_append, s_dsp, s_dnw, s_m1, s_es0, s_es1, s_ks0, s_ks1, s_no, s_so, s_disp, s_lstOf, s_rng3, s_seq, s_rng1, s_rng2, s_lc, s_lcIf, s_lcB, s_lcBI, s_nil, s_cons, s_expr, s_asg, s_sub, s_par, s_ret, s_retN, s_iff, s_for, s_pass, s_body, vB_true, vB_false, wo_some, wc_true, varD, refD, itD, blD, intD, isNonD, setAll, evT, evTs, bin_add, bin_sub, bin_mul, bin_div, bin_mod, bin_addS, bin_addT, bin_addL, cmp_eq, cmp_ne, cmp_in, cmp_nin, cmp_lt, cmp_le, cmp_gt, cmp_ge, eqD_int, eqD_bl, eqL_int, eqL_bl, List.getElem?_cons_zero, List.getElem?_cons_succ, List.set_cons_zero, List.set_cons_succ, List.length_cons, List.length_nil, Option.map_some, Option.map_none, Bool.not_true, Bool.not_false, if_true, if_false, Bool.false_eq_true, decide_true, decide_false, sz_ok, sz_lt, Nat.reduceLeDiff, Nat.reduceAdd, Nat.zero_le, Int.reduceNeg, wipe, cdw_t, cmul_r, cmul_l, Int.reduceLT, Int.reduceLE])
      exact ⟨_, _, ⟨_, _, _, _, _, _, _, _, _, _, _, _, rfl⟩, rfl, hw, by omega, by omega⟩
  · rintro ρ m ⟨a, w, ⟨v2, v3, v4, v5, v6, v7, v8, v9, v10, v11, v12, v13, rfl⟩, rfl, hw, hi, ha⟩
    simp only [pr_eq, vk_ok, s_cst, s_glob, s_var, s_tup, s_fz, s_alc, s_bin, s_neg, s_cmp, s_chain, s_isN, s_isB, s_and, s_or, s_and1, s_or1, s_and2, s_or2, s_not, s_ife, s_idx, s_slc, s_call, s_bi, s_isi, s_append, s_dsp, s_dnw, s_m1, s_es0, s_es1, s_ks0, s_ks1, s_no, s_so, s_disp, s_lstOf, s_rng3, s_seq, s_rng1, s_rng2, s_lc, s_lcIf, s_lcB, s_lcBI, s_nil, s_cons, s_expr, s_asg, s_sub, s_par, s_ret, s_retN, s_iff, s_for, s_pass, s_body, vB_true, vB_false, wo_some, wc_true, varD, refD, itD, blD, intD, isNonD, setAll, evT, evTs, bin_add, bin_sub, bin_mul, bin_div, bin_mod, bin_addS, bin_addT, bin_addL, cmp_eq, cmp_ne, cmp_in, cmp_nin, cmp_lt, cmp_le, cmp_gt, cmp_ge, eqD_int, eqD_bl, eqL_int, eqL_bl, List.getElem?_cons_zero, List.getElem?_cons_succ, List.set_cons_zero, List.set_cons_succ, List.length_cons, List.length_nil, Option.map_some, Option.map_none, Bool.not_true, Bool.not_false, if_true, if_false, Bool.false_eq_true, decide_true, decide_false, sz_ok, sz_lt, Nat.reduceLeDiff, Nat.reduceAdd, Nat.zero_le, Int.reduceNeg, wipe, cdw_t, cmul_r, cmul_l, Int.reduceLT, Int.reduceLE]
    exact leave_top _
end Lw

namespace Lw
open PySem PySem.Spec PyProof.Rows L2
theorem look0 : LookOk gln (fnsOf dcs) dcs := ⟨⟨⟨rfl, rfl, rfl, by decide +kernel, rfl, by decide +kernel, by decide +kernel⟩, ck0⟩, ⟨⟨rfl, rfl, rfl, by decide +kernel, rfl, by decide +kernel, by decide +kernel⟩, ck1⟩, ⟨⟨rfl, rfl, rfl, by decide +kernel, rfl, by decide +kernel, by decide +kernel⟩, ck2⟩, ⟨⟨rfl, rfl, rfl, by decide +kernel, rfl, by decide +kernel, by decide +kernel⟩, ck3⟩, ⟨⟨rfl, rfl, rfl, by decide +kernel, rfl, by decide +kernel, by decide +kernel⟩, ck4⟩, ⟨⟨rfl, rfl, rfl, by decide +kernel, rfl, by decide +kernel, by decide +kernel⟩, ck5⟩, ⟨⟨rfl, rfl, rfl, by decide +kernel, rfl, by decide +kernel, by decide +kernel⟩, ck6⟩, ⟨⟨rfl, rfl, rfl, by decide +kernel, rfl, by decide +kernel, by decide +kernel⟩, ck7⟩, ⟨⟨rfl, rfl, rfl, by decide +kernel, rfl, by decide +kernel, by decide +kernel⟩, ck8⟩, ⟨⟨rfl, rfl, rfl, by decide +kernel, rfl, by decide +kernel, by decide +kernel⟩, ck9⟩, ⟨⟨rfl, rfl, rfl, by decide +kernel, rfl, by decide +kernel, by decide +kernel⟩, ck10⟩, ⟨⟨rfl, rfl, rfl, by decide +kernel, rfl, by decide +kernel, by decide +kernel⟩, ck11⟩, ⟨⟨rfl, rfl, rfl, by decide +kernel, rfl, by decide +kernel, by decide +kernel⟩, ck12⟩, ⟨⟨rfl, rfl, rfl, by decide +kernel, rfl, by decide +kernel, by decide +kernel⟩, ck13⟩, ⟨⟨rfl, rfl, rfl, by decide +kernel, rfl, by decide +kernel, by decide +kernel⟩, ck14⟩, ⟨⟨rfl, rfl, rfl, by decide +kernel, rfl, by decide +kernel, by decide +kernel⟩, ck15⟩, ⟨⟨rfl, rfl, rfl, by decide +kernel, rfl, by decide +kernel, by decide +kernel⟩, ck16⟩, ⟨⟨rfl, rfl, rfl, by decide +kernel, rfl, by decide +kernel, by decide +kernel⟩, ck17⟩, ⟨⟨rfl, rfl, rfl, by decide +kernel, rfl, by decide +kernel, by decide +kernel⟩, ck18⟩, ⟨⟨rfl, rfl, rfl, by decide +kernel, rfl, by decide +kernel, by decide +kernel⟩, ck19⟩, ⟨⟨rfl, rfl, rfl, by decide +kernel, rfl, by decide +kernel, by decide +kernel⟩, ck20⟩, ⟨⟨rfl, rfl, rfl, by decide +kernel, rfl, by decide +kernel, by decide +kernel⟩, ck21⟩, trivial⟩
theorem all_mk {K : PySem.W.Frag} {h : Heap} {mg : PySem.Str → Option Value} (X : K.In h) (G : h.Ns mainGlobals mg) {f0 : Addr} {oc0 : Value} {od0 an0 : Option Addr} {osl0 : Array (Option Value)} {kV0 doc0 pm0 cdv0 ct0 : Value} {f1 : Addr} {oc1 : Value} {od1 an1 : Option Addr} {osl1 : Array (Option Value)} {kV1 doc1 pm1 cdv1 ct1 : Value} {f2 : Addr} {oc2 : Value} {od2 an2 : Option Addr} {osl2 : Array (Option Value)} {kV2 doc2 pm2 cdv2 ct2 : Value} {f3 : Addr} {oc3 : Value} {od3 an3 : Option Addr} {osl3 : Array (Option Value)} {kV3 doc3 pm3 cdv3 ct3 : Value} {f4 : Addr} {oc4 : Value} {od4 an4 : Option Addr} {osl4 : Array (Option Value)} {kV4 doc4 pm4 cdv4 ct4 : Value} {f5 : Addr} {oc5 : Value} {od5 an5 : Option Addr} {osl5 : Array (Option Value)} {kV5 doc5 pm5 cdv5 ct5 : Value} {f6 : Addr} {oc6 : Value} {od6 an6 : Option Addr} {osl6 : Array (Option Value)} {kV6 doc6 pm6 cdv6 ct6 : Value} {f7 : Addr} {oc7 : Value} {od7 an7 : Option Addr} {osl7 : Array (Option Value)} {kV7 doc7 pm7 cdv7 ct7 : Value} {f8 : Addr} {oc8 : Value} {od8 an8 : Option Addr} {osl8 : Array (Option Value)} {kV8 doc8 pm8 cdv8 ct8 : Value} {f9 : Addr} {oc9 : Value} {od9 an9 : Option Addr} {osl9 : Array (Option Value)} {kV9 doc9 pm9 cdv9 ct9 : Value} {f10 : Addr} {oc10 : Value} {od10 an10 : Option Addr} {osl10 : Array (Option Value)} {kV10 doc10 pm10 cdv10 ct10 : Value} {f11 : Addr} {oc11 : Value} {od11 an11 : Option Addr} {osl11 : Array (Option Value)} {kV11 doc11 pm11 cdv11 ct11 : Value} {f12 : Addr} {oc12 : Value} {od12 an12 : Option Addr} {osl12 : Array (Option Value)} {kV12 doc12 pm12 cdv12 ct12 : Value} {f13 : Addr} {oc13 : Value} {od13 an13 : Option Addr} {osl13 : Array (Option Value)} {kV13 doc13 pm13 cdv13 ct13 : Value} {f14 : Addr} {oc14 : Value} {od14 an14 : Option Addr} {osl14 : Array (Option Value)} {kV14 doc14 pm14 cdv14 ct14 : Value} {f15 : Addr} {oc15 : Value} {od15 an15 : Option Addr} {osl15 : Array (Option Value)} {kV15 doc15 pm15 cdv15 ct15 : Value} {f16 : Addr} {oc16 : Value} {od16 an16 : Option Addr} {osl16 : Array (Option Value)} {kV16 doc16 pm16 cdv16 ct16 : Value} {f17 : Addr} {oc17 : Value} {od17 an17 : Option Addr} {osl17 : Array (Option Value)} {kV17 doc17 pm17 cdv17 ct17 : Value} {f18 : Addr} {oc18 : Value} {od18 an18 : Option Addr} {osl18 : Array (Option Value)} {kV18 doc18 pm18 cdv18 ct18 : Value} {f19 : Addr} {oc19 : Value} {od19 an19 : Option Addr} {osl19 : Array (Option Value)} {kV19 doc19 pm19 cdv19 ct19 : Value} {f20 : Addr} {oc20 : Value} {od20 an20 : Option Addr} {osl20 : Array (Option Value)} {kV20 doc20 pm20 cdv20 ct20 : Value} {f21 : Addr} {oc21 : Value} {od21 an21 : Option Addr} {osl21 : Array (Option Value)} {kV21 doc21 pm21 cdv21 ct21 : Value} {t0 : Tok} {t1 : Tok} {t2 : Tok} {t3 : Tok}
    (a0 : PySem.W.nsIn K mainGlobals d0.F.name = some (some (.ref f0))) (l0 : K.lookup f0 = some ⟨oc0, od0, .func (PySem.W.fnOf d0.nm d0.nm (defArgs d0.st) (defBody d0.st) (defScope d0.st) .none kV0 doc0 pm0 an0 cdv0 ct0), osl0⟩) (c0 : PySem.W.codeIn K cdv0 d0.nm = true) (k0 : PySem.W.keepIn K (.ref f0) = true)
    (a1 : PySem.W.nsIn K mainGlobals d1.F.name = some (some (.ref f1))) (l1 : K.lookup f1 = some ⟨oc1, od1, .func (PySem.W.fnOf d1.nm d1.nm (defArgs d1.st) (defBody d1.st) (defScope d1.st) .none kV1 doc1 pm1 an1 cdv1 ct1), osl1⟩) (c1 : PySem.W.codeIn K cdv1 d1.nm = true) (k1 : PySem.W.keepIn K (.ref f1) = true)
    (a2 : PySem.W.nsIn K mainGlobals d2.F.name = some (some (.ref f2))) (l2 : K.lookup f2 = some ⟨oc2, od2, .func (PySem.W.fnOf d2.nm d2.nm (defArgs d2.st) (defBody d2.st) (defScope d2.st) .none kV2 doc2 pm2 an2 cdv2 ct2), osl2⟩) (c2 : PySem.W.codeIn K cdv2 d2.nm = true) (k2 : PySem.W.keepIn K (.ref f2) = true)
    (a3 : PySem.W.nsIn K mainGlobals d3.F.name = some (some (.ref f3))) (l3 : K.lookup f3 = some ⟨oc3, od3, .func (PySem.W.fnOf d3.nm d3.nm (defArgs d3.st) (defBody d3.st) (defScope d3.st) .none kV3 doc3 pm3 an3 cdv3 ct3), osl3⟩) (c3 : PySem.W.codeIn K cdv3 d3.nm = true) (k3 : PySem.W.keepIn K (.ref f3) = true)
    (a4 : PySem.W.nsIn K mainGlobals d4.F.name = some (some (.ref f4))) (l4 : K.lookup f4 = some ⟨oc4, od4, .func (PySem.W.fnOf d4.nm d4.nm (defArgs d4.st) (defBody d4.st) (defScope d4.st) .none kV4 doc4 pm4 an4 cdv4 ct4), osl4⟩) (c4 : PySem.W.codeIn K cdv4 d4.nm = true) (k4 : PySem.W.keepIn K (.ref f4) = true)
    (a5 : PySem.W.nsIn K mainGlobals d5.F.name = some (some (.ref f5))) (l5 : K.lookup f5 = some ⟨oc5, od5, .func (PySem.W.fnOf d5.nm d5.nm (defArgs d5.st) (defBody d5.st) (defScope d5.st) .none kV5 doc5 pm5 an5 cdv5 ct5), osl5⟩) (c5 : PySem.W.codeIn K cdv5 d5.nm = true) (k5 : PySem.W.keepIn K (.ref f5) = true)
    (a6 : PySem.W.nsIn K mainGlobals d6.F.name = some (some (.ref f6))) (l6 : K.lookup f6 = some ⟨oc6, od6, .func (PySem.W.fnOf d6.nm d6.nm (defArgs d6.st) (defBody d6.st) (defScope d6.st) .none kV6 doc6 pm6 an6 cdv6 ct6), osl6⟩) (c6 : PySem.W.codeIn K cdv6 d6.nm = true) (k6 : PySem.W.keepIn K (.ref f6) = true)
    (a7 : PySem.W.nsIn K mainGlobals d7.F.name = some (some (.ref f7))) (l7 : K.lookup f7 = some ⟨oc7, od7, .func (PySem.W.fnOf d7.nm d7.nm (defArgs d7.st) (defBody d7.st) (defScope d7.st) .none kV7 doc7 pm7 an7 cdv7 ct7), osl7⟩) (c7 : PySem.W.codeIn K cdv7 d7.nm = true) (k7 : PySem.W.keepIn K (.ref f7) = true)
    (a8 : PySem.W.nsIn K mainGlobals d8.F.name = some (some (.ref f8))) (l8 : K.lookup f8 = some ⟨oc8, od8, .func (PySem.W.fnOf d8.nm d8.nm (defArgs d8.st) (defBody d8.st) (defScope d8.st) .none kV8 doc8 pm8 an8 cdv8 ct8), osl8⟩) (c8 : PySem.W.codeIn K cdv8 d8.nm = true) (k8 : PySem.W.keepIn K (.ref f8) = true)
    (a9 : PySem.W.nsIn K mainGlobals d9.F.name = some (some (.ref f9))) (l9 : K.lookup f9 = some ⟨oc9, od9, .func (PySem.W.fnOf d9.nm d9.nm (defArgs d9.st) (defBody d9.st) (defScope d9.st) .none kV9 doc9 pm9 an9 cdv9 ct9), osl9⟩) (c9 : PySem.W.codeIn K cdv9 d9.nm = true) (k9 : PySem.W.keepIn K (.ref f9) = true)
    (a10 : PySem.W.nsIn K mainGlobals d10.F.name = some (some (.ref f10))) (l10 : K.lookup f10 = some ⟨oc10, od10, .func (PySem.W.fnOf d10.nm d10.nm (defArgs d10.st) (defBody d10.st) (defScope d10.st) .none kV10 doc10 pm10 an10 cdv10 ct10), osl10⟩) (c10 : PySem.W.codeIn K cdv10 d10.nm = true) (k10 : PySem.W.keepIn K (.ref f10) = true)
    (a11 : PySem.W.nsIn K mainGlobals d11.F.name = some (some (.ref f11))) (l11 : K.lookup f11 = some ⟨oc11, od11, .func (PySem.W.fnOf d11.nm d11.nm (defArgs d11.st) (defBody d11.st) (defScope d11.st) .none kV11 doc11 pm11 an11 cdv11 ct11), osl11⟩) (c11 : PySem.W.codeIn K cdv11 d11.nm = true) (k11 : PySem.W.keepIn K (.ref f11) = true)
    (a12 : PySem.W.nsIn K mainGlobals d12.F.name = some (some (.ref f12))) (l12 : K.lookup f12 = some ⟨oc12, od12, .func (PySem.W.fnOf d12.nm d12.nm (defArgs d12.st) (defBody d12.st) (defScope d12.st) .none kV12 doc12 pm12 an12 cdv12 ct12), osl12⟩) (c12 : PySem.W.codeIn K cdv12 d12.nm = true) (k12 : PySem.W.keepIn K (.ref f12) = true)
    (a13 : PySem.W.nsIn K mainGlobals d13.F.name = some (some (.ref f13))) (l13 : K.lookup f13 = some ⟨oc13, od13, .func (PySem.W.fnOf d13.nm d13.nm (defArgs d13.st) (defBody d13.st) (defScope d13.st) .none kV13 doc13 pm13 an13 cdv13 ct13), osl13⟩) (c13 : PySem.W.codeIn K cdv13 d13.nm = true) (k13 : PySem.W.keepIn K (.ref f13) = true)
    (a14 : PySem.W.nsIn K mainGlobals d14.F.name = some (some (.ref f14))) (l14 : K.lookup f14 = some ⟨oc14, od14, .func (PySem.W.fnOf d14.nm d14.nm (defArgs d14.st) (defBody d14.st) (defScope d14.st) .none kV14 doc14 pm14 an14 cdv14 ct14), osl14⟩) (c14 : PySem.W.codeIn K cdv14 d14.nm = true) (k14 : PySem.W.keepIn K (.ref f14) = true)
    (a15 : PySem.W.nsIn K mainGlobals d15.F.name = some (some (.ref f15))) (l15 : K.lookup f15 = some ⟨oc15, od15, .func (PySem.W.fnOf d15.nm d15.nm (defArgs d15.st) (defBody d15.st) (defScope d15.st) .none kV15 doc15 pm15 an15 cdv15 ct15), osl15⟩) (c15 : PySem.W.codeIn K cdv15 d15.nm = true) (k15 : PySem.W.keepIn K (.ref f15) = true)
    (a16 : PySem.W.nsIn K mainGlobals d16.F.name = some (some (.ref f16))) (l16 : K.lookup f16 = some ⟨oc16, od16, .func (PySem.W.fnOf d16.nm d16.nm (defArgs d16.st) (defBody d16.st) (defScope d16.st) .none kV16 doc16 pm16 an16 cdv16 ct16), osl16⟩) (c16 : PySem.W.codeIn K cdv16 d16.nm = true) (k16 : PySem.W.keepIn K (.ref f16) = true)
    (a17 : PySem.W.nsIn K mainGlobals d17.F.name = some (some (.ref f17))) (l17 : K.lookup f17 = some ⟨oc17, od17, .func (PySem.W.fnOf d17.nm d17.nm (defArgs d17.st) (defBody d17.st) (defScope d17.st) .none kV17 doc17 pm17 an17 cdv17 ct17), osl17⟩) (c17 : PySem.W.codeIn K cdv17 d17.nm = true) (k17 : PySem.W.keepIn K (.ref f17) = true)
    (a18 : PySem.W.nsIn K mainGlobals d18.F.name = some (some (.ref f18))) (l18 : K.lookup f18 = some ⟨oc18, od18, .func (PySem.W.fnOf d18.nm d18.nm (defArgs d18.st) (defBody d18.st) (defScope d18.st) .none kV18 doc18 pm18 an18 cdv18 ct18), osl18⟩) (c18 : PySem.W.codeIn K cdv18 d18.nm = true) (k18 : PySem.W.keepIn K (.ref f18) = true)
    (a19 : PySem.W.nsIn K mainGlobals d19.F.name = some (some (.ref f19))) (l19 : K.lookup f19 = some ⟨oc19, od19, .func (PySem.W.fnOf d19.nm d19.nm (defArgs d19.st) (defBody d19.st) (defScope d19.st) .none kV19 doc19 pm19 an19 cdv19 ct19), osl19⟩) (c19 : PySem.W.codeIn K cdv19 d19.nm = true) (k19 : PySem.W.keepIn K (.ref f19) = true)
    (a20 : PySem.W.nsIn K mainGlobals d20.F.name = some (some (.ref f20))) (l20 : K.lookup f20 = some ⟨oc20, od20, .func (PySem.W.fnOf d20.nm d20.nm (defArgs d20.st) (defBody d20.st) (defScope d20.st) .none kV20 doc20 pm20 an20 cdv20 ct20), osl20⟩) (c20 : PySem.W.codeIn K cdv20 d20.nm = true) (k20 : PySem.W.keepIn K (.ref f20) = true)
    (a21 : PySem.W.nsIn K mainGlobals d21.F.name = some (some (.ref f21))) (l21 : K.lookup f21 = some ⟨oc21, od21, .func (PySem.W.fnOf d21.nm d21.nm (defArgs d21.st) (defBody d21.st) (defScope d21.st) .none kV21 doc21 pm21 an21 cdv21 ct21), osl21⟩) (c21 : PySem.W.codeIn K cdv21 d21.nm = true) (k21 : PySem.W.keepIn K (.ref f21) = true)
    (z0 : PySem.W.nsIn K mainGlobals "len" = some none)
    (z1 : PySem.W.nsIn K mainGlobals "all" = some none)
    (z2 : PySem.W.nsIn K mainGlobals "any" = some none)
    (z3 : PySem.W.nsIn K mainGlobals "sum" = some none)
    (z4 : PySem.W.nsIn K mainGlobals "min" = some none)
    (z5 : PySem.W.nsIn K mainGlobals "max" = some none)
    (z6 : PySem.W.nsIn K mainGlobals "int" = some none)
    (z7 : PySem.W.nsIn K mainGlobals "bool" = some none)
    (z8 : PySem.W.nsIn K mainGlobals "str" = some none)
    (z9 : PySem.W.nsIn K mainGlobals "tuple" = some none)
    (z10 : PySem.W.nsIn K mainGlobals "list" = some none)
    (z11 : PySem.W.nsIn K mainGlobals "dict" = some none)
    (z12 : PySem.W.nsIn K mainGlobals "isinstance" = some none)
    (z13 : PySem.W.nsIn K mainGlobals "range" = some none)
    (z14 : PySem.W.nsIn K mainGlobals "sorted" = some none)
    (z15 : PySem.W.nsIn K mainGlobals "set" = some none)
    (z16 : PySem.W.nsIn K mainGlobals "enumerate" = some none)
    (z17 : PySem.W.nsIn K mainGlobals "repr" = some none)
    (z18 : PySem.W.nsIn K mainGlobals "ValueError" = some none)
    (gv0 : PySem.W.nsIn K mainGlobals "LAST_DAY" = some (some (.int 9999 t0)))
    (gv1 : PySem.W.nsIn K mainGlobals "MOST_LETTERS" = some (some (.int 8 t1)))
    (gv2 : PySem.W.nsIn K mainGlobals "LETTERS" = some (some (.str "abcdefghijklmnopqrstuvwxyz" t2)))
    (gv3 : PySem.W.nsIn K mainGlobals "MOST_LEVEL" = some (some (.int 99 t3))) :
    ∃ Γ : Gc, Γ.K = K ∧ TopOk Γ mg dcs gln (gsD[·]?) := by
  refine ⟨⟨K, fun _ => 0, fun _ => none⟩, rfl, top_ok ?_ look0 ⟨PySem.W.mg_none_of X G z0, PySem.W.mg_none_of X G z1, PySem.W.mg_none_of X G z2, PySem.W.mg_none_of X G z3, PySem.W.mg_none_of X G z4, PySem.W.mg_none_of X G z5, PySem.W.mg_none_of X G z6, PySem.W.mg_none_of X G z7, PySem.W.mg_none_of X G z8, PySem.W.mg_none_of X G z9, PySem.W.mg_none_of X G z10, PySem.W.mg_none_of X G z11, PySem.W.mg_none_of X G z12, PySem.W.mg_none_of X G z13, PySem.W.mg_none_of X G z14, PySem.W.mg_none_of X G z15, PySem.W.mg_none_of X G z16, PySem.W.mg_none_of X G z17, PySem.W.mg_none_of X G z18, trivial⟩ ⟨⟨_, .int 9999, PySem.W.mg_of X G gv0, ⟨_, rfl⟩, fun _ _ _ => .int _⟩, ⟨_, .int 8, PySem.W.mg_of X G gv1, ⟨_, rfl⟩, fun _ _ _ => .int _⟩, ⟨_, .str "abcdefghijklmnopqrstuvwxyz", PySem.W.mg_of X G gv2, ⟨_, rfl⟩, fun _ _ _ => .str _⟩, ⟨_, .int 99, PySem.W.mg_of X G gv3, ⟨_, rfl⟩, fun _ _ _ => .int _⟩, trivial⟩⟩
  exact ⟨def_mk X G a0 l0 c0 k0 fun _ _ _ _ _ _ us hl => match us, hl with | [_, _, _], _ => rfl, def_mk X G a1 l1 c1 k1 fun _ _ _ _ _ _ us hl => match us, hl with | [_], _ => rfl, def_mk X G a2 l2 c2 k2 fun _ _ _ _ _ _ us hl => match us, hl with | [_], _ => rfl, def_mk X G a3 l3 c3 k3 fun _ _ _ _ _ _ us hl => match us, hl with | [_, _], _ => rfl, def_mk X G a4 l4 c4 k4 fun _ _ _ _ _ _ us hl => match us, hl with | [_], _ => rfl, def_mk X G a5 l5 c5 k5 fun _ _ _ _ _ _ us hl => match us, hl with | [_], _ => rfl, def_mk X G a6 l6 c6 k6 fun _ _ _ _ _ _ us hl => match us, hl with | [_], _ => rfl, def_mk X G a7 l7 c7 k7 fun _ _ _ _ _ _ us hl => match us, hl with | [_, _], _ => rfl, def_mk X G a8 l8 c8 k8 fun _ _ _ _ _ _ us hl => match us, hl with | [_, _], _ => rfl, def_mk X G a9 l9 c9 k9 fun _ _ _ _ _ _ us hl => match us, hl with | [_, _, _], _ => rfl, def_mk X G a10 l10 c10 k10 fun _ _ _ _ _ _ us hl => match us, hl with | [_, _], _ => rfl, def_mk X G a11 l11 c11 k11 fun _ _ _ _ _ _ us hl => match us, hl with | [_, _], _ => rfl, def_mk X G a12 l12 c12 k12 fun _ _ _ _ _ _ us hl => match us, hl with | [_, _, _], _ => rfl, def_mk X G a13 l13 c13 k13 fun _ _ _ _ _ _ us hl => match us, hl with | [_, _, _], _ => rfl, def_mk X G a14 l14 c14 k14 fun _ _ _ _ _ _ us hl => match us, hl with | [_, _], _ => rfl, def_mk X G a15 l15 c15 k15 fun _ _ _ _ _ _ us hl => match us, hl with | [_], _ => rfl, def_mk X G a16 l16 c16 k16 fun _ _ _ _ _ _ us hl => match us, hl with | [_], _ => rfl, def_mk X G a17 l17 c17 k17 fun _ _ _ _ _ _ us hl => match us, hl with | [_, _, _], _ => rfl, def_mk X G a18 l18 c18 k18 fun _ _ _ _ _ _ us hl => match us, hl with | [_], _ => rfl, def_mk X G a19 l19 c19 k19 fun _ _ _ _ _ _ us hl => match us, hl with | [_], _ => rfl, def_mk X G a20 l20 c20 k20 fun _ _ _ _ _ _ us hl => match us, hl with | [_, _], _ => rfl, def_mk X G a21 l21 c21 k21 fun _ _ _ _ _ _ us hl => match us, hl with | [_], _ => rfl, trivial⟩
theorem plain0 (P : List Fn) (hP : P = dcs.map (·.F)) : ∀ ns : List Int, ns.length ≤ 63 → ∃ m, runFn P (gsD[·]?) 30 21 [.sct (ns.map .int)] [] = .ok (.bl true) m := fun ns hl => plain_of (law_ok P hP ns hl)
theorem plain : ∀ ns : List Int, ns.length ≤ 63 → ∃ m, runFn (dcs.map (·.F)) (gsD[·]?) 30 21 [.sct (ns.map .int)] [] = .ok (.bl true) m := plain0 _ rfl
end Lw
open PySem PySem.W PyProof.Rows
set_option maxRecDepth 100000 in
set_option maxHeartbeats 0 in
theorem PySem.Challenge.cw_lentwise_k01_care_and_needs_holds : PySem.Challenge.rw_lentwise_k01_care_and_needs.Holds := by
  w_on; o_law; k_head; (case hw => w_witness2)
  k_fill
  refine Lw.walk_lw (l := PySem.Challenge.rw_lentwise_k01_care_and_needs) (fuel := 30) (ds := Lw.dcs) (gl := Lw.gln) (gs := Lw.gsD) (iL := 21) (dL := Lw.d21) (x := "_law_script") rfl rfl ⟨rfl, by decide, by decide⟩ (fun w h Y => PySem.W.kIn_of Y) ?T rfl rfl rfl (fun _ _ _ _ _ _ _ => rfl) Lw.plain
  case T =>
    intro w mg h KX G
    refine' Lw.all_mk KX G ?a0 ?l0 ?c0 ?k0 ?a1 ?l1 ?c1 ?k1 ?a2 ?l2 ?c2 ?k2 ?a3 ?l3 ?c3 ?k3 ?a4 ?l4 ?c4 ?k4 ?a5 ?l5 ?c5 ?k5 ?a6 ?l6 ?c6 ?k6 ?a7 ?l7 ?c7 ?k7 ?a8 ?l8 ?c8 ?k8 ?a9 ?l9 ?c9 ?k9 ?a10 ?l10 ?c10 ?k10 ?a11 ?l11 ?c11 ?k11 ?a12 ?l12 ?c12 ?k12 ?a13 ?l13 ?c13 ?k13 ?a14 ?l14 ?c14 ?k14 ?a15 ?l15 ?c15 ?k15 ?a16 ?l16 ?c16 ?k16 ?a17 ?l17 ?c17 ?k17 ?a18 ?l18 ?c18 ?k18 ?a19 ?l19 ?c19 ?k19 ?a20 ?l20 ?c20 ?k20 ?a21 ?l21 ?c21 ?k21 ?z0 ?z1 ?z2 ?z3 ?z4 ?z5 ?z6 ?z7 ?z8 ?z9 ?z10 ?z11 ?z12 ?z13 ?z14 ?z15 ?z16 ?z17 ?z18 ?gv0 ?gv1 ?gv2 ?gv3
    (case a0 => k_is)
    (case l0 => k_is)
    (case c0 => k_is)
    (case k0 => k_is)
    (case a1 => k_is)
    (case l1 => k_is)
    (case c1 => k_is)
    (case k1 => k_is)
    (case a2 => k_is)
    (case l2 => k_is)
    (case c2 => k_is)
    (case k2 => k_is)
    (case a3 => k_is)
    (case l3 => k_is)
    (case c3 => k_is)
    (case k3 => k_is)
    (case a4 => k_is)
    (case l4 => k_is)
    (case c4 => k_is)
    (case k4 => k_is)
    (case a5 => k_is)
    (case l5 => k_is)
    (case c5 => k_is)
    (case k5 => k_is)
    (case a6 => k_is)
    (case l6 => k_is)
    (case c6 => k_is)
    (case k6 => k_is)
    (case a7 => k_is)
    (case l7 => k_is)
    (case c7 => k_is)
    (case k7 => k_is)
    (case a8 => k_is)
    (case l8 => k_is)
    (case c8 => k_is)
    (case k8 => k_is)
    (case a9 => k_is)
    (case l9 => k_is)
    (case c9 => k_is)
    (case k9 => k_is)
    (case a10 => k_is)
    (case l10 => k_is)
    (case c10 => k_is)
    (case k10 => k_is)
    (case a11 => k_is)
    (case l11 => k_is)
    (case c11 => k_is)
    (case k11 => k_is)
    (case a12 => k_is)
    (case l12 => k_is)
    (case c12 => k_is)
    (case k12 => k_is)
    (case a13 => k_is)
    (case l13 => k_is)
    (case c13 => k_is)
    (case k13 => k_is)
    (case a14 => k_is)
    (case l14 => k_is)
    (case c14 => k_is)
    (case k14 => k_is)
    (case a15 => k_is)
    (case l15 => k_is)
    (case c15 => k_is)
    (case k15 => k_is)
    (case a16 => k_is)
    (case l16 => k_is)
    (case c16 => k_is)
    (case k16 => k_is)
    (case a17 => k_is)
    (case l17 => k_is)
    (case c17 => k_is)
    (case k17 => k_is)
    (case a18 => k_is)
    (case l18 => k_is)
    (case c18 => k_is)
    (case k18 => k_is)
    (case a19 => k_is)
    (case l19 => k_is)
    (case c19 => k_is)
    (case k19 => k_is)
    (case a20 => k_is)
    (case l20 => k_is)
    (case c20 => k_is)
    (case k20 => k_is)
    (case a21 => k_is)
    (case l21 => k_is)
    (case c21 => k_is)
    (case k21 => k_is)
    (case z0 => k_is)
    (case z1 => k_is)
    (case z2 => k_is)
    (case z3 => k_is)
    (case z4 => k_is)
    (case z5 => k_is)
    (case z6 => k_is)
    (case z7 => k_is)
    (case z8 => k_is)
    (case z9 => k_is)
    (case z10 => k_is)
    (case z11 => k_is)
    (case z12 => k_is)
    (case z13 => k_is)
    (case z14 => k_is)
    (case z15 => k_is)
    (case z16 => k_is)
    (case z17 => k_is)
    (case z18 => k_is)
    (case gv0 => k_is)
    (case gv1 => k_is)
    (case gv2 => k_is)
    (case gv3 => k_is)
#print axioms PySem.Challenge.cw_lentwise_k01_care_and_needs_holds
