import PyProof.Rows.All
import Wide.All
import OpenK.AllK
import Wide.FinOn
import HandS.ForMost
import HandS.Exc
import HandS.TryOnly
import HandS.ExcOwn
import HandS.Flow
import HandS.Style
import HandS.TupAny
import HandS.TupLe
import HandS.TupMul
import HandS.Deep
import HandS.Zip
import HandS.IsInst
import HandS.More
import HandS.Conv
import HandS.SortInts
import HandS.Sort
import HandS.SortRule
import HandS.DictComp
import HandS.Lambda
import HandS.ExcIs
import HandS.DictEq
import HandS.Defaults
import HandS.CallRecv
import HandS.Small
import HandS.HeadHook1
import HandS.Head2
import HandS.HeadEnd
import HandS.HeadHook2
import HandS.HeadHook3
import HandS.HeadWalk
import PySem.Challenge.RW_asifcopied_k79_contents_and_disks
section
set_option linter.all false
set_option autoImplicit false
/-! Mp: a small deterministic interpreter. Values D (tuples inline; lists, dicts, instances by address), a heap of objects, an IR with slots. Core Lean only. -/
namespace Mp

inductive D where
  | non
  | bl (b : Bool)
  | int (i : Int)
  | str (s : List Nat)
  | tup (ds : List D)
  | ref (a : Nat)
  deriving Inhabited

mutual
def D.deq : D → D → Bool
  | .non, b => match b with | .non => true | _ => false
  | .bl a, b => match b with | .bl b => a == b | _ => false
  | .int a, b => match b with | .int b => decide (a = b) | _ => false
  | .str a, b => match b with | .str b => decide (a = b) | _ => false
  | .tup a, b => match b with | .tup b => D.deqs a b | _ => false
  | .ref a, b => match b with | .ref b => decide (a = b) | _ => false
def D.deqs : List D → List D → Bool
  | [], b => match b with | [] => true | _ :: _ => false
  | a :: as, b => match b with | [] => false | b :: bs => D.deq a b && D.deqs as bs
end
mutual
theorem D.deq_iff : ∀ a b : D, D.deq a b = true ↔ a = b
  | .non, b => by cases b <;> simp [D.deq]
  | .bl a, b => by cases b <;> simp [D.deq]
  | .int a, b => by cases b <;> simp [D.deq]
  | .str a, b => by cases b <;> simp [D.deq]
  | .tup a, b => by
    cases b with
    | tup b => simp [D.deq, D.deqs_iff a b]
    | _ => simp [D.deq]
  | .ref a, b => by cases b <;> simp [D.deq]
theorem D.deqs_iff : ∀ a b : List D, D.deqs a b = true ↔ a = b
  | [], b => by cases b <;> simp [D.deqs]
  | a :: as, b => by
    cases b with
    | nil => simp [D.deqs]
    | cons b bs => simp [D.deqs, D.deq_iff a b, D.deqs_iff as bs]
end
instance : DecidableEq D := fun a b => if h : D.deq a b = true then .isTrue ((D.deq_iff a b).mp h) else .isFalse fun e => h ((D.deq_iff a b).mpr e)

/-- an object of the heap -/
inductive MO where
  | lst (ds : List D)
  | ro (ds : List D)
  | dct (kvs : List (D × D))
  | fdct (kvs : List (D × D))
  | ins (c : Nat) (fs : List (Nat × D))
  | exc (c : Nat) (fs : List (Nat × D))
  deriving Inhabited
abbrev Heap := List MO
abbrev Env := List (Option D)

inductive Res (α : Type) where
  | ok (a : α) (h : Heap)
  | err (c : Nat) (fs : List (Nat × D)) (h : Heap)
  | stk
def Res.bind {α β : Type} (r : Res α) (f : α → Heap → Res β) : Res β :=
  match r with
  | .ok a h => f a h
  | .err c fs h => .err c fs h
  | .stk => .stk
/-- the end of a statement -/
inductive SR where
  | nx (env : Env) (h : Heap)
  | rt (d : D) (h : Heap)
  | bk (env : Env) (h : Heap)
  | ct (env : Env) (h : Heap)
  | er (c : Nat) (fs : List (Nat × D)) (env : Env) (h : Heap)
  | stk
/-- the greatest length of a text, a list, a tuple that is reckoned with -/
def lim : Nat := 1000000
/-- more turns than any loop takes -/
def fuel : Nat := 1000000000000000000

inductive BOp where | add | sub | mul | fdiv | mod | pow
  deriving DecidableEq
inductive COp where | eq | ne | lt | le | gt | ge | is_ | isnot | in_ | notin
  deriving DecidableEq
inductive Ty where | int | bool | str | tuple | list | dict | cls (c : Nat)
  deriving DecidableEq
/-- a built-in, called by values -/
inductive Bi where | abs | int | len | min2 | max2 | tuple | list | dict | str | repr | sum | max1 | min1 | all1 | any1 | sorted
  deriving DecidableEq
/-- a method of a built-in type -/
inductive Bm where | append | pop0 | pop1 | extend | insert | index | get1 | get2 | setdefault | remove | reverse | split | join | count | upper
  deriving DecidableEq

mutual
inductive Ex where
  | c (d : D)
  | v (i : Nat)
  | bin (o : BOp) (a b : Ex)
  | neg (a : Ex)
  | cmp (o : COp) (a b : Ex)
  | chain (o p : COp) (a b c : Ex)
  | and (a b : Ex)
  | or (a b : Ex)
  | not (a : Ex)
  | ite (c a b : Ex)
  | tup (es : Exs)
  | dct (es : Exs)
  | attr (e : Ex) (f : Nat)
  | idx (e i : Ex)
  | slice (e : Ex) (lo hi : Exs)
  | rev (e : Ex)
  | call (f : Nat) (es : Exs) (sel : List Nat)
  | mk (c : Nat) (es : Exs) (sel : List Nat)
  | meth (e : Ex) (m : Nat) (es : Exs) (sel : List Nat)
  | bi (b : Bi) (es : Exs)
  | bm (e : Ex) (b : Bm) (es : Exs)
  | isin (e : Ex) (ts : List Ty)
  | isnil (e : Ex)
  | lst (es : Exs)
  | comp (elt : Ex) (own : List Nat) (tg : Tg) (it : It) (ifs : Exs)
  | comp2 (elt : Ex) (own own2 : List Nat) (tg : Tg) (it : It) (ifs : Exs) (tg2 : Tg) (it2 : It) (ifs2 : Exs)
  | dcomp (k v : Ex) (own : List Nat) (tg : Tg) (it : It) (ifs : Exs)
  | srt (e : Ex)
  | rg (t : Bool) (es : Exs)
  | caught (c : Nat) (e : Ex)
inductive Exs where
  | nil
  | cons (e : Ex) (es : Exs)
inductive It where
  | e (e : Ex)
  | path (e : Ex)
  | rng (a : Ex)
  | rng2 (a b : Ex)
  | enum (e : Ex)
  | zip (a b : Ex)
  | items (e : Ex)
inductive Tg where
  | nm (i : Nat)
  | tup (ts : Tgs)
  | attr (e : Ex) (f : Nat)
  | idx (e i : Ex)
inductive Tgs where
  | nil
  | cons (t : Tg) (ts : Tgs)
end
mutual
inductive St where
  | expr (e : Ex)
  | ret (e : Ex)
  | asg (t : Tg) (e : Ex)
  | asg2 (t u : Tg) (e : Ex)
  | aug (i : Nat) (o : BOp) (e : Ex)
  | augAttr (o : Ex) (f : Nat) (op : BOp) (e : Ex)
  | augIdx (o i : Ex) (op : BOp) (e : Ex)
  | if_ (c : Ex) (a b : Sts)
  | while_ (c : Ex) (b : Sts)
  | for_ (t : Tg) (it : It) (b : Sts)
  | pass
  | brk
  | cont
  | raise (c : Nat) (es : Exs)
  | del (o i : Ex)
  | try_ (b : Sts) (c : Nat) (i : Option Nat) (s : Sts)
  | stuck
inductive Sts where
  | nil
  | cons (s : St) (ss : Sts)
end

def Exs.app : Exs → Exs → Exs
  | .nil, b => b
  | .cons e es, b => .cons e (es.app b)
structure Fn where
  ps : Nat
  ns : Nat
  dfl : List D
  body : Sts
structure Cl where
  fl : List Nat
  ms : List (Nat × Nat)
  init : Option Nat
  up : List Nat
  ex : Bool
structure Pg where
  fns : List Fn
  cls : List Cl

/-! ### plain data -/
/-- the truth of a value -/
def truth (h : Heap) : D → Option Bool
  | .non => some false
  | .bl b => some b
  | .int i => some (i != 0)
  | .str s => if s.length ≤ lim then some (!s.isEmpty) else none
  | .tup ds => some (!ds.isEmpty)
  | .ref a => match h[a]? with
    | some (.lst ds) => some (!ds.isEmpty)
    | some (.ro ds) => some (!ds.isEmpty)
    | some (.dct kvs) => some (!kvs.isEmpty)
    | _ => none
/-- a value read to its depth: lists as they stand now -/
inductive PD where
  | non
  | bl (b : Bool)
  | int (i : Int)
  | str (s : List Nat)
  | lst (xs : List PD)
  | tup (xs : List PD)
def b2i (b : Bool) : Int := if b then 1 else 0
mutual
def eqv : PD → PD → Bool
  | .non, y => match y with | .non => true | _ => false
  | .bl a, y => match y with | .bl b => a == b | .int j => decide (b2i a = j) | _ => false
  | .int i, y => match y with | .bl b => decide (i = b2i b) | .int j => decide (i = j) | _ => false
  | .str s, y => match y with | .str z => decide (s = z) | _ => false
  | .tup as, y => match y with | .tup bs => eqvs as bs | _ => false
  | .lst as, y => match y with | .lst bs => eqvs as bs | _ => false
def eqvs : List PD → List PD → Bool
  | [], y => match y with | [] => true | _ :: _ => false
  | a :: as, y => match y with | [] => false | b :: bs => eqv a b && eqvs as bs
end
def mapO {α β : Type} (f : α → Option β) : List α → Option (List β)
  | [] => some []
  | d :: ds => match f d with
    | some x => match mapO f ds with
      | some xs => some (x :: xs)
      | none => none
    | none => none
def rdF : D → Option PD
  | .non => some .non
  | .bl b => some (.bl b)
  | .int i => some (.int i)
  | .str s => if s.all (fun c => decide (c < 1114112)) then some (.str s) else none
  | .tup _ => none
  | .ref _ => none
def rd (h : Heap) : Nat → D → Option PD
  | 0, d => rdF d
  | k + 1, d => match d with
    | .tup ds => (mapO (rd h k) ds).map .tup
    | .ref a => match h[a]? with
      | some (.lst ds) => (mapO (rd h k) ds).map .lst
      | some (.ro ds) => (mapO (rd h k) ds).map .lst
      | _ => none
    | d => rdF d
/-- scalars, of which == asks no more -/
def scal : D → D → Bool
  | .int _, .int _ => true
  | .str _, .str _ => true
  | .bl _, .bl _ => true
  | .non, .non => true
  | .non, .int _ => true
  | .int _, .non => true
  | .non, .str _ => true
  | .str _, .non => true
  | .int _, .str _ => true
  | .str _, .int _ => true
  | _, _ => false
def dget (kvs : List (D × D)) (k : D) : Option D := match kvs with
  | [] => none
  | (a, b) :: r => if a = k then some b else dget r k
/-- the first thing's keys, looked up in the other one -/
def dHits (h : Heap) (kb : List (D × D)) : List (D × D) → Option Bool
  | [] => some true
  | (k, v) :: r => match dget kb k with
    | none => some false
    | some y => match rd h 60 v, rd h 60 y, dHits h kb r with
      | some p, some q, some b => some (eqv p q && b)
      | _, _, _ => none
def dEq (h : Heap) (ka kb : List (D × D)) : Option Bool := if ka.length = kb.length then dHits h kb ka else some false
/-- two dicts, if they are -/
def dcts (h : Heap) (x y : D) : Option (List (D × D) × List (D × D)) := match x, y with
  | .ref a, .ref b => match h[a]?, h[b]? with
    | some (.dct ka), some (.dct kb) => some (ka, kb)
    | _, _ => none
  | _, _ => none
def eqD (h : Heap) (x y : D) : Option Bool :=
  if scal x y then some (decide (x = y))
  else match dcts h x y with
    | some (ka, kb) => dEq h ka kb
    | none => match rd h 60 x, rd h 60 y with
      | some d, some e => some (eqv d e)
      | _, _ => none

/-- the order of ints, texts, tuples of these -/
def ltS : List Nat → List Nat → Bool
  | [], [] => false
  | [], _ :: _ => true
  | _ :: _, [] => false
  | a :: as, b :: bs => if a = b then ltS as bs else decide (a < b)
mutual
def ltD : D → D → Option Bool
  | .int i, y => match y with | .int j => some (decide (i < j)) | _ => none
  | .str s, y => match y with | .str z => some (ltS s z) | _ => none
  | .tup as, y => match y with | .tup bs => ltDs as bs | _ => none
  | .non, _ => none
  | .bl _, _ => none
  | .ref _, _ => none
def ltDs : List D → List D → Option Bool
  | [], y => match y with | [] => some false | _ :: _ => some true
  | a :: as, y => match y with
    | [] => some false
    | b :: bs => if a = b then ltDs as bs else match ltDs as bs with
      | some _ => ltD a b
      | none => none
end
/-- x < y, where both can be read -/
def ltR (h : Heap) (x y : D) : Option Bool := match x with
  | .tup _ => match rd h 60 x, rd h 60 y with
    | some _, some _ => ltD x y
    | _, _ => none
  | _ => ltD x y
def leD (x y : D) : Option Bool := match x, y with
  | .int i, .int j => some (decide (i ≤ j))
  | _, _ => none

/-- what may be a key of a dict -/
def D.key : D → Bool
  | .int _ => true
  | .str _ => true
  | .tup _ => false
  | .non => false
  | .bl _ => false
  | .ref _ => false
def dput (kvs : List (D × D)) (k v : D) : List (D × D) :=
  if (kvs.any fun p => decide (p.1 = k)) = true then kvs.map (fun p => if p.1 = k then (p.1, v) else p) else kvs ++ [(k, v)]
def ddel (kvs : List (D × D)) (k : D) : List (D × D) := kvs.filter fun p => decide (p.1 ≠ k)

def fget (fs : List (Nat × D)) (f : Nat) : Option D := match fs with
  | [] => none
  | (a, b) :: r => if a = f then some b else fget r f
def fput (fs : List (Nat × D)) (f : Nat) (v : D) : List (Nat × D) := match fs with
  | [] => [(f, v)]
  | (a, b) :: r => if a = f then (a, v) :: r else (a, b) :: fput r f v

/-- the place that an index means -/
def place (i : Int) (n : Nat) : Option Nat :=
  if 0 ≤ i then (if i < n then some i.toNat else none) else (if -(n : Int) ≤ i then some (i + n).toNat else none)
def clamp (i : Int) (n : Nat) : Nat := if i < 0 then (i + n).toNat else min i.toNat n
def cutAt (n d : Nat) : Option Int → Nat
  | none => d
  | some i => clamp i n
def cut {α : Type} (xs : List α) (lo hi : Option Int) : List α := (xs.drop (cutAt xs.length 0 lo)).take (cutAt xs.length xs.length hi - cutAt xs.length 0 lo)

def smallI (i : Int) : Bool := decide (-(2 ^ 62) ≤ i) && decide (i < 2 ^ 62)

def binop (o : BOp) (x y : D) (h : Heap) : Res D := match o, x, y with
  | .add, .int i, .int j => .ok (.int (i + j)) h
  | .add, .str s, .str z => if s.length + z.length ≤ lim then .ok (.str (s ++ z)) h else .stk
  | .add, .tup as, .tup bs => if as.length + bs.length ≤ lim then .ok (.tup (as ++ bs)) h else .stk
  | .add, .ref a, .ref b => match h[a]?, h[b]? with
    | some (.lst xs), some (.lst ys) => if xs.length + ys.length ≤ lim then .ok (.ref h.length) (h ++ [.lst (xs ++ ys)]) else .stk
    | _, _ => .stk
  | .sub, .int i, .int j => .ok (.int (i - j)) h
  | .mul, .int i, .int j => if (decide (-(2 ^ 64) < i) && decide (i < 2 ^ 64)) || (decide (-(2 ^ 64) < j) && decide (j < 2 ^ 64)) then .ok (.int (i * j)) h else .stk
  | .mul, .tup as, .int j => if decide (as ≠ []) && decide (1 ≤ j) && decide (j ≤ 1000) && decide (as.length ≤ 1000) then .ok (.tup (List.replicate j.toNat as).flatten) h else .stk
  | .mul, .ref a, .int j => match h[a]? with
    | some (.lst xs) => if smallI j && decide (xs.length * j.toNat ≤ lim) then .ok (.ref h.length) (h ++ [.lst (List.replicate j.toNat xs).flatten]) else .stk
    | _ => .stk
  | .fdiv, .int i, .int j => if decide (j ≠ 0) && decide (j.natAbs < 1073741824) then .ok (.int (i.fdiv j)) h else .stk
  | .mod, .int i, .int j => if j = 0 then .stk else .ok (.int (i.fmod j)) h
  | .pow, .int i, .int j => if decide (0 ≤ j) && decide (j ≤ 1000000) && decide (i.natAbs < 2 ^ 64) then .ok (.int (i ^ j.toNat)) h else .stk
  | _, _, _ => .stk

/-- x op= y -/
def augop (o : BOp) (x y : D) (h : Heap) : Res D := match o, x, y with
  | .add, .int i, .int j => .ok (.int (i + j)) h
  | .add, .str s, .str z => if s.length + z.length ≤ lim then .ok (.str (s ++ z)) h else .stk
  | .sub, .int i, .int j => .ok (.int (i - j)) h
  | _, _, _ => .stk
def flat : D → Bool
  | .tup _ => false
  | .ref _ => false
  | .non => true
  | .bl _ => true
  | .int _ => true
  | .str _ => true
/-- == of flat values -/
def eqF : D → D → Bool
  | .non, y => match y with | .non => true | _ => false
  | .bl a, y => match y with | .bl b => a == b | .int j => decide (b2i a = j) | _ => false
  | .int i, y => match y with | .bl b => decide (i = b2i b) | .int j => decide (i = j) | _ => false
  | .str s, y => match y with | .str z => decide (s = z) | _ => false
  | .tup _, _ => false
  | .ref _, _ => false
/-- which items are equal to a value -/
def hits (h : Heap) (isList : Bool) (x : D) (ds : List D) : Option (List Bool) :=
  if flat x && ds.all flat then some (ds.map fun y => eqF y x)
  else if isList then match rd h 60 x, mapO (rd h 59) ds with
    | some a, some bs => some (bs.map fun b => eqv b a)
    | _, _ => none
  else none
def inD (x y : D) (h : Heap) : Option Bool := match y with
  | .tup ds => (hits h false x ds).map fun l => l.any id
  | .ref a => match h[a]? with
    | some (.lst ds) => (hits h true x ds).map fun l => l.any id
    | some (.dct kvs) => if x.key then some (dget kvs x).isSome else none
    | some (.fdct kvs) => if x.key then some (dget kvs x).isSome else none
    | _ => none
  | _ => none
def isD (x y : D) : Option Bool := match y with
  | .non => some (decide (x = .non))
  | .bl b => match x with
    | .bl a => some (a == b)
    | _ => none
  | _ => none
def gtD (x y : D) : Option Bool := match x, y with
  | .int i, .int j => some (decide (j < i))
  | .str s, .str z => some (ltS z s)
  | _, _ => none
def cmpop (o : COp) (x y : D) (h : Heap) : Option Bool := match o with
  | .eq => eqD h x y
  | .ne => (eqD h x y).map (!·)
  | .lt => ltR h x y
  | .gt => gtD x y
  | .le => leD x y
  | .ge => leD y x
  | .is_ => isD x y
  | .isnot => (isD x y).map (!·)
  | .in_ => inD x y h
  | .notin => (inD x y h).map (!·)
def opt {α : Type} (o : Option α) (h : Heap) : Res α := match o with
  | some a => .ok a h
  | none => .stk

def index (x i : D) (h : Heap) : Res D := match x with
  | .tup ds => match i with
    | .int i => opt ((place i ds.length).bind fun k => ds[k]?) h
    | _ => .stk
  | .str s => match i with
    | .int i => if s.length ≤ lim then opt (((place i s.length).bind fun k => s[k]?).map fun c => .str [c]) h else .stk
    | _ => .stk
  | .ref a => match h[a]? with
    | some (.lst ds) => match i with
      | .int i => opt ((place i ds.length).bind fun k => ds[k]?) h
      | _ => .stk
    | some (.ro ds) => match i with
      | .int i => opt ((place i ds.length).bind fun k => ds[k]?) h
      | _ => .stk
    | some (.dct kvs) => if i.key then opt (dget kvs i) h else .stk
    | some (.fdct kvs) => if i.key then opt (dget kvs i) h else .stk
    | _ => .stk
  | _ => .stk
def part : List D → Option (Option Int)
  | [] => some none
  | [.int i] => some (some i)
  | _ => none
def sliced (x : D) (lo hi : Option Int) (h : Heap) : Res D := match x with
  | .tup ds => .ok (.tup (cut ds lo hi)) h
  | .str s => if s.length ≤ lim then .ok (.str (cut s lo hi)) h else .stk
  | .ref a => match h[a]? with
    | some (.lst ds) => .ok (.ref h.length) (h ++ [.lst (cut ds lo hi)])
    | _ => .stk
  | _ => .stk
/-- a part of a slice, then what is made of it -/
def withPart {α : Type} (f : Option Int → Heap → Res α) (a : List D) (h : Heap) : Res α := match part a with
  | some o => f o h
  | none => .stk
def reved (x : D) (h : Heap) : Res D := match x with
  | .ref a => match h[a]? with
    | some (.lst ds) => .ok (.ref h.length) (h ++ [.lst ds.reverse])
    | _ => .stk
  | _ => .stk
def setIndex (x i v : D) (h : Heap) : Res Unit := match x with
  | .ref a => match h[a]? with
    | some (.lst ds) => match i with
      | .int i => match place i ds.length with
        | some k => .ok () (h.set a (.lst (ds.set k v)))
        | none => .stk
      | _ => .stk
    | some (.dct kvs) => if i.key && decide (kvs.length < lim) then .ok () (h.set a (.dct (dput kvs i v))) else .stk
    | _ => .stk
  | _ => .stk
def delIndex (x i : D) (h : Heap) : Res Unit := match x with
  | .ref a => match h[a]? with
    | some (.dct kvs) => match i.key, dget kvs i with
      | true, some _ => .ok () (h.set a (.dct (ddel kvs i)))
      | _, _ => .stk
    | _ => .stk
  | _ => .stk
def hasF (pg : Pg) (c f : Nat) : Bool := match pg.cls[c]? with
  | some k => k.fl.contains f
  | none => false
def getAttr (pg : Pg) (x : D) (f : Nat) (h : Heap) : Res D := match x with
  | .ref a => match h[a]? with
    | some (.ins c fs) => if hasF pg c f then opt (fget fs f) h else .stk
    | some (.exc _ fs) => opt (fget fs f) h
    | _ => .stk
  | _ => .stk
def clsOf (h : Heap) (x : D) : Option Nat := match x with
  | .ref a => match h[a]? with
    | some (.ins c _) => some c
    | _ => none
  | _ => none
def setAttr (pg : Pg) (x : D) (f : Nat) (v : D) (h : Heap) : Res Unit := match x with
  | .ref a => match h[a]? with
    | some (.ins c fs) => if hasF pg c f && decide (fs.length < 900) then .ok () (h.set a (.ins c (fput fs f v))) else .stk
    | _ => .stk
  | _ => .stk
def len (x : D) (h : Heap) : Option Nat := match x with
  | .tup ds => some ds.length
  | .str s => if s.length ≤ lim then some s.length else none
  | .ref a => match h[a]? with
    | some (.lst ds) => some ds.length
    | some (.ro ds) => some ds.length
    | some (.dct kvs) => some kvs.length
    | some (.fdct kvs) => some kvs.length
    | _ => none
  | _ => none
/-- the items of a list or a tuple -/
def itemsOf (x : D) (h : Heap) : Option (List D) := match x with
  | .tup ds => some ds
  | .ref a => match h[a]? with
    | some (.lst ds) => some ds
    | some (.ro ds) => some ds
    | _ => none
  | _ => none
def pairOf : D → Option (D × D)
  | .tup [a, b] => some (a, b)
  | _ => none
def pairsOf : List D → Option (List (D × D))
  | [] => some []
  | d :: ds => match pairOf d, pairsOf ds with
    | some p, some ps => if p.1.key then some (p :: ps) else none
    | _, _ => none
/-- a written dict's pairs, keys and values in turn -/
def dispOf : List D → Option (List (D × D))
  | [] => some []
  | [_] => none
  | k :: v :: r => if k.key then (dispOf r).map ((k, v) :: ·) else none
def merge (kvs : List (D × D)) : List (D × D) → List (D × D)
  | [] => kvs
  | (k, v) :: r => merge (dput kvs k v) r
def intsOf : List D → Option (List Int)
  | [] => some []
  | .int i :: ds => (intsOf ds).map (i :: ·)
  | _ :: _ => none
def sumI : List Int → Int
  | [] => 0
  | i :: r => i + sumI r
def maxI (m : Int) : List Int → Int
  | [] => m
  | i :: r => maxI (if i > m then i else m) r
def minI (m : Int) : List Int → Int
  | [] => m
  | i :: r => minI (if i < m then i else m) r
def allB : List D → Option Bool
  | [] => some true
  | .bl b :: ds => (allB ds).map (b && ·)
  | _ :: _ => none
def anyB : List D → Option Bool
  | [] => some false
  | .bl b :: ds => (anyB ds).map (b || ·)
  | _ :: _ => none
def insI (x : Int) : List Int → List Int
  | [] => [x]
  | y :: ys => if x ≤ y then x :: y :: ys else y :: insI x ys
def sortI : List Int → List Int
  | [] => []
  | x :: xs => insI x (sortI xs)
def biop (b : Bi) (xs : List D) (h : Heap) : Res D := match b, xs with
  | .abs, [.int i] => .ok (.int (if i < 0 then -i else i)) h
  | .int, [.int i] => .ok (.int i) h
  | .int, [.bl k] => .ok (.int (b2i k)) h
  | .len, [x] => opt ((len x h).map fun (n : Nat) => D.int (n : Int)) h
  | .min2, [.int i, .int j] => .ok (.int (if j < i then j else i)) h
  | .max2, [.int i, .int j] => .ok (.int (if j > i then j else i)) h
  | .tuple, [x] => opt ((itemsOf x h).map .tup) h
  | .list, [x] => match itemsOf x h with
    | some ds => .ok (.ref h.length) (h ++ [.lst ds])
    | none => match x with
      | .ref a => match h[a]? with
        | some (.dct kvs) => .ok (.ref h.length) (h ++ [.lst (kvs.map (·.1))])
        | _ => .stk
      | _ => .stk
  | .sorted, [.ref a] => match h[a]? with
    | some (.lst ds) => match intsOf ds with
      | some l => .ok (.ref h.length) (h ++ [.lst ((sortI l).map .int)])
      | none => .stk
    | some (.dct kvs) => match intsOf (kvs.map (·.1)) with
      | some l => if l.length < 64 then .ok (.ref h.length) (h ++ [.lst ((sortI l).map .int)]) else .stk
      | none => .stk
    | _ => .stk
  | .dict, [.ref a] => match h[a]? with
    | some (.lst ds) => match pairsOf ds with
      | some ps => .ok (.ref h.length) (h ++ [.dct (merge [] ps)])
      | none => .stk
    | some (.dct kvs) => .ok (.ref h.length) (h ++ [.dct kvs])
    | _ => .stk
  | .sum, [.ref a] => opt (((itemsOf (.ref a) h).bind intsOf).map fun l => .int (sumI l)) h
  | .max1, [.ref a] => match (itemsOf (.ref a) h).bind intsOf with
    | some (i :: r) => .ok (.int (maxI i r)) h
    | _ => .stk
  | .min1, [.ref a] => match (itemsOf (.ref a) h).bind intsOf with
    | some (i :: r) => .ok (.int (minI i r)) h
    | _ => .stk
  | .all1, [.ref a] => opt (((itemsOf (.ref a) h).bind allB).map .bl) h
  | .any1, [.ref a] => opt (((itemsOf (.ref a) h).bind anyB).map .bl) h
  | _, _ => .stk
/-- the first place of an item -/
def indexOf (h : Heap) (isList : Bool) (x : D) (ds : List D) : Option Nat := match hits h isList x ds with
  | some l => if l.any id then some (l.findIdx id) else none
  | none => none
def kindD (h : Heap) : D → Nat
  | .ref a => match h[a]? with
    | some (.lst _) => 1
    | some (.dct _) => 2
    | _ => 0
  | .str _ => 3
  | _ => 0
/-- which methods which kinds have -/
def served (b : Bm) (k : Nat) : Bool := match b with
  | .append => k == 1
  | .pop0 => k == 1
  | .pop1 => k == 1 || k == 2
  | .extend => k == 1
  | .insert => k == 1
  | .index => k == 1
  | .reverse => k == 1
  | .get1 => k == 2
  | .get2 => k == 2
  | _ => false
def extOf (x : D) (h : Heap) : Option (List D) := match x with
  | .tup ds => some ds
  | .ref a => match h[a]? with
    | some (.lst ds) => some ds
    | _ => none
  | _ => none
def bmL (b : Bm) (a : Nat) (ds : List D) (ys : List D) (h : Heap) : Res D := match b, ys with
  | .append, [y] => if ds.length < lim then .ok .non (h.set a (.lst (ds ++ [y]))) else .stk
  | .pop0, [] => match ds[ds.length - 1]? with
    | some y => .ok y (h.set a (.lst ds.dropLast))
    | none => .stk
  | .pop1, [.int i] => match place i ds.length with
    | some k => match ds[k]? with
      | some y => .ok y (h.set a (.lst (ds.eraseIdx k)))
      | none => .stk
    | none => .stk
  | .extend, [y] => match extOf y h with
    | some es => if ds.length + es.length ≤ lim then .ok .non (h.set a (.lst (ds ++ es))) else .stk
    | none => .stk
  | .insert, [.int i, y] => if decide (0 ≤ i) && smallI i && decide (ds.length < lim) then .ok .non (h.set a (.lst (ds.take i.toNat ++ [y] ++ ds.drop i.toNat))) else .stk
  | .index, [y] => opt ((indexOf h true y ds).map fun (k : Nat) => D.int (k : Int)) h
  | .reverse, [] => .ok .non (h.set a (.lst ds.reverse))
  | _, _ => .stk
def bmD (b : Bm) (a : Nat) (kvs : List (D × D)) (ys : List D) (h : Heap) : Res D := match b, ys with
  | .get1, [k] => if k.key then .ok ((dget kvs k).getD .non) h else .stk
  | .get2, [k, z] => if k.key then .ok ((dget kvs k).getD z) h else .stk
  | .pop1, [k] => if k.key then (match dget kvs k with
    | some v => .ok v (h.set a (.dct (ddel kvs k)))
    | none => .stk) else .stk
  | .setdefault, [k, z] => if k.key && decide (kvs.length < lim) then (match dget kvs k with
    | some v => .ok v h
    | none => .ok z (h.set a (.dct (dput kvs k z)))) else .stk
  | _, _ => .stk
def bmS (b : Bm) (s : List Nat) (ys : List D) (h : Heap) : Res D := .stk
def bmop (b : Bm) (x : D) (ys : List D) (h : Heap) : Res D := match x with
  | .ref a => match h[a]? with
    | some (.lst ds) => bmL b a ds ys h
    | some (.dct kvs) => bmD b a kvs ys h
    | _ => .stk
  | .str s => bmS b s ys h
  | _ => .stk

/-- the kind of a value -/
inductive Kn where | non | bool | int | str | tuple | list | dict | ins (c : Nat)
  deriving DecidableEq
def kindOf (h : Heap) : D → Option Kn
  | .non => some .non
  | .bl _ => some .bool
  | .int _ => some .int
  | .str _ => some .str
  | .tup _ => some .tuple
  | .ref a => match h[a]? with
    | some (.lst _) => some .list
    | some (.dct _) => some .dict
    | some (.ins c _) => some (.ins c)
    | some (.exc c _) => some (.ins c)
    | _ => none
def isK (pg : Pg) (k : Kn) (t : Ty) : Option Bool := match t with
  | .cls d => if d < pg.cls.length then (match k with
    | .ins c => (pg.cls[c]?).map fun k => k.up.contains d
    | _ => some false) else none
  | t => match k, t with
    | .ins c, _ => (pg.cls[c]?).map fun _ => false
    | .bool, .int => some true
    | .bool, .bool => some true
    | .int, .int => some true
    | .str, .str => some true
    | .tuple, .tuple => some true
    | .list, .list => some true
    | .dict, .dict => some true
    | _, _ => some false
def isinTy (pg : Pg) (h : Heap) (x : D) (t : Ty) : Option Bool := (kindOf h x).bind fun k => isK pg k t
def isinTys (pg : Pg) (h : Heap) (x : D) : List Ty → Option Bool
  | [] => some false
  | t :: ts => match isinTy pg h x t with
    | some true => some true
    | some false => isinTys pg h x ts
    | none => none

def wipe (env : Env) : List Nat → Env
  | [] => env
  | i :: is => (wipe env is).set i none
/-- the values of the parameters: by the places of the arguments, then the defaults -/
def picked {α : Type} (xs : List α) (sel : List Nat) (dfl : List α) : Option (List α) := match sel with
  | [] => some []
  | k :: ks => match (if k < xs.length then xs[k]? else dfl[k - xs.length]?), picked xs ks dfl with
    | some d, some ds => some (d :: ds)
    | _, _ => none

/-- what is walked: the items as they were, or a list as it stands -/
inductive ItV where
  | snap (ds : List D)
  | live (a : Nat)
  | enum (a : Nat)
  | zip (a b : Nat)
def seqAt (a : Nat) (h : Heap) : Option (List D) := match h[a]? with
  | some (.lst ds) => some ds
  | some (.ro ds) => some ds
  | _ => none
def ItV.count (t : ItV) (h : Heap) : Nat := match t with
  | .snap ds => ds.length
  | .live a => ((seqAt a h).getD []).length
  | .enum a => ((seqAt a h).getD []).length
  | .zip a b => min ((seqAt a h).getD []).length ((seqAt b h).getD []).length
/-- the i-th turn: none is stuck, some none the end -/
def ItV.next (t : ItV) (i : Nat) (h : Heap) : Option (Option D) := match t with
  | .snap ds => some ds[i]?
  | .live a => (seqAt a h).map fun ds => ds[i]?
  | .enum a => (seqAt a h).map fun ds => (ds[i]?).map fun d => .tup [.int i, d]
  | .zip a b => match seqAt a h, seqAt b h with
    | some xs, some ys => match xs[i]?, ys[i]? with
      | some a, some b => some (some (.tup [a, b]))
      | _, _ => some none
    | _, _ => none
/-- a dict is locked while it is walked -/
abbrev Lk := Option (Nat × List (D × D))
def lockH (l : Lk) (h : Heap) : Heap := match l with
  | some (a, kvs) => h.set a (.fdct kvs)
  | none => h
/-- what it is when the walk is over -/
def unlock (l : Lk) (h : Heap) : Option Heap := match l with
  | some (a, kvs) => match h[a]? with
    | some (.fdct _) => some (h.set a (.dct kvs))
    | _ => none
  | none => some h
/-- what a dict's lock asks of its value -/
def lkOf (r : Res D) (h : Heap) : Lk := match r with
  | .ok (.ref a) _ => match h[a]? with
    | some (.dct kvs) => some (a, kvs)
    | _ => none
  | _ => none
def mirH (l : Lk) (r : Res D) : Res D := match r with
  | .ok d h => match unlock l h with
    | some h => .ok d h
    | none => .stk
  | .err c fs h => .err c fs h
  | .stk => .stk
def mirS (l : Lk) (r : SR) : SR := match r with
  | .nx env h => match unlock l h with
    | some h => .nx env h
    | none => .stk
  | .rt d h => match unlock l h with
    | some h => .rt d h
    | none => .stk
  | .er c fs env h => .er c fs env h
  | _ => .stk

/-- a for's turns -/
def forN (next : Nat → Heap → Option (Option D)) (asgn : D → Env → Heap → Res Env) (body : Env → Heap → SR) : Nat → Nat → Env → Heap → SR
  | 0, i, env, h => match next i h with
    | some none => .nx env h
    | _ => .stk
  | n + 1, i, env, h => match next i h with
    | some none => .nx env h
    | some (some d) => match asgn d env h with
      | .ok env1 h1 => match body env1 h1 with
        | .nx env2 h2 => forN next asgn body n (i + 1) env2 h2
        | .ct env2 h2 => forN next asgn body n (i + 1) env2 h2
        | .bk env2 h2 => .nx env2 h2
        | r => r
      | _ => .stk
    | none => .stk
/-- a while's turns -/
def whileN (test : Env → Heap → Res D) (body : Env → Heap → SR) : Nat → Env → Heap → SR
  | 0, _, _ => .stk
  | n + 1, env, h => match test env h with
    | .ok d h1 => match truth h1 d with
      | some true => match body env h1 with
        | .nx env2 h2 => whileN test body n env2 h2
        | .ct env2 h2 => whileN test body n env2 h2
        | .bk env2 h2 => .nx env2 h2
        | r => r
      | some false => .nx env h1
      | none => .stk
    | .err c fs h1 => .er c fs env h1
    | .stk => .stk
/-- a comprehension's turns: put is what a turn does with the new thing -/
def compN (next : Nat → Heap → Option (Option D)) (asgn : D → Env → Heap → Res Env) (test : Env → Heap → Res Bool) (put : Env → Heap → Res Unit) (env : Env) : Nat → Nat → Heap → Res Unit
  | 0, i, h => match next i h with
    | some none => .ok () h
    | _ => .stk
  | n + 1, i, h => match next i h with
    | some none => .ok () h
    | some (some d) => match asgn d env h with
      | .ok env1 h1 => match test env1 h1 with
        | .ok true h2 => match put env1 h2 with
          | .ok _ h3 => compN next asgn test put env n (i + 1) h3
          | _ => .stk
        | .ok false h2 => compN next asgn test put env n (i + 1) h2
        | _ => .stk
      | _ => .stk
    | none => .stk
/-- an item more -/
def putL (a : Nat) (r : Res D) : Res Unit := match r with
  | .ok y h => match h[a]? with
    | some (.lst acc) => if acc.length < lim then .ok () (h.set a (.lst (acc ++ [y]))) else .stk
    | _ => .stk
  | _ => .stk
def putD (a : Nat) (k : D) (r : Res D) : Res Unit := match r with
  | .ok y h => match h[a]? with
    | some (.dct kvs) => if k.key && decide (kvs.length < lim) then .ok () (h.set a (.dct (dput kvs k y))) else .stk
    | _ => .stk
  | _ => .stk

/-- sorted: ints; tuples and texts by their order -/
def insD (x : D) : List D → List D
  | [] => [x]
  | y :: ys => if ltD x y = some true then x :: y :: ys else y :: insD x ys
def sortD : List D → List D
  | [] => []
  | x :: xs => insD x (sortD xs)
/-- whether all are ints, or all pairs of ints -/
def isInt : D → Bool
  | .int _ => true
  | _ => false
def isPair : D → Bool
  | .tup [.int _, .int _] => true
  | _ => false
def sorted (xs : List D) : Option (List D) :=
  if xs.all isInt || xs.all isPair then some (sortD xs.reverse) else none
def rangeL (lo : Int) : Nat → List D
  | 0 => []
  | n + 1 => .int lo :: rangeL (lo + 1) n

/-- the items of a range that is made a list or a tuple -/
def rgOf : List D → Option (List D)
  | [.int n] => if smallI n && decide (n.toNat ≤ lim) then some (rangeL 0 n.toNat) else none
  | [.int i, .int j] => if smallI i && smallI j && decide ((j - i).toNat ≤ lim) then some (rangeL i (j - i).toNat) else none
  | _ => none
/-! ### expressions -/
section
variable (pg : Pg) (cf : Nat → List D → Heap → Res D)
mutual
def evE : Ex → Env → Heap → Res D
  | .c d, _, h => .ok d h
  | .v i, env, h => match env[i]? with
    | some (some d) => .ok d h
    | _ => .stk
  | .bin o a b, env, h => (evE a env h).bind fun x h => (evE b env h).bind fun y h => binop o x y h
  | .neg a, env, h => (evE a env h).bind fun x h => match x with
    | .int i => .ok (.int (-i)) h
    | _ => .stk
  | .cmp o a b, env, h => (evE a env h).bind fun x h => (evE b env h).bind fun y h => opt ((cmpop o x y h).map .bl) h
  | .chain o p a b c, env, h => (evE a env h).bind fun x h => (evE b env h).bind fun y h => match cmpop o x y h with
    | some true => (evE c env h).bind fun z h => opt ((cmpop p y z h).map .bl) h
    | some false => .ok (.bl false) h
    | none => .stk
  | .and a b, env, h => (evE a env h).bind fun x h => match truth h x with
    | some true => evE b env h
    | some false => .ok x h
    | none => .stk
  | .or a b, env, h => (evE a env h).bind fun x h => match truth h x with
    | some true => .ok x h
    | some false => evE b env h
    | none => .stk
  | .not a, env, h => (evE a env h).bind fun x h => opt ((truth h x).map fun b => .bl !b) h
  | .ite c a b, env, h => (evE c env h).bind fun x h => match truth h x with
    | some true => evE a env h
    | some false => evE b env h
    | none => .stk
  | .tup es, env, h => (evEs es env h).bind fun xs h => if xs.length ≤ lim then .ok (.tup xs) h else .stk
  | .dct es, env, h => (evEs es env (h ++ [.dct []])).bind fun xs h1 => match h1[h.length]? with
    | some (.dct []) => match (if xs.length ≤ 30 then dispOf xs else none) with
      | some ps => .ok (.ref h.length) (h1.set h.length (.dct (merge [] ps)))
      | none => .stk
    | _ => .stk
  | .attr e f, env, h => (evE e env h).bind fun x h => getAttr pg x f h
  | .idx e i, env, h => (evE e env h).bind fun x h => (evE i env h).bind fun y h => index x y h
  | .slice e lo hi, env, h => (evE e env h).bind fun x h => (evEs lo env h).bind (withPart fun a h => (evEs hi env h).bind (withPart fun b h => sliced x a b h))
  | .rev e, env, h => (evE e env h).bind fun x h => reved x h
  | .call f es sel, env, h => (evEs es env h).bind fun xs h => match pg.fns[f]? with
    | some fn => match picked xs sel fn.dfl with
      | some ds => cf f ds h
      | none => .stk
    | none => .stk
  | .mk c es sel, env, h => (evEs es env h).bind fun xs h => match (pg.cls[c]?).bind (·.init) with
    | some f => match pg.fns[f]? with
      | some fn => match picked (.ref h.length :: xs) sel fn.dfl with
        | some ds => match cf f ds (h ++ [.ins c []]) with
          | .ok .non h1 => .ok (.ref h.length) h1
          | .ok _ _ => .stk
          | .err c fs h1 => .err c fs h1
          | .stk => .stk
        | none => .stk
      | none => .stk
    | none => .stk
  | .meth e m es sel, env, h => (evE e env h).bind fun x h => match x with
    | .ref a => match h[a]? with
      | some (.ins c fs) => match (fget fs m).isSome, ((pg.cls[c]?).bind fun k => k.ms.lookup m) with
        | false, some f => (evEs es env h).bind fun xs h => match pg.fns[f]? with
          | some fn => match picked (x :: xs) sel fn.dfl with
            | some ds => cf f ds h
            | none => .stk
          | none => .stk
        | _, _ => .stk
      | _ => .stk
    | _ => .stk
  | .bi b es, env, h => (evEs es env h).bind fun xs h => biop b xs h
  | .bm e b es, env, h => (evE e env h).bind fun x h1 => if served b (kindD h1 x) then (evEs es env h1).bind fun ys h2 => if kindD h1 x = kindD h2 x then bmop b x ys h2 else .stk else .stk
  | .isin e ts, env, h => (evE e env h).bind fun x h => opt ((isinTys pg h x ts).map .bl) h
  | .isnil e, env, h => (evE e env h).bind fun x h => match x with
    | .ref a => match h[a]? with
      | some (.lst ds) => .ok (.bl ds.isEmpty) h
      | some (.ro ds) => .ok (.bl ds.isEmpty) h
      | _ => .stk
    | _ => .stk
  | .lst es, env, h => (evEs es env h).bind fun xs h => if xs.length ≤ lim then .ok (.ref h.length) (h ++ [.lst xs]) else .stk
  | .comp elt own tg it ifs, env, h => mirH (evL it env h) ((evI it env (lockH (evL it env h) h)).bind fun t h1 => match compN t.next (evT tg) (evTs ifs) (fun env h => putL h1.length (evE elt env h)) (wipe env own) (t.count h1) 0 (h1 ++ [.lst []]) with
      | .ok _ h2 => .ok (.ref h1.length) h2
      | _ => .stk)
  | .comp2 elt own own2 tg it ifs tg2 it2 ifs2, env, h => mirH (evL it env h) ((evI it env (lockH (evL it env h) h)).bind fun t h1 => match compN t.next (evT tg) (evTs ifs) (fun env h => match evI it2 env h with
        | .ok t2 h2 => compN t2.next (evT tg2) (evTs ifs2) (fun env h => putL h1.length (evE elt env h)) (wipe env own2) (t2.count h2) 0 h2
        | _ => .stk) (wipe env own) (t.count h1) 0 (h1 ++ [.lst []]) with
      | .ok _ h2 => .ok (.ref h1.length) h2
      | _ => .stk)
  | .dcomp k v own tg it ifs, env, h => mirH (evL it env h) ((evI it env (lockH (evL it env h) h)).bind fun t h1 => match compN t.next (evT tg) (evTs ifs) (fun env h => match evE k env h with
        | .ok x h => putD h1.length x (evE v env h)
        | _ => .stk) (wipe env own) (t.count h1) 0 (h1 ++ [.dct []]) with
      | .ok _ h2 => .ok (.ref h1.length) h2
      | _ => .stk)
  | .srt e, env, h => (evE e env h).bind fun x h => match x with
    | .ref a => match h[a]? with
      | some (.lst ds) => match sorted ds with
        | some es => .ok (.ref h.length) (h ++ [.lst es])
        | none => .stk
      | some (.dct kvs) => match sorted (kvs.map (·.1)) with
        | some es => .ok (.ref h.length) (h ++ [.lst es])
        | none => .stk
      | _ => .stk
    | .tup ds => match sorted ds with
      | some es => .ok (.ref h.length) (h ++ [.lst es])
      | none => .stk
    | _ => .stk
  | .rg t es, env, h => (evEs es env h).bind fun xs h => match rgOf xs with
    | some ds => if t then .ok (.tup ds) h else .ok (.ref h.length) (h ++ [.lst ds])
    | none => .stk
  | .caught c e, env, h => match evE e env h with
    | .ok _ h1 => .ok .non h1
    | .err k fs h1 => match fs, (pg.cls[k]?).map (fun q => q.ex && q.up.contains c) with
      | [], some true => .ok (.ref h1.length) (h1 ++ [.exc k []])
      | _, _ => .stk
    | .stk => .stk
def evEs : Exs → Env → Heap → Res (List D)
  | .nil, _, h => .ok [] h
  | .cons e es, env, h => (evE e env h).bind fun x h => (evEs es env h).bind fun xs h => .ok (x :: xs) h
/-- all tests, one behind another -/
def evTs : Exs → Env → Heap → Res Bool
  | .nil, _, h => .ok true h
  | .cons e es, env, h => (evE e env h).bind fun x h => match truth h x with
    | some true => evTs es env h
    | some false => .ok false h
    | none => .stk
/-- the dict that is locked -/
def evL : It → Env → Heap → Lk
  | .path e, env, h => lkOf (evE e env h) h
  | .items e, env, h => lkOf (evE e env h) h
  | .e _, _, _ => none
  | .rng _, _, _ => none
  | .rng2 _ _, _, _ => none
  | .enum _, _, _ => none
  | .zip _ _, _, _ => none
def evI : It → Env → Heap → Res ItV
  | .e e, env, h => (evE e env h).bind fun x h => match x with
    | .tup ds => .ok (.snap ds) h
    | .str s => .ok (.snap (s.map fun c => .str [c])) h
    | .ref a => match h[a]? with
      | some (.lst _) => .ok (.live a) h
      | some (.ro _) => .ok (.live a) h
      | _ => .stk
    | _ => .stk
  | .path e, env, h => (evE e env h).bind fun x h => match x with
    | .tup ds => .ok (.snap ds) h
    | .str s => .ok (.snap (s.map fun c => .str [c])) h
    | .ref a => match h[a]? with
      | some (.lst _) => .ok (.live a) h
      | some (.ro _) => .ok (.live a) h
      | some (.fdct kvs) => .ok (.snap (kvs.map (·.1))) h
      | _ => .stk
    | _ => .stk
  | .rng a, env, h => (evE a env h).bind fun x h => match x with
    | .int i => if smallI i then .ok (.snap (rangeL 0 i.toNat)) h else .stk
    | _ => .stk
  | .rng2 a b, env, h => (evE a env h).bind fun x h => (evE b env h).bind fun y h => match x, y with
    | .int i, .int j => if smallI i && smallI j then .ok (.snap (rangeL i (j - i).toNat)) h else .stk
    | _, _ => .stk
  | .enum e, env, h => (evE e env h).bind fun x h => match x with
    | .ref a => match h[a]? with
      | some (.lst _) => .ok (.enum a) h
      | some (.ro _) => .ok (.enum a) h
      | _ => .stk
    | _ => .stk
  | .zip a b, env, h => (evE a env h).bind fun x h => (evE b env h).bind fun y h => match x, y with
    | .tup xs, .tup ys => .ok (.snap (List.zipWith (fun x y => .tup [x, y]) xs ys)) h
    | .ref a, .ref b => match seqAt a h, seqAt b h with
      | some _, some _ => .ok (.zip a b) h
      | _, _ => .stk
    | _, _ => .stk
  | .items e, env, h => (evE e env h).bind fun x h => match x with
    | .ref a => match h[a]? with
      | some (.fdct kvs) => .ok (.snap (kvs.map fun p => .tup [p.1, p.2])) h
      | _ => .stk
    | _ => .stk
/-- a target gets a value -/
def evT : Tg → D → Env → Heap → Res Env
  | .nm i, d, env, h => if i < env.length then .ok (env.set i (some d)) h else .stk
  | .tup ts, d, env, h => match d with
    | .tup ds => evTgs ts ds env h
    | _ => .stk
  | .attr e f, d, env, h => (evE e env h).bind fun x h => (setAttr pg x f d h).bind fun _ h => .ok env h
  | .idx e i, d, env, h => (evE e env h).bind fun x h => (evE i env h).bind fun y h => (setIndex x y d h).bind fun _ h => .ok env h
def evTgs : Tgs → List D → Env → Heap → Res Env
  | .nil, ds, env, h => match ds with
    | [] => .ok env h
    | _ :: _ => .stk
  | .cons t ts, ds, env, h => match ds with
    | [] => .stk
    | d :: ds => (evT t d env h).bind fun env h => evTgs ts ds env h
end
/-! ### statements -/
/-- an expression's end, where a statement stands -/
def Res.st {α : Type} (r : Res α) (env : Env) (f : α → Heap → SR) : SR := match r with
  | .ok a h => f a h
  | .err c fs h => .er c fs env h
  | .stk => .stk
mutual
def evS : St → Env → Heap → SR
  | .expr e, env, h => (evE pg cf e env h).st env fun _ h => .nx env h
  | .ret e, env, h => (evE pg cf e env h).st env fun d h => .rt d h
  | .asg t e, env, h => (evE pg cf e env h).st env fun d h => match evT pg cf t d env h with
    | .ok env h => .nx env h
    | _ => .stk
  | .asg2 t u e, env, h => (evE pg cf e env h).st env fun d h => match evT pg cf t d env h with
    | .ok env h => match evT pg cf u d env h with
      | .ok env h => .nx env h
      | _ => .stk
    | _ => .stk
  | .aug i o e, env, h => match env[i]? with
    | some (some x) => (evE pg cf e env h).st env fun y h => (augop o x y h).st env fun z h => if i < env.length then .nx (env.set i (some z)) h else .stk
    | _ => .stk
  | .augAttr o f op e, env, h => (evE pg cf o env h).st env fun a h => (getAttr pg a f h).st env fun x h1 => (evE pg cf e env h1).st env fun y h => (augop op x y h).st env fun z h => if clsOf h a = clsOf h1 a then (setAttr pg a f z h).st env fun _ h => .nx env h else .stk
  | .augIdx o i op e, env, h => (evE pg cf o env h).st env fun a h => (evE pg cf i env h).st env fun k h => (index a k h).st env fun x h => (evE pg cf e env h).st env fun y h => (augop op x y h).st env fun z h => (setIndex a k z h).st env fun _ h => .nx env h
  | .if_ c a b, env, h => (evE pg cf c env h).st env fun x h => match truth h x with
    | some true => evSs a env h
    | some false => evSs b env h
    | none => .stk
  | .while_ c b, env, h => whileN (evE pg cf c) (evSs b) fuel env h
  | .for_ t it b, env, h => mirS (evL pg cf it env h) ((evI pg cf it env (lockH (evL pg cf it env h) h)).st env fun v h => forN v.next (evT pg cf t) (evSs b) (v.count h) 0 env h)
  | .pass, env, h => .nx env h
  | .brk, env, h => .bk env h
  | .cont, env, h => .ct env h
  | .raise c es, env, h => (evEs pg cf es env h).st env fun xs h => .er c [] env h
  | .del o i, env, h => (evE pg cf o env h).st env fun x h => (evE pg cf i env h).st env fun y h => (delIndex x y h).st env fun _ h => .nx env h
  | .try_ _ _ _ _, _, _ => .stk
  | .stuck, _, _ => .stk
def evSs : Sts → Env → Heap → SR
  | .nil, env, h => .nx env h
  | .cons s ss, env, h => match evS s env h with
    | .nx env h => evSs ss env h
    | r => r
end
end
/-- a call: its body run over its slots -/
def runFn (pg : Pg) (cf : Nat → List D → Heap → Res D) (f : Nat) (ds : List D) (h : Heap) : Res D := match pg.fns[f]? with
  | some fn => if ds.length = fn.ps then match evSs pg cf fn.body (ds.map some ++ List.replicate (fn.ns - fn.ps) none) h with
      | .nx _ h => .ok .non h
      | .rt d h => .ok d h
      | .er c fs _ h => .err c fs h
      | _ => .stk
    else .stk
  | none => .stk
def callFn (pg : Pg) : Nat → Nat → List D → Heap → Res D
  | 0, _, _, _ => .stk
  | n + 1, f, ds, h => runFn pg (callFn pg n) f ds h
end Mp
end
section
set_option Elab.async false
set_option linter.all false
set_option maxRecDepth 100000
set_option maxHeartbeats 4000000
namespace MpS
open PySem L2

/-- what is fixed: the program, the written part, the tables -/
structure Cf where
  P : Program
  w : World
  K : PySem.W.Frag
  mg : Str → Option Value
  base : PySem.Heap
  pg : Mp.Pg
  nm : Nat → Str
  ca : Nat → Addr
  fa : Nat → Addr
  ps : Nat → List Str
  tb : List (Addr × Str)

/-- a tuple that stands for ever -/
def TupAt (K : PySem.W.Frag) (H : Hp) (a : Addr) (xs : List V) : Prop :=
  H a = some (.tup xs) ∨
    ∃ (o : Obj) (its : Array Value) (n : Nat), K.lookup a = some o ∧ o.cls = .type "tuple" ∧ o.data = .seq its n ∧ its.size ≤ sizeLine ∧ Vals xs its.toList
theorem TupAt.sq {K : PySem.W.Frag} {H : Hp} {a : Addr} {xs : List V} (h : TupAt K H a xs) : SqT K H a xs := by
  rcases h with h | h
  · exact .inl (.inl h)
  · exact .inr h
abbrev strV (s : List Nat) : Str := ⟨s.toArray⟩
section
variable (K : PySem.W.Frag) (ρ : List Addr) (H : Hp)
mutual
def RelD : Mp.D → V → Prop
  | .non, v => v = .non
  | .bl b, v => v = .bl b
  | .int i, v => v = .int i
  | .str s, v => v = .str (strV s)
  | .tup ds, v => ∃ a vs, v = .ref a ∧ TupAt K H a vs ∧ RelDs ds vs
  | .ref i, v => ∃ a, v = .ref a ∧ ρ[i]? = some a
def RelDs : List Mp.D → List V → Prop
  | [], vs => vs = []
  | d :: ds, vs => ∃ v r, vs = v :: r ∧ RelD d v ∧ RelDs ds r
end
end
/-- what stays as it is: tuples, what is locked, exceptions, code objects -/
def Sta : HO → Bool
  | .tup _ => true
  | .frz _ _ => true
  | .ext _ => true
  | .xd _ => true
  | _ => false
/-- .. whatever is locked -/
def StaT : HO → Bool
  | .tup _ => true
  | .ext _ => true
  | .xd _ => true
  | _ => false
theorem StaT.sta {o : HO} (h : StaT o = true) : Sta o = true := by cases o <;> first | rfl | cases h
def Kp (H H' : Hp) : Prop := ∀ b o, H b = some o → Sta o = true → H' b = some o
theorem Kp.tup {H H' : Hp} (k : Kp H H') {b : Addr} {xs : List V} (e : H b = some (.tup xs)) : H' b = some (.tup xs) := k _ _ e rfl
theorem Kp.refl (H : Hp) : Kp H H := fun _ _ h _ => h
theorem Kp.trans {H H1 H2 : Hp} (a : Kp H H1) (b : Kp H1 H2) : Kp H H2 := fun _ _ h s => b _ _ (a _ _ h s) s
theorem Kp.upd {H : Hp} {a : Addr} {o : HO} (h : ∀ u, H a = some u → Sta u = false) : Kp H (upd H a o) := fun b u e s => by
  have n : b ≠ a := fun q => by
    have := h u (q ▸ e)
    rw [s] at this; cases this
  rw [upd_ne n]; exact e
theorem Kp.new {H : Hp} {a : Addr} {o : HO} (h : H a = none) : Kp H (L2.upd H a o) := Kp.upd fun u e => by rw [h] at e; cases e
/-- tuples stay -/
def Kt (H H' : Hp) : Prop := ∀ b o, H b = some o → StaT o = true → H' b = some o
theorem Kp.t {H H' : Hp} (k : Kp H H') : Kt H H' := fun b o e s => k b o e (StaT.sta s)
/-- more addresses -/
def Le (ρ ρ' : List Addr) : Prop := ∀ (i : Nat) a, ρ[i]? = some a → ρ'[i]? = some a
theorem Le.refl (ρ : List Addr) : Le ρ ρ := fun _ _ h => h
theorem Le.trans {ρ ρ1 ρ2 : List Addr} (a : Le ρ ρ1) (b : Le ρ1 ρ2) : Le ρ ρ2 := fun i x h => b i x (a i x h)
theorem Le.snoc (ρ : List Addr) (a : Addr) : Le ρ (ρ ++ [a]) := fun i x h => by
  have hi : i < ρ.length := (List.getElem?_eq_some_iff.mp h).1
  rw [List.getElem?_append_left hi]; exact h
section
variable {K : PySem.W.Frag} {ρ ρ' : List Addr} {H H' : Hp}
theorem TupAt.monoT {a : Addr} {xs : List V} (k : Kt H H') (h : TupAt K H a xs) : TupAt K H' a xs := by
  rcases h with h | h
  · exact .inl (k _ _ h rfl)
  · exact .inr h
mutual
theorem RelD.monoT (l : Le ρ ρ') (k : Kt H H') : ∀ (d : Mp.D) (v : V), RelD K ρ H d v → RelD K ρ' H' d v
  | .non, v, h => by simpa only [RelD] using h
  | .bl b, v, h => by simpa only [RelD] using h
  | .int i, v, h => by simpa only [RelD] using h
  | .str s, v, h => by simpa only [RelD] using h
  | .tup ds, v, h => by
    simp only [RelD] at h ⊢
    obtain ⟨a, vs, e, t, r⟩ := h
    exact ⟨a, vs, e, t.monoT k, RelDs.monoT l k ds vs r⟩
  | .ref i, v, h => by
    simp only [RelD] at h ⊢
    obtain ⟨a, e, r⟩ := h
    exact ⟨a, e, l _ _ r⟩
theorem RelDs.monoT (l : Le ρ ρ') (k : Kt H H') : ∀ (ds : List Mp.D) (vs : List V), RelDs K ρ H ds vs → RelDs K ρ' H' ds vs
  | [], vs, h => by simpa only [RelDs] using h
  | d :: ds, vs, h => by
    simp only [RelDs] at h ⊢
    obtain ⟨v, r, e, h1, h2⟩ := h
    exact ⟨v, r, e, RelD.monoT l k d v h1, RelDs.monoT l k ds r h2⟩
end
theorem RelDs.length : ∀ {ds : List Mp.D} {vs : List V}, RelDs K ρ H ds vs → vs.length = ds.length
  | [], vs, h => by simp only [RelDs] at h; simp [h]
  | d :: ds, vs, h => by
    simp only [RelDs] at h
    obtain ⟨v, r, rfl, h1, h2⟩ := h
    simp [RelDs.length h2]
theorem RelDs.get : ∀ {ds : List Mp.D} {vs : List V} {i : Nat} {d : Mp.D}, RelDs K ρ H ds vs → ds[i]? = some d → ∃ v, vs[i]? = some v ∧ RelD K ρ H d v
  | [], vs, i, d, h, e => by simp at e
  | d :: ds, vs, i, d', h, e => by
    simp only [RelDs] at h
    obtain ⟨v, r, rfl, h1, h2⟩ := h
    cases i with
    | zero => simp at e; subst e; exact ⟨v, rfl, h1⟩
    | succ i => simp at e; obtain ⟨u, e1, e2⟩ := RelDs.get h2 e; exact ⟨u, by simpa using e1, e2⟩
theorem RelDs.getn {ds : List Mp.D} {vs : List V} {i : Nat} (h : RelDs K ρ H ds vs) (e : ds[i]? = none) : vs[i]? = none := by
  rw [List.getElem?_eq_none_iff] at e ⊢
  rw [h.length]; exact e
theorem RelDs.append : ∀ {ds es : List Mp.D} {vs us : List V}, RelDs K ρ H ds vs → RelDs K ρ H es us → RelDs K ρ H (ds ++ es) (vs ++ us)
  | [], es, vs, us, h, h' => by simp only [RelDs] at h; subst h; simpa using h'
  | d :: ds, es, vs, us, h, h' => by
    simp only [RelDs] at h
    obtain ⟨v, r, rfl, h1, h2⟩ := h
    simp only [List.cons_append, RelDs]
    exact ⟨v, r ++ us, rfl, h1, RelDs.append h2 h'⟩
theorem RelDs.nil : RelDs K ρ H [] [] := by simp only [RelDs]
theorem RelDs.cons {d : Mp.D} {ds : List Mp.D} {v : V} {vs : List V} (h : RelD K ρ H d v) (h' : RelDs K ρ H ds vs) : RelDs K ρ H (d :: ds) (v :: vs) := by
  simp only [RelDs]; exact ⟨v, vs, rfl, h, h'⟩
theorem RelDs.one {d : Mp.D} {v : V} (h : RelD K ρ H d v) : RelDs K ρ H [d] [v] := .cons h .nil
theorem RelDs.iff : ∀ {ds : List Mp.D} {vs : List V}, RelDs K ρ H ds vs ↔ ds.length = vs.length ∧ ∀ (i : Nat) d v, ds[i]? = some d → vs[i]? = some v → RelD K ρ H d v
  | [], vs => by simp only [RelDs]; cases vs <;> simp
  | d :: ds, [] => by simp [RelDs]
  | d :: ds, v :: vs => by
    simp only [RelDs]
    constructor
    · rintro ⟨v', r, e, h1, h2⟩
      obtain ⟨rfl, rfl⟩ : v = v' ∧ vs = r := by simpa using e
      obtain ⟨l, g⟩ := RelDs.iff.mp h2
      refine ⟨by simp [l], fun i d' v' e1 e2 => ?_⟩
      cases i with
      | zero => simp at e1 e2; subst e1 e2; exact h1
      | succ i => exact g i d' v' (by simpa using e1) (by simpa using e2)
    · rintro ⟨l, g⟩
      refine ⟨v, vs, rfl, g 0 d v rfl rfl, RelDs.iff.mpr ⟨by simpa using l, fun i d' v' e1 e2 => g (i + 1) d' v' (by simpa using e1) (by simpa using e2)⟩⟩
theorem RelDs.set {ds : List Mp.D} {vs : List V} {d : Mp.D} {v : V} (i : Nat) (h : RelDs K ρ H ds vs) (hd : RelD K ρ H d v) : RelDs K ρ H (ds.set i d) (vs.set i v) := by
  rw [RelDs.iff] at h ⊢
  obtain ⟨l, g⟩ := h
  refine ⟨by simp [l], fun j d' v' e1 e2 => ?_⟩
  rw [List.getElem?_set] at e1 e2
  by_cases hj : i = j
  · subst hj
    rw [if_pos rfl] at e1 e2
    split at e1
    · split at e2
      · cases e1; cases e2; exact hd
      · cases e2
    · cases e1
  · rw [if_neg hj] at e1 e2
    exact g j d' v' e1 e2
theorem RelDs.take {ds : List Mp.D} {vs : List V} (n : Nat) (h : RelDs K ρ H ds vs) : RelDs K ρ H (ds.take n) (vs.take n) := by
  rw [RelDs.iff] at h ⊢
  obtain ⟨l, g⟩ := h
  refine ⟨by simp [l], fun j d' v' e1 e2 => ?_⟩
  rw [List.getElem?_take] at e1 e2
  split at e1
  · rename_i q; rw [if_pos q] at e2; exact g j d' v' e1 e2
  · cases e1
theorem RelDs.drop {ds : List Mp.D} {vs : List V} (n : Nat) (h : RelDs K ρ H ds vs) : RelDs K ρ H (ds.drop n) (vs.drop n) := by
  rw [RelDs.iff] at h ⊢
  obtain ⟨l, g⟩ := h
  refine ⟨by simp [l], fun j d' v' e1 e2 => ?_⟩
  rw [List.getElem?_drop] at e1 e2
  exact g _ d' v' e1 e2
theorem RelDs.reverse {ds : List Mp.D} {vs : List V} (h : RelDs K ρ H ds vs) : RelDs K ρ H ds.reverse vs.reverse := by
  rw [RelDs.iff] at h ⊢
  obtain ⟨l, g⟩ := h
  refine ⟨by simp [l], fun j d' v' e1 e2 => ?_⟩
  have hj : j < ds.length := by have := (List.getElem?_eq_some_iff.mp e1).1; simpa using this
  rw [List.getElem?_reverse hj] at e1
  rw [List.getElem?_reverse (by omega)] at e2
  rw [← l] at e2
  exact g _ d' v' e1 e2
theorem RelDs.inv_cons {d : Mp.D} {ds : List Mp.D} {vs : List V} (h : RelDs K ρ H (d :: ds) vs) : ∃ v r, vs = v :: r ∧ RelD K ρ H d v ∧ RelDs K ρ H ds r := by
  simpa only [RelDs] using h
theorem RelDs.inv1 {d : Mp.D} {vs : List V} (h : RelDs K ρ H [d] vs) : ∃ v, vs = [v] ∧ RelD K ρ H d v := by
  obtain ⟨v, r, rfl, h1, h2⟩ := h.inv_cons
  have : r = [] := by simpa only [RelDs] using h2
  exact ⟨v, by rw [this], h1⟩
theorem RelDs.inv2 {d e : Mp.D} {vs : List V} (h : RelDs K ρ H [d, e] vs) : ∃ v u, vs = [v, u] ∧ RelD K ρ H d v ∧ RelD K ρ H e u := by
  obtain ⟨v, r, rfl, h1, h2⟩ := h.inv_cons
  obtain ⟨u, rfl, h3⟩ := h2.inv1
  exact ⟨v, u, rfl, h1, h3⟩
end

/-! ### objects -/
def keyOf : Mp.D → Option Key
  | .int i => some (.inl i)
  | .str s => some (.inr (strV s))
  | _ => none
def keysOf : List Mp.D → Option (List Key)
  | [] => some []
  | d :: ds => match keyOf d, keysOf ds with
    | some k, some ks => some (k :: ks)
    | _, _ => none
def tkeyOf : Mp.D → Option (List Key)
  | .tup ds => keysOf ds
  | _ => none
section
variable (K : PySem.W.Frag) (ρ : List Addr) (H : Hp)
def RelKK (kvs : List (Mp.D × Mp.D)) (ks : List (Key × V)) : Prop := kvs.length = ks.length ∧ ∀ (i : Nat) p q, kvs[i]? = some p → ks[i]? = some q → keyOf p.1 = some q.1 ∧ RelD K ρ H p.2 q.2
def RelKT (kvs : List (Mp.D × Mp.D)) (ks : List (List Key × V)) : Prop := kvs.length = ks.length ∧ ∀ (i : Nat) p q, kvs[i]? = some p → ks[i]? = some q → tkeyOf p.1 = some q.1 ∧ RelD K ρ H p.2 q.2
/-- what a dict is, abstractly -/
def RelDict (kvs : List (Mp.D × Mp.D)) (o : HO) : Prop := (∃ ks, o = .dK ks ∧ RelKK K ρ H kvs ks) ∨ (∃ ks, o = .dT ks ∧ False)
def RelF (nm : Nat → Str) (fs : List (Nat × Mp.D)) (vs : List (Str × V)) : Prop := fs.length = vs.length ∧ ∀ (i : Nat) p q, fs[i]? = some p → vs[i]? = some q → nm p.1 = q.1 ∧ RelD K ρ H p.2 q.2
end
/-- an exception that was caught -/
def ExV (cls : Value) (d : Option Addr) (a : Addr) : HO := .ext fun h => ∃ (oe : Obj) (vs : Array Value), h.get? a = some oe ∧ Zc cls d oe ∧ oe.data = .fields vs
/-- a list of the written part -/
def KL (K : PySem.W.Frag) (a : Addr) (xs : List V) : Prop := ∃ (o : Obj) (its : Array Value) (n : Nat), K.lookup a = some o ∧ o.cls = .type "list" ∧ o.dict = none ∧ o.data = .seq its n ∧ its.size ≤ sizeLine ∧ Vals xs its.toList
theorem ro_sq {K : PySem.W.Frag} {H : Hp} {a : Addr} {xs : List V} (h : SqL K H a xs) : SqL K H a xs := h
def RelO (C : Cf) (ρ : List Addr) (H : Hp) : Mp.MO → Addr → Prop
  | .lst ds, a => ∃ vs, H a = some (.lst vs) ∧ RelDs C.K ρ H ds vs
  | .ro ds, a => ∃ vs, SqL C.K H a vs ∧ RelDs C.K ρ H ds vs
  | .dct kvs, a => ∃ o, H a = some o ∧ RelDict C.K ρ H kvs o
  | .fdct kvs, a => ∃ ob o, H a = some (.frz ob o) ∧ RelDict C.K ρ H kvs o
  | .ins c fs, a => ∃ dx vs, H a = some (.ins (C.ca c) dx vs) ∧ RelF C.K ρ H C.nm fs vs ∧ ∃ kk, C.pg.cls[c]? = some kk ∧ kk.init.isSome = true
  | .exc c fs, a => H a = some (ExV (.ref (C.ca c)) none a) ∧ fs = [] ∧ ∃ kk, C.pg.cls[c]? = some kk ∧ kk.ex = true
/-- a list that is read only, and stands in the written part -/
def RoK (C : Cf) (ρ : List Addr) (h : Mp.Heap) (H : Hp) (i : Nat) (a : Addr) : Prop := ∃ ds vs, h[i]? = some (.ro ds) ∧ KL C.K a vs ∧ RelDs C.K ρ H ds vs
/-- what is never written -/
def fixd : Mp.MO → Bool
  | .ro _ => true
  | .exc _ _ => true
  | _ => false
/-- the heaps agree -/
structure Sim (C : Cf) (ρ : List Addr) (h : Mp.Heap) (H : Hp) : Prop where
  len : ρ.length = h.length
  nd : ∀ (i j : Nat) a, ρ[i]? = some a → ρ[j]? = some a → i = j ∨ RoK C ρ h H i a ∨ RoK C ρ h H j a
  ob : ∀ (i : Nat) a o, ρ[i]? = some a → h[i]? = some o → RelO C ρ H o a
  tb : LamX.Tabs C.tb H
/-- the slots agree -/
def ES (K : PySem.W.Frag) (ρ : List Addr) (H : Hp) (env : Mp.Env) (σ : St) : Prop := env.length = σ.length ∧ ∀ (i : Nat) d, env[i]? = some (some d) → ∃ v, σ[i]? = some (some v) ∧ RelD K ρ H d v
section
variable {C : Cf} {ρ ρ' : List Addr} {h : Mp.Heap} {H H' : Hp}
theorem ES.monoT {K : PySem.W.Frag} {env : Mp.Env} {σ : St} (l : Le ρ ρ') (k : Kt H H') (e : ES K ρ H env σ) : ES K ρ' H' env σ :=
  ⟨e.1, fun i d q => let ⟨v, a, b⟩ := e.2 i d q; ⟨v, a, RelD.monoT l k d v b⟩⟩
theorem RelKK.monoT {K : PySem.W.Frag} {kvs ks} (l : Le ρ ρ') (k : Kt H H') (r : RelKK K ρ H kvs ks) : RelKK K ρ' H' kvs ks := ⟨r.1, fun i p q a b => ⟨(r.2 i p q a b).1, RelD.monoT l k _ _ (r.2 i p q a b).2⟩⟩
theorem RelKT.monoT {K : PySem.W.Frag} {kvs ks} (l : Le ρ ρ') (k : Kt H H') (r : RelKT K ρ H kvs ks) : RelKT K ρ' H' kvs ks := ⟨r.1, fun i p q a b => ⟨(r.2 i p q a b).1, RelD.monoT l k _ _ (r.2 i p q a b).2⟩⟩
theorem RelDict.monoT {K : PySem.W.Frag} {kvs o} (l : Le ρ ρ') (k : Kt H H') (r : RelDict K ρ H kvs o) : RelDict K ρ' H' kvs o := by
  rcases r with ⟨ks, e, r⟩ | ⟨ks, e, r⟩
  · exact .inl ⟨ks, e, r.monoT l k⟩
  · exact .inr ⟨ks, e, r⟩
theorem RelF.monoT {K : PySem.W.Frag} {nm fs vs} (l : Le ρ ρ') (k : Kt H H') (r : RelF K ρ H nm fs vs) : RelF K ρ' H' nm fs vs := ⟨r.1, fun i p q a b => ⟨(r.2 i p q a b).1, RelD.monoT l k _ _ (r.2 i p q a b).2⟩⟩
/-- an object whose place is as it was -/
theorem RelO.monoT (l : Le ρ ρ') (k : Kt H H') {o : Mp.MO} {a : Addr} (e : H' a = H a) (r : RelO C ρ H o a) : RelO C ρ' H' o a := by
  cases o with
  | lst ds => obtain ⟨vs, e1, r1⟩ := r; exact ⟨vs, e.trans e1, RelDs.monoT l k _ _ r1⟩
  | ro ds =>
    obtain ⟨vs, e1, r1⟩ := r
    refine ⟨vs, ?_, RelDs.monoT l k _ _ r1⟩
    rcases e1 with (e1 | ⟨o, e1⟩) | e1
    · exact .inl (.inl (e.trans e1))
    · exact .inl (.inr ⟨o, e.trans e1⟩)
    · exact .inr e1
  | dct kvs => obtain ⟨o, e1, r1⟩ := r; exact ⟨o, e.trans e1, r1.monoT l k⟩
  | fdct kvs => obtain ⟨ob, o, e1, r1⟩ := r; exact ⟨ob, o, e.trans e1, r1.monoT l k⟩
  | ins c fs => obtain ⟨dx, vs, e1, r1, q⟩ := r; exact ⟨dx, vs, e.trans e1, r1.monoT l k, q⟩
  | exc c fs => obtain ⟨e1, e2, e3⟩ := r; exact ⟨e.trans e1, e2, e3⟩
theorem Sim.at (S : Sim C ρ h H) {i : Nat} {o : Mp.MO} (e : h[i]? = some o) : ∃ a, ρ[i]? = some a ∧ RelO C ρ H o a := by
  have hi : i < ρ.length := by rw [S.len]; exact (List.getElem?_eq_some_iff.mp e).1
  exact ⟨ρ[i], List.getElem?_eq_getElem hi, S.ob i _ o (List.getElem?_eq_getElem hi) e⟩
theorem RoK.relT {i : Nat} {a : Addr} {o : Mp.MO} (r : RoK C ρ h H i a) (e : h[i]? = some o) (l : Le ρ ρ') (k : Kt H H') : RelO C ρ' H' o a := by
  obtain ⟨ds, vs, e1, e2, e3⟩ := r
  rw [e1] at e; cases e
  exact ⟨vs, .inr e2, RelDs.monoT l k _ _ e3⟩
theorem RoK.monoT {i : Nat} {a : Addr} {h' : Mp.Heap} (r : RoK C ρ h H i a) (e : ∀ ds, h[i]? = some (.ro ds) → h'[i]? = some (.ro ds)) (l : Le ρ ρ') (k : Kt H H') : RoK C ρ' h' H' i a := by
  obtain ⟨ds, vs, e1, e2, e3⟩ := r
  exact ⟨ds, vs, e ds e1, e2, RelDs.monoT l k _ _ e3⟩
/-- what is tracked and may be written is no table and no code object -/
theorem RelO.mut {o : Mp.MO} {a : Addr} (r : RelO C ρ H o a) (f : fixd o = false) : ∃ u, H a = some u ∧ (∀ φ, u ≠ .ext φ) ∧ ∀ ps, u ≠ .tbl ps := by
  cases o with
  | lst ds => obtain ⟨vs, e1, r1⟩ := r; exact ⟨_, e1, (fun φ z => by cases z), (fun ps z => by cases z)⟩
  | ro ds => cases f
  | dct kvs =>
    obtain ⟨o, e1, r1⟩ := r
    rcases r1 with ⟨ks, rfl, _⟩ | ⟨ks, rfl, _⟩
    · exact ⟨_, e1, (fun φ z => by cases z), (fun ps z => by cases z)⟩
    · exact ⟨_, e1, (fun φ z => by cases z), (fun ps z => by cases z)⟩
  | fdct kvs => obtain ⟨ob, o, e1, r1⟩ := r; exact ⟨_, e1, (fun φ z => by cases z), (fun ps z => by cases z)⟩
  | ins c fs => obtain ⟨dx, vs, e1, r1, q⟩ := r; exact ⟨_, e1, (fun φ z => by cases z), (fun ps z => by cases z)⟩
  | exc c fs => cases f
theorem tabs_put {T : List (Addr × Str)} {u : HO} {a : Addr} (t : LamX.Tabs T H) (hu : H a = some u) (h1 : ∀ φ, u ≠ .ext φ) (h2 : ∀ ps, u ≠ .tbl ps) (e : ∀ b, b ≠ a → H' b = H b) : LamX.Tabs T H' := fun p hp => by
  obtain ⟨ps, a1, a2, a3⟩ := t p hp
  have n1 : p.1 ≠ a := fun z => by rw [z, hu] at a1; exact h2 ps (Option.some.inj a1)
  refine ⟨ps, by rw [e _ n1]; exact a1, a2, fun pos cv hc => ?_⟩
  obtain ⟨c, e1, e2⟩ := a3 pos cv hc
  have n2 : c ≠ a := fun z => by
    rw [z, hu] at e2
    exact h1 _ (Option.some.inj e2)
  exact ⟨c, e1, by rw [e _ n2]; exact e2⟩
theorem tabs_new {T : List (Addr × Str)} {a : Addr} (t : LamX.Tabs T H) (na : H a = none) (e : ∀ b, b ≠ a → H' b = H b) : LamX.Tabs T H' := t.ext fun b o q => by
  rw [e b (ne_of_none q na)]; exact q
/-- an object is put in another's place -/
theorem Sim.putT (S : Sim C ρ h H) {i : Nat} {a : Addr} {o : Mp.MO} (ea : ρ[i]? = some a) (hro : ∀ o, h[i]? = some o → fixd o = false) (k : Kt H H') (e : ∀ b, b ≠ a → H' b = H b) (r : RelO C ρ H' o a) : Sim C ρ (h.set i o) H' := by
  have ro : ∀ (j : Nat) ds, h[j]? = some (.ro ds) → (h.set i o)[j]? = some (.ro ds) := fun j ds q => by
    rw [List.getElem?_set]
    by_cases hj : i = j
    · subst hj; exact absurd (hro _ q) (by simp [fixd])
    · rw [if_neg hj]; exact q
  have hi : i < h.length := by rw [← S.len]; exact (List.getElem?_eq_some_iff.mp ea).1
  obtain ⟨u, hu, m1, m2⟩ := (S.ob i a _ ea (List.getElem?_eq_getElem hi)).mut (hro _ (List.getElem?_eq_getElem hi))
  refine ⟨by rw [List.length_set]; exact S.len, fun x y b e1 e2 => (S.nd x y b e1 e2).imp id (Or.imp (fun r => r.monoT (ro x) (Le.refl ρ) k) (fun r => r.monoT (ro y) (Le.refl ρ) k)), fun j b o' e1 e2 => ?_, tabs_put S.tb hu m1 m2 e⟩
  rw [List.getElem?_set] at e2
  by_cases hj : i = j
  · subst hj
    rw [ea] at e1; cases e1
    rw [if_pos rfl] at e2
    split at e2
    · cases e2; exact r
    · exact absurd hi (by assumption)
  · rw [if_neg hj] at e2
    by_cases hb : b = a
    · subst hb
      rcases S.nd i j b ea e1 with q | q | q
      · exact absurd q hj
      · obtain ⟨ds, _, q, _⟩ := q; exact absurd (hro _ q) (by simp [fixd])
      · exact q.relT e2 (Le.refl ρ) k
    · exact (S.ob j b o' e1 e2).monoT (Le.refl ρ) k (e b hb)
/-- a new object, where nothing is tracked -/
theorem Sim.newT (S : Sim C ρ h H) {a : Addr} {o : Mp.MO} (na : H a = none) (k : Kt H H') (e : ∀ b, b ≠ a → H' b = H b) (r : RelO C (ρ ++ [a]) H' o a) : Sim C (ρ ++ [a]) (h ++ [o]) H' := by
  have ro : ∀ (j : Nat) ds, h[j]? = some (.ro ds) → (h ++ [o])[j]? = some (.ro ds) := fun j ds q => by
    rw [List.getElem?_append_left (List.getElem?_eq_some_iff.mp q).1]; exact q
  have old : ∀ (j : Nat) o', ρ[j]? = some a → h[j]? = some o' → RoK C ρ h H j a := fun j o' e1 e2 => by
    have q := S.ob j a o' e1 e2
    cases o' with
    | lst ds => obtain ⟨vs, q, _⟩ := q; rw [na] at q; cases q
    | ro ds =>
      obtain ⟨vs, q, r⟩ := q
      rcases q with (q | ⟨o, q⟩) | q
      · rw [na] at q; cases q
      · rw [na] at q; cases q
      · exact ⟨ds, vs, e2, q, r⟩
    | dct kvs => obtain ⟨vs, q, _⟩ := q; rw [na] at q; cases q
    | fdct kvs => obtain ⟨vs, o, q, _⟩ := q; rw [na] at q; cases q
    | ins c fs => obtain ⟨dx, vs, q, _⟩ := q; rw [na] at q; cases q
    | exc c fs => obtain ⟨q, _⟩ := q; rw [na] at q; cases q
  have atl : ∀ (j : Nat) b, (ρ ++ [a])[j]? = some b → (ρ[j]? = some b) ∨ (j = ρ.length ∧ b = a) := fun j b q => by
    by_cases hj : j < ρ.length
    · rw [List.getElem?_append_left hj] at q; exact .inl q
    · have hj' : j = ρ.length := by
        have := (List.getElem?_eq_some_iff.mp q).1
        simp at this; omega
      subst hj'
      rw [List.getElem?_append_right (Nat.le_refl _)] at q
      simp at q
      exact .inr ⟨rfl, q.symm⟩
  have has : ∀ (j : Nat) b, ρ[j]? = some b → ∃ o', h[j]? = some o' := fun j b q => by
    have : j < h.length := by rw [← S.len]; exact (List.getElem?_eq_some_iff.mp q).1
    exact ⟨_, List.getElem?_eq_getElem this⟩
  refine ⟨by simp [S.len], fun x y b e1 e2 => ?_, fun j b o' e1 e2 => ?_, tabs_new S.tb na e⟩
  · rcases atl x b e1 with q1 | ⟨q1, q1'⟩
    · rcases atl y b e2 with q2 | ⟨q2, q2'⟩
      · exact (S.nd x y b q1 q2).imp id (Or.imp (fun r => r.monoT (ro x) (Le.snoc ρ a) k) (fun r => r.monoT (ro y) (Le.snoc ρ a) k))
      · subst q2'
        obtain ⟨o', q⟩ := has x _ q1
        exact .inr (.inl ((old x o' q1 q).monoT (ro x) (Le.snoc ρ _) k))
    · subst q1'
      rcases atl y _ e2 with q2 | ⟨q2, q2'⟩
      · obtain ⟨o', q⟩ := has y _ q2
        exact .inr (.inr ((old y o' q2 q).monoT (ro y) (Le.snoc ρ _) k))
      · exact .inl (q1.trans q2.symm)
  · rcases atl j b e1 with q1 | ⟨q1, q1'⟩
    · have hj : j < ρ.length := (List.getElem?_eq_some_iff.mp q1).1
      rw [List.getElem?_append_left (by rw [← S.len]; exact hj)] at e2
      by_cases hb : b = a
      · subst hb
        exact (old j o' q1 e2).relT e2 (Le.snoc ρ _) k
      · exact (S.ob j b o' q1 e2).monoT (Le.snoc ρ a) k (e b hb)
    · subst q1'
      subst q1
      rw [List.getElem?_append_right (by rw [S.len]; exact Nat.le_refl _)] at e2
      rw [S.len] at e2
      simp at e2
      subst e2
      exact r
/-- tracked addresses are in the abstract heap, or the written part -/
theorem Sim.there (S : Sim C ρ h H) {i : Nat} {a : Addr} (e : ρ[i]? = some a) : ∃ o, h[i]? = some o ∧ RelO C ρ H o a := by
  have hi : i < h.length := by rw [← S.len]; exact (List.getElem?_eq_some_iff.mp e).1
  exact ⟨h[i], List.getElem?_eq_getElem hi, S.ob i a _ e (List.getElem?_eq_getElem hi)⟩
end
section
variable {C : Cf} {K : PySem.W.Frag} {ρ ρ' : List Addr} {h : Mp.Heap} {H H' : Hp}
theorem TupAt.mono {a : Addr} {xs : List V} (k : Kp H H') (h : TupAt K H a xs) : TupAt K H' a xs := TupAt.monoT k.t h
theorem RelD.mono (l : Le ρ ρ') (k : Kp H H') (d : Mp.D) (v : V) (r : RelD K ρ H d v) : RelD K ρ' H' d v := RelD.monoT l k.t d v r
theorem RelDs.mono (l : Le ρ ρ') (k : Kp H H') (ds : List Mp.D) (vs : List V) (r : RelDs K ρ H ds vs) : RelDs K ρ' H' ds vs := RelDs.monoT l k.t ds vs r
theorem ES.mono {env : Mp.Env} {σ : St} (l : Le ρ ρ') (k : Kp H H') (e : ES K ρ H env σ) : ES K ρ' H' env σ := ES.monoT l k.t e
theorem RelKK.mono {kvs ks} (l : Le ρ ρ') (k : Kp H H') (r : RelKK K ρ H kvs ks) : RelKK K ρ' H' kvs ks := RelKK.monoT l k.t r
theorem RelDict.mono {kvs o} (l : Le ρ ρ') (k : Kp H H') (r : RelDict K ρ H kvs o) : RelDict K ρ' H' kvs o := RelDict.monoT l k.t r
theorem RelF.mono {nm fs vs} (l : Le ρ ρ') (k : Kp H H') (r : RelF K ρ H nm fs vs) : RelF K ρ' H' nm fs vs := RelF.monoT l k.t r
theorem RelO.mono (l : Le ρ ρ') (k : Kp H H') {o : Mp.MO} {a : Addr} (e : H' a = H a) (r : RelO C ρ H o a) : RelO C ρ' H' o a := RelO.monoT l k.t e r
theorem Sim.put (S : Sim C ρ h H) {i : Nat} {a : Addr} {o : Mp.MO} (ea : ρ[i]? = some a) (hro : ∀ o, h[i]? = some o → fixd o = false) (k : Kp H H') (e : ∀ b, b ≠ a → H' b = H b) (r : RelO C ρ H' o a) : Sim C ρ (h.set i o) H' := Sim.putT S ea hro k.t e r
theorem Sim.new (S : Sim C ρ h H) {a : Addr} {o : Mp.MO} (na : H a = none) (k : Kp H H') (e : ∀ b, b ≠ a → H' b = H b) (r : RelO C (ρ ++ [a]) H' o a) : Sim C (ρ ++ [a]) (h ++ [o]) H' := Sim.newT S na k.t e r
end
end MpS
end
section
set_option Elab.async false
set_option linter.all false
set_option maxRecDepth 100000
set_option maxHeartbeats 4000000
namespace MpS
open PySem L2
abbrev Rel (α β : Type) := List Addr → Mp.Heap → Hp → α → β → Prop
/-- what an exception bears -/
def ErrR (C : Cf) (ρ : List Addr) (H : Hp) (fs : List (Nat × Mp.D)) (d : Option Addr) : Prop := (fs = [] ∧ d = none) ∨ fs ≠ [] ∧ ∃ dx vs, d = some dx ∧ H dx = some (.xd vs) ∧ RelF C.K ρ H C.nm fs vs
/-- the interpreter's end, and what is wanted of the model's -/
def EvG {α β : Type} (C : Cf) (W : WX) (σ : St) (R : Rel α β) (r : Mp.Res α) (ρ : List Addr) (H : Hp) (Q : β → Hp → Prop) : Prop :=
  match r with
  | .ok a h' => ∀ ρ' H' v, Le ρ ρ' → Kp H H' → Sim C ρ' h' H' → R ρ' h' H' a v → Q v H'
  | .err c fs h' => ∀ ρ' H' d, Le ρ ρ' → Kp H H' → Sim C ρ' h' H' → ErrR C ρ' H' fs d → W (.ref (C.ca c)) d σ H'
  | .stk => False
section
variable {C : Cf} {W : WX} {σ : St} {ρ ρ1 : List Addr} {H H1 : Hp} {α β γ δ : Type}
theorem EvG.weak {R : Rel α β} {r : Mp.Res α} {Q : β → Hp → Prop} (l : Le ρ ρ1) (k : Kp H H1) (h : EvG C W σ R r ρ H Q) : EvG C W σ R r ρ1 H1 Q := by
  cases r with
  | ok a h' => exact fun ρ' H' v l' k' S r => h ρ' H' v (l.trans l') (k.trans k') S r
  | err c fs h' => exact fun ρ' H' d l' k' S r => h ρ' H' d (l.trans l') (k.trans k') S r
  | stk => exact h
theorem EvG.imp {R : Rel α β} {r : Mp.Res α} {Q Q' : β → Hp → Prop} (h : EvG C W σ R r ρ H Q) (q : ∀ v H', Q v H' → Q' v H') : EvG C W σ R r ρ H Q' := by
  cases r with
  | ok a h' => exact fun ρ' H' v l' k' S r => q _ _ (h ρ' H' v l' k' S r)
  | err c fs h' => exact h
  | stk => exact h
/-- one behind another -/
theorem EvG.bind {R : Rel α β} {R' : Rel γ δ} {r : Mp.Res α} {f : α → Mp.Heap → Mp.Res γ} {Q : δ → Hp → Prop} (h : EvG C W σ R' (r.bind f) ρ H Q) :
    EvG C W σ R r ρ H (fun v H1 => ∃ a ρ1 h1, Le ρ ρ1 ∧ Kp H H1 ∧ Sim C ρ1 h1 H1 ∧ R ρ1 h1 H1 a v ∧ EvG C W σ R' (f a h1) ρ1 H1 Q) := by
  cases r with
  | ok a h' => exact fun ρ' H' v l' k' S r => ⟨a, ρ', h', l', k', S, r, EvG.weak l' k' h⟩
  | err c fs h' => exact h
  | stk => exact h
theorem EvG.ok {R : Rel α β} {a : α} {h : Mp.Heap} {Q : β → Hp → Prop} {v : β} (e : EvG C W σ R (.ok a h) ρ H Q) (S : Sim C ρ h H) (r : R ρ h H a v) : Q v H := e ρ H v (Le.refl _) (Kp.refl _) S r
theorem EvG.opt {R : Rel α β} {o : Option α} {h : Mp.Heap} {Q : β → Hp → Prop} (e : EvG C W σ R (Mp.opt o h) ρ H Q) : ∃ a, o = some a ∧ EvG C W σ R (.ok a h) ρ H Q := by
  cases o with
  | none => exact e.elim
  | some a => exact ⟨a, rfl, e⟩
end
abbrev RD (C : Cf) : Rel Mp.D V := fun ρ _ H d v => RelD C.K ρ H d v
abbrev RDs (C : Cf) : Rel (List Mp.D) (List V) := fun ρ _ H d v => RelDs C.K ρ H d v
abbrev RB : Rel Bool Bool := fun _ _ _ a b => a = b
/-- an expression's reading, by the interpreter -/
def tE (C : Cf) (W : WX) (m : Mp.Env → Mp.Heap → Mp.Res Mp.D) : TE := fun σ H Q => ∃ ρ env h, ES C.K ρ H env σ ∧ Sim C ρ h H ∧ EvG C W σ (RD C) (m env h) ρ H Q
def tA (C : Cf) (W : WX) (m : Mp.Env → Mp.Heap → Mp.Res (List Mp.D)) : TA := fun σ H Q => ∃ ρ env h, ES C.K ρ H env σ ∧ Sim C ρ h H ∧ EvG C W σ (RDs C) (m env h) ρ H Q
def tT (C : Cf) (W : WX) (m : Mp.Env → Mp.Heap → Mp.Res Mp.D) : TT := fun σ H Q => ∃ ρ env h, ES C.K ρ H env σ ∧ Sim C ρ h H ∧ EvG C W σ RB ((m env h).bind fun d h => Mp.opt (Mp.truth h d) h) ρ H Q
section
variable {X : Cx} {e : Expr}
theorem PE.imp' {t t' : TE} (h : PE X e t) (k : ∀ σ H Q, t' σ H Q → t σ H Q) : PE X e t' := ⟨fun pins s σ H Q I q => h.run pins s σ H Q I (k σ H Q q)⟩
theorem PT.imp' {t t' : TT} (h : PT X e t) (k : ∀ σ H Q, t' σ H Q → t σ H Q) : PT X e t' := ⟨fun pins s σ H Q I q => h.run pins s σ H Q I (k σ H Q q)⟩
theorem PA.imp' {es : List Expr} {t t' : TA} (h : PA X es t) (k : ∀ σ H Q, t' σ H Q → t σ H Q) : PA X es t' := ⟨fun pos pins s σ H Q I q => h.run pos pins s σ H Q I (k σ H Q q)⟩
theorem PS.imp' {st : Stmt} {t t' : TS} (h : PS X st t) (k : ∀ D σ H, t' D σ H → t D σ H) : PS X st t' := ⟨fun pins s σ H D I q => h.run pins s σ H D I (k D σ H q)⟩
theorem PSs.imp' {st : List Stmt} {t t' : TS} (h : PSs X st t) (k : ∀ D σ H, t' D σ H → t D σ H) : PSs X st t' := ⟨fun pins s σ H D I q => h.run pins s σ H D I (k D σ H q)⟩
end
/-- two, one behind another -/
theorem tE.two {C : Cf} {W : WX} {ma mb : Mp.Env → Mp.Heap → Mp.Res Mp.D} {f : Mp.D → Mp.D → Mp.Heap → Mp.Res Mp.D} {σ : St} {H : Hp} {Q : VK} {r : V → V → Hp → Prop}
    (h : tE C W (fun env h => (ma env h).bind fun x h => (mb env h).bind fun y h => f x y h) σ H Q)
    (k : ∀ d e x y ρ h H, Sim C ρ h H → RelD C.K ρ H d x → RelD C.K ρ H e y → EvG C W σ (RD C) (f d e h) ρ H Q → r x y H) :
    tE C W ma σ H fun x H1 => tE C W mb σ H1 fun y H2 => r x y H2 := by
  obtain ⟨ρ, env, h0, es, S, ev⟩ := h
  refine ⟨ρ, env, h0, es, S, ev.bind.imp fun x H1 ⟨d, ρ1, h1, l1, k1, S1, r1, ev1⟩ => ?_⟩
  refine ⟨ρ1, env, h1, es.mono l1 k1, S1, ev1.bind.imp fun y H2 ⟨e, ρ2, h2, l2, k2, S2, r2, ev2⟩ => ?_⟩
  exact k d e x y ρ2 h2 H2 S2 (RelD.mono l2 k2 _ _ r1) r2 ev2
/-- one, then what is made of its value -/
theorem tE.one {C : Cf} {W : WX} {ma : Mp.Env → Mp.Heap → Mp.Res Mp.D} {f : Mp.D → Mp.Heap → Mp.Res Mp.D} {σ : St} {H : Hp} {Q : VK} {r : V → Hp → Prop}
    (h : tE C W (fun env h => (ma env h).bind fun x h => f x h) σ H Q)
    (k : ∀ d x ρ h H, Sim C ρ h H → RelD C.K ρ H d x → EvG C W σ (RD C) (f d h) ρ H Q → r x H) : tE C W ma σ H fun x H1 => r x H1 := by
  obtain ⟨ρ, env, h0, es, S, ev⟩ := h
  refine ⟨ρ, env, h0, es, S, ev.bind.imp fun x H1 ⟨d, ρ1, h1, l1, k1, S1, r1, ev1⟩ => ?_⟩
  exact k d x ρ1 h1 H1 S1 r1 ev1

/-! ### constants, names -/
section
variable {C : Cf} {W : WX} {X : Cx} {pos : Pos}
theorem se_const {k : Nat} {c : Const} {d : Mp.D} {v : V} (h : PE X (.Constant c k pos) (tC v)) (r : ∀ ρ H, RelD C.K ρ H d v) : PE X (.Constant c k pos) (tE C W fun _ h => .ok d h) :=
  PE.imp' h fun σ H Q ⟨ρ, env, h0, es, S, ev⟩ => ev.ok S (r ρ H)
theorem se_var {i : Nat} {x : Str} (h : PE X (.Name x pos) (tVar i)) : PE X (.Name x pos) (tE C W (Mp.evE C.pg cf (.v i))) :=
  PE.imp' h fun σ H Q ⟨ρ, env, h0, es, S, ev⟩ => by
    unfold Mp.evE at ev
    cases e : env[i]? with
    | none => rw [e] at ev; exact ev.elim
    | some o =>
      rw [e] at ev
      cases o with
      | none => exact ev.elim
      | some d =>
        obtain ⟨v, e1, r⟩ := es.2 i d e
        exact ⟨v, e1, ev.ok S r⟩
end

/-! ### operators -/
/-- an operator by the interpreter -/
def rO (C : Cf) (f : Mp.D → Mp.D → Mp.Heap → Mp.Res Mp.D) : R2 := fun x y H Q => ∃ ρ h d e, Sim C ρ h H ∧ RelD C.K ρ H d x ∧ RelD C.K ρ H e y ∧ ∃ z h', f d e h = .ok z h' ∧ ∀ ρ' H' v, Le ρ ρ' → Kp H H' → Sim C ρ' h' H' → RelD C.K ρ' H' z v → Q v H'
section
variable {C : Cf} {ρ : List Addr} {H : Hp} {h : Mp.Heap} {v : V}
theorem relInt {i : Int} (r : RelD C.K ρ H (.int i) v) : v = .int i := by simpa only [RelD] using r
theorem relStr {s : List Nat} (r : RelD C.K ρ H (.str s) v) : v = .str (strV s) := by simpa only [RelD] using r
theorem relBl {b : Bool} (r : RelD C.K ρ H (.bl b) v) : v = .bl b := by simpa only [RelD] using r
theorem relNon (r : RelD C.K ρ H .non v) : v = .non := by simpa only [RelD] using r
theorem relTup {ds : List Mp.D} (r : RelD C.K ρ H (.tup ds) v) : ∃ a vs, v = .ref a ∧ TupAt C.K H a vs ∧ RelDs C.K ρ H ds vs := by simpa only [RelD] using r
theorem relRef {i : Nat} (r : RelD C.K ρ H (.ref i) v) : ∃ a, v = .ref a ∧ ρ[i]? = some a := by simpa only [RelD] using r
theorem intRel (i : Int) : RelD C.K ρ H (.int i) (.int i) := by simp only [RelD]
theorem strRel (s : List Nat) : RelD C.K ρ H (.str s) (.str (strV s)) := by simp only [RelD]
theorem blRel (b : Bool) : RelD C.K ρ H (.bl b) (.bl b) := by simp only [RelD]
theorem nonRel : RelD C.K ρ H .non .non := by simp only [RelD]
theorem tupRel {ds : List Mp.D} {a : Addr} {vs : List V} (t : TupAt C.K H a vs) (r : RelDs C.K ρ H ds vs) : RelD C.K ρ H (.tup ds) (.ref a) := by
  simp only [RelD]; exact ⟨a, vs, rfl, t, r⟩
theorem refRel {i : Nat} {a : Addr} (e : ρ[i]? = some a) : RelD C.K ρ H (.ref i) (.ref a) := by
  simp only [RelD]; exact ⟨a, rfl, e⟩
theorem Sim.lst (S : Sim C ρ h H) {i : Nat} {a : Addr} {ds : List Mp.D} (e : ρ[i]? = some a) (o : h[i]? = some (.lst ds)) : ∃ vs, H a = some (.lst vs) ∧ RelDs C.K ρ H ds vs := S.ob i a _ e o
/-- a new list -/
theorem Sim.newL (S : Sim C ρ h H) {p : Addr} (np : H p = none) {ds : List Mp.D} {vs : List V} (r : RelDs C.K ρ H ds vs) : Sim C (ρ ++ [p]) (h ++ [.lst ds]) (upd H p (.lst vs)) :=
  S.new np (Kp.new np) (fun b hb => upd_ne hb) ⟨vs, upd_same, RelDs.mono (Le.snoc ρ p) (Kp.new np) _ _ r⟩
/-- something new that is not told of -/
theorem Sim.other (S : Sim C ρ h H) {p : Addr} (np : H p = none) (o : HO) : Sim C ρ h (upd H p o) :=
  ⟨S.len, fun i j a e1 e2 => (S.nd i j a e1 e2).imp id (Or.imp (fun r => r.monoT (fun _ q => q) (Le.refl ρ) (Kp.new np).t) (fun r => r.monoT (fun _ q => q) (Le.refl ρ) (Kp.new np).t)), fun i a o' e1 e2 => by
    have q := S.ob i a o' e1 e2
    by_cases hb : a = p
    · subst hb
      cases o' with
      | lst ds => obtain ⟨vs, q, _⟩ := q; rw [np] at q; cases q
      | ro ds =>
        obtain ⟨vs, q, r⟩ := q
        rcases q with (q | ⟨o, q⟩) | q
        · rw [np] at q; cases q
        · rw [np] at q; cases q
        · exact ⟨vs, .inr q, RelDs.mono (Le.refl ρ) (Kp.new np) _ _ r⟩
      | dct kvs => obtain ⟨vs, q, _⟩ := q; rw [np] at q; cases q
      | fdct kvs => obtain ⟨vs, o, q, _⟩ := q; rw [np] at q; cases q
      | ins c fs => obtain ⟨dx, vs, q, _⟩ := q; rw [np] at q; cases q
      | exc c fs => obtain ⟨q, _⟩ := q; rw [np] at q; cases q
    · exact q.mono (Le.refl ρ) (Kp.new np) (upd_ne hb), tabs_new S.tb np fun b hb => upd_ne hb⟩
theorem Sim.ref_at (S : Sim C ρ h H) : (ρ ++ [p])[h.length]? = some p := by
  rw [← S.len, List.getElem?_append_right (Nat.le_refl _)]; simp
theorem lim_line {n : Nat} (h : n ≤ Mp.lim) : n ≤ sizeLine := by rw [sizeLine_eq]; unfold Mp.lim at h; omega
theorem lim_line' {n : Nat} (h : n < Mp.lim) : n < sizeLine := by rw [sizeLine_eq]; unfold Mp.lim at h; omega
end
section
variable {C : Cf} {X : Cx}
theorem rO.ok {f : Mp.D → Mp.D → Mp.Heap → Mp.Res Mp.D} {W : WX} {σ : St} {d e : Mp.D} {x y : V} {ρ : List Addr} {h : Mp.Heap} {H : Hp} {Q : VK} (hf : ∀ d e h c fs h', f d e h ≠ .err c fs h') (S : Sim C ρ h H) (r1 : RelD C.K ρ H d x) (r2 : RelD C.K ρ H e y) (ev : EvG C W σ (RD C) (f d e h) ρ H Q) : rO C f x y H Q := by
  cases q : f d e h with
  | ok z h' => rw [q] at ev; exact ⟨ρ, h, d, e, S, r1, r2, z, h', q, ev⟩
  | err c fs h' => exact absurd q (hf d e h c fs h')
  | stk => rw [q] at ev; exact ev.elim
theorem strV_len (s : List Nat) : (strV s).length = s.length := by simp [strV, Str.length]
theorem strV_app (s z : List Nat) : strV s ++ strV z = strV (s ++ z) := by
  show Str.append _ _ = _
  simp [strV, Str.append]
theorem strV_inj {s z : List Nat} (h : strV s = strV z) : s = z := by
  have := congrArg Str.cps h
  simpa [strV] using this
end
end MpS
end
section
set_option Elab.async false
set_option linter.all false
set_option maxRecDepth 100000
set_option maxHeartbeats 4000000
namespace MpS
open PySem L2
section
variable {C : Cf} {X : Cx}
theorem binop_noerr (o : Mp.BOp) (d e : Mp.D) (h : Mp.Heap) (c : Nat) (fs : List (Nat × Mp.D)) (h' : Mp.Heap) : Mp.binop o d e h ≠ .err c fs h' := by
  unfold Mp.binop
  split <;> (try split) <;> (try split) <;> simp
theorem smallI_ok {i : Int} (h : Mp.smallI i = true) : -(2 ^ 62) ≤ i ∧ i < 2 ^ 62 := by
  unfold Mp.smallI at h
  simpa using h
/-- tuple * 1: the tuple itself -/
theorem tuple_mul1 (l : Addr) (items : Array Value) (n : Nat) (dd : Option Addr) (sl : Array (Option Value)) (u : Tok) :
    Meets (Builtin.«tuple.__mul__» ⟨[.ref l, .int 1 u], []⟩) (fun _ R s => s.heap.get? l = some { cls := .type "tuple", dict := dd, data := .seq items n, slots := sl } ∧
      R (.ok (.ret (Value.ref l))) s) :=
  .of_wp fun prog w A R s h => by
    obtain ⟨hp, g, d, tk, os⟩ := s
    obtain ⟨hl, h⟩ := h
    have f1 := AutoSeq1.idx_int
    wp_walk using wpAny_loadPart' hl
    exact ⟨_, rfl, h⟩
theorem op_rep1 : OpR X (binaryOp .Mult) (fun x y H Q => ∃ l xs, x = .ref l ∧ y = .int 1 ∧ SqT X.K H l xs ∧ Q (.ref l) H) := by
  intro pins s σ H x y v u Q I rx ry h
  obtain ⟨l, xs, rfl, rfl, hT, q⟩ := h
  cases rx
  obtain ⟨t, rfl⟩ := ry
  obtain ⟨its, r, ⟨⟨cls, dd, data, sl⟩, ho, hc, n, hd⟩, hs⟩ := I.tuple hT
  simp only at hc hd
  subst hc hd
  exact wpAny_binaryOp_repeat_ref (T := "tuple") (U := "int") (by decide) ⟨_, ho, rfl⟩ (fun s' => typeIs_int s' 1 t) noFill_tuple_mul F.fills_int_mul F.slot_int_rmul repeat_tuple F.slot_int_index.lookup
    (call_meets F.slot_int_rmul (typeIs_int s 1 t) F.entry_int_rmul (F.args_int_rmul_2 _ _) (int_rmul_tuple 1 t l its.toArray n dd sl)
      ⟨ho, rfl, ⟨_, ho, rfl⟩, call_meets F.slot_tuple_mul ⟨_, ho, rfl⟩ F.entry_tuple_mul (F.args_tuple_mul_2 _ _) (tuple_mul1 l its.toArray n dd sl t) ⟨ho, ⟨.ref l, H, I, rfl, q⟩⟩⟩)
theorem RelDs.rep {K : PySem.W.Frag} {ρ : List Addr} {H : Hp} {ds : List Mp.D} {vs : List V} (r : RelDs K ρ H ds vs) : ∀ n : Nat, RelDs K ρ H (List.replicate n ds).flatten (List.replicate n vs).flatten
  | 0 => by simpa using RelDs.nil
  | n + 1 => by
    simp only [List.replicate_succ, List.flatten_cons]
    exact r.append (RelDs.rep r n)
theorem rO_int {d e : Mp.D} {f : Mp.D → Mp.D → Mp.Heap → Mp.Res Mp.D} {i j : Int} {x y : V} {H : Hp} {Q : VK} : True := trivial
/-- the end: a value that has no address -/
theorem fin_flat {ρ : List Addr} {h : Mp.Heap} {H : Hp} {z : Mp.D} {v : V} {Q : VK} (k : ∀ ρ' H' v, Le ρ ρ' → Kp H H' → Sim C ρ' h H' → RelD C.K ρ' H' z v → Q v H') (S : Sim C ρ h H) (r : RelD C.K ρ H z v) : Q v H :=
  k ρ H v (Le.refl _) (Kp.refl _) S r
/-- the end: a new list -/
theorem fin_lst {ρ : List Addr} {h : Mp.Heap} {H : Hp} {ds : List Mp.D} {vs : List V} {p : Addr} {Q : VK} (k : ∀ ρ' H' v, Le ρ ρ' → Kp H H' → Sim C ρ' (h ++ [.lst ds]) H' → RelD C.K ρ' H' (.ref h.length) v → Q v H') (S : Sim C ρ h H) (np : H p = none) (r : RelDs C.K ρ H ds vs) : Q (.ref p) (upd H p (.lst vs)) :=
  k (ρ ++ [p]) _ _ (Le.snoc ρ p) (Kp.new np) (S.newL np r) (refRel S.ref_at)
/-- the end: a new tuple -/
theorem fin_tup {ρ : List Addr} {h : Mp.Heap} {H : Hp} {ds : List Mp.D} {vs : List V} {p : Addr} {Q : VK} (k : ∀ ρ' H' v, Le ρ ρ' → Kp H H' → Sim C ρ' h H' → RelD C.K ρ' H' (.tup ds) v → Q v H') (S : Sim C ρ h H) (np : H p = none) (r : RelDs C.K ρ H ds vs) : Q (.ref p) (upd H p (.tup vs)) :=
  k ρ _ _ (Le.refl ρ) (Kp.new np) (S.other np _) (tupRel (.inl upd_same) (RelDs.mono (Le.refl ρ) (Kp.new np) _ _ r))
theorem ok_inj {α : Type} {a b : α} {h k : Mp.Heap} (e : Mp.Res.ok a h = .ok b k) : a = b ∧ h = k := by cases e; exact ⟨rfl, rfl⟩

theorem so_add (hK : X.K = C.K) : OpR X (binaryOp .Add) (rO C (Mp.binop .add)) := by
  intro pins s σ H x y v u Q I rx ry q
  obtain ⟨ρ, h, d, e, S, r1, r2, z, h', ev, k⟩ := q
  unfold Mp.binop at ev
  split at ev
  all_goals (try cases ‹Mp.BOp.add = _›)
  · obtain ⟨rfl, rfl⟩ := ok_inj ev
    exact op_add pins s σ H x y v u Q I rx ry ⟨_, _, relInt r1, relInt r2, fin_flat k S (intRel _)⟩
  · split at ev
    · rename_i hl
      obtain ⟨rfl, rfl⟩ := ok_inj ev
      refine op_add_str pins s σ H x y v u Q I rx ry ⟨_, _, relStr r1, relStr r2, by rw [strV_len, strV_len]; exact lim_line hl, ?_⟩
      rw [strV_app]
      exact fin_flat k S (strRel _)
    · cases ev
  · split at ev
    · rename_i hl
      obtain ⟨rfl, rfl⟩ := ok_inj ev
      obtain ⟨a, vs, rfl, t1, g1⟩ := relTup r1
      obtain ⟨b, us, rfl, t2, g2⟩ := relTup r2
      refine op_catA pins s σ H _ _ v u Q I rx ry ⟨a, b, vs, us, rfl, rfl, by rw [hK]; exact t1.sq, by rw [hK]; exact t2.sq, by rw [g1.length, g2.length]; exact lim_line hl, fun e => ?_, fun _ e => ?_, fun _ _ p np => ?_⟩
      · refine fin_flat k S (tupRel t2 ?_)
        have := g1.append g2
        rw [e, List.nil_append] at this; exact this
      · refine fin_flat k S (tupRel t1 ?_)
        have := g1.append g2
        rw [e, List.append_nil] at this; exact this
      · exact fin_tup k S np (g1.append g2)
    · cases ev
  · split at ev
    · rename_i ha hb
      split at ev
      · rename_i hl
        obtain ⟨rfl, rfl⟩ := ok_inj ev
        obtain ⟨a, rfl, ea⟩ := relRef r1
        obtain ⟨b, rfl, eb⟩ := relRef r2
        obtain ⟨vs, h1, g1⟩ := S.lst ea ha
        obtain ⟨us, h2, g2⟩ := S.lst eb hb
        refine op_cat pins s σ H _ _ v u Q I rx ry ⟨a, b, vs, us, rfl, rfl, h1, h2, by rw [g1.length, g2.length]; exact lim_line hl, fun p np => ?_⟩
        exact fin_lst k S np (g1.append g2)
      · cases ev
    · cases ev
  · cases ev
theorem so_sub : OpR X (binaryOp .Sub) (rO C (Mp.binop .sub)) := by
  intro pins s σ H x y v u Q I rx ry q
  obtain ⟨ρ, h, d, e, S, r1, r2, z, h', ev, k⟩ := q
  unfold Mp.binop at ev
  split at ev
  all_goals (try cases ‹Mp.BOp.sub = _›)
  · obtain ⟨rfl, rfl⟩ := ok_inj ev
    exact op_sub pins s σ H x y v u Q I rx ry ⟨_, _, relInt r1, relInt r2, fin_flat k S (intRel _)⟩
  · cases ev
theorem so_mul (hK : X.K = C.K) : OpR X (binaryOp .Mult) (rO C (Mp.binop .mul)) := by
  intro pins s σ H x y v u Q I rx ry q
  obtain ⟨ρ, h, d, e, S, r1, r2, z, h', ev, k⟩ := q
  unfold Mp.binop at ev
  split at ev
  all_goals (try cases ‹Mp.BOp.mul = _›)
  · split at ev
    · rename_i hc
      obtain ⟨rfl, rfl⟩ := ok_inj ev
      refine op_mul pins s σ H x y v u Q I rx ry ⟨_, _, relInt r1, relInt r2, ?_, fin_flat k S (intRel _)⟩
      simp only [Bool.or_eq_true, Bool.and_eq_true, decide_eq_true_eq] at hc
      exact hc
    · cases ev
  · split at ev
    · rename_i hc
      simp only [Bool.and_eq_true, decide_eq_true_eq] at hc
      obtain ⟨⟨⟨c1, c2⟩, c3⟩, c4⟩ := hc
      obtain ⟨rfl, rfl⟩ := ok_inj ev
      obtain ⟨a, vs, rfl, t1, g1⟩ := relTup r1
      have hy := relInt r2
      subst hy
      rename_i as0 j
      by_cases hj : j = 1
      · subst hj
        refine op_rep1 pins s σ H _ _ v u Q I rx ry ⟨a, vs, rfl, rfl, by rw [hK]; exact t1.sq, ?_⟩
        refine fin_flat k S ?_
        have : (List.replicate (1 : Int).toNat as0).flatten = as0 := by simp
        rw [this]
        exact tupRel t1 g1
      · refine op_repT pins s σ H _ _ v u Q I rx ry ⟨a, j, vs, rfl, rfl, by rw [hK]; exact t1.sq, ?_, by omega, c3, by rw [g1.length]; exact c4, fun p np => ?_⟩
        · intro e0
          have := g1.length
          rw [e0] at this
          exact c1 (List.eq_nil_of_length_eq_zero this.symm)
        · exact fin_tup k S np (g1.rep _)
    · cases ev
  · split at ev
    · rename_i ha
      split at ev
      · rename_i hc
        simp only [Bool.and_eq_true, decide_eq_true_eq] at hc
        obtain ⟨c1, c2⟩ := hc
        have c1 := smallI_ok c1
        obtain ⟨rfl, rfl⟩ := ok_inj ev
        obtain ⟨a, rfl, ea⟩ := relRef r1
        obtain ⟨vs, h1, g1⟩ := S.lst ea ha
        refine op_rep pins s σ H _ _ v u Q I rx ry ⟨a, _, vs, rfl, relInt r2, h1, by omega, by omega, by rw [g1.length]; exact lim_line c2, fun p np => ?_⟩
        exact fin_lst k S np (g1.rep _)
      · cases ev
    · cases ev
  · cases ev
theorem so_fdiv : OpR X (binaryOp .FloorDiv) (rO C (Mp.binop .fdiv)) := by
  intro pins s σ H x y v u Q I rx ry q
  obtain ⟨ρ, h, d, e, S, r1, r2, z, h', ev, k⟩ := q
  unfold Mp.binop at ev
  split at ev
  all_goals (try cases ‹Mp.BOp.fdiv = _›)
  · split at ev
    · rename_i hc
      simp only [Bool.and_eq_true, decide_eq_true_eq] at hc
      obtain ⟨rfl, rfl⟩ := ok_inj ev
      exact op_fdivN pins s σ H x y v u Q I rx ry ⟨_, _, relInt r1, relInt r2, hc, fin_flat k S (intRel _)⟩
    · cases ev
  · cases ev
theorem so_mod : OpR X (binaryOp .Mod) (rO C (Mp.binop .mod)) := by
  intro pins s σ H x y v u Q I rx ry q
  obtain ⟨ρ, h, d, e, S, r1, r2, z, h', ev, k⟩ := q
  unfold Mp.binop at ev
  split at ev
  all_goals (try cases ‹Mp.BOp.mod = _›)
  · split at ev
    · cases ev
    · rename_i hc
      obtain ⟨rfl, rfl⟩ := ok_inj ev
      exact op_modN pins s σ H x y v u Q I rx ry ⟨_, _, relInt r1, relInt r2, hc, fin_flat k S (intRel _)⟩
  · cases ev
theorem so_pow : OpR X (binaryOp .Pow) (rO C (Mp.binop .pow)) := by
  intro pins s σ H x y v u Q I rx ry q
  obtain ⟨ρ, h, d, e, S, r1, r2, z, h', ev, k⟩ := q
  unfold Mp.binop at ev
  split at ev
  all_goals (try cases ‹Mp.BOp.pow = _›)
  · split at ev
    · rename_i hc
      simp only [Bool.and_eq_true, decide_eq_true_eq] at hc
      obtain ⟨rfl, rfl⟩ := ok_inj ev
      exact op_pow pins s σ H x y v u Q I rx ry ⟨_, _, relInt r1, relInt r2, ⟨hc.1.1, hc.1.2, hc.2⟩, fin_flat k S (intRel _)⟩
    · cases ev
  · cases ev
def opOf : Mp.BOp → Operator
  | .add => .Add
  | .sub => .Sub
  | .mul => .Mult
  | .fdiv => .FloorDiv
  | .mod => .Mod
  | .pow => .Pow
theorem so_bin (hK : X.K = C.K) : ∀ o : Mp.BOp, OpR X (binaryOp (opOf o)) (rO C (Mp.binop o))
  | .add => so_add hK
  | .sub => so_sub
  | .mul => so_mul hK
  | .fdiv => so_fdiv
  | .mod => so_mod
  | .pow => so_pow
end
end MpS
end
section
set_option Elab.async false
set_option linter.all false
set_option maxRecDepth 100000
set_option maxHeartbeats 4000000
namespace MpS
open PySem L2
mutual
def toPy : Mp.PD → PyData
  | .non => .none
  | .bl b => .bool b
  | .int i => .int i
  | .str s => .str (strV s)
  | .lst xs => .list (toPys xs)
  | .tup xs => .tuple (toPys xs)
def toPys : List Mp.PD → List PyData
  | [] => []
  | x :: xs => toPy x :: toPys xs
end
theorem toPys_map : ∀ xs : List Mp.PD, toPys xs = xs.map toPy
  | [] => rfl
  | x :: xs => by rw [toPys, List.map_cons, toPys_map xs]
theorem strV_beq (s z : List Nat) : (strV s == strV z) = decide (s = z) := by
  by_cases e : s = z
  · subst e; simp
  · rw [decide_eq_false e]
    exact beq_eq_false_iff_ne.mpr fun q => e (strV_inj q)
mutual
theorem eqv_py : ∀ a b : Mp.PD, PyData.eqv (toPy a) (toPy b) = Mp.eqv a b
  | .non, b => by cases b <;> simp [toPy, Mp.eqv, PyData.eqv]
  | .bl x, b => by
    cases b <;> simp only [toPy, Mp.eqv, PyData.eqv]
    rfl
  | .int x, b => by
    cases b <;> simp only [toPy, Mp.eqv, PyData.eqv]
    all_goals rfl
  | .str x, b => by
    cases b <;> simp only [toPy, Mp.eqv, PyData.eqv]
    exact strV_beq _ _
  | .lst x, b => by
    cases b <;> simp only [toPy, Mp.eqv, PyData.eqv]
    exact eqvs_py _ _
  | .tup x, b => by
    cases b <;> simp only [toPy, Mp.eqv, PyData.eqv]
    exact eqvs_py _ _
theorem eqvs_py : ∀ a b : List Mp.PD, PyData.eqvAll (toPys a) (toPys b) = Mp.eqvs a b
  | [], b => by cases b <;> simp [toPys, Mp.eqvs, PyData.eqvAll]
  | x :: xs, b => by
    cases b with
    | nil => simp [toPys, Mp.eqvs, PyData.eqvAll]
    | cons y ys => simp only [toPys, Mp.eqvs, PyData.eqvAll]; rw [eqv_py x y, eqvs_py xs ys]
end
theorem mapO_cons {α β : Type} {f : α → Option β} {d : α} {ds : List α} {xs : List β} (h : Mp.mapO f (d :: ds) = some xs) : ∃ x r, f d = some x ∧ Mp.mapO f ds = some r ∧ xs = x :: r := by
  unfold Mp.mapO at h
  cases e : f d with
  | none => rw [e] at h; cases h
  | some x =>
    rw [e] at h
    cases e2 : Mp.mapO f ds with
    | none => rw [e2] at h; cases h
    | some r => rw [e2] at h; cases h; exact ⟨x, r, rfl, rfl, rfl⟩
section
variable {C : Cf} {ρ : List Addr} {h : Mp.Heap} {H : Hp}
/-- what is read is Python's datum -/
structure DpOk (C : Cf) (H : Hp) (k : Nat) (v : V) (p : Mp.PD) : Prop where
  dp : Dp C.K H v (toPy p)
  lay : (toPy p).canLay0 = true
  deep : (toPy p).depth ≤ k
structure DpsOk (C : Cf) (H : Hp) (k : Nat) (vs : List V) (ps : List Mp.PD) : Prop where
  dp : DpAll C.K H vs (toPys ps)
  lay : PyData.canLayAll0 (toPys ps) = true
  deep : PyData.depthAll (toPys ps) ≤ k
theorem mapO_dp {k : Nat} (ih : ∀ d v p, RelD C.K ρ H d v → Mp.rd h k d = some p → DpOk C H k v p) : ∀ (ds : List Mp.D) (vs : List V) (ps : List Mp.PD), RelDs C.K ρ H ds vs → Mp.mapO (Mp.rd h k) ds = some ps → DpsOk C H k vs ps
  | [], vs, ps, r, e => by
    have : vs = [] := by simpa only [RelDs] using r
    subst this
    cases e
    exact ⟨.nil, by simp [toPys, PyData.canLayAll0], by simp [toPys, PyData.depthAll]⟩
  | d :: ds, vs, ps, r, e => by
    obtain ⟨v, us, rfl, r1, r2⟩ := r.inv_cons
    obtain ⟨x, xs, e1, e2, rfl⟩ := mapO_cons e
    have q1 := ih d v x r1 e1
    have q2 := mapO_dp ih ds us xs r2 e2
    refine ⟨.cons q1.dp q2.dp, ?_, ?_⟩
    · simp only [toPys, PyData.canLayAll0, q1.lay, q2.lay, Bool.and_self]
    · simp only [toPys, PyData.depthAll]
      exact Nat.max_le.mpr ⟨q1.deep, q2.deep⟩
theorem strOk_of {s : List Nat} (e : s.all (fun c => decide (c < 1114112)) = true) : PyData.strOk (strV s) = true := by
  unfold PyData.strOk
  simpa using e
theorem rd_flat {k : Nat} {d : Mp.D} {v : V} {p : Mp.PD} (r : RelD C.K ρ H d v) (f : Mp.rdF d = some p) : DpOk C H k v p := by
  unfold Mp.rdF at f
  cases d with
  | non => cases f; rw [relNon r]; exact ⟨.non, by simp [toPy, PyData.canLay0], by simp [toPy, PyData.depth]⟩
  | bl b => cases f; rw [relBl r]; exact ⟨.bl b, by simp [toPy, PyData.canLay0], by simp [toPy, PyData.depth]⟩
  | int i => cases f; rw [relInt r]; exact ⟨.int i, by simp [toPy, PyData.canLay0], by simp [toPy, PyData.depth]⟩
  | str s =>
    simp only at f
    split at f
    · rename_i hs
      cases f
      rw [relStr r]
      exact ⟨.str _, by simp only [toPy, PyData.canLay0]; exact strOk_of hs, by simp [toPy, PyData.depth]⟩
    · cases f
  | tup ds => cases f
  | ref a => cases f
theorem rd_dp (S : Sim C ρ h H) : ∀ (k : Nat) (d : Mp.D) (v : V) (p : Mp.PD), RelD C.K ρ H d v → Mp.rd h k d = some p → DpOk C H k v p
  | 0, d, v, p, r, e => by
    unfold Mp.rd at e
    exact rd_flat r e
  | k + 1, d, v, p, r, e => by
    unfold Mp.rd at e
    cases d with
    | non => exact rd_flat (d := .non) r e
    | bl b => exact rd_flat (d := .bl b) r e
    | int i => exact rd_flat (d := .int i) r e
    | str s => exact rd_flat (d := .str s) r e
    | tup ds =>
      obtain ⟨a, vs, rfl, t, g⟩ := relTup r
      cases q : Mp.mapO (Mp.rd h k) ds with
      | none => simp only [q] at e; cases e
      | some ps =>
        simp only [q] at e; cases e
        have z := mapO_dp (rd_dp S k) ds vs ps g q
        exact ⟨.tup t.sq z.dp, by simp only [toPy, PyData.canLay0]; exact z.lay, by simp only [toPy, PyData.depth]; exact Nat.succ_le_succ z.deep⟩
    | ref i =>
      obtain ⟨a, rfl, ea⟩ := relRef r
      simp only at e
      split at e
      · rename_i ds ho
        obtain ⟨vs, h1, g⟩ := S.lst ea ho
        cases q : Mp.mapO (Mp.rd h k) ds with
        | none => simp only [q] at e; cases e
        | some ps =>
          simp only [q] at e; cases e
          have z := mapO_dp (rd_dp S k) ds vs ps g q
          exact ⟨.lst (SqL.of h1) z.dp, by simp only [toPy, PyData.canLay0]; exact z.lay, by simp only [toPy, PyData.depth]; exact Nat.succ_le_succ z.deep⟩
      · rename_i ds ho
        obtain ⟨vs, h1, g⟩ := S.ob i a _ ea ho
        cases q : Mp.mapO (Mp.rd h k) ds with
        | none => simp only [q] at e; cases e
        | some ps =>
          simp only [q] at e; cases e
          have z := mapO_dp (rd_dp S k) ds vs ps g q
          exact ⟨.lst (ro_sq h1) z.dp, by simp only [toPy, PyData.canLay0]; exact z.lay, by simp only [toPy, PyData.depth]; exact Nat.succ_le_succ z.deep⟩
      · cases e
theorem DpOk.shaped {k : Nat} {v : V} {p : Mp.PD} (z : DpOk C H k v p) (hk : k ≤ 64) : SeqAt.shaped (toPy p) = true := by
  unfold SeqAt.shaped
  rw [z.lay, Bool.true_and]
  exact decide_eq_true (Nat.le_trans z.deep hk)
end
section
variable {C : Cf} {X : Cx}
/-- a comparison by the interpreter -/
abbrev rC (C : Cf) (o : Mp.COp) : R2 := rO C fun x y h => Mp.opt ((Mp.cmpop o x y h).map .bl) h
theorem cmp_noerr (o : Mp.COp) (d e : Mp.D) (h : Mp.Heap) (c : Nat) (fs : List (Nat × Mp.D)) (h' : Mp.Heap) : Mp.opt ((Mp.cmpop o d e h).map Mp.D.bl) h ≠ .err c fs h' := by
  cases Mp.cmpop o d e h <;> simp [Mp.opt]
theorem opt_ok {o : Option Bool} {h h' : Mp.Heap} {z : Mp.D} (e : Mp.opt (o.map Mp.D.bl) h = .ok z h') : ∃ b, o = some b ∧ z = .bl b ∧ h' = h := by
  cases o with
  | none => cases e
  | some b => cases e; exact ⟨b, rfl, rfl, rfl⟩
theorem scal_rel {ρ : List Addr} {H : Hp} {d e : Mp.D} {x y : V} (s : Mp.scal d e = true) (r1 : RelD C.K ρ H d x) (r2 : RelD C.K ρ H e y) : L2.scal x y = true ∧ decide (x = y) = decide (d = e) := by
  cases d <;> cases e <;> simp only [Mp.scal] at s <;> (try (cases s; done)) <;> (try rw [relNon r1]) <;> (try rw [relInt r1]) <;> (try rw [relStr r1]) <;> (try rw [relBl r1]) <;> (try rw [relNon r2]) <;> (try rw [relInt r2]) <;> (try rw [relStr r2]) <;> (try rw [relBl r2]) <;> refine ⟨rfl, ?_⟩
  all_goals (rw [Bool.eq_iff_iff]; simp)
/-! ### order -/
theorem ltS_list : ∀ s z : List Nat, decide (s < z) = Mp.ltS s z
  | [], [] => by simp [Mp.ltS]
  | [], _ :: _ => by simp [Mp.ltS]
  | _ :: _, [] => by simp [Mp.ltS]
  | a :: as, b :: bs => by
    unfold Mp.ltS
    by_cases e : a = b
    · subst e
      rw [if_pos rfl, ← ltS_list as bs]
      simp
    · rw [if_neg e]
      simp [List.cons_lt_cons_iff, e]
theorem so_gt : OpR X (compareOp .Gt) (rC C .gt) := by
  intro pins s σ H x y v u Q I rx ry q
  obtain ⟨ρ, h, d, e, S, r1, r2, z, h', ev, k⟩ := q
  obtain ⟨b, eb, rfl, rfl⟩ := opt_ok ev
  have eb : Mp.gtD d e = some b := eb
  unfold Mp.gtD at eb
  split at eb
  · cases eb
    exact op_gt pins s σ H x y v u Q I rx ry ⟨_, _, relInt r1, relInt r2, fin_flat k S (blRel _)⟩
  · cases eb
    refine op_gt_str pins s σ H x y v u Q I rx ry ⟨_, _, relStr r1, relStr r2, ?_⟩
    have : ∀ a b : List Nat, decide ((strV a).cps.toList < (strV b).cps.toList) = Mp.ltS a b := fun a b => ltS_list a b
    rw [this]
    exact fin_flat k S (blRel _)
  · cases eb
theorem so_le : OpR X (compareOp .LtE) (rC C .le) := by
  intro pins s σ H x y v u Q I rx ry q
  obtain ⟨ρ, h, d, e, S, r1, r2, z, h', ev, k⟩ := q
  obtain ⟨b, eb, rfl, rfl⟩ := opt_ok ev
  have eb : Mp.leD d e = some b := eb
  unfold Mp.leD at eb
  split at eb
  · cases eb
    exact op_le pins s σ H x y v u Q I rx ry ⟨_, _, relInt r1, relInt r2, fin_flat k S (blRel _)⟩
  · cases eb
theorem so_ge : OpR X (compareOp .GtE) (rC C .ge) := by
  intro pins s σ H x y v u Q I rx ry q
  obtain ⟨ρ, h, d, e, S, r1, r2, z, h', ev, k⟩ := q
  obtain ⟨b, eb, rfl, rfl⟩ := opt_ok ev
  have eb : Mp.leD e d = some b := eb
  unfold Mp.leD at eb
  split at eb
  · cases eb
    exact op_ge pins s σ H x y v u Q I rx ry ⟨_, _, relInt r1, relInt r2, fin_flat k S (blRel _)⟩
  · cases eb
/-! ### < of tuples -/
theorem rcV_lt {A : Around} {s : PySem.Shared} {u v : Value} {ρ : List Addr} {H : Hp} {i j : Int} {x y : V} (r1 : RelD C.K ρ H (.int i) x) (r2 : RelD C.K ρ H (.int j) y) (ru : RelV x u) (rv : RelV y v) : Ob.RcOp .Lt A s u v (decide (i < j)) := by
  rw [relInt r1] at ru
  rw [relInt r2] at rv
  obtain ⟨t, rfl⟩ := ru
  obtain ⟨t', rfl⟩ := rv
  exact Ob.RcOp.lt_int _ _ _ _
theorem rcV_ltS {A : Around} {s : PySem.Shared} {u v : Value} {ρ : List Addr} {H : Hp} {i j : List Nat} {x y : V} (r1 : RelD C.K ρ H (.str i) x) (r2 : RelD C.K ρ H (.str j) y) (ru : RelV x u) (rv : RelV y v) : Ob.RcOp .Lt A s u v (Mp.ltS i j) := by
  rw [relStr r1] at ru
  rw [relStr r2] at rv
  obtain ⟨t, rfl⟩ := ru
  obtain ⟨t', rfl⟩ := rv
  intro prog w E Q h
  have z : decide ((strV i).cps.toList < (strV j).cps.toList) = Mp.ltS i j := ltS_list i j
  rw [← z] at h
  exact PySem.P.lt_str h
/-- what < finds unlike is unlike by == -/
theorem eqvs_len : ∀ {xs ys : List Mp.PD}, Mp.eqvs xs ys = true → xs.length = ys.length
  | [], [], _ => rfl
  | [], _ :: _, h => by simp [Mp.eqvs] at h
  | _ :: _, [], h => by simp [Mp.eqvs] at h
  | x :: xs, y :: ys, h => by
    simp only [Mp.eqvs, Bool.and_eq_true] at h
    simp [eqvs_len h.2]
mutual
theorem ltD_ne : ∀ (a b : Mp.D) (h : Mp.Heap) (k : Nat) (p q : Mp.PD) (t : Bool), Mp.ltD a b = some t → a ≠ b → Mp.rd h k a = some p → Mp.rd h k b = some q → Mp.eqv p q = false
  | .non, b, h, k, p, q, t, e, _, _, _ => by simp [Mp.ltD] at e
  | .bl _, b, h, k, p, q, t, e, _, _, _ => by simp [Mp.ltD] at e
  | .ref _, b, h, k, p, q, t, e, _, _, _ => by simp [Mp.ltD] at e
  | .int i, b, h, k, p, q, t, e, n, e1, e2 => by
    cases b <;> simp only [Mp.ltD] at e <;> (try cases e)
    rename_i j
    have h1 : p = .int i := by cases k <;> (simp only [Mp.rd, Mp.rdF] at e1; exact (Option.some.inj e1).symm)
    have h2 : q = .int j := by cases k <;> (simp only [Mp.rd, Mp.rdF] at e2; exact (Option.some.inj e2).symm)
    subst h1 h2
    simp only [Mp.eqv]
    exact decide_eq_false fun z => n (by rw [z])
  | .str i, b, h, k, p, q, t, e, n, e1, e2 => by
    cases b <;> simp only [Mp.ltD] at e <;> (try cases e)
    rename_i j
    have h1 : p = .str i := by
      cases k <;> (simp only [Mp.rd, Mp.rdF] at e1; split at e1 <;> first | exact (Option.some.inj e1).symm | cases e1)
    have h2 : q = .str j := by
      cases k <;> (simp only [Mp.rd, Mp.rdF] at e2; split at e2 <;> first | exact (Option.some.inj e2).symm | cases e2)
    subst h1 h2
    simp only [Mp.eqv]
    exact decide_eq_false fun z => n (by rw [z])
  | .tup as, b, h, k, p, q, t, e, n, e1, e2 => by
    cases b <;> simp only [Mp.ltD] at e <;> (try cases e)
    rename_i bs
    cases k with
    | zero => simp [Mp.rd, Mp.rdF] at e1
    | succ k =>
      simp only [Mp.rd] at e1 e2
      cases q1 : Mp.mapO (Mp.rd h k) as with
      | none => rw [q1] at e1; cases e1
      | some ps =>
        cases q2 : Mp.mapO (Mp.rd h k) bs with
        | none => rw [q2] at e2; cases e2
        | some qs =>
          rw [q1] at e1; rw [q2] at e2
          cases e1; cases e2
          simp only [Mp.eqv]
          exact ltDs_ne as bs h k ps qs t e (fun z => n (by rw [z])) q1 q2
theorem ltDs_ne : ∀ (as bs : List Mp.D) (h : Mp.Heap) (k : Nat) (ps qs : List Mp.PD) (t : Bool), Mp.ltDs as bs = some t → as ≠ bs → Mp.mapO (Mp.rd h k) as = some ps → Mp.mapO (Mp.rd h k) bs = some qs → Mp.eqvs ps qs = false
  | [], bs, h, k, ps, qs, t, e, n, e1, e2 => by
    cases bs with
    | nil => exact absurd rfl n
    | cons b bs =>
      obtain ⟨y, r, h1, h2, rfl⟩ := mapO_cons e2
      cases e1
      simp [Mp.eqvs]
  | a :: as, bs, h, k, ps, qs, t, e, n, e1, e2 => by
    cases bs with
    | nil =>
      obtain ⟨y, r, h1, h2, rfl⟩ := mapO_cons e1
      cases e2
      simp [Mp.eqvs]
    | cons b bs =>
      obtain ⟨x, xs, h1, h2, rfl⟩ := mapO_cons e1
      obtain ⟨y, ys, g1, g2, rfl⟩ := mapO_cons e2
      simp only [Mp.ltDs] at e
      simp only [Mp.eqvs]
      by_cases ab : a = b
      · rw [if_pos ab] at e
        rw [ltDs_ne as bs h k xs ys t e (fun z => n (by rw [ab, z])) h2 g2, Bool.and_false]
      · rw [if_neg ab] at e
        split at e
        · rw [ltD_ne a b h k x y t e ab h1 g1, Bool.false_and]
        · cases e
end
/-! equal values are equal data -/
mutual
theorem eqv_refl : ∀ p : Mp.PD, Mp.eqv p p = true
  | .non => rfl
  | .bl b => by simp [Mp.eqv]
  | .int i => by simp [Mp.eqv]
  | .str s => by simp [Mp.eqv]
  | .lst xs => by simp only [Mp.eqv]; exact eqvs_refl xs
  | .tup xs => by simp only [Mp.eqv]; exact eqvs_refl xs
theorem eqvs_refl : ∀ p : List Mp.PD, Mp.eqvs p p = true
  | [] => rfl
  | x :: xs => by simp only [Mp.eqvs, eqv_refl x, eqvs_refl xs, Bool.and_self]
end
theorem lexAt_ltDs : ∀ (as bs : List Mp.D) (t : Bool) (e r : Nat → Bool) (i : Nat) (z : Bool), Mp.ltDs as bs = some t → z = decide (as.length < bs.length) →
    (∀ (j : Nat) a b, as[j]? = some a → bs[j]? = some b → a = b → e (i + j) = true) → (∀ (j : Nat) a b t, as[j]? = some a → bs[j]? = some b → a ≠ b → Mp.ltD a b = some t → e (i + j) = false) → (∀ (j : Nat) a b t, as[j]? = some a → bs[j]? = some b → a ≠ b → Mp.ltD a b = some t → r (i + j) = t) →
    Ob.lexAt e r z i (min as.length bs.length) = t
  | [], bs, t, e, r, i, z, h, hz, he, hf, hr => by
    simp only [List.length_nil, Nat.zero_min, Ob.lexAt]
    subst hz
    cases bs with
    | nil => simp [Mp.ltDs] at h; simp [h]
    | cons b bs => simp [Mp.ltDs] at h; simp [h]
  | a :: as, bs, t, e, r, i, z, h, hz, he, hf, hr => by
    cases bs with
    | nil =>
      simp only [List.length_nil, Nat.min_zero, Ob.lexAt]
      subst hz
      simp [Mp.ltDs] at h
      simp [h]
    | cons b bs =>
      have hm : min (a :: as).length (b :: bs).length = min as.length bs.length + 1 := by simp [Nat.succ_min_succ]
      rw [hm, Ob.lexAt_succ]
      simp only [Mp.ltDs] at h
      by_cases ab : a = b
      · rw [if_pos ab] at h
        have h0 : e i = true := he 0 a b rfl rfl ab
        rw [if_pos h0]
        refine lexAt_ltDs as bs t e r (i + 1) z h (by simpa using hz) (fun j x y e1 e2 q => ?_) (fun j x y t e1 e2 n q => ?_) (fun j x y t e1 e2 n q => ?_)
        · rw [Nat.add_assoc, Nat.add_comm 1 j]; exact he (j + 1) x y (by simpa using e1) (by simpa using e2) q
        · rw [Nat.add_assoc, Nat.add_comm 1 j]; exact hf (j + 1) x y t (by simpa using e1) (by simpa using e2) n q
        · rw [Nat.add_assoc, Nat.add_comm 1 j]; exact hr (j + 1) x y t (by simpa using e1) (by simpa using e2) n q
      · rw [if_neg ab] at h
        split at h
        · have h0 : e i = false := hf 0 a b t rfl rfl ab h
          rw [if_neg (by rw [h0]; exact Bool.false_ne_true)]
          exact hr 0 a b t rfl rfl ab h
        · cases h
/-- each unlike pair has its order -/
theorem ltDs_all : ∀ {as bs : List Mp.D} {t : Bool}, Mp.ltDs as bs = some t → ∀ (j : Nat) a b, as[j]? = some a → bs[j]? = some b → a ≠ b → ∃ c, Mp.ltD a b = some c
  | [], bs, t, h, j, a, b, e1, e2, n => by simp at e1
  | a :: as, [], t, h, j, x, y, e1, e2, n => by simp at e2
  | a :: as, b :: bs, t, h, j, x, y, e1, e2, n => by
    simp only [Mp.ltDs] at h
    by_cases ab : a = b
    · rw [if_pos ab] at h
      cases j with
      | zero => simp at e1 e2; subst e1 e2; exact absurd ab n
      | succ j => exact ltDs_all h j x y (by simpa using e1) (by simpa using e2) n
    · rw [if_neg ab] at h
      split at h
      · rename_i c hc
        cases j with
        | zero => simp at e1 e2; subst e1 e2; exact ⟨t, h⟩
        | succ j => exact ltDs_all hc j x y (by simpa using e1) (by simpa using e2) n
      · cases h
theorem mapO_get {α β : Type} {f : α → Option β} : ∀ {ds : List α} {ps : List β} {i : Nat} {d : α}, Mp.mapO f ds = some ps → ds[i]? = some d → ∃ p, f d = some p
  | [], ps, i, d, h, e => by simp at e
  | a :: ds, ps, i, d, h, e => by
    obtain ⟨x, r, h1, h2, rfl⟩ := mapO_cons h
    cases i with
    | zero => simp at e; subst e; exact ⟨x, h1⟩
    | succ i => exact mapO_get h2 (by simpa using e)
theorem rc_lt (hK : X.K = C.K) {pins : List (Addr × Obj)} {s : PySem.Shared} {σ : St} {H : Hp} (I : L2.Inv X pins σ H s) {ρ : List Addr} {h : Mp.Heap} (S : Sim C ρ h H) : ∀ (k : Nat) (d e : Mp.D) (x y : V) (u v : Value) (p q : Mp.PD) (b : Bool) (A : Around),
    RelD C.K ρ H d x → RelD C.K ρ H e y → RelV x u → RelV y v → Mp.rd h k d = some p → Mp.rd h k e = some q → Mp.ltD d e = some b → A.units + k < cLine → k ≤ 64 → Ob.RcOp .Lt A s u v b
  | k, .non, e, x, y, u, v, p, q, b, A, r1, r2, ru, rv, e1, e2, hb, hu, hk => by simp [Mp.ltD] at hb
  | k, .bl _, e, x, y, u, v, p, q, b, A, r1, r2, ru, rv, e1, e2, hb, hu, hk => by simp [Mp.ltD] at hb
  | k, .ref _, e, x, y, u, v, p, q, b, A, r1, r2, ru, rv, e1, e2, hb, hu, hk => by simp [Mp.ltD] at hb
  | k, .int i, e, x, y, u, v, p, q, b, A, r1, r2, ru, rv, e1, e2, hb, hu, hk => by
    cases e <;> simp only [Mp.ltD] at hb <;> (try cases hb)
    exact rcV_lt r1 r2 ru rv
  | k, .str i, e, x, y, u, v, p, q, b, A, r1, r2, ru, rv, e1, e2, hb, hu, hk => by
    cases e <;> simp only [Mp.ltD] at hb <;> (try cases hb)
    exact rcV_ltS r1 r2 ru rv
  | 0, .tup as, e, x, y, u, v, p, q, b, A, r1, r2, ru, rv, e1, e2, hb, hu, hk => by simp [Mp.rd, Mp.rdF] at e1
  | k + 1, .tup as, e, x, y, u, v, p, q, b, A, r1, r2, ru, rv, e1, e2, hb, hu, hk => by
    cases e <;> simp only [Mp.ltD] at hb <;> (try cases hb)
    rename_i bs
    obtain ⟨a, vs, rfl, t1, g1⟩ := relTup r1
    obtain ⟨c, us, rfl, t2, g2⟩ := relTup r2
    cases ru
    cases rv
    simp only [Mp.rd] at e1 e2
    cases q1 : Mp.mapO (Mp.rd h k) as with
    | none => rw [q1] at e1; cases e1
    | some ps =>
      cases q2 : Mp.mapO (Mp.rd h k) bs with
      | none => rw [q2] at e2; cases e2
      | some qs =>
        obtain ⟨its, w1, p1, _⟩ := I.tuple (show SqT X.K H a vs by rw [hK]; exact t1.sq)
        obtain ⟨its2, w2, p2, _⟩ := I.tuple (show SqT X.K H c us by rw [hK]; exact t2.sq)
        have l1 : its.length = as.length := by rw [← w1.length, g1.length]
        have l2 : its2.length = bs.length := by rw [← w2.length, g2.length]
        have item : ∀ (j : Nat) (h1 : j < its.toArray.size) (h2 : j < its2.toArray.size), ∃ da db va vb pa pb, as[j]? = some da ∧ bs[j]? = some db ∧ RelD C.K ρ H da va ∧ RelD C.K ρ H db vb ∧ RelV va its.toArray[j] ∧ RelV vb its2.toArray[j] ∧ Mp.rd h k da = some pa ∧ Mp.rd h k db = some pb := fun j h1 h2 => by
          have i1 : j < its.length := by simpa using h1
          have i2 : j < its2.length := by simpa using h2
          have f1 := List.getElem?_eq_getElem (l := as) (i := j) (by omega)
          have f2 := List.getElem?_eq_getElem (l := bs) (i := j) (by omega)
          obtain ⟨va, a1, a2⟩ := g1.get f1
          obtain ⟨vb, b1, b2⟩ := g2.get f2
          obtain ⟨ua, c1, c2⟩ := w1.get a1
          obtain ⟨ub, d1, d2⟩ := w2.get b1
          obtain ⟨pa, k1⟩ := mapO_get q1 f1
          obtain ⟨pb, k2⟩ := mapO_get q2 f2
          refine ⟨_, _, va, vb, pa, pb, f1, f2, a2, b2, ?_, ?_, k1, k2⟩
          · rw [List.getElem?_eq_getElem i1] at c1
            have : its.toArray[j] = ua := by simpa using c1
            rw [this]; exact c2
          · rw [List.getElem?_eq_getElem i2] at d1
            have : its2.toArray[j] = ub := by simpa using d1
            rw [this]; exact d2
        have hA : A.in1.units + k < cLine := by show A.units + 1 + k < cLine; omega
        let ef : Nat → Bool := fun j => match as[j]?, bs[j]? with
          | some da, some db => (match Mp.rd h k da, Mp.rd h k db with
            | some pa, some pb => Mp.eqv pa pb
            | _, _ => false)
          | _, _ => false
        let rf : Nat → Bool := fun j => match as[j]?, bs[j]? with
          | some da, some db => (Mp.ltD da db).getD false
          | _, _ => false
        have efe : ∀ (j : Nat) da db pa pb, as[j]? = some da → bs[j]? = some db → Mp.rd h k da = some pa → Mp.rd h k db = some pb → ef j = Mp.eqv pa pb := fun j da db pa pb f1 f2 k1 k2 => by
          show (match as[j]?, bs[j]? with
            | some da, some db => (match Mp.rd h k da, Mp.rd h k db with
              | some pa, some pb => Mp.eqv pa pb
              | _, _ => false)
            | _, _ => false) = _
          rw [f1, f2]
          simp only [k1, k2]
        have rfe : ∀ (j : Nat) da db t, as[j]? = some da → bs[j]? = some db → Mp.ltD da db = some t → rf j = t := fun j da db t f1 f2 k1 => by
          show (match as[j]?, bs[j]? with
            | some da, some db => (Mp.ltD da db).getD false
            | _, _ => false) = _
          rw [f1, f2]
          simp only [k1, Option.getD_some]
        have R := Ob.RcOp.tuples_lt (A := A) (s := s) (e := ef) (r := rf) p1 p2 (by omega) (fun j h1 h2 => ?_) (fun j h1 h2 hf => ?_)
        · have sz : Ob.lexAt ef rf (decide (its.toArray.size < its2.toArray.size)) 0 (min its.toArray.size its2.toArray.size) = b := by
            have e1 : its.toArray.size = as.length := by simpa using l1
            have e2 : its2.toArray.size = bs.length := by simpa using l2
            rw [e1, e2]
            refine lexAt_ltDs as bs b ef rf 0 _ hb rfl (fun j x y f1 f2 xy => ?_) (fun j x y t f1 f2 n q => ?_) (fun j x y t f1 f2 n q => ?_)
            · subst xy
              obtain ⟨pa, k1⟩ := mapO_get q1 f1
              rw [Nat.zero_add, efe j x x pa pa f1 f2 k1 k1]
              exact eqv_refl pa
            · obtain ⟨pa, k1⟩ := mapO_get q1 f1
              obtain ⟨pb, k2⟩ := mapO_get q2 f2
              rw [Nat.zero_add, efe j x y pa pb f1 f2 k1 k2]
              exact ltD_ne x y h k pa pb t q n k1 k2
            · rw [Nat.zero_add]
              exact rfe j x y t f1 f2 q
          rw [sz] at R
          exact R
        · obtain ⟨da, db, va, vb, pa, pb, f1, f2, a2, b2, c2, d2, k1, k2⟩ := item j h1 h2
          rw [efe j da db pa pb f1 f2 k1 k2, ← eqv_py]
          have z1 := rd_dp S k da va pa a2 k1
          have z2 := rd_dp S k db vb pb b2 k2
          obtain ⟨ss, rd1⟩ := Dp.reads I (toPy pa) va _ (by rw [hK]; exact z1.dp) c2
          obtain ⟨ts, rd2⟩ := Dp.reads I (toPy pb) vb _ (by rw [hK]; exact z2.dp) d2
          refine SeqAt.eqAt_reads _ _ _ _ _ _ _ _ rd1 rd2 z1.lay z2.lay ?_
          have := z1.deep
          have : min (toPy pa).depth (toPy pb).depth ≤ (toPy pa).depth := Nat.min_le_left _ _
          omega
        · obtain ⟨da, db, va, vb, pa, pb, f1, f2, a2, b2, c2, d2, k1, k2⟩ := item j h1 h2
          rw [efe j da db pa pb f1 f2 k1 k2] at hf
          have n : da ≠ db := fun q => by
            subst q
            rw [k1] at k2
            cases k2
            rw [eqv_refl] at hf
            cases hf
          obtain ⟨c, hc⟩ := ltDs_all hb j da db f1 f2 n
          rw [rfe j da db c f1 f2 hc]
          exact rc_lt hK I S k da db va vb _ _ pa pb c A.in1 a2 b2 c2 d2 k1 k2 hc hA (by omega)
theorem so_lt (hK : X.K = C.K) (hu : X.A.units + 64 < cLine) : OpR X (compareOp .Lt) (rC C .lt) := by
  intro pins s σ H x y v u Q I rx ry q
  obtain ⟨ρ, h, d, e, S, r1, r2, z, h', ev, k⟩ := q
  obtain ⟨b, eb, rfl, rfl⟩ := opt_ok ev
  have eb : Mp.ltR h' d e = some b := eb
  cases d with
  | tup as =>
    simp only [Mp.ltR] at eb
    split at eb
    · rename_i p1 p2 e1 e2
      have R := rc_lt hK I S 60 (.tup as) e x y v u p1 p2 b X.A r1 r2 rx ry e1 e2 eb (by omega) (by decide)
      have z : wpAny (model X.prog X.w) X.A (compareOp .Lt v u) (EP X pins σ Q) X.xe s := R X.prog X.w X.xe (EP X pins σ Q) ⟨.bl _, H, I, rfl, fin_flat k S (blRel _)⟩
      exact z
    · cases eb
  | int i =>
    simp only [Mp.ltR, Mp.ltD] at eb
    cases e <;> simp only at eb <;> (try cases eb)
    exact op_lt pins s σ H x y v u Q I rx ry ⟨_, _, relInt r1, relInt r2, fin_flat k S (blRel _)⟩
  | str i =>
    simp only [Mp.ltR, Mp.ltD] at eb
    cases e <;> simp only at eb <;> (try cases eb)
    refine op_lt_str pins s σ H x y v u Q I rx ry ⟨_, _, relStr r1, relStr r2, ?_⟩
    have : ∀ a b : List Nat, decide ((strV a).cps.toList < (strV b).cps.toList) = Mp.ltS a b := fun a b => ltS_list a b
    rw [this]
    exact fin_flat k S (blRel _)
  | non => simp [Mp.ltR, Mp.ltD] at eb
  | bl _ => simp [Mp.ltR, Mp.ltD] at eb
  | ref _ => simp [Mp.ltR, Mp.ltD] at eb
/-! ### is -/
theorem so_is : OpR X (compareOp .Is) (rC C .is_) := by
  intro pins s σ H x y v u Q I rx ry q
  obtain ⟨ρ, h, d, e, S, r1, r2, z, h', ev, k⟩ := q
  obtain ⟨b, eb, rfl, rfl⟩ := opt_ok ev
  have eb : Mp.isD d e = some b := eb
  cases e with
  | non =>
    simp only [Mp.isD] at eb
    cases eb
    refine op_isN pins s σ H x y v u Q I rx ry ⟨relNon r2, ?_⟩
    have : decide (x = V.non) = decide (d = .non) := by
      cases d with
      | non => rw [relNon r1]; simp
      | bl _ => rw [relBl r1]; simp
      | int _ => rw [relInt r1]; simp
      | str _ => rw [relStr r1]; simp
      | tup _ => obtain ⟨a, vs, rfl, _⟩ := relTup r1; simp
      | ref _ => obtain ⟨a, rfl, _⟩ := relRef r1; simp
    rw [this]
    exact fin_flat k S (blRel _)
  | bl c =>
    simp only [Mp.isD] at eb
    cases d <;> simp only at eb <;> (try cases eb)
    rename_i a
    refine op_is_bl pins s σ H x y v u Q I rx ry ⟨_, _, relBl r1, relBl r2, ?_⟩
    have : decide (a = c) = (a == c) := by cases a <;> cases c <;> rfl
    rw [this]
    exact fin_flat k S (blRel _)
  | int _ => simp [Mp.isD] at eb
  | str _ => simp [Mp.isD] at eb
  | tup _ => simp [Mp.isD] at eb
  | ref _ => simp [Mp.isD] at eb
theorem so_isnot : OpR X (compareOp .IsNot) (rC C .isnot) := by
  intro pins s σ H x y v u Q I rx ry q
  obtain ⟨ρ, h, d, e, S, r1, r2, z, h', ev, k⟩ := q
  obtain ⟨b, eb, rfl, rfl⟩ := opt_ok ev
  have eb : (Mp.isD d e).map (!·) = some b := eb
  cases e with
  | non =>
    simp only [Mp.isD] at eb
    cases eb
    refine op_notN pins s σ H x y v u Q I rx ry ⟨relNon r2, ?_⟩
    have : decide (x = V.non) = decide (d = .non) := by
      cases d with
      | non => rw [relNon r1]; simp
      | bl _ => rw [relBl r1]; simp
      | int _ => rw [relInt r1]; simp
      | str _ => rw [relStr r1]; simp
      | tup _ => obtain ⟨a, vs, rfl, _⟩ := relTup r1; simp
      | ref _ => obtain ⟨a, rfl, _⟩ := relRef r1; simp
    rw [this]
    exact fin_flat k S (blRel _)
  | bl c =>
    simp only [Mp.isD] at eb
    cases d <;> simp only at eb <;> (try cases eb)
    rename_i a
    refine op_isnot_bl pins s σ H x y v u Q I rx ry ⟨_, _, relBl r1, relBl r2, ?_⟩
    have : decide (a = c) = (a == c) := by cases a <;> cases c <;> rfl
    rw [this]
    exact fin_flat k S (blRel _)
  | int _ => simp [Mp.isD] at eb
  | str _ => simp [Mp.isD] at eb
  | tup _ => simp [Mp.isD] at eb
  | ref _ => simp [Mp.isD] at eb
end
end MpS
end
section
set_option Elab.async false
set_option linter.all false
set_option maxRecDepth 100000
set_option maxHeartbeats 4000000
namespace MpS
open PySem L2
section
variable {C : Cf} {X : Cx} {W : WX}
/-! ### in -/
theorem flatR {ρ : List Addr} {H : Hp} {d : Mp.D} {x : V} (r : RelD C.K ρ H d x) (f : Mp.flat d = true) : flatV x = true := by
  cases d with
  | non => rw [relNon r]; rfl
  | bl _ => rw [relBl r]; rfl
  | int _ => rw [relInt r]; rfl
  | str _ => rw [relStr r]; rfl
  | tup _ => cases f
  | ref _ => cases f
theorem eqF_V {ρ : List Addr} {H : Hp} {d e : Mp.D} {x y : V} (r1 : RelD C.K ρ H d x) (r2 : RelD C.K ρ H e y) (f1 : Mp.flat d = true) (f2 : Mp.flat e = true) : eqV x y = Mp.eqF d e := by
  cases d <;> simp only [Mp.flat] at f1 <;> (try (cases f1; done)) <;> cases e <;> simp only [Mp.flat] at f2 <;> (try (cases f2; done)) <;> (try rw [relNon r1]) <;> (try rw [relInt r1]) <;> (try rw [relStr r1]) <;> (try rw [relBl r1]) <;> (try rw [relNon r2]) <;> (try rw [relInt r2]) <;> (try rw [relStr r2]) <;> (try rw [relBl r2])
  all_goals (first | rfl | exact strV_beq _ _)
theorem flats {ρ : List Addr} {H : Hp} : ∀ {ds : List Mp.D} {vs : List V}, RelDs C.K ρ H ds vs → ds.all Mp.flat = true → vs.all flatV = true
  | [], vs, r, f => by have : vs = [] := by simpa only [RelDs] using r
                       subst this; rfl
  | d :: ds, vs, r, f => by
    obtain ⟨v, us, rfl, r1, r2⟩ := r.inv_cons
    simp only [List.all_cons, Bool.and_eq_true] at f ⊢
    exact ⟨flatR r1 f.1, flats r2 f.2⟩
theorem inV_any {ρ : List Addr} {H : Hp} {e : Mp.D} {y : V} (r : RelD C.K ρ H e y) (fe : Mp.flat e = true) : ∀ {ds : List Mp.D} {vs : List V}, RelDs C.K ρ H ds vs → ds.all Mp.flat = true → inV y vs = (ds.map fun d => Mp.eqF d e).any id
  | [], vs, r2, f => by have : vs = [] := by simpa only [RelDs] using r2
                        subst this; rfl
  | d :: ds, vs, r2, f => by
    obtain ⟨v, us, rfl, q1, q2⟩ := r2.inv_cons
    simp only [List.all_cons, Bool.and_eq_true] at f
    have ih := inV_any r fe q2 f.2
    unfold inV at ih ⊢
    simp only [List.any_cons, List.map_cons, id]
    rw [eqF_V q1 r f.1 fe, ih]
theorem any_eqv (a : Mp.PD) : ∀ bs : List Mp.PD, ((toPys bs).any fun z => PyData.eqv z (toPy a)) = (bs.map fun b => Mp.eqv b a).any id
  | [] => rfl
  | b :: bs => by simp only [toPys, List.any_cons, List.map_cons, id]; rw [eqv_py, any_eqv a bs]
/-- the items of a list that stands in the heap, read -/
theorem lst_dp {ρ : List Addr} {h : Mp.Heap} {H : Hp} (S : Sim C ρ h H) {a : Addr} {ds : List Mp.D} {vs : List V} {bs : List Mp.PD} (h1 : H a = some (.lst vs)) (g : RelDs C.K ρ H ds vs) (e : Mp.mapO (Mp.rd h 59) ds = some bs) : DpOk C H 60 (.ref a) (.lst bs) := by
  have z := mapO_dp (rd_dp S 59) ds vs bs g e
  exact ⟨.lst (SqL.of h1) z.dp, by simp only [toPy, PyData.canLay0]; exact z.lay, by simp only [toPy, PyData.depth]; exact Nat.succ_le_succ z.deep⟩
/-- a key of a dict with ints and texts -/
theorem keyOf_V {ρ : List Addr} {H : Hp} {d : Mp.D} {x : V} {k : Key} (r : RelD C.K ρ H d x) (e : keyOf d = some k) : x = kV k := by
  cases d <;> simp only [keyOf] at e <;> (try cases e)
  · rw [relInt r]; rfl
  · rw [relStr r]; rfl
theorem keyOf_inj {a b : Mp.D} {k : Key} (h1 : keyOf a = some k) (h2 : keyOf b = some k) : a = b := by
  cases a with
  | int i =>
    cases b <;> simp only [keyOf] at h1 h2 <;> (try (cases h2; done)) <;> (try (rw [← h1] at h2; cases h2))
    rfl
  | str s =>
    cases b <;> simp only [keyOf] at h1 h2 <;> (try (cases h2; done)) <;> (try (rw [← h1] at h2))
    · cases h2
    · rw [strV_inj (Sum.inr.inj (Option.some.inj h2))]
  | non => simp [keyOf] at h1
  | bl _ => simp [keyOf] at h1
  | tup _ => simp [keyOf] at h1
  | ref _ => simp [keyOf] at h1
theorem keyOf_of {d : Mp.D} (e : d.key = true) : ∃ k, keyOf d = some k := by
  cases d <;> simp only [Mp.D.key] at e <;> (try cases e)
  · exact ⟨_, rfl⟩
  · exact ⟨_, rfl⟩
theorem RelKK.cons {ρ : List Addr} {H : Hp} {p : Mp.D × Mp.D} {kvs : List (Mp.D × Mp.D)} {ks : List (Key × V)} (r : RelKK C.K ρ H (p :: kvs) ks) : ∃ q r', ks = q :: r' ∧ keyOf p.1 = some q.1 ∧ RelD C.K ρ H p.2 q.2 ∧ RelKK C.K ρ H kvs r' := by
  obtain ⟨l, g⟩ := r
  cases ks with
  | nil => simp at l
  | cons q r' => exact ⟨q, r', rfl, (g 0 p q rfl rfl).1, (g 0 p q rfl rfl).2, by simpa using l, fun i p' q' e1 e2 => g (i + 1) p' q' (by simpa using e1) (by simpa using e2)⟩
theorem RelKK.nil {ρ : List Addr} {H : Hp} {ks : List (Key × V)} (r : RelKK C.K ρ H [] ks) : ks = [] := List.eq_nil_of_length_eq_zero r.1.symm
theorem RelKK.mk {ρ : List Addr} {H : Hp} {p : Mp.D × Mp.D} {q : Key × V} {kvs : List (Mp.D × Mp.D)} {ks : List (Key × V)} (h1 : keyOf p.1 = some q.1) (h2 : RelD C.K ρ H p.2 q.2) (r : RelKK C.K ρ H kvs ks) : RelKK C.K ρ H (p :: kvs) (q :: ks) := by
  refine ⟨by simp [r.1], fun i p' q' e1 e2 => ?_⟩
  cases i with
  | zero => simp at e1 e2; subst e1 e2; exact ⟨h1, h2⟩
  | succ i => exact r.2 i p' q' (by simpa using e1) (by simpa using e2)
theorem dget_val {ρ : List Addr} {H : Hp} {d : Mp.D} {k : Key} (e : keyOf d = some k) : ∀ {kvs : List (Mp.D × Mp.D)} {ks : List (Key × V)}, RelKK C.K ρ H kvs ks → (∀ v, Mp.dget kvs d = some v → ∃ u, valV ks k = some u ∧ RelD C.K ρ H v u) ∧ (Mp.dget kvs d = none → valV ks k = none)
  | [], ks, r => by rw [r.nil]; exact ⟨fun v q => by simp [Mp.dget] at q, fun _ => rfl⟩
  | (a, b) :: kvs, ks, r => by
    obtain ⟨q, r', rfl, h1, h2, h3⟩ := r.cons
    have ih := dget_val e h3
    simp only [Mp.dget]
    by_cases ad : a = d
    · subst ad
      have kq : q.1 = k := Option.some.inj (h1.symm.trans e)
      rw [if_pos rfl]
      refine ⟨fun v hv => ?_, fun hv => by cases hv⟩
      cases hv
      exact ⟨q.2, valV_pos kq, h2⟩
    · have kq : ¬ q.1 = k := fun z => ad (keyOf_inj h1 (z ▸ e))
      rw [if_neg ad, valV_neg kq]
      exact ih
theorem dget_some {ρ : List Addr} {H : Hp} {d : Mp.D} {k : Key} (e : keyOf d = some k) {kvs : List (Mp.D × Mp.D)} {ks : List (Key × V)} (r : RelKK C.K ρ H kvs ks) : (valV ks k).isSome = (Mp.dget kvs d).isSome := by
  obtain ⟨h1, h2⟩ := dget_val e r
  cases q : Mp.dget kvs d with
  | none => rw [h2 q]; rfl
  | some v => obtain ⟨u, e1, _⟩ := h1 v q; rw [e1]; rfl
/-! ### == -/
theorem dcts_some {h : Mp.Heap} {d e : Mp.D} {ka kb : List (Mp.D × Mp.D)} (q : Mp.dcts h d e = some (ka, kb)) : ∃ a b, d = .ref a ∧ e = .ref b ∧ h[a]? = some (.dct ka) ∧ h[b]? = some (.dct kb) := by
  unfold Mp.dcts at q
  split at q
  · split at q
    · rename_i a b ka' kb' e1 e2
      cases q
      exact ⟨_, _, rfl, rfl, e1, e2⟩
    · cases q
  · cases q
theorem dHits_ok (hK : X.K = C.K) {pins : List (Addr × Obj)} {s : PySem.Shared} {σ : St} {H : Hp} (I : L2.Inv X pins σ H s) {ρ : List Addr} {h : Mp.Heap} (S : Sim C ρ h H) (hu : X.A.in1.units + 64 < cLine) {kb : List (Mp.D × Mp.D)} {lb : List (Key × V)} {vb : List (Key × Value)} (rb : RelKK C.K ρ H kb lb) (tb : KV lb vb) :
    ∀ {ka : List (Mp.D × Mp.D)} {la : List (Key × V)} {va : List (Key × Value)} {r : Bool}, RelKK C.K ρ H ka la → KV la va → Mp.dHits h kb ka = some r → PySem.W.KeqHits X.A.in1 s vb va r
  | [], la, va, r, ra, ta, e => by
    have := ra.nil; subst this
    cases ta
    cases e
    exact .nil
  | (k, v) :: ka, la, va, r, ra, ta, e => by
    obtain ⟨q, r', rfl, h1, h2, h3⟩ := ra.cons
    unfold KV at ta
    cases ta with
    | @cons _ qa _ qs t0 t1 =>
    obtain ⟨g1, g2⟩ := t0
    obtain ⟨key, u⟩ := qa
    have g1 : q.1 = key := g1
    subst g1
    have m := tb.val q.1
    unfold Mp.dHits at e
    cases z : Mp.dget kb k with
    | none =>
      rw [z] at e; cases e
      rw [(dget_val h1 rb).2 z] at m
      exact .miss m.none_of
    | some y =>
      rw [z] at e
      obtain ⟨w, e1, rw_⟩ := (dget_val h1 rb).1 y z
      rw [e1] at m
      obtain ⟨uy, e2, ry⟩ := m.some_of
      dsimp only at e
      split at e
      · rename_i p1 p2 b a1 a2 a3
        cases e
        have z1 := rd_dp S 60 v q.2 p1 h2 a1
        have z2 := rd_dp S 60 y w p2 rw_ a2
        obtain ⟨as, r1⟩ := Dp.reads I _ _ _ (by rw [hK]; exact z1.dp) g2
        obtain ⟨bs, r2⟩ := Dp.reads I _ _ _ (by rw [hK]; exact z2.dp) ry
        have := PySem.W.keq_at (A := X.A) r1 r2 (z1.shaped (by decide)) (z2.shaped (by decide)) hu
        rw [eqv_py] at this
        exact .hit e2 this (dHits_ok hK I S hu rb tb h3 t1 a3)
      · cases e
theorem dEq_ok (hK : X.K = C.K) (hu : X.A.units + 65 < cLine) {pins : List (Addr × Obj)} {s : PySem.Shared} {σ : St} {H : Hp} (I : L2.Inv X pins σ H s) {ρ : List Addr} {h : Mp.Heap} (S : Sim C ρ h H) {d e : Mp.D} {x y : V} {v u : Value} (rx : RelV x v) (ry : RelV y u) (r1 : RelD C.K ρ H d x) (r2 : RelD C.K ρ H e y) {ka kb : List (Mp.D × Mp.D)} {b : Bool} (q : Mp.dcts h d e = some (ka, kb)) (eb : Mp.dEq h ka kb = some b) :
    ∃ (p1 p2 : Addr) (va vb : List (Key × Value)) (r : Bool), v = .ref p1 ∧ u = .ref p2 ∧ (p1 == sysModules) = false ∧ (p2 == sysModules) = false ∧ s.heap.DictOf (mixKind X.prog X.w) p1 va ∧ s.heap.DictOf (mixKind X.prog X.w) p2 vb ∧ (va.length = vb.length → PySem.W.KeqHits X.A.in1 s vb va r) ∧ (va.length == vb.length && r) = b := by
  obtain ⟨a, b', rfl, rfl, ha, hb⟩ := dcts_some q
  obtain ⟨p1, rfl, e1⟩ := relRef r1
  obtain ⟨p2, rfl, e2⟩ := relRef r2
  obtain ⟨o1, g1, k1⟩ := S.ob a p1 _ e1 ha
  obtain ⟨o2, g2, k2⟩ := S.ob b' p2 _ e2 hb
  rcases k1 with ⟨la, rfl, k1⟩ | ⟨ks, rfl, g⟩
  · rcases k2 with ⟨lb, rfl, k2⟩ | ⟨ks, rfl, g⟩
    · obtain ⟨_, ya, va, ra, da⟩ := (show ObjOk X.prog X.w H s.heap p1 (.dK la) from I.hok p1 _ g1)
      obtain ⟨_, yb, vb, rb, db⟩ := (show ObjOk X.prog X.w H s.heap p2 (.dK lb) from I.hok p2 _ g2)
      have l1 : va.length = ka.length := by rw [← ra.length, ← k1.1]
      have l2 : vb.length = kb.length := by rw [← rb.length, ← k2.1]
      unfold Mp.dEq at eb
      by_cases hl : ka.length = kb.length
      · rw [if_pos hl] at eb
        exact ⟨p1, p2, va, vb, b, rx, ry, ya, yb, da, db, fun _ => dHits_ok hK I S (by show X.A.units + 1 + 64 < cLine; omega) k2 rb k1 ra eb, by rw [l1, l2, hl]; simp⟩
      · rw [if_neg hl] at eb
        cases eb
        exact ⟨p1, p2, va, vb, false, rx, ry, ya, yb, da, db, fun z => absurd (l1.symm.trans (z.trans l2)) hl, by simp⟩
    · exact g.elim
  · exact g.elim
theorem so_eq (hK : X.K = C.K) (hu : X.A.units + 65 < cLine) : OpR X (compareOp .Eq) (rC C .eq) := by
  intro pins s σ H x y v u Q I rx ry q
  obtain ⟨ρ, h, d, e, S, r1, r2, z, h', ev, k⟩ := q
  obtain ⟨b, eb, rfl, rfl⟩ := opt_ok ev
  have eb : Mp.eqD h' d e = some b := eb
  unfold Mp.eqD at eb
  split at eb
  · rename_i sc
    cases eb
    obtain ⟨s1, s2⟩ := scal_rel sc r1 r2
    refine op_eq pins s σ H x y v u Q I rx ry ⟨s1, ?_⟩
    rw [s2]
    exact fin_flat k S (blRel _)
  · split at eb
    · rename_i ka kb hd
      obtain ⟨p1, p2, va, vb, r, rfl, rfl, y1, y2, da, db, hits, rfl⟩ := dEq_ok hK hu I S rx ry r1 r2 hd eb
      exact PySem.W.keq_eq (knd := mixKind X.prog X.w) y1 y2 da db (by omega) hits ⟨.bl _, H, I, rfl, fin_flat k S (blRel _)⟩
    · split at eb
      · rename_i p1 p2 e1 e2
        cases eb
        have z1 := rd_dp S 60 d x p1 r1 e1
        have z2 := rd_dp S 60 e y p2 r2 e2
        refine op_eqD (by omega) pins s σ H x y v u Q I rx ry ⟨_, _, by rw [hK]; exact z1.dp, by rw [hK]; exact z2.dp, z1.shaped (by decide), z2.shaped (by decide), ?_⟩
        rw [eqv_py]
        exact fin_flat k S (blRel _)
      · cases eb
theorem so_ne (hK : X.K = C.K) (hu : X.A.units + 65 < cLine) : OpR X (compareOp .NotEq) (rC C .ne) := by
  intro pins s σ H x y v u Q I rx ry q
  obtain ⟨ρ, h, d, e, S, r1, r2, z, h', ev, k⟩ := q
  obtain ⟨b, eb, rfl, rfl⟩ := opt_ok ev
  have eb : (Mp.eqD h' d e).map (!·) = some b := eb
  unfold Mp.eqD at eb
  split at eb
  · rename_i sc
    cases eb
    obtain ⟨s1, s2⟩ := scal_rel sc r1 r2
    refine op_ne pins s σ H x y v u Q I rx ry ⟨s1, ?_⟩
    rw [s2]
    exact fin_flat k S (blRel _)
  · split at eb
    · rename_i ka kb hd
      cases eb' : Mp.dEq h' ka kb with
      | none => rw [eb'] at eb; cases eb
      | some b' =>
      rw [eb'] at eb
      cases eb
      obtain ⟨p1, p2, va, vb, r, rfl, rfl, y1, y2, da, db, hits, rfl⟩ := dEq_ok hK hu I S rx ry r1 r2 hd eb'
      exact PySem.W.keq_ne (knd := mixKind X.prog X.w) y1 y2 da db (by omega) hits ⟨.bl _, H, I, rfl, fin_flat k S (blRel _)⟩
    · split at eb
      · rename_i p1 p2 e1 e2
        cases eb
        have z1 := rd_dp S 60 d x p1 r1 e1
        have z2 := rd_dp S 60 e y p2 r2 e2
        refine op_neD (by omega) pins s σ H x y v u Q I rx ry ⟨_, _, by rw [hK]; exact z1.dp, by rw [hK]; exact z2.dp, z1.shaped (by decide), z2.shaped (by decide), ?_⟩
        rw [eqv_py]
        exact fin_flat k S (blRel _)
      · cases eb
/-- what a look into a dict gives -/
theorem dct_get {ρ : List Addr} {H : Hp} {a : Addr} {o : HO} {kvs : List (Mp.D × Mp.D)} {d : Mp.D} {x : V} (rd : Rd H a o) (r : RelDict C.K ρ H kvs o) (rx : RelD C.K ρ H d x) (kd : d.key = true) : ∃ w, DGet H a x w ∧ w.isSome = (Mp.dget kvs d).isSome ∧ (∀ v, Mp.dget kvs d = some v → ∃ u, w = some u ∧ RelD C.K ρ H v u) := by
  obtain ⟨k, ek⟩ := keyOf_of kd
  rcases r with ⟨ks, rfl, r⟩ | ⟨ks, rfl, r⟩
  · refine ⟨valV ks k, .inl ⟨ks, k, rd, keyOf_V rx ek, rfl⟩, dget_some ek r, (dget_val ek r).1⟩
  · exact r.elim

theorem anyB (l : List Bool) (b : Bool) : (if b = true then !l.any id else l.any id) = (if b then !(l.any id) else l.any id) := rfl
theorem so_in (hK : X.K = C.K) (hu : X.A.units + 65 < cLine) : OpR X (compareOp .In) (rC C .in_) := by
  intro pins s σ H x y v u Q I rx ry q
  obtain ⟨ρ, h, d, e, S, r1, r2, z, h', ev, k⟩ := q
  obtain ⟨b, eb, rfl, rfl⟩ := opt_ok ev
  have eb : Mp.inD d e h' = some b := eb
  cases e with
  | tup ds =>
    simp only [Mp.inD, Mp.hits] at eb
    split at eb
    · rename_i f
      simp only [Bool.and_eq_true] at f
      cases eb
      obtain ⟨a, vs, rfl, t, g⟩ := relTup r2
      refine op_in_seq pins s σ H x _ v u Q I rx ry ⟨a, vs, rfl, .inr (by rw [hK]; exact t.sq), flatR r1 f.1, flats g f.2, ?_⟩
      rw [if_neg Bool.false_ne_true, inV_any r1 f.1 g f.2]
      exact fin_flat k S (blRel _)
    · simp at eb
  | ref i =>
    obtain ⟨a, rfl, ea⟩ := relRef r2
    simp only [Mp.inD] at eb
    split at eb
    · rename_i ds ho
      obtain ⟨vs, h1, g⟩ := S.lst ea ho
      simp only [Mp.hits] at eb
      split at eb
      · rename_i f
        simp only [Bool.and_eq_true] at f
        cases eb
        refine op_in_seq pins s σ H x _ v u Q I rx ry ⟨a, vs, rfl, .inl (SqL.of h1), flatR r1 f.1, flats g f.2, ?_⟩
        rw [if_neg Bool.false_ne_true, inV_any r1 f.1 g f.2]
        exact fin_flat k S (blRel _)
      · rw [if_pos trivial] at eb
        split at eb
        · rename_i pa bs e1 e2
          cases eb
          have z1 := rd_dp S 60 d x pa r1 e1
          have z2 := lst_dp S h1 g e2
          refine op_inD hu pins s σ H x _ v u Q I rx ry ⟨toPy pa, toPys bs, by rw [hK]; exact z1.dp, by rw [hK]; exact z2.dp, z1.shaped (by decide), z2.shaped (by decide), ?_⟩
          rw [any_eqv]
          exact fin_flat k S (blRel _)
        · cases eb
    · rename_i kvs ho
      split at eb
      · rename_i kd
        cases eb
        obtain ⟨o, h1, r⟩ := S.ob i a _ ea ho
        obtain ⟨w, dg, ws, _⟩ := dct_get (.inl h1) r r1 kd
        cases ry
        refine d_in (by omega) I dg rx fun s' I' => ⟨.bl _, H, I', rfl, ?_⟩
        rw [ws]
        exact fin_flat k S (blRel _)
      · cases eb
    · rename_i kvs ho
      split at eb
      · rename_i kd
        cases eb
        obtain ⟨ob, o, h1, r⟩ := S.ob i a _ ea ho
        obtain ⟨w, dg, ws, _⟩ := dct_get (.inr ⟨ob, h1⟩) r r1 kd
        cases ry
        refine d_in (by omega) I dg rx fun s' I' => ⟨.bl _, H, I', rfl, ?_⟩
        rw [ws]
        exact fin_flat k S (blRel _)
      · cases eb
    · cases eb
  | non => simp [Mp.inD] at eb
  | bl _ => simp [Mp.inD] at eb
  | int _ => simp [Mp.inD] at eb
  | str _ => simp [Mp.inD] at eb
theorem so_notin (hK : X.K = C.K) (hu : X.A.units + 65 < cLine) : OpR X (compareOp .NotIn) (rC C .notin) := by
  intro pins s σ H x y v u Q I rx ry q
  obtain ⟨ρ, h, d, e, S, r1, r2, z, h', ev, k⟩ := q
  obtain ⟨b, eb, rfl, rfl⟩ := opt_ok ev
  have eb : (Mp.inD d e h').map (!·) = some b := eb
  cases e with
  | tup ds =>
    simp only [Mp.inD, Mp.hits] at eb
    split at eb
    · rename_i f
      simp only [Bool.and_eq_true] at f
      cases eb
      obtain ⟨a, vs, rfl, t, g⟩ := relTup r2
      refine op_notIn_seq pins s σ H x _ v u Q I rx ry ⟨a, vs, rfl, .inr (by rw [hK]; exact t.sq), flatR r1 f.1, flats g f.2, ?_⟩
      rw [if_pos rfl, inV_any r1 f.1 g f.2]
      exact fin_flat k S (blRel _)
    · simp at eb
  | ref i =>
    obtain ⟨a, rfl, ea⟩ := relRef r2
    simp only [Mp.inD] at eb
    split at eb
    · rename_i ds ho
      obtain ⟨vs, h1, g⟩ := S.lst ea ho
      simp only [Mp.hits] at eb
      split at eb
      · rename_i f
        simp only [Bool.and_eq_true] at f
        cases eb
        refine op_notIn_seq pins s σ H x _ v u Q I rx ry ⟨a, vs, rfl, .inl (SqL.of h1), flatR r1 f.1, flats g f.2, ?_⟩
        rw [if_pos rfl, inV_any r1 f.1 g f.2]
        exact fin_flat k S (blRel _)
      · rw [if_pos trivial] at eb
        split at eb
        · rename_i pa bs e1 e2
          cases eb
          have z1 := rd_dp S 60 d x pa r1 e1
          have z2 := lst_dp S h1 g e2
          refine op_notInD hu pins s σ H x _ v u Q I rx ry ⟨toPy pa, toPys bs, by rw [hK]; exact z1.dp, by rw [hK]; exact z2.dp, z1.shaped (by decide), z2.shaped (by decide), ?_⟩
          rw [any_eqv]
          exact fin_flat k S (blRel _)
        · cases eb
    · rename_i kvs ho
      split at eb
      · rename_i kd
        cases eb
        obtain ⟨o, h1, r⟩ := S.ob i a _ ea ho
        obtain ⟨w, dg, ws, _⟩ := dct_get (.inl h1) r r1 kd
        cases ry
        refine d_notIn (by omega) I dg rx fun s' I' => ⟨.bl _, H, I', rfl, ?_⟩
        rw [ws]
        exact fin_flat k S (blRel _)
      · cases eb
    · rename_i kvs ho
      split at eb
      · rename_i kd
        cases eb
        obtain ⟨ob, o, h1, r⟩ := S.ob i a _ ea ho
        obtain ⟨w, dg, ws, _⟩ := dct_get (.inr ⟨ob, h1⟩) r r1 kd
        cases ry
        refine d_notIn (by omega) I dg rx fun s' I' => ⟨.bl _, H, I', rfl, ?_⟩
        rw [ws]
        exact fin_flat k S (blRel _)
      · cases eb
    · cases eb
  | non => simp [Mp.inD] at eb
  | bl _ => simp [Mp.inD] at eb
  | int _ => simp [Mp.inD] at eb
  | str _ => simp [Mp.inD] at eb
def copOf : Mp.COp → CmpOp
  | .eq => .Eq
  | .ne => .NotEq
  | .lt => .Lt
  | .le => .LtE
  | .gt => .Gt
  | .ge => .GtE
  | .is_ => .Is
  | .isnot => .IsNot
  | .in_ => .In
  | .notin => .NotIn
theorem so_cmp (hK : X.K = C.K) (hu : X.A.units + 65 < cLine) : ∀ o : Mp.COp, OpR X (compareOp (copOf o)) (rC C o)
  | .eq => so_eq hK hu
  | .ne => so_ne hK hu
  | .lt => so_lt hK (by omega)
  | .le => so_le
  | .gt => so_gt
  | .ge => so_ge
  | .is_ => so_is
  | .isnot => so_isnot
  | .in_ => so_in hK hu
  | .notin => so_notin hK hu
/-! ### truth -/
theorem truth_ok (hK : X.K = C.K) {ρ : List Addr} {h : Mp.Heap} {H : Hp} (S : Sim C ρ h H) {d : Mp.D} {v : V} {b : Bool} (r : RelD C.K ρ H d v) (e : Mp.truth h d = some b) : TruV X.K v H b := by
  cases d with
  | non => rw [relNon r]; simp only [Mp.truth] at e; cases e; rfl
  | bl _ => rw [relBl r]; simp only [Mp.truth] at e; cases e; rfl
  | int _ => rw [relInt r]; simp only [Mp.truth] at e; cases e; rfl
  | str s =>
    rw [relStr r]
    simp only [Mp.truth] at e
    split at e
    · rename_i hl
      cases e
      refine ⟨by rw [strV_len]; exact lim_line hl, ?_⟩
      rw [strV_len]
      cases s with
      | nil => rfl
      | cons a l =>
        simp only [List.isEmpty_cons, Bool.not_false, List.length_cons]
        refine (bne_iff_ne.mpr ?_).symm
        omega
    · cases e
  | tup ds =>
    obtain ⟨a, vs, rfl, t, g⟩ := relTup r
    simp only [Mp.truth] at e
    cases e
    refine .inr (.inl ⟨vs, by rw [hK]; exact t.sq, ?_⟩)
    cases ds <;> cases vs <;> first | rfl | (have := g.length; simp at this)
  | ref i =>
    obtain ⟨a, rfl, ea⟩ := relRef r
    simp only [Mp.truth] at e
    split at e
    · rename_i ds ho
      cases e
      obtain ⟨vs, h1, g⟩ := S.lst ea ho
      refine .inl ⟨vs, SqL.of h1, ?_⟩
      cases ds <;> cases vs <;> first | rfl | (have := g.length; simp at this)
    · rename_i ds ho
      cases e
      obtain ⟨vs, h1, g⟩ := S.ob i a _ ea ho
      refine .inl ⟨vs, by rw [hK]; exact ro_sq h1, ?_⟩
      cases ds <;> cases vs <;> first | rfl | (have := g.length; simp at this)
    · rename_i kvs ho
      cases e
      obtain ⟨o, h1, r⟩ := S.ob i a _ ea ho
      rcases r with ⟨ks, rfl, r⟩ | ⟨ks, rfl, r⟩
      · refine .inr (.inr ⟨ks, h1, ?_⟩)
        have := r.1
        cases kvs <;> cases ks <;> first | rfl | (simp at this)
      · exact r.elim
    · cases e
end
end MpS
end
section
set_option Elab.async false
set_option linter.all false
set_option maxRecDepth 100000
set_option maxHeartbeats 4000000
namespace MpS
open PySem L2
/-- a kind's class, a type's -/
def knV (C : Cf) : Mp.Kn → Value
  | .non => .type "NoneType"
  | .bool => .type "bool"
  | .int => .type "int"
  | .str => .type "str"
  | .tuple => .type "tuple"
  | .list => .type "list"
  | .dict => .type "dict"
  | .ins c => .ref (C.ca c)
def tyV' (C : Cf) : Mp.Ty → Value
  | .int => .type "int"
  | .bool => .type "bool"
  | .str => .type "str"
  | .tuple => .type "tuple"
  | .list => .type "list"
  | .dict => .type "dict"
  | .cls c => .ref (C.ca c)
/-- what isinstance asks of an own class -/
structure InsT (K : PySem.W.Frag) (c : Addr) : Prop where
  ha : PySem.W.findIn K (.ref c) "__class__" = some (some (.builtin "object.__class__"))
  hn : PySem.W.specialIn K (.builtin "object.__class__") "__get__" = some (some (.builtin "getset_descriptor.__get__"))
  htk : PySem.W.takesIn K (.builtin "object.__class__") = some true
  hm : PySem.W.mroIn K c (.type "object") = some true
/-- what the written part says of the tables -/
structure Tab (C : Cf) : Prop where
  inj : ∀ f g, C.nm f = C.nm g → f = g
  cls : ∀ (c : Nat) k, C.pg.cls[c]? = some k → k.init.isSome = true → Cls C.K (C.ca c)
  noat : ∀ (c : Nat) k, C.pg.cls[c]? = some k → ∀ f ∈ k.fl, NoAttr C.K (C.ca c) (C.nm f)
  meth : ∀ (c : Nat) k m f, C.pg.cls[c]? = some k → k.ms.lookup m = some f → Meth C.K (C.ca c) (C.nm m) (C.fa f)
  kit : ∀ k t b, Mp.isK C.pg k t = some b → PySem.W.kitOne C.K (knV C k) (tyV' C t) = some b
  inst : ∀ (c : Nat) k, C.pg.cls[c]? = some k → k.init.isSome = true → InsT C.K (C.ca c)
  obj : ∀ (c : Nat) k, C.pg.cls[c]? = some k → k.fl ≠ [] → k.init.isSome = true
  exc : ∀ (c : Nat) k, C.pg.cls[c]? = some k → k.ex = true → ExcC C.K (C.ca c)
  exm : ∀ (c d : Nat) k, C.pg.cls[c]? = some k → k.ex = true → k.up.contains d = true → PySem.W.exmOne C.K (.ref (C.ca c)) (.ref (C.ca d)) = some true
section
variable {C : Cf} {X : Cx} {W : WX} {pos : Pos} {cf : Nat → List Mp.D → Mp.Heap → Mp.Res Mp.D}
abbrev ME := Mp.Env → Mp.Heap → Mp.Res Mp.D
abbrev mE (C : Cf) (cf : Nat → List Mp.D → Mp.Heap → Mp.Res Mp.D) (e : Mp.Ex) : ME := Mp.evE C.pg cf e
section
variable {a b c : Expr} {ea eb ec : Mp.Ex}
theorem se_bin (hK : X.K = C.K) {o : Mp.BOp} (ha : PE X a (tE C W (mE C cf ea))) (hb : PE X b (tE C W (mE C cf eb))) : PE X (.BinOp a (opOf o) b pos) (tE C W (mE C cf (.bin o ea eb))) := by
  refine PE.imp' (pe_op (so_bin hK o) ha hb) fun σ H Q h => ?_
  have h' : tE C W (fun env h => (mE C cf ea env h).bind fun x h => (mE C cf eb env h).bind fun y h => Mp.binop o x y h) σ H Q := by
    obtain ⟨ρ, env, h0, es, S, ev⟩ := h
    refine ⟨ρ, env, h0, es, S, ?_⟩
    simpa only [mE, Mp.evE] using ev
  exact tE.two h' fun d e x y ρ h H S r1 r2 ev => rO.ok (binop_noerr o) S r1 r2 ev
theorem se_cmp (hK : X.K = C.K) (hu : X.A.units + 65 < cLine) {o : Mp.COp} (ha : PE X a (tE C W (mE C cf ea))) (hb : PE X b (tE C W (mE C cf eb))) (hm : behindInMarks (copOf o) b = false) : PE X (.Compare a [copOf o] [b] pos) (tE C W (mE C cf (.cmp o ea eb))) := by
  refine PE.imp' (pe_cmpR (so_cmp hK hu o) ha hb hm) fun σ H Q h => ?_
  have h' : tE C W (fun env h => (mE C cf ea env h).bind fun x h => (mE C cf eb env h).bind fun y h => Mp.opt ((Mp.cmpop o x y h).map .bl) h) σ H Q := by
    obtain ⟨ρ, env, h0, es, S, ev⟩ := h
    refine ⟨ρ, env, h0, es, S, ?_⟩
    simpa only [mE, Mp.evE] using ev
  exact tE.two h' fun d e x y ρ h H S r1 r2 ev => rO.ok (cmp_noerr o) S r1 r2 ev
theorem rC_of {o : Mp.COp} {ρ : List Addr} {h : Mp.Heap} {H : Hp} {d e : Mp.D} {x y : V} {Q : VK} {k : Bool} (S : Sim C ρ h H) (r1 : RelD C.K ρ H d x) (r2 : RelD C.K ρ H e y) (ek : Mp.cmpop o d e h = some k) (q : ∀ ρ' H', Le ρ ρ' → Kp H H' → Sim C ρ' h H' → Q (.bl k) H') : rC C o x y H Q :=
  ⟨ρ, h, d, e, S, r1, r2, .bl k, h, by show Mp.opt ((Mp.cmpop o d e h).map Mp.D.bl) h = _; rw [ek]; rfl, fun ρ' H' v l k S r => by rw [relBl r]; exact q ρ' H' l k S⟩
theorem se_chain (hK : X.K = C.K) (hu : X.A.units + 65 < cLine) {o p : Mp.COp} (ha : PE X a (tE C W (mE C cf ea))) (hb : PE X b (tE C W (mE C cf eb))) (hc : PE X c (tE C W (mE C cf ec))) (hm : lastMarks [copOf o, copOf p] [b, c] = false) : PE X (.Compare a [copOf o, copOf p] [b, c] pos) (tE C W (mE C cf (.chain o p ea eb ec))) := by
  refine PE.imp' (pe_chain (so_cmp hK hu o) (so_cmp hK hu p) ha hb hc hm) fun σ H Q h => ?_
  obtain ⟨ρ, env, h0, es, S, ev⟩ := h
  simp only [mE, Mp.evE] at ev
  refine ⟨ρ, env, h0, es, S, ev.bind.imp fun x H1 ⟨d, ρ1, h1, l1, k1, S1, r1, ev1⟩ => ?_⟩
  refine ⟨ρ1, env, h1, es.mono l1 k1, S1, ev1.bind.imp fun y H2 ⟨e, ρ2, h2, l2, k2, S2, r2, ev2⟩ => ?_⟩
  have r1' := RelD.mono l2 k2 _ _ r1
  cases q : Mp.cmpop o d e h2 with
  | none => rw [q] at ev2; exact ev2.elim
  | some t =>
    rw [q] at ev2
    refine rC_of S2 r1' r2 q fun ρ3 H3 l3 k3 S3 => ⟨t, rfl, ?_⟩
    cases t with
    | false => rw [if_neg Bool.false_ne_true]; exact (ev2.weak l3 k3).ok S3 (blRel _)
    | true =>
      rw [if_pos rfl]
      have ev3 := ev2.weak l3 k3
      refine ⟨ρ3, env, h2, es.mono (l1.trans (l2.trans l3)) (k1.trans (k2.trans k3)), S3, ev3.bind.imp fun z H4 ⟨f, ρ4, h4, l4, k4, S4, r4, ev4⟩ => ?_⟩
      obtain ⟨dd, q4, ev5⟩ := ev4.opt
      cases q5 : Mp.cmpop p e f h4 with
      | none => rw [q5] at q4; cases q4
      | some t' =>
        rw [q5] at q4
        cases q4
        exact rC_of S4 (RelD.mono (l3.trans l4) (k3.trans k4) _ _ r2) r4 q5 fun ρ5 H5 l5 k5 S5 => (ev5.weak l5 k5).ok S5 (blRel _)
theorem se_one {op : BoolOp} (ha : PE X a (tE C W (mE C cf ea))) : PE X (.BoolOp op [a] pos) (tE C W (mE C cf ea)) := pe_one ha
theorem se_and {rest : List Expr} (hK : X.K = C.K) (ha : PE X a (tE C W (mE C cf ea))) (hb : PE X (.BoolOp .And (b :: rest) pos) (tE C W (mE C cf eb))) : PE X (.BoolOp .And (a :: b :: rest) pos) (tE C W (mE C cf (.and ea eb))) := by
  refine PE.imp' (pe_andT ha hb) fun σ H Q h => ?_
  obtain ⟨ρ, env, h0, es, S, ev⟩ := h
  simp only [mE, Mp.evE] at ev
  refine ⟨ρ, env, h0, es, S, ev.bind.imp fun x H1 ⟨d, ρ1, h1, l1, k1, S1, r1, ev1⟩ => ?_⟩
  cases q : Mp.truth h1 d with
  | none => rw [q] at ev1; exact ev1.elim
  | some t =>
    rw [q] at ev1
    refine ⟨t, truth_ok hK S1 r1 q, ?_⟩
    cases t with
    | true => rw [if_pos rfl]; exact ⟨ρ1, env, h1, es.mono l1 k1, S1, ev1⟩
    | false => rw [if_neg Bool.false_ne_true]; exact ev1.ok S1 r1
theorem se_or {rest : List Expr} (hK : X.K = C.K) (ha : PE X a (tE C W (mE C cf ea))) (hb : PE X (.BoolOp .Or (b :: rest) pos) (tE C W (mE C cf eb))) : PE X (.BoolOp .Or (a :: b :: rest) pos) (tE C W (mE C cf (.or ea eb))) := by
  refine PE.imp' (pe_orT ha hb) fun σ H Q h => ?_
  obtain ⟨ρ, env, h0, es, S, ev⟩ := h
  simp only [mE, Mp.evE] at ev
  refine ⟨ρ, env, h0, es, S, ev.bind.imp fun x H1 ⟨d, ρ1, h1, l1, k1, S1, r1, ev1⟩ => ?_⟩
  cases q : Mp.truth h1 d with
  | none => rw [q] at ev1; exact ev1.elim
  | some t =>
    rw [q] at ev1
    refine ⟨t, truth_ok hK S1 r1 q, ?_⟩
    cases t with
    | true => rw [if_pos rfl]; exact ev1.ok S1 r1
    | false => rw [if_neg Bool.false_ne_true]; exact ⟨ρ1, env, h1, es.mono l1 k1, S1, ev1⟩
theorem se_not (hK : X.K = C.K) (ha : PE X a (tE C W (mE C cf ea))) : PE X (.UnaryOp .Not a pos) (tE C W (mE C cf (.not ea))) := by
  refine PE.imp' (pe_notT ha) fun σ H Q h => ?_
  obtain ⟨ρ, env, h0, es, S, ev⟩ := h
  simp only [mE, Mp.evE] at ev
  refine ⟨ρ, env, h0, es, S, ev.bind.imp fun x H1 ⟨d, ρ1, h1, l1, k1, S1, r1, ev1⟩ => ?_⟩
  obtain ⟨dd, q, ev2⟩ := ev1.opt
  cases q1 : Mp.truth h1 d with
  | none => rw [q1] at q; cases q
  | some t =>
    rw [q1] at q
    cases q
    exact ⟨t, truth_ok hK S1 r1 q1, ev2.ok S1 (blRel _)⟩
theorem se_neg (ha : PE X a (tE C W (mE C cf ea))) : PE X (.UnaryOp .USub a pos) (tE C W (mE C cf (.neg ea))) := by
  refine PE.imp' (pe_un un_neg ha) fun σ H Q h => ?_
  obtain ⟨ρ, env, h0, es, S, ev⟩ := h
  simp only [mE, Mp.evE] at ev
  refine ⟨ρ, env, h0, es, S, ev.bind.imp fun x H1 ⟨d, ρ1, h1, l1, k1, S1, r1, ev1⟩ => ?_⟩
  cases d with
  | int i => exact ⟨i, relInt r1, ev1.ok S1 (intRel _)⟩
  | _ => exact ev1.elim
/-- a test's two ways -/
theorem tT.ways {mc : ME} {σ : St} {H : Hp} {Q : Bool → Hp → Prop} {ρ : List Addr} {env : Mp.Env} {h0 : Mp.Heap} (es : ES C.K ρ H env σ) (S : Sim C ρ h0 H)
    (h : EvG C W σ (RD C) (mc env h0) ρ H (fun v H1 => ∃ d ρ1 h1, Le ρ ρ1 ∧ Kp H H1 ∧ Sim C ρ1 h1 H1 ∧ RelD C.K ρ1 H1 d v ∧ ∃ t, Mp.truth h1 d = some t ∧ True)) : True := trivial
theorem se_ite (hc : PT X c (tT C W (mE C cf ec))) (ha : PE X a (tE C W (mE C cf ea))) (hb : PE X b (tE C W (mE C cf eb))) : PE X (.IfExp c a b pos) (tE C W (mE C cf (.ite ec ea eb))) := by
  refine PE.imp' (pe_ifExp hc ha hb) fun σ H Q h => ?_
  obtain ⟨ρ, env, h0, es, S, ev⟩ := h
  simp only [mE, Mp.evE] at ev
  refine ⟨ρ, env, h0, es, S, ?_⟩
  cases q : mE C cf ec env h0 with
  | stk => simp only [mE] at q; rw [q] at ev; exact ev.elim
  | err c fs h' => simp only [mE] at q; rw [q] at ev; exact ev
  | ok d h1 =>
    simp only [mE] at q
    rw [q] at ev
    simp only [Mp.Res.bind] at ev ⊢
    cases q1 : Mp.truth h1 d with
    | none => rw [q1] at ev; exact ev.elim
    | some t =>
      rw [q1] at ev
      intro ρ1 H1 b l1 k1 S1 eb
      have eb : t = b := eb
      subst eb
      cases t with
      | true => rw [if_pos rfl]; exact ⟨ρ1, env, h1, es.mono l1 k1, S1, ev.weak l1 k1⟩
      | false => rw [if_neg Bool.false_ne_true]; exact ⟨ρ1, env, h1, es.mono l1 k1, S1, ev.weak l1 k1⟩
end
/-! ### tests -/
theorem bind_assoc {α β γ : Type} (r : Mp.Res α) (f : α → Mp.Heap → Mp.Res β) (g : β → Mp.Heap → Mp.Res γ) : (r.bind f).bind g = r.bind fun a h => (f a h).bind g := by
  cases r <;> rfl
section
variable {a b c : Expr} {ea eb ec : Mp.Ex}
theorem EvG.truth {m : Mp.Res Mp.D} {σ : St} {ρ : List Addr} {H : Hp} {Q : Bool → Hp → Prop} (ev : EvG C W σ RB (m.bind fun d h => Mp.opt (Mp.truth h d) h) ρ H Q) :
    EvG C W σ (RD C) m ρ H (fun v H1 => ∃ d ρ1 h1 t, Le ρ ρ1 ∧ Kp H H1 ∧ Sim C ρ1 h1 H1 ∧ RelD C.K ρ1 H1 d v ∧ Mp.truth h1 d = some t ∧ Q t H1) :=
  ev.bind.imp fun v H1 ⟨d, ρ1, h1, l1, k1, S1, r1, ev1⟩ => by
    obtain ⟨t, q, ev2⟩ := ev1.opt
    exact ⟨d, ρ1, h1, t, l1, k1, S1, r1, q, ev2.ok S1 rfl⟩
/-- any expression whose test is its value's truth -/
theorem st_val (hK : X.K = C.K) (ha : PE X a (tE C W (mE C cf ea))) (he : ∀ whole, isTrue a X.env whole = (do let v ← whole; standAt a.pos; holding [v] (truthy v))) : PT X a (tT C W (mE C cf ea)) := by
  refine PT.imp' (pt_truth ha he) fun σ H Q h => ?_
  obtain ⟨ρ, env, h0, es, S, ev⟩ := h
  exact ⟨ρ, env, h0, es, S, ev.truth.imp fun v H1 ⟨d, ρ1, h1, t, l1, k1, S1, r1, q, w⟩ => ⟨t, truth_ok hK S1 r1 q, w⟩⟩
theorem st_cmp (hK : X.K = C.K) (hu : X.A.units + 65 < cLine) {o : Mp.COp} (ha : PE X a (tE C W (mE C cf ea))) (hb : PE X b (tE C W (mE C cf eb))) (hm : behindInMarks (copOf o) b = false) : PT X (.Compare a [copOf o] [b] pos) (tT C W (mE C cf (.cmp o ea eb))) := by
  refine PT.imp' (pt_cmpR (so_cmp hK hu o) ha hb hm) fun σ H Q h => ?_
  obtain ⟨ρ, env, h0, es, S, ev⟩ := h
  simp only [mE, Mp.evE, bind_assoc] at ev
  refine ⟨ρ, env, h0, es, S, (ev.bind (R := RD C)).imp fun x H1 ⟨d, ρ1, h1, l1, k1, S1, r1, ev1⟩ => ?_⟩
  refine ⟨ρ1, env, h1, es.mono l1 k1, S1, (ev1.bind (R := RD C)).imp fun y H2 ⟨e, ρ2, h2, l2, k2, S2, r2, ev2⟩ => ?_⟩
  cases q : Mp.cmpop o d e h2 with
  | none => rw [q] at ev2; exact ev2.elim
  | some t =>
    rw [q] at ev2
    exact rC_of S2 (RelD.mono l2 k2 _ _ r1) r2 q fun ρ3 H3 l3 k3 S3 => ⟨t, rfl, (ev2.weak l3 k3).ok S3 rfl⟩
theorem st_chain (hK : X.K = C.K) (hu : X.A.units + 65 < cLine) {o p : Mp.COp} (ha : PE X a (tE C W (mE C cf ea))) (hb : PE X b (tE C W (mE C cf eb))) (hc : PE X c (tE C W (mE C cf ec))) (hm : lastMarks [copOf o, copOf p] [b, c] = false) : PT X (.Compare a [copOf o, copOf p] [b, c] pos) (tT C W (mE C cf (.chain o p ea eb ec))) := by
  refine PT.imp' (pt_chain (so_cmp hK hu o) (so_cmp hK hu p) ha hb hc hm) fun σ H Q h => ?_
  obtain ⟨ρ, env, h0, es, S, ev⟩ := h
  simp only [mE, Mp.evE, bind_assoc] at ev
  refine ⟨ρ, env, h0, es, S, (ev.bind (R := RD C)).imp fun x H1 ⟨d, ρ1, h1, l1, k1, S1, r1, ev1⟩ => ?_⟩
  refine ⟨ρ1, env, h1, es.mono l1 k1, S1, (ev1.bind (R := RD C)).imp fun y H2 ⟨e, ρ2, h2, l2, k2, S2, r2, ev2⟩ => ?_⟩
  cases q : Mp.cmpop o d e h2 with
  | none => rw [q] at ev2; exact ev2.elim
  | some t =>
    rw [q] at ev2
    refine rC_of S2 (RelD.mono l2 k2 _ _ r1) r2 q fun ρ3 H3 l3 k3 S3 => ⟨t, rfl, ?_⟩
    cases t with
    | false => rw [if_neg Bool.false_ne_true]; exact ⟨false, rfl, (ev2.weak l3 k3).ok S3 rfl⟩
    | true =>
      rw [if_pos rfl]
      simp only [bind_assoc] at ev2
      have ev3 := ev2.weak l3 k3
      refine ⟨ρ3, env, h2, es.mono (l1.trans (l2.trans l3)) (k1.trans (k2.trans k3)), S3, (ev3.bind (R := RD C)).imp fun z H4 ⟨f, ρ4, h4, l4, k4, S4, r4, ev4⟩ => ?_⟩
      cases q5 : Mp.cmpop p e f h4 with
      | none => rw [q5] at ev4; exact ev4.elim
      | some t' =>
        rw [q5] at ev4
        exact rC_of S4 (RelD.mono (l3.trans l4) (k3.trans k4) _ _ r2) r4 q5 fun ρ5 H5 l5 k5 S5 => ⟨t', rfl, (ev4.weak l5 k5).ok S5 rfl⟩
theorem st_not (ha : PT X a (tT C W (mE C cf ea))) : PT X (.UnaryOp .Not a pos) (tT C W (mE C cf (.not ea))) := by
  refine PT.imp' (pt_not ha) fun σ H Q h => ?_
  obtain ⟨ρ, env, h0, es, S, ev⟩ := h
  refine ⟨ρ, env, h0, es, S, ?_⟩
  simp only [mE, Mp.evE, bind_assoc] at ev ⊢
  cases q : Mp.evE C.pg cf ea env h0 with
  | stk => rw [q] at ev; exact ev
  | err c fs h' => rw [q] at ev; exact ev
  | ok d h1 =>
    rw [q] at ev
    simp only [Mp.Res.bind] at ev ⊢
    cases q1 : Mp.truth h1 d with
    | none => rw [q1] at ev; exact ev
    | some t =>
      rw [q1] at ev
      intro ρ' H' b l k S' e
      have e : t = b := e
      subst e
      exact ev ρ' H' (!t) l k S' rfl
theorem sw_one {op : BoolOp} (ha : PT X a (tT C W (mE C cf ea))) : PW X (.BoolOp op [a] pos) (tT C W (mE C cf ea)) := by
  cases op with
  | And => exact pw_and1 ha
  | Or => exact pw_or1 ha
theorem sw_and {rest : List Expr} (ha : PT X a (tT C W (mE C cf ea))) (hb : PW X (.BoolOp .And (b :: rest) pos) (tT C W (mE C cf eb))) : PW X (.BoolOp .And (a :: b :: rest) pos) (tT C W (mE C cf (.and ea eb))) := by
  have h := pw_and (pos := pos) ha hb
  refine ⟨fun wh pins s σ H Q I hq => h.run wh pins s σ H Q I ?_⟩
  obtain ⟨ρ, env, h0, es, S, ev⟩ := hq
  refine ⟨ρ, env, h0, es, S, ?_⟩
  simp only [mE, Mp.evE, bind_assoc] at ev ⊢
  cases q : Mp.evE C.pg cf ea env h0 with
  | stk => rw [q] at ev; exact ev
  | err c fs h' => rw [q] at ev; exact ev
  | ok d h1 =>
    rw [q] at ev
    simp only [Mp.Res.bind] at ev ⊢
    cases q1 : Mp.truth h1 d with
    | none => rw [q1] at ev; exact ev
    | some t =>
      rw [q1] at ev
      intro ρ' H' b l k S' e
      have e : t = b := e
      subst e
      cases t with
      | true => rw [if_pos rfl]; exact ⟨ρ', env, h1, es.mono l k, S', ev.weak l k⟩
      | false =>
        rw [if_neg Bool.false_ne_true]
        simp only [q1] at ev
        exact ev ρ' H' false l k S' rfl
theorem sw_or {rest : List Expr} (ha : PT X a (tT C W (mE C cf ea))) (hb : PW X (.BoolOp .Or (b :: rest) pos) (tT C W (mE C cf eb))) : PW X (.BoolOp .Or (a :: b :: rest) pos) (tT C W (mE C cf (.or ea eb))) := by
  have h := pw_or (pos := pos) ha hb
  refine ⟨fun wh pins s σ H Q I hq => h.run wh pins s σ H Q I ?_⟩
  obtain ⟨ρ, env, h0, es, S, ev⟩ := hq
  refine ⟨ρ, env, h0, es, S, ?_⟩
  simp only [mE, Mp.evE, bind_assoc] at ev ⊢
  cases q : Mp.evE C.pg cf ea env h0 with
  | stk => rw [q] at ev; exact ev
  | err c fs h' => rw [q] at ev; exact ev
  | ok d h1 =>
    rw [q] at ev
    simp only [Mp.Res.bind] at ev ⊢
    cases q1 : Mp.truth h1 d with
    | none => rw [q1] at ev; exact ev
    | some t =>
      rw [q1] at ev
      intro ρ' H' b l k S' e
      have e : t = b := e
      subst e
      cases t with
      | false => rw [if_neg Bool.false_ne_true]; exact ⟨ρ', env, h1, es.mono l k, S', ev.weak l k⟩
      | true =>
        rw [if_pos rfl]
        simp only [q1] at ev
        exact ev ρ' H' true l k S' rfl
end
end
end MpS
end
section
set_option Elab.async false
set_option linter.all false
set_option maxRecDepth 100000
set_option maxHeartbeats 4000000
namespace MpS
open PySem L2
section
variable {C : Cf} {X : Cx} {W : WX} {pos : Pos} {cf : Nat → List Mp.D → Mp.Heap → Mp.Res Mp.D}
abbrev mEs (C : Cf) (cf : Nat → List Mp.D → Mp.Heap → Mp.Res Mp.D) (e : Mp.Exs) : Mp.Env → Mp.Heap → Mp.Res (List Mp.D) := Mp.evEs C.pg cf e
/-! ### argument lists -/
theorem PA_nil : PA X [] (tA C W (mEs C cf .nil)) := PA.imp' pa_nil fun σ H Q ⟨ρ, env, h0, es, S, ev⟩ => by
  simp only [mEs, Mp.evEs] at ev
  exact ev.ok S .nil
theorem tA.cons {ma : ME} {ms : Mp.Env → Mp.Heap → Mp.Res (List Mp.D)} {σ : St} {H : Hp} {Q : List V → Hp → Prop} (h : tA C W (fun env h => (ma env h).bind fun x h => (ms env h).bind fun xs h => .ok (x :: xs) h) σ H Q) :
    tE C W ma σ H fun x H1 => tA C W ms σ H1 fun xs H2 => Q (x :: xs) H2 := by
  obtain ⟨ρ, env, h0, es, S, ev⟩ := h
  refine ⟨ρ, env, h0, es, S, (ev.bind (R := RD C)).imp fun x H1 ⟨d, ρ1, h1, l1, k1, S1, r1, ev1⟩ => ?_⟩
  refine ⟨ρ1, env, h1, es.mono l1 k1, S1, (ev1.bind (R := RDs C)).imp fun xs H2 ⟨ds, ρ2, h2, l2, k2, S2, r2, ev2⟩ => ?_⟩
  exact ev2.ok S2 (.cons (RelD.mono l2 k2 _ _ r1) r2)
theorem PA_cons {e : Expr} {es : List Expr} {x : Mp.Ex} {xs : Mp.Exs} (h1 : PE X e (tE C W (mE C cf x))) (h2 : PA X es (tA C W (mEs C cf xs))) (hs : starEach (e :: es) X.env = (false, eval e X.env) :: starEach es X.env) : PA X (e :: es) (tA C W (mEs C cf (.cons x xs))) :=
  PA.imp' (pa_cons h1 h2 hs) fun σ H Q h => tA.cons (by
    obtain ⟨ρ, env, h0, es, S, ev⟩ := h
    refine ⟨ρ, env, h0, es, S, ?_⟩
    simpa only [mEs, Mp.evEs] using ev)
theorem se_tup {es : List Expr} {k : Nat} {xs : Mp.Exs} (h : PA X es (tA C W (mEs C cf xs))) : PE X (.Tuple es k pos) (tE C W (mE C cf (.tup xs))) := by
  refine PE.imp' (pe_tup h) fun σ H Q h => ?_
  obtain ⟨ρ, env, h0, es, S, ev⟩ := h
  simp only [mE, Mp.evE] at ev
  refine ⟨ρ, env, h0, es, S, (ev.bind (R := RDs C)).imp fun vs H1 ⟨ds, ρ1, h1, l1, k1, S1, r1, ev1⟩ => ?_⟩
  split at ev1
  · rename_i hl
    refine ⟨by rw [r1.length]; exact lim_line hl, fun p np => ?_⟩
    exact ev1 ρ1 _ _ (Le.refl _) (Kp.new np) (S1.other np _) (tupRel (.inl upd_same) (RelDs.mono (Le.refl _) (Kp.new np) _ _ r1))
  · exact ev1.elim
theorem se_lst {es : List Expr} {xs : Mp.Exs} (h : PA X es (tA C W (mEs C cf xs))) : PE X (.List es pos) (tE C W (mE C cf (.lst xs))) := by
  refine PE.imp' (pe_lst h) fun σ H Q h => ?_
  obtain ⟨ρ, env, h0, es, S, ev⟩ := h
  simp only [mE, Mp.evE] at ev
  refine ⟨ρ, env, h0, es, S, (ev.bind (R := RDs C)).imp fun vs H1 ⟨ds, ρ1, h1, l1, k1, S1, r1, ev1⟩ => ?_⟩
  split at ev1
  · rename_i hl
    exact ⟨by rw [r1.length]; exact lim_line hl, fun p np => ev1 (ρ1 ++ [p]) _ _ (Le.snoc _ _) (Kp.new np) (S1.newL np r1) (refRel S1.ref_at)⟩
  · exact ev1.elim
theorem tE.ev {e e' : ME} {σ : St} {H : Hp} {Q : VK} (h : tE C W e σ H Q) (q : ∀ env h, e env h = e' env h) : tE C W e' σ H Q := by
  obtain ⟨ρ, env, h0, es, S, ev⟩ := h
  exact ⟨ρ, env, h0, es, S, by rw [← q]; exact ev⟩
end
end MpS
end
section
set_option Elab.async false
set_option linter.all false
set_option maxRecDepth 100000
set_option maxHeartbeats 4000000
namespace Mp
theorem insI_perm (x : Int) : ∀ l : List Int, (insI x l).Perm (x :: l)
  | [] => .refl _
  | y :: ys => by
    unfold insI
    split
    · exact .refl _
    · exact ((insI_perm x ys).cons y).trans (List.Perm.swap x y ys)
theorem sortI_perm : ∀ l : List Int, (sortI l).Perm l
  | [] => .refl _
  | x :: xs => (insI_perm x _).trans ((sortI_perm xs).cons x)
theorem insI_sorted (x : Int) : ∀ l : List Int, l.Pairwise (· ≤ ·) → (insI x l).Pairwise (· ≤ ·)
  | [], _ => by simp [insI]
  | y :: ys, h => by
    have h' := List.pairwise_cons.mp h
    unfold insI
    split
    · rename_i hx
      refine List.pairwise_cons.mpr ⟨fun z hz => ?_, h⟩
      rcases List.mem_cons.mp hz with e | hz
      · rw [e]; exact hx
      · exact Int.le_trans hx (h'.1 z hz)
    · rename_i hx
      refine List.pairwise_cons.mpr ⟨fun z hz => ?_, insI_sorted x ys h'.2⟩
      have := (insI_perm x ys).mem_iff.mp hz
      rcases List.mem_cons.mp this with e | hz
      · rw [e]; omega
      · exact h'.1 z hz
theorem sortI_sorted : ∀ l : List Int, (sortI l).Pairwise (· ≤ ·)
  | [] => .nil
  | x :: xs => insI_sorted x _ (sortI_sorted xs)
theorem sorted_uniq : ∀ {l m : List Int}, l.Perm m → l.Pairwise (· ≤ ·) → m.Pairwise (· ≤ ·) → l = m
  | [], m, p, _, _ => (List.nil_perm.mp p).symm
  | x :: l, [], p, _, _ => absurd p.length_eq (by simp)
  | x :: l, y :: m, p, h1, h2 => by
    have a := List.pairwise_cons.mp h1
    have b := List.pairwise_cons.mp h2
    have e : x = y := by
      have hx : x ∈ y :: m := p.mem_iff.mp (by simp)
      have hy : y ∈ x :: l := p.mem_iff.mpr (by simp)
      have c1 : y ≤ x := by
        rcases List.mem_cons.mp hx with e | hx
        · omega
        · exact b.1 x hx
      have c2 : x ≤ y := by
        rcases List.mem_cons.mp hy with e | hy
        · omega
        · exact a.1 y hy
      omega
    subst e
    rw [sorted_uniq p.cons_inv a.2 b.2]
end Mp
namespace MpS
open PySem L2
/-- an expression that is no starred one -/
def NoStar (e : Expr) : Prop := ∀ es env, starEach (e :: es) env = (false, eval e env) :: starEach es env
section
variable {C : Cf} {X : Cx} {W : WX} {pos : Pos} {cf : Nat → List Mp.D → Mp.Heap → Mp.Res Mp.D}
theorem star_plain : ∀ {es : List Expr}, (∀ e ∈ es, NoStar e) → ∀ env, ∀ x ∈ starEach es env, x.1 = false
  | [], _, env, x, h => by simp [starEach] at h
  | e :: es, n, env, x, h => by
    rw [n e (by simp) es env] at h
    rcases List.mem_cons.mp h with h | h
    · rw [h]
    · exact star_plain (fun e he => n e (by simp [he])) env x h
theorem back_plain {es : List Expr} (n : ∀ e ∈ es, NoStar e) (env : PySem.Env) (pos : Pos) : (backTo pos (starEach es env)).any (·.1) = false := by
  rw [List.any_eq_false]
  intro x hx
  unfold backTo at hx
  obtain ⟨y, hy, rfl⟩ := List.mem_map.mp hx
  obtain ⟨s, t⟩ := y
  have := star_plain n env _ hy
  simpa using this
theorem back_all {es : List Expr} (n : ∀ e ∈ es, NoStar e) (env : PySem.Env) (pos : Pos) : (backTo pos (starEach es env)).all (fun x => !x.1) = true := by
  rw [List.all_eq_true]
  intro x hx
  unfold backTo at hx
  obtain ⟨y, hy, rfl⟩ := List.mem_map.mp hx
  obtain ⟨s, t⟩ := y
  have := star_plain n env _ hy
  simpa using this
/-! ### built-ins by values -/
/-- a built-in by the interpreter -/
def rF (C : Cf) (f : List Mp.D → Mp.Heap → Mp.Res Mp.D) : List V → Hp → VK → Prop := fun xs H Q => ∃ ρ h ds, Sim C ρ h H ∧ RelDs C.K ρ H ds xs ∧ ∃ z h', f ds h = .ok z h' ∧ ∀ ρ' H' v, Le ρ ρ' → Kp H H' → Sim C ρ' h' H' → RelD C.K ρ' H' z v → Q v H'
theorem optD_ok {α : Type} {o : Option α} {f : α → Mp.D} {h h' : Mp.Heap} {z : Mp.D} (e : Mp.opt (o.map f) h = .ok z h') : ∃ b, o = some b ∧ z = f b ∧ h' = h := by
  cases o with
  | none => cases e
  | some b => cases e; exact ⟨b, rfl, rfl, rfl⟩
theorem optD_ok' {o : Option Mp.D} {h h' : Mp.Heap} {z : Mp.D} (e : Mp.opt o h = .ok z h') : o = some z ∧ h' = h := by
  cases o with
  | none => cases e
  | some b => cases e; exact ⟨rfl, rfl⟩
theorem biop_noerr (b : Mp.Bi) (ds : List Mp.D) (h : Mp.Heap) (c : Nat) (fs : List (Nat × Mp.D)) (h' : Mp.Heap) : Mp.biop b ds h ≠ .err c fs h' := by
  unfold Mp.biop Mp.opt
  repeat' split
  all_goals (intro q; cases q)
/-- the items of a list or a tuple that is read -/
theorem items_ok {ρ : List Addr} {h : Mp.Heap} {H : Hp} (S : Sim C ρ h H) {d : Mp.D} {x : V} {ds : List Mp.D} (r : RelD C.K ρ H d x) (e : Mp.itemsOf d h = some ds) : ∃ p vs, x = .ref p ∧ RelDs C.K ρ H ds vs ∧ ((∃ a, d = .ref a ∧ SqL C.K H p vs) ∨ (d = .tup ds ∧ TupAt C.K H p vs)) := by
  cases d with
  | tup es =>
    simp only [Mp.itemsOf] at e
    cases e
    obtain ⟨a, vs, rfl, t, g⟩ := relTup r
    exact ⟨a, vs, rfl, g, .inr ⟨rfl, t⟩⟩
  | ref i =>
    obtain ⟨a, rfl, ea⟩ := relRef r
    simp only [Mp.itemsOf] at e
    split at e
    · rename_i es ho
      cases e
      obtain ⟨vs, h1, g⟩ := S.lst ea ho
      exact ⟨a, vs, rfl, g, .inl ⟨i, rfl, SqL.of h1⟩⟩
    · rename_i es ho
      cases e
      obtain ⟨vs, h1, g⟩ := S.ob i a _ ea ho
      exact ⟨a, vs, rfl, g, .inl ⟨i, rfl, ro_sq h1⟩⟩
    · cases e
  | non => cases e
  | bl _ => cases e
  | int _ => cases e
  | str _ => cases e
theorem ints_ok {ρ : List Addr} {H : Hp} : ∀ {ds : List Mp.D} {vs : List V} {ns : List Int}, RelDs C.K ρ H ds vs → Mp.intsOf ds = some ns → vs = ns.map V.int
  | [], vs, ns, r, e => by have : vs = [] := by simpa only [RelDs] using r
                           cases e; subst this; rfl
  | d :: ds, vs, ns, r, e => by
    obtain ⟨v, us, rfl, r1, r2⟩ := r.inv_cons
    cases d <;> simp only [Mp.intsOf] at e <;> (try cases e)
    rename_i i
    cases q : Mp.intsOf ds with
    | none => rw [q] at e; cases e
    | some l =>
      rw [q] at e
      cases e
      rw [relInt r1, ints_ok r2 q]
      rfl
theorem sumI_sum : ∀ l : List Int, Mp.sumI l = l.sum
  | [] => rfl
  | a :: l => by rw [Mp.sumI, List.sum_cons, sumI_sum l]
theorem maxI_ok : ∀ (l : List Int) (m : Int), Mp.maxI m l ∈ m :: l ∧ ∀ y ∈ m :: l, y ≤ Mp.maxI m l
  | [], m => by simp [Mp.maxI]
  | a :: l, m => by
    unfold Mp.maxI
    by_cases hq : a > m
    · rw [if_pos hq]
      obtain ⟨h1, h2⟩ := maxI_ok l a
      have h3 := h2 _ List.mem_cons_self
      refine ⟨List.mem_cons_of_mem _ h1, fun y hy => ?_⟩
      rcases List.mem_cons.mp hy with rfl | hy
      · omega
      · exact h2 y hy
    · rw [if_neg hq]
      obtain ⟨h1, h2⟩ := maxI_ok l m
      have h3 := h2 _ List.mem_cons_self
      refine ⟨?_, fun y hy => ?_⟩
      · rcases List.mem_cons.mp h1 with q | q
        · rw [q]; simp
        · simp [q]
      · rcases List.mem_cons.mp hy with rfl | hy
        · exact h3
        · rcases List.mem_cons.mp hy with rfl | hy
          · omega
          · exact h2 y (List.mem_cons_of_mem _ hy)
theorem minI_ok : ∀ (l : List Int) (m : Int), Mp.minI m l ∈ m :: l ∧ ∀ y ∈ m :: l, Mp.minI m l ≤ y
  | [], m => by simp [Mp.minI]
  | a :: l, m => by
    unfold Mp.minI
    by_cases hq : a < m
    · rw [if_pos hq]
      obtain ⟨h1, h2⟩ := minI_ok l a
      have h3 := h2 _ List.mem_cons_self
      refine ⟨List.mem_cons_of_mem _ h1, fun y hy => ?_⟩
      rcases List.mem_cons.mp hy with rfl | hy
      · omega
      · exact h2 y hy
    · rw [if_neg hq]
      obtain ⟨h1, h2⟩ := minI_ok l m
      have h3 := h2 _ List.mem_cons_self
      refine ⟨?_, fun y hy => ?_⟩
      · rcases List.mem_cons.mp h1 with q | q
        · rw [q]; simp
        · simp [q]
      · rcases List.mem_cons.mp hy with rfl | hy
        · exact h3
        · rcases List.mem_cons.mp hy with rfl | hy
          · omega
          · exact h2 y (List.mem_cons_of_mem _ hy)
theorem so_abs : CallR X (.builtin "abs") (rF C (Mp.biop .abs)) := by
  intro pins s σ H xs us Q I r q
  obtain ⟨ρ, h, ds, S, g, z, h', ev, k⟩ := q
  unfold Mp.biop at ev
  split at ev <;> (try cases ‹Mp.Bi.abs = _›)
  · obtain ⟨v, rfl, r1⟩ := g.inv1
    obtain ⟨rfl, rfl⟩ := ok_inj ev
    exact call_abs pins s σ H _ us Q I r ⟨_, by rw [relInt r1], fin_flat k S (intRel _)⟩
  · cases ev
theorem so_int : CallR X (.type "int") (rF C (Mp.biop .int)) := by
  intro pins s σ H xs us Q I r q
  obtain ⟨ρ, h, ds, S, g, z, h', ev, k⟩ := q
  unfold Mp.biop at ev
  split at ev <;> (try cases ‹Mp.Bi.int = _›)
  · obtain ⟨v, rfl, r1⟩ := g.inv1
    obtain ⟨rfl, rfl⟩ := ok_inj ev
    exact call_int1 pins s σ H _ us Q I r (.inl ⟨_, by rw [relInt r1], fin_flat k S (intRel _)⟩)
  · obtain ⟨v, rfl, r1⟩ := g.inv1
    obtain ⟨rfl, rfl⟩ := ok_inj ev
    exact call_int1 pins s σ H _ us Q I r (.inr ⟨_, by rw [relBl r1], fin_flat k S (intRel _)⟩)
  · cases ev
theorem so_min2 (hc : X.calm = true) : CallR X (.builtin "min") (rF C (Mp.biop .min2)) := by
  intro pins s σ H xs us Q I r q
  obtain ⟨ρ, h, ds, S, g, z, h', ev, k⟩ := q
  unfold Mp.biop at ev
  split at ev <;> (try cases ‹Mp.Bi.min2 = _›)
  · obtain ⟨v, u, rfl, r1, r2⟩ := g.inv2
    obtain ⟨rfl, rfl⟩ := ok_inj ev
    exact call_min2 hc pins s σ H _ us Q I r ⟨_, _, by rw [relInt r1, relInt r2], fin_flat k S (intRel _)⟩
  · cases ev
theorem so_max2 (hc : X.calm = true) : CallR X (.builtin "max") (rF C (Mp.biop .max2)) := by
  intro pins s σ H xs us Q I r q
  obtain ⟨ρ, h, ds, S, g, z, h', ev, k⟩ := q
  unfold Mp.biop at ev
  split at ev <;> (try cases ‹Mp.Bi.max2 = _›)
  · obtain ⟨v, u, rfl, r1, r2⟩ := g.inv2
    obtain ⟨rfl, rfl⟩ := ok_inj ev
    exact call_max2 hc pins s σ H _ us Q I r ⟨_, _, by rw [relInt r1, relInt r2], fin_flat k S (intRel _)⟩
  · cases ev
theorem so_len (hK : X.K = C.K) : CallR X (.builtin "len") (rF C (Mp.biop .len)) := by
  intro pins s σ H xs us Q I r q
  obtain ⟨ρ, h, ds, S, g, z, h', ev, k⟩ := q
  unfold Mp.biop at ev
  split at ev <;> (try cases ‹Mp.Bi.len = _›)
  · rename_i d
    obtain ⟨v, rfl, r1⟩ := g.inv1
    obtain ⟨n, e, rfl, rfl⟩ := optD_ok ev
    have fin := fin_flat k S (intRel (n : Int))
    cases d with
    | tup ds =>
      simp only [Mp.len] at e
      cases e
      obtain ⟨a, vs, rfl, t, g⟩ := relTup r1
      exact call_len pins s σ H _ us Q I r ⟨_, _, rfl, .inr ⟨vs, by rw [hK]; exact t.sq, rfl⟩, by rw [g.length]; exact fin⟩
    | str x =>
      simp only [Mp.len] at e
      split at e
      · rename_i hl
        cases e
        exact call_len pins s σ H _ us Q I r ⟨.str (strV x), x.length, by rw [relStr r1], ⟨by rw [strV_len]; exact lim_line hl, (strV_len x).symm⟩, fin⟩
      · cases e
    | ref i =>
      obtain ⟨a, rfl, ea⟩ := relRef r1
      simp only [Mp.len] at e
      split at e
      · rename_i ds ho
        cases e
        obtain ⟨vs, h1, g⟩ := S.lst ea ho
        exact call_len pins s σ H _ us Q I r ⟨_, _, rfl, .inl ⟨vs, SqL.of h1, rfl⟩, by rw [g.length]; exact fin⟩
      · rename_i ds ho
        cases e
        obtain ⟨vs, h1, g⟩ := S.ob i a _ ea ho
        exact call_len pins s σ H _ us Q I r ⟨_, _, rfl, .inl ⟨vs, by rw [hK]; exact ro_sq h1, rfl⟩, by rw [g.length]; exact fin⟩
      · rename_i kvs ho
        cases e
        obtain ⟨o, h1, g⟩ := S.ob i a _ ea ho
        rcases g with ⟨ks, rfl, g⟩ | ⟨ks, rfl, g⟩
        · obtain ⟨u1, rfl, ru⟩ := vals1 r
          cases ru
          refine d_len I (.inl h1) fun t s' I' => ⟨.int _, H, I', ⟨t, rfl⟩, ?_⟩
          rw [← g.1]
          exact fin
        · exact g.elim
      · rename_i kvs ho
        cases e
        obtain ⟨ob, o, h1, g⟩ := S.ob i a _ ea ho
        rcases g with ⟨ks, rfl, g⟩ | ⟨ks, rfl, g⟩
        · obtain ⟨u1, rfl, ru⟩ := vals1 r
          cases ru
          refine d_len I (.inr ⟨ob, h1⟩) fun t s' I' => ⟨.int _, H, I', ⟨t, rfl⟩, ?_⟩
          rw [← g.1]
          exact fin
        · exact g.elim
      · cases e
    | non => cases e
    | bl _ => cases e
    | int _ => cases e
  · cases ev
theorem so_tuple (hK : X.K = C.K) : CallR X (.type "tuple") (rF C (Mp.biop .tuple)) := by
  intro pins s σ H xs us Q I r q
  obtain ⟨ρ, h, ds, S, g, z, h', ev, k⟩ := q
  unfold Mp.biop at ev
  split at ev <;> (try cases ‹Mp.Bi.tuple = _›)
  · rename_i d
    obtain ⟨v, rfl, r1⟩ := g.inv1
    obtain ⟨es, e, rfl, rfl⟩ := optD_ok ev
    obtain ⟨p, vs, rfl, g, t⟩ := items_ok S r1 e
    refine call_tuple_of pins s σ H _ us Q I r ⟨p, vs, rfl, ?_⟩
    rcases t with ⟨a, _, t⟩ | ⟨_, t⟩
    · exact .inl ⟨by rw [hK]; exact t, fun l nl => fin_tup k S nl g⟩
    · exact .inr ⟨by rw [hK]; exact t.sq, fin_flat k S (tupRel t g)⟩
  · cases ev
theorem key_rel {K : PySem.W.Frag} {ρ : List Addr} {H : Hp} {d : Mp.D} {k : Key} (e : keyOf d = some k) : RelD K ρ H d (kV k) := by
  cases d with
  | int i => cases e; simp only [RelD, kV]
  | str s => cases e; simp only [RelD, kV]
  | _ => cases e
theorem keys_rel {K : PySem.W.Frag} {ρ : List Addr} {H : Hp} : ∀ {kvs : List (Mp.D × Mp.D)} {ks : List (Key × V)}, RelKK K ρ H kvs ks → RelDs K ρ H (kvs.map (·.1)) (ks.map fun kv => kV kv.1)
  | [], ks, r => by
    have : ks = [] := List.eq_nil_of_length_eq_zero r.1.symm
    subst this
    exact .nil
  | p :: kvs, ks, r => by
    cases ks with
    | nil => have := r.1; simp at this
    | cons q ks =>
      exact .cons (key_rel (r.2 0 p q rfl rfl).1) (keys_rel ⟨by simpa using r.1, fun i a b h1 h2 => r.2 (i + 1) a b (by simpa using h1) (by simpa using h2)⟩)
theorem int_keys {K : PySem.W.Frag} {ρ : List Addr} {H : Hp} : ∀ {kvs : List (Mp.D × Mp.D)} {ks : List (Key × V)} {l : List Int}, RelKK K ρ H kvs ks → Mp.intsOf (kvs.map (·.1)) = some l → ks.map (·.1) = l.map Sum.inl
  | [], ks, l, r, e => by
    have : ks = [] := List.eq_nil_of_length_eq_zero r.1.symm
    subst this
    cases e
    rfl
  | (d, v) :: kvs, ks, l, r, e => by
    cases ks with
    | nil => have := r.1; simp at this
    | cons q ks =>
      have h1 := (r.2 0 (d, v) q rfl rfl).1
      cases d with
      | int i =>
        simp only [List.map_cons, Mp.intsOf] at e
        obtain ⟨l', e1, rfl⟩ := Option.map_eq_some_iff.mp e
        have h2 : q.1 = .inl i := (Option.some.inj (show some (Sum.inl i) = some q.1 from h1)).symm
        rw [List.map_cons, List.map_cons, h2, int_keys ⟨by simpa using r.1, fun i a b h1 h2 => r.2 (i + 1) a b (by simpa using h1) (by simpa using h2)⟩ e1]
      | _ => simp [Mp.intsOf] at e
theorem ints_back {K : PySem.W.Frag} {ρ : List Addr} {H : Hp} : ∀ l : List Int, RelDs K ρ H (l.map Mp.D.int) (l.map V.int)
  | [] => .nil
  | i :: l => .cons (by simp only [RelD]) (ints_back l)
theorem so_list (hK : X.K = C.K) (hc : X.calm = true) : CallR X (.type "list") (rF C (Mp.biop .list)) := by
  intro pins s σ H xs us Q I r q
  obtain ⟨ρ, h, ds, S, g, z, h', ev, k⟩ := q
  unfold Mp.biop at ev
  split at ev <;> (try cases ‹Mp.Bi.list = _›)
  · rename_i d
    obtain ⟨v, rfl, r1⟩ := g.inv1
    split at ev
    · rename_i es e
      obtain ⟨rfl, rfl⟩ := ok_inj ev
      obtain ⟨p, vs, rfl, g, t⟩ := items_ok S r1 e
      refine call_list_of pins s σ H _ us Q I r ⟨p, vs, rfl, ?_, fun l nl => fin_lst k S nl g⟩
      rcases t with ⟨a, _, t⟩ | ⟨_, t⟩
      · exact .inl (by rw [hK]; exact t)
      · exact .inr (by rw [hK]; exact t.sq)
    · split at ev
      · rename_i i
        split at ev
        · rename_i kvs ho
          obtain ⟨rfl, rfl⟩ := ok_inj ev
          obtain ⟨a, rfl, ea⟩ := relRef r1
          obtain ⟨o, h1, g⟩ := S.ob _ a _ ea ho
          rcases g with ⟨ks, rfl, g⟩ | ⟨ks, _, g⟩
          · exact call_listD hc pins s σ H _ us Q I r ⟨a, ks, rfl, .inl h1, fun p np => fin_lst k S np (keys_rel g)⟩
          · exact g.elim
        · cases ev
      · cases ev
  · cases ev
theorem itemsR {ρ : List Addr} {h : Mp.Heap} {H : Hp} (S : Sim C ρ h H) {i : Nat} {x : V} {ds : List Mp.D} (r : RelD C.K ρ H (.ref i) x) (e : Mp.itemsOf (.ref i) h = some ds) : ∃ p vs, x = .ref p ∧ RelDs C.K ρ H ds vs ∧ SqL C.K H p vs := by
  obtain ⟨p, vs, rfl, g, t⟩ := items_ok S r e
  rcases t with ⟨a, _, t⟩ | ⟨q, t⟩
  · exact ⟨p, vs, rfl, g, t⟩
  · cases q
theorem so_sorted (hK : X.K = C.K) (hc : X.calm = true) : CallR X (.builtin "sorted") (rF C (Mp.biop .sorted)) := by
  intro pins s σ H xs us Q I r q
  obtain ⟨ρ, h, ds, S, g, z, h', ev, k⟩ := q
  unfold Mp.biop at ev
  split at ev <;> (try cases ‹Mp.Bi.sorted = _›)
  · rename_i i
    obtain ⟨v, rfl, r1⟩ := g.inv1
    obtain ⟨a, rfl, ea⟩ := relRef r1
    split at ev
    · rename_i es ho
      split at ev
      · rename_i l hl
        obtain ⟨rfl, rfl⟩ := ok_inj ev
        obtain ⟨vs, h1, g⟩ := S.lst ea ho
        have := ints_ok g hl
        subst this
        refine cr_sortedI pins s σ H _ us Q I r ⟨a, l, rfl, SqL.of h1, fun ns' p hp hs np => ?_⟩
        have e : ns' = Mp.sortI l := Mp.sorted_uniq (hp.trans (Mp.sortI_perm l).symm) hs (Mp.sortI_sorted l)
        subst e
        exact fin_lst k S np (ints_back _)
      · cases ev
    · rename_i kvs ho
      split at ev
      · rename_i l hl
        split at ev
        · rename_i h64
          obtain ⟨rfl, rfl⟩ := ok_inj ev
          obtain ⟨o, h1, g⟩ := S.ob i a _ ea ho
          rcases g with ⟨ks, rfl, g⟩ | ⟨ks, _, g⟩
          · refine call_sortedDI hc pins s σ H _ us Q I r ⟨a, ks, l, rfl, .inl h1, int_keys g hl, h64, fun ys p hp hs np => ?_⟩
            have e : ys = Mp.sortI l := Mp.sorted_uniq (hp.trans (Mp.sortI_perm l).symm) hs (Mp.sortI_sorted l)
            subst e
            exact fin_lst k S np (ints_back _)
          · exact g.elim
        · cases ev
      · cases ev
    · cases ev
  · cases ev
theorem so_sum (hK : X.K = C.K) (hc : X.calm = true) : CallR X (.builtin "sum") (rF C (Mp.biop .sum)) := by
  intro pins s σ H xs us Q I r q
  obtain ⟨ρ, h, ds, S, g, z, h', ev, k⟩ := q
  unfold Mp.biop at ev
  split at ev <;> (try cases ‹Mp.Bi.sum = _›)
  · rename_i d
    obtain ⟨v, rfl, r1⟩ := g.inv1
    obtain ⟨ns, e, rfl, rfl⟩ := optD_ok ev
    cases q : Mp.itemsOf (.ref d) h' with
    | none => rw [q] at e; cases e
    | some es =>
      rw [q] at e
      obtain ⟨p, vs, rfl, g, t⟩ := itemsR S r1 q
      refine cr_sum hc pins s σ H _ us Q I r ⟨p, ns, rfl, by rw [hK, ← ints_ok g e]; exact t, ?_⟩
      rw [← sumI_sum]
      exact fin_flat k S (intRel _)
  · cases ev
theorem bools_ok {ρ : List Addr} {H : Hp} : ∀ {ds : List Mp.D} {vs : List V} {b : Bool}, RelDs C.K ρ H ds vs → (Mp.allB ds = some b → ∃ bs : List Bool, vs = bs.map V.bl ∧ bs.all id = b) ∧ (Mp.anyB ds = some b → ∃ bs : List Bool, vs = bs.map V.bl ∧ bs.any id = b)
  | [], vs, b, r => by
    have : vs = [] := by simpa only [RelDs] using r
    subst this
    exact ⟨fun e => ⟨[], rfl, by cases e; rfl⟩, fun e => ⟨[], rfl, by cases e; rfl⟩⟩
  | d :: ds, vs, b, r => by
    obtain ⟨v, us, rfl, r1, r2⟩ := r.inv_cons
    cases d with
    | bl c =>
      have hv := relBl r1
      subst hv
      refine ⟨fun e => ?_, fun e => ?_⟩
      · simp only [Mp.allB] at e
        cases q : Mp.allB ds with
        | none => rw [q] at e; cases e
        | some b' =>
          rw [q] at e
          obtain ⟨bs, rfl, eb⟩ := (bools_ok r2).1 q
          refine ⟨c :: bs, rfl, ?_⟩
          cases e
          simp only [List.all_cons, id, eb]
      · simp only [Mp.anyB] at e
        cases q : Mp.anyB ds with
        | none => rw [q] at e; cases e
        | some b' =>
          rw [q] at e
          obtain ⟨bs, rfl, eb⟩ := (bools_ok r2).2 q
          refine ⟨c :: bs, rfl, ?_⟩
          cases e
          simp only [List.any_cons, id, eb]
    | _ => exact ⟨fun e => by simp [Mp.allB] at e, fun e => by simp [Mp.anyB] at e⟩
theorem so_all1 (hK : X.K = C.K) (hc : X.calm = true) : CallR X (.builtin "all") (rF C (Mp.biop .all1)) := by
  intro pins s σ H xs us Q I r q
  obtain ⟨ρ, h, ds, S, g, z, h', ev, k⟩ := q
  unfold Mp.biop at ev
  split at ev <;> (try cases ‹Mp.Bi.all1 = _›)
  · rename_i d
    obtain ⟨v, rfl, r1⟩ := g.inv1
    obtain ⟨ns, e, rfl, rfl⟩ := optD_ok ev
    cases q : Mp.itemsOf (.ref d) h' with
    | none => rw [q] at e; cases e
    | some es =>
      rw [q] at e
      obtain ⟨p, vs, rfl, g, t⟩ := itemsR S r1 q
      obtain ⟨bs, rfl, eb⟩ := (bools_ok g).1 e
      refine cr_all hc pins s σ H _ us Q I r ⟨p, bs, rfl, by rw [hK]; exact t, ?_⟩
      rw [eb]
      exact fin_flat k S (blRel _)
  · cases ev
theorem so_any1 (hK : X.K = C.K) (hc : X.calm = true) : CallR X (.builtin "any") (rF C (Mp.biop .any1)) := by
  intro pins s σ H xs us Q I r q
  obtain ⟨ρ, h, ds, S, g, z, h', ev, k⟩ := q
  unfold Mp.biop at ev
  split at ev <;> (try cases ‹Mp.Bi.any1 = _›)
  · rename_i d
    obtain ⟨v, rfl, r1⟩ := g.inv1
    obtain ⟨ns, e, rfl, rfl⟩ := optD_ok ev
    cases q : Mp.itemsOf (.ref d) h' with
    | none => rw [q] at e; cases e
    | some es =>
      rw [q] at e
      obtain ⟨p, vs, rfl, g, t⟩ := itemsR S r1 q
      obtain ⟨bs, rfl, eb⟩ := (bools_ok g).2 e
      refine cr_any hc pins s σ H _ us Q I r ⟨p, bs, rfl, by rw [hK]; exact t, ?_⟩
      rw [eb]
      exact fin_flat k S (blRel _)
  · cases ev
theorem so_max1 (hK : X.K = C.K) (hc : X.calm = true) : CallR X (.builtin "max") (rF C (Mp.biop .max1)) := by
  intro pins s σ H xs us Q I r q
  obtain ⟨ρ, h, ds, S, g, z, h', ev, k⟩ := q
  unfold Mp.biop at ev
  split at ev <;> (try cases ‹Mp.Bi.max1 = _›)
  · rename_i d
    obtain ⟨v, rfl, r1⟩ := g.inv1
    split at ev
    · rename_i i l e
      obtain ⟨rfl, rfl⟩ := ok_inj ev
      cases q : Mp.itemsOf (.ref d) h with
      | none => rw [q] at e; cases e
      | some es =>
        rw [q] at e
        obtain ⟨p, vs, rfl, g, t⟩ := itemsR S r1 q
        refine cr_max hc pins s σ H _ us Q I r ⟨p, i :: l, rfl, by rw [hK, ← ints_ok g e]; exact t, by simp, fun m hm hle => ?_⟩
        obtain ⟨h1, h2⟩ := maxI_ok l i
        have : m = Mp.maxI i l := by
          have a1 := hle _ h1
          have a2 := h2 _ hm
          omega
        rw [this]
        exact fin_flat k S (intRel _)
    · cases ev
  · cases ev
theorem so_min1 (hK : X.K = C.K) (hc : X.calm = true) : CallR X (.builtin "min") (rF C (Mp.biop .min1)) := by
  intro pins s σ H xs us Q I r q
  obtain ⟨ρ, h, ds, S, g, z, h', ev, k⟩ := q
  unfold Mp.biop at ev
  split at ev <;> (try cases ‹Mp.Bi.min1 = _›)
  · rename_i d
    obtain ⟨v, rfl, r1⟩ := g.inv1
    split at ev
    · rename_i i l e
      obtain ⟨rfl, rfl⟩ := ok_inj ev
      cases q : Mp.itemsOf (.ref d) h with
      | none => rw [q] at e; cases e
      | some es =>
        rw [q] at e
        obtain ⟨p, vs, rfl, g, t⟩ := itemsR S r1 q
        refine cr_min hc pins s σ H _ us Q I r ⟨p, i :: l, rfl, by rw [hK, ← ints_ok g e]; exact t, by simp, fun m hm hle => ?_⟩
        obtain ⟨h1, h2⟩ := minI_ok l i
        have : m = Mp.minI i l := by
          have a1 := hle _ h1
          have a2 := h2 _ hm
          omega
        rw [this]
        exact fin_flat k S (intRel _)
    · cases ev
  · cases ev
end
end MpS
end
section
set_option Elab.async false
set_option linter.all false
set_option maxRecDepth 100000
set_option maxHeartbeats 4000000
namespace MpS
open PySem L2
section
variable {C : Cf} {X : Cx} {W : WX} {pos : Pos} {cf : Nat → List Mp.D → Mp.Heap → Mp.Res Mp.D}
/-- a list's method by the interpreter -/
def rML (C : Cf) (b : Mp.Bm) : V → List V → Hp → VK → Prop := fun x vs H Q => ∃ ρ h a ds ys, Sim C ρ h H ∧ RelD C.K ρ H (.ref a) x ∧ RelDs C.K ρ H ys vs ∧ h[a]? = some (.lst ds) ∧ ∃ z h', Mp.bmL b a ds ys h = .ok z h' ∧ ∀ ρ' H' v, Le ρ ρ' → Kp H H' → Sim C ρ' h' H' → RelD C.K ρ' H' z v → Q v H'
def rMD (C : Cf) (b : Mp.Bm) : V → List V → Hp → VK → Prop := fun x vs H Q => ∃ ρ h a kvs ys, Sim C ρ h H ∧ RelD C.K ρ H (.ref a) x ∧ RelDs C.K ρ H ys vs ∧ h[a]? = some (.dct kvs) ∧ ∃ z h', Mp.bmD b a kvs ys h = .ok z h' ∧ ∀ ρ' H' v, Le ρ ρ' → Kp H H' → Sim C ρ' h' H' → RelD C.K ρ' H' z v → Q v H'
/-- the end: a list is written -/
theorem fin_setL {ρ : List Addr} {h : Mp.Heap} {H : Hp} {i : Nat} {a : Addr} {ds es : List Mp.D} {vs us : List V} {z : Mp.D} {v : V} {Q : VK} (S : Sim C ρ h H) (ea : ρ[i]? = some a) (ho : h[i]? = some (.lst ds)) (ha : H a = some (.lst vs)) (r : RelDs C.K ρ H es us)
    (k : ∀ ρ' H' v, Le ρ ρ' → Kp H H' → Sim C ρ' (h.set i (.lst es)) H' → RelD C.K ρ' H' z v → Q v H') (rz : RelD C.K ρ H z v) : Q v (upd H a (.lst us)) := by
  have kp : Kp H (upd H a (.lst us)) := Kp.upd fun u e => by rw [ha] at e; cases e; rfl
  refine k ρ _ v (Le.refl _) kp (S.put ea (fun ds e => by rw [ho] at e; cases e; rfl) kp (fun b hb => upd_ne hb) ⟨us, upd_same, RelDs.mono (Le.refl _) kp _ _ r⟩) (RelD.mono (Le.refl _) kp _ _ rz)
theorem fin_setD {ρ : List Addr} {h : Mp.Heap} {H : Hp} {i : Nat} {a : Addr} {kvs kvs' : List (Mp.D × Mp.D)} {o o' : HO} {z : Mp.D} {v : V} {Q : VK} (S : Sim C ρ h H) (ea : ρ[i]? = some a) (ho : h[i]? = some (.dct kvs)) (ha : H a = some o) (nt : Sta o = false) (r : RelDict C.K ρ H kvs' o')
    (k : ∀ ρ' H' v, Le ρ ρ' → Kp H H' → Sim C ρ' (h.set i (.dct kvs')) H' → RelD C.K ρ' H' z v → Q v H') (rz : RelD C.K ρ H z v) : Q v (upd H a o') := by
  have kp : Kp H (upd H a o') := Kp.upd fun u e => by rw [ha] at e; rw [← Option.some.inj e]; exact nt
  refine k ρ _ v (Le.refl _) kp (S.put ea (fun ds e => by rw [ho] at e; cases e; rfl) kp (fun b hb => upd_ne hb) ⟨o', upd_same, r.mono (Le.refl _) kp⟩) (RelD.mono (Le.refl _) kp _ _ rz)
theorem place_ix {i : Int} {n k : Nat} (e : Mp.place i n = some k) : ixN n i = some k := e
theorem RelDs.dropLast {K : PySem.W.Frag} {ρ : List Addr} {H : Hp} {ds : List Mp.D} {vs : List V} (h : RelDs K ρ H ds vs) : RelDs K ρ H ds.dropLast vs.dropLast := by
  rw [List.dropLast_eq_take, List.dropLast_eq_take, h.length]
  exact h.take _
theorem RelDs.eraseIdx {K : PySem.W.Frag} {ρ : List Addr} {H : Hp} {ds : List Mp.D} {vs : List V} (k : Nat) (h : RelDs K ρ H ds vs) : RelDs K ρ H (ds.eraseIdx k) (vs.eraseIdx k) := by
  rw [List.eraseIdx_eq_take_drop_succ, List.eraseIdx_eq_take_drop_succ]
  exact (h.take _).append (h.drop _)
theorem bmL_ok {b : Mp.Bm} {a : Nat} {ds ys : List Mp.D} {h h' : Mp.Heap} {z : Mp.D} (e : Mp.bmL b a ds ys h = .ok z h') : True := trivial
theorem sm_append : MtR X "list.append" (rML C .append) := by
  intro pins s σ H x vs v us Q I rx rv q
  obtain ⟨ρ, h, i, ds, ys, S, r1, g, ho, z, h', ev, k⟩ := q
  obtain ⟨a, rfl, ea⟩ := relRef r1
  obtain ⟨xs, h1, gx⟩ := S.lst ea ho
  unfold Mp.bmL at ev
  split at ev <;> (try cases ‹Mp.Bm.append = _›) <;> (try (cases ev; done))
  split at ev
  · rename_i hl
    obtain ⟨rfl, rfl⟩ := ok_inj ev
    obtain ⟨u, rfl, ru⟩ := g.inv1
    exact mt_append pins s σ H _ _ v us Q I rx rv ⟨a, xs, u, rfl, rfl, h1, by rw [gx.length]; exact lim_line' hl, fin_setL S ea ho h1 (gx.append (.one ru)) k nonRel⟩
  · cases ev
theorem sm_pop0 : MtR X "list.pop" (rML C .pop0) := by
  intro pins s σ H x vs v us Q I rx rv q
  obtain ⟨ρ, h, i, ds, ys, S, r1, g, ho, z, h', ev, k⟩ := q
  obtain ⟨a, rfl, ea⟩ := relRef r1
  obtain ⟨xs, h1, gx⟩ := S.lst ea ho
  unfold Mp.bmL at ev
  split at ev <;> (try cases ‹Mp.Bm.pop0 = _›) <;> (try (cases ev; done))
  split at ev
  · rename_i y hy
    obtain ⟨rfl, rfl⟩ := ok_inj ev
    have hv : vs = [] := by simpa only [RelDs] using g
    subst hv
    obtain ⟨w, ew, rw'⟩ := gx.get hy
    exact mt_pop pins s σ H _ _ v us Q I rx rv ⟨a, xs, w, rfl, rfl, h1, by rw [gx.length]; exact ew, fin_setL S ea ho h1 gx.dropLast k rw'⟩
  · cases ev
theorem sm_pop1 : MtR X "list.pop" (rML C .pop1) := by
  intro pins s σ H x vs v us Q I rx rv q
  obtain ⟨ρ, h, i, ds, ys, S, r1, g, ho, z, h', ev, k⟩ := q
  obtain ⟨a, rfl, ea⟩ := relRef r1
  obtain ⟨xs, h1, gx⟩ := S.lst ea ho
  unfold Mp.bmL at ev
  split at ev <;> (try cases ‹Mp.Bm.pop1 = _›) <;> (try (cases ev; done))
  split at ev
  · rename_i j hj
    split at ev
    · rename_i y hy
      obtain ⟨rfl, rfl⟩ := ok_inj ev
      obtain ⟨u, rfl, ru⟩ := g.inv1
      obtain ⟨w, ew, rw'⟩ := gx.get hy
      obtain ⟨q1, q2, q3, q4⟩ := ixN_seq (place_ix hj)
      have hz : xs.length ≤ sizeLine := (I.list (SqL.of h1)).choose_spec.2.2
      have hn := line63
      rw [gx.length] at hz
      exact mt_popAt pins s σ H _ _ v us Q I rx rv ⟨a, xs, _, j, w, rfl, by rw [relInt ru], h1, by omega, by omega, by rw [gx.length]; exact q1, ew, fin_setL S ea ho h1 (gx.eraseIdx _) k rw'⟩
    · cases ev
  · cases ev
theorem sm_reverse : MtR X "list.reverse" (rML C .reverse) := by
  intro pins s σ H x vs v us Q I rx rv q
  obtain ⟨ρ, h, i, ds, ys, S, r1, g, ho, z, h', ev, k⟩ := q
  obtain ⟨a, rfl, ea⟩ := relRef r1
  obtain ⟨xs, h1, gx⟩ := S.lst ea ho
  unfold Mp.bmL at ev
  split at ev <;> (try cases ‹Mp.Bm.reverse = _›) <;> (try (cases ev; done))
  obtain ⟨rfl, rfl⟩ := ok_inj ev
  have hv : vs = [] := by simpa only [RelDs] using g
  subst hv
  exact mt_reverse pins s σ H _ _ v us Q I rx rv ⟨a, xs, rfl, rfl, h1, fin_setL S ea ho h1 gx.reverse k nonRel⟩
theorem sm_insert : MtR X "list.insert" (rML C .insert) := by
  intro pins s σ H x vs v us Q I rx rv q
  obtain ⟨ρ, h, i, ds, ys, S, r1, g, ho, z, h', ev, k⟩ := q
  obtain ⟨a, rfl, ea⟩ := relRef r1
  obtain ⟨xs, h1, gx⟩ := S.lst ea ho
  unfold Mp.bmL at ev
  split at ev <;> (try cases ‹Mp.Bm.insert = _›) <;> (try (cases ev; done))
  split at ev
  · rename_i hc
    simp only [Bool.and_eq_true, decide_eq_true_eq] at hc
    obtain ⟨rfl, rfl⟩ := ok_inj ev
    obtain ⟨u, w, rfl, ru, rw'⟩ := g.inv2
    have sm := smallI_ok hc.1.2
    exact mt_insert pins s σ H _ _ v us Q I rx rv ⟨a, xs, _, w, rfl, by rw [relInt ru], h1, by rw [gx.length]; exact lim_line' hc.2, hc.1.1, by omega, fin_setL S ea ho h1 (((gx.take _).append (.one rw')).append (gx.drop _)) k nonRel⟩
  · cases ev
/-- list.extend(a tuple) -/
theorem list_extend_tupleW (l : Addr) (items : Array Value) (n : Nat) (b : Addr) (items2 : Array Value) (n2 : Nat) (dd : Option Addr) (sl : Array (Option Value)) (hs0 : ¬(!items.isEmpty && Builtin.List.listTooLong (items.size + items2.size)) = true) (hs1 : items.size ≤ sizeLine) (hs2 : items.size + items2.size ≤ sizeLine + 1) :
    Meets (Builtin.«list.extend» ⟨[.ref l, .ref b], []⟩) (fun _ R s => s.heap.get? l = some { cls := .type "list", dict := none, data := .seq items n, slots := #[] } ∧ s.heap.get? b = some { cls := .type "tuple", dict := dd, data := .seq items2 n2, slots := sl } ∧ R (.ok (.ret Value.none)) { s with heap := s.heap.update l (Obj.mapSeq fun x => x ++ items2), toks := s.toks }) :=
  .of_wp fun prog w A R s h => by
    obtain ⟨hp, g, d, tk, os⟩ := s; obtain ⟨hl, hb, h⟩ := h; have f1 := AutoSeq1.idx_int; have f2 := AutoSeq1.sub_tuple_tuple; have f3 := AutoSeq1.sub_list_list; have f4 := AutoSeq1.sub_tuple_list; have f5 := AutoSeq1.sub_list_tuple;
    have hz' : (items ++ items2).size ≤ sizeLine + 1 := by rw [Array.size_append]; exact hs2
    wp_walk using (wpAny_updateSeq hl rfl (hz := hs1) (_hz' := hz')), PySem.AutoSeq1.wpAny_loadPart' hl, PySem.AutoSeq1.wpAny_loadPart' hb; exact ⟨_, rfl, h⟩
theorem mt_extendT : MtR X "list.extend" (fun x vs H Q => ∃ l b xs zs, x = .ref l ∧ vs = [.ref b] ∧ H l = some (.lst xs) ∧ SqT X.K H b zs ∧ xs.length + zs.length ≤ sizeLine ∧ Q .non (upd H l (.lst (xs ++ zs)))) := by
  intro pins s σ H x vs v us Q I rx rv h
  obtain ⟨l, b, xs, zs, rfl, rfl, hH, hB, hz, q⟩ := h
  cases rx
  obtain ⟨u, rfl, ru⟩ := rv.one
  cases ru
  obtain ⟨z, its, n, r, hl, e⟩ := I.lstM hH
  obtain ⟨its2, r2, ⟨⟨cls, dd, data, sl⟩, e2, hc2, n2, hd2⟩, z2⟩ := I.tuple hB
  simp only at hc2 hd2
  subst hc2 hd2
  have hl2 := r2.length
  have hsz : its.toArray.size + its2.toArray.size ≤ sizeLine := by rw [List.size_toArray, List.size_toArray]; omega
  have hlong : ¬ (!its.toArray.isEmpty && Builtin.List.listTooLong (its.toArray.size + its2.toArray.size)) = true := by
    rw [notLongL hsz, Bool.and_false]
    exact Bool.false_ne_true
  refine call_meets F.slot_list_extend ⟨_, e, rfl⟩ F.entry_list_extend (F.args_list_extend_2 _ _)
    (list_extend_tupleW l its.toArray n b its2.toArray n2 dd sl hlong (by rw [List.size_toArray]; omega) (by omega)) ⟨e, e2, ?_⟩
  refine ⟨.non, _, I.lset (its' := its ++ its2) hH e (by simp) (r.append r2) ?_, rfl, q⟩
  rw [List.length_append]
  omega
theorem sm_extend (hK : X.K = C.K) : MtR X "list.extend" (rML C .extend) := by
  intro pins s σ H x vs v us Q I rx rv q
  obtain ⟨ρ, h, i, ds, ys, S, r1, g, ho, z, h', ev, k⟩ := q
  obtain ⟨a, rfl, ea⟩ := relRef r1
  obtain ⟨xs, h1, gx⟩ := S.lst ea ho
  unfold Mp.bmL at ev
  split at ev <;> (try cases ‹Mp.Bm.extend = _›) <;> (try (cases ev; done))
  rename_i d
  split at ev
  · rename_i es he
    split at ev
    · rename_i hl
      obtain ⟨rfl, rfl⟩ := ok_inj ev
      obtain ⟨u, rfl, ru⟩ := g.inv1
      cases d with
      | tup ws =>
        simp only [Mp.extOf] at he
        cases he
        obtain ⟨b, zs, rfl, t, gz⟩ := relTup ru
        exact mt_extendT pins s σ H _ _ v us Q I rx rv ⟨a, b, xs, zs, rfl, rfl, h1, by rw [hK]; exact t.sq, by rw [gx.length, gz.length]; exact lim_line hl, fin_setL S ea ho h1 (gx.append gz) k nonRel⟩
      | ref j =>
        obtain ⟨b, rfl, eb⟩ := relRef ru
        simp only [Mp.extOf] at he
        split at he
        · rename_i ws hb
          cases he
          obtain ⟨zs, h2, gz⟩ := S.lst eb hb
          exact mt_extend pins s σ H _ _ v us Q I rx rv ⟨a, b, xs, zs, rfl, rfl, h1, h2, by rw [gx.length, gz.length]; exact lim_line hl, fin_setL S ea ho h1 (gx.append gz) k nonRel⟩
        · cases he
      | non => cases he
      | bl _ => cases he
      | int _ => cases he
      | str _ => cases he
    · cases ev
  · cases ev
/-- the first hit -/
theorem findIdx_hit {l : List Bool} (e : l.any id = true) : l[l.findIdx id]? = some true ∧ ∀ m, m < l.findIdx id → l[m]? = some false := by
  have hl : l.findIdx id < l.length := List.findIdx_lt_length_of_exists (by simpa using e)
  refine ⟨?_, fun m hm => ?_⟩
  · have := List.findIdx_getElem (p := id) (xs := l) (w := hl)
    rw [List.getElem?_eq_getElem hl]
    simpa using this
  · have hm' : m < l.length := Nat.lt_trans hm hl
    have := List.not_of_lt_findIdx (p := id) (xs := l) hm
    rw [List.getElem?_eq_getElem hm']
    simpa using this
theorem sm_index (hK : X.K = C.K) (hu : X.A.units + 65 < cLine) : MtR X "list.index" (rML C .index) := by
  intro pins s σ H x vs v us Q I rx rv q
  obtain ⟨ρ, h, i, ds, ys, S, r1, g, ho, z, h', ev, k⟩ := q
  obtain ⟨a, rfl, ea⟩ := relRef r1
  obtain ⟨xs, h1, gx⟩ := S.lst ea ho
  unfold Mp.bmL at ev
  split at ev <;> (try cases ‹Mp.Bm.index = _›) <;> (try (cases ev; done))
  rename_i y
  obtain ⟨j, e, rfl, rfl⟩ := optD_ok ev
  obtain ⟨u, rfl, ru⟩ := g.inv1
  unfold Mp.indexOf at e
  split at e
  · rename_i l hl
    split at e
    · rename_i hany
      obtain ⟨hj, hm⟩ := findIdx_hit hany
      have ej : l.findIdx id = j := Option.some.inj e
      rw [ej] at hj hm
      unfold Mp.hits at hl
      split at hl
      · rename_i f
        simp only [Bool.and_eq_true] at f
        cases hl
        rw [List.getElem?_map] at hj
        cases q : ds[j]? with
        | none => rw [q] at hj; cases hj
        | some d =>
          rw [q] at hj
          obtain ⟨w, ew, rw'⟩ := gx.get q
          have fd : Mp.flat d = true := List.all_eq_true.mp f.2 d (List.mem_of_getElem? q)
          refine mt_index pins s σ H _ _ v us Q I rx rv ⟨a, xs, u, j, w, rfl, rfl, SqL.of h1, flatR ru f.1, flats gx f.2, ew, ?_, fun m z' hmj ez => ?_, fin_flat k S (intRel _)⟩
          · rw [eqF_V rw' ru fd f.1]; exact Option.some.inj hj
          · have q2 := hm m hmj
            rw [List.getElem?_map] at q2
            cases q3 : ds[m]? with
            | none => rw [q3] at q2; cases q2
            | some d' =>
              rw [q3] at q2
              obtain ⟨w2, ew2, rw2⟩ := gx.get q3
              rw [ew2] at ez
              cases ez
              rw [eqF_V rw2 ru (List.all_eq_true.mp f.2 d' (List.mem_of_getElem? q3)) f.1]
              exact Option.some.inj q2
      · rw [if_pos rfl] at hl
        split at hl
        · rename_i pa bs e1 e2
          cases hl
          have z1 := rd_dp S 60 y u pa ru e1
          have z2 := lst_dp S h1 gx e2
          rw [List.getElem?_map] at hj
          cases q : bs[j]? with
          | none => rw [q] at hj; cases hj
          | some d =>
            rw [q] at hj
            refine mt_indexD hu pins s σ H _ _ v us Q I rx rv ⟨a, u, toPy pa, toPys bs, j, toPy d, rfl, rfl, by rw [hK]; exact z2.dp, by rw [hK]; exact z1.dp, z2.shaped (by decide), z1.shaped (by decide), ?_, ?_, fun m z' hmj ez => ?_, fin_flat k S (intRel _)⟩
            · rw [toPys_map, List.getElem?_map, q]; rfl
            · rw [eqv_py]; exact Option.some.inj hj
            · rw [toPys_map, List.getElem?_map] at ez
              have q2 := hm m hmj
              rw [List.getElem?_map] at q2
              cases q3 : bs[m]? with
              | none => rw [q3] at q2; cases q2
              | some d' =>
                rw [q3] at q2 ez
                cases ez
                rw [eqv_py]
                exact Option.some.inj q2
        · cases hl
    · cases e
  · cases e
/-! ### dicts -/
theorem any_rel {ρ : List Addr} {H : Hp} {d : Mp.D} {k : Key} (e : keyOf d = some k) : ∀ {kvs : List (Mp.D × Mp.D)} {ks : List (Key × V)}, RelKK C.K ρ H kvs ks → (ks.any fun q => decide (q.1 = k)) = (kvs.any fun p => decide (p.1 = d))
  | [], ks, r => by rw [r.nil]; rfl
  | p :: kvs, ks, r => by
    obtain ⟨q, r', rfl, h1, h2, h3⟩ := r.cons
    simp only [List.any_cons]
    rw [any_rel e h3]
    have : decide (q.1 = k) = decide (p.1 = d) := by
      by_cases ad : p.1 = d
      · rw [ad] at h1
        rw [decide_eq_true ad, decide_eq_true (Option.some.inj (h1.symm.trans e))]
      · rw [decide_eq_false ad, decide_eq_false fun (z : q.1 = k) => ad (keyOf_inj h1 (z ▸ e))]
    rw [this]
theorem map_rel {ρ : List Addr} {H : Hp} {d : Mp.D} {k : Key} {v : Mp.D} {u : V} (e : keyOf d = some k) (ru : RelD C.K ρ H v u) : ∀ {kvs : List (Mp.D × Mp.D)} {ks : List (Key × V)}, RelKK C.K ρ H kvs ks → RelKK C.K ρ H (kvs.map fun p => if p.1 = d then (p.1, v) else p) (ks.map fun q => if q.1 = k then (q.1, u) else q)
  | [], ks, r => by rw [r.nil]; exact ⟨rfl, fun i p q e1 _ => by simp at e1⟩
  | p :: kvs, ks, r => by
    obtain ⟨q, r', rfl, h1, h2, h3⟩ := r.cons
    simp only [List.map_cons]
    have ih := map_rel e ru h3
    by_cases ad : p.1 = d
    · have kq : q.1 = k := by rw [ad] at h1; exact Option.some.inj (h1.symm.trans e)
      rw [if_pos ad, if_pos kq]
      exact ih.mk h1 ru
    · have kq : ¬ q.1 = k := fun z => ad (keyOf_inj h1 (z ▸ e))
      rw [if_neg ad, if_neg kq]
      exact ih.mk h1 h2
theorem RelKK.append {ρ : List Addr} {H : Hp} : ∀ {kvs kvs' : List (Mp.D × Mp.D)} {ks ks' : List (Key × V)}, RelKK C.K ρ H kvs ks → RelKK C.K ρ H kvs' ks' → RelKK C.K ρ H (kvs ++ kvs') (ks ++ ks')
  | [], kvs', ks, ks', r, r' => by rw [r.nil]; exact r'
  | p :: kvs, kvs', ks, ks', r, r' => by
    obtain ⟨q, t, rfl, h1, h2, h3⟩ := r.cons
    exact (RelKK.append h3 r').mk h1 h2
theorem dput_rel {ρ : List Addr} {H : Hp} {d : Mp.D} {k : Key} {v : Mp.D} {u : V} (e : keyOf d = some k) (ru : RelD C.K ρ H v u) {kvs : List (Mp.D × Mp.D)} {ks : List (Key × V)} (r : RelKK C.K ρ H kvs ks) : RelKK C.K ρ H (Mp.dput kvs d v) (putK ks k u) := by
  unfold Mp.dput putK
  rw [any_rel e r]
  split
  · exact map_rel e ru r
  · exact r.append (RelKK.mk (p := (d, v)) (q := (k, u)) e ru ⟨rfl, fun i p q e1 _ => by simp at e1⟩)
theorem ddel_rel {ρ : List Addr} {H : Hp} {d : Mp.D} {k : Key} (e : keyOf d = some k) : ∀ {kvs : List (Mp.D × Mp.D)} {ks : List (Key × V)}, RelKK C.K ρ H kvs ks → RelKK C.K ρ H (Mp.ddel kvs d) (dropK ks k)
  | [], ks, r => by rw [r.nil]; exact ⟨rfl, fun i p q e1 _ => by simp [Mp.ddel] at e1⟩
  | p :: kvs, ks, r => by
    obtain ⟨q, r', rfl, h1, h2, h3⟩ := r.cons
    have ih := ddel_rel e h3
    unfold Mp.ddel dropK at ih ⊢
    by_cases ad : p.1 = d
    · have kq : q.1 = k := by rw [ad] at h1; exact Option.some.inj (h1.symm.trans e)
      rw [List.filter_cons_of_neg (by simpa using ad), List.filter_cons_of_neg (by simpa using kq)]
      exact ih
    · have kq : ¬ q.1 = k := fun z => ad (keyOf_inj h1 (z ▸ e))
      rw [List.filter_cons_of_pos (by simpa using ad), List.filter_cons_of_pos (by simpa using kq)]
      exact ih.mk h1 h2
theorem dct_noTup {K : PySem.W.Frag} {ρ : List Addr} {H : Hp} {kvs : List (Mp.D × Mp.D)} {o : HO} (r : RelDict K ρ H kvs o) : ∀ xs, o ≠ .tup xs := by
  rcases r with ⟨ks, rfl, _⟩ | ⟨ks, rfl, _⟩ <;> intro xs e <;> cases e
/-- d[k] = v -/
theorem d_put {pins : List (Addr × Obj)} {s : PySem.Shared} {σ : St} {H : Hp} {ρ : List Addr} {h : Mp.Heap} {i : Nat} {a : Addr} {kvs : List (Mp.D × Mp.D)} {d v : Mp.D} {x y : V} {ux uy : Value} {A : Around} {E : Value → PySem.Shared → Prop} {Q : Unit → PySem.Shared → Prop} (hu : A.units + 1 < cLine)
    (I : L2.Inv X pins σ H s) (S : Sim C ρ h H) (ea : ρ[i]? = some a) (ho : h[i]? = some (.dct kvs)) (kd : d.key = true) (hl : kvs.length < Mp.lim) (rx : RelD C.K ρ H d x) (ry : RelD C.K ρ H v y) (vx : RelV x ux) (vy : RelV y uy)
    (q : ∀ H' s', L2.Inv X pins σ H' s' → Kp H H' → Sim C ρ (h.set i (.dct (Mp.dput kvs d v))) H' → Q () s') : wpAny (model X.prog X.w) A (setItem (.ref a) ux uy) Q E s := by
  obtain ⟨o, h1, r⟩ := S.ob i a _ ea ho
  obtain ⟨k, ek⟩ := keyOf_of kd
  rcases r with ⟨ks, rfl, r⟩ | ⟨ks, rfl, r⟩
  · have dp : DPut H a x y (upd H a (.dK (putK ks k y))) := by
      rw [keyOf_V rx ek]
      exact DPut.k h1 (by rw [← r.1]; exact lim_line' hl)
    refine d_setItem hu I dp vx vy fun s' I' => ?_
    have kp : Kp H (upd H a (.dK (putK ks k y))) := Kp.upd fun u e => by rw [h1] at e; cases e; rfl
    exact q _ s' I' kp (S.put ea (fun ds e => by rw [ho] at e; cases e; rfl) kp (fun b hb => upd_ne hb) ⟨_, upd_same, .inl ⟨_, rfl, (dput_rel ek ry r).mono (Le.refl _) kp⟩⟩)
  · exact r.elim
theorem sm_get1 (hu : X.A.units + 1 < cLine) : MtR X "dict.get" (rMD C .get1) := by
  intro pins s σ H x vs v us Q I rx rv q
  obtain ⟨ρ, h, i, kvs, ys, S, r1, g, ho, z, h', ev, k⟩ := q
  obtain ⟨a, rfl, ea⟩ := relRef r1
  obtain ⟨o, h1, r⟩ := S.ob i a _ ea ho
  unfold Mp.bmD at ev
  split at ev <;> (try cases ‹Mp.Bm.get1 = _›) <;> (try (cases ev; done))
  rename_i d
  split at ev
  · rename_i kd
    obtain ⟨rfl, rfl⟩ := ok_inj ev
    obtain ⟨u, rfl, ru⟩ := g.inv1
    obtain ⟨w, dg, ws, wv⟩ := dct_get (.inl h1) r ru kd
    cases rx
    obtain ⟨uu, rfl, ruu⟩ := rv.one
    refine d_get1 hu I dg ruu fun w' s' I' rw' => ⟨_, H, I', rw', ?_⟩
    cases q : Mp.dget kvs d with
    | none =>
      rw [q] at ws k
      have : w = none := by cases w with | none => rfl | some _ => cases ws
      rw [this]
      exact fin_flat k S nonRel
    | some z =>
      obtain ⟨u', rfl, r'⟩ := wv z q
      rw [q] at k
      exact fin_flat k S r'
  · cases ev
theorem sm_get2 (hu : X.A.units + 1 < cLine) : MtR X "dict.get" (rMD C .get2) := by
  intro pins s σ H x vs v us Q I rx rv q
  obtain ⟨ρ, h, i, kvs, ys, S, r1, g, ho, z, h', ev, k⟩ := q
  obtain ⟨a, rfl, ea⟩ := relRef r1
  obtain ⟨o, h1, r⟩ := S.ob i a _ ea ho
  unfold Mp.bmD at ev
  split at ev <;> (try cases ‹Mp.Bm.get2 = _›) <;> (try (cases ev; done))
  rename_i d dz
  split at ev
  · rename_i kd
    obtain ⟨rfl, rfl⟩ := ok_inj ev
    obtain ⟨u, u2, rfl, ru, ru2⟩ := g.inv2
    obtain ⟨w, dg, ws, wv⟩ := dct_get (.inl h1) r ru kd
    cases rx
    obtain ⟨uu, uu2, rfl, ruu, ruu2⟩ := rv.two
    refine d_get2 hu I dg ruu ruu2 fun w' s' I' rw' => ⟨_, H, I', rw', ?_⟩
    cases q : Mp.dget kvs d with
    | none =>
      rw [q] at ws k
      have : w = none := by cases w with | none => rfl | some _ => cases ws
      rw [this]
      exact fin_flat k S ru2
    | some z =>
      obtain ⟨u', rfl, r'⟩ := wv z q
      rw [q] at k
      exact fin_flat k S r'
  · cases ev
theorem sm_popD : MtR X "dict.pop" (rMD C .pop1) := by
  intro pins s σ H x vs v us Q I rx rv q
  obtain ⟨ρ, h, i, kvs, ys, S, r1, g, ho, z, h', ev, k⟩ := q
  obtain ⟨a, rfl, ea⟩ := relRef r1
  obtain ⟨o, h1, r⟩ := S.ob i a _ ea ho
  unfold Mp.bmD at ev
  split at ev <;> (try cases ‹Mp.Bm.pop1 = _›) <;> (try (cases ev; done))
  rename_i d
  split at ev
  · rename_i kd
    split at ev
    · rename_i z1 q
      obtain ⟨rfl, rfl⟩ := ok_inj ev
      obtain ⟨u, rfl, ru⟩ := g.inv1
      obtain ⟨kk, ek⟩ := keyOf_of kd
      rcases r with ⟨ks, rfl, r⟩ | ⟨ks, rfl, r⟩
      · obtain ⟨w, ew, rw'⟩ := (dget_val ek r).1 _ q
        cases rx
        obtain ⟨uu, rfl, ruu⟩ := rv.one
        rw [keyOf_V ru ek] at ruu
        refine d_pop (more := []) I h1 ruu ew (.inl rfl) fun w' s' I' rv' => ⟨w, _, I', rv', ?_⟩
        exact fin_setD S ea ho h1 rfl (.inl ⟨_, rfl, ddel_rel ek r⟩) k rw'
      · exact r.elim
    · cases ev
  · cases ev
end
end MpS
end
section
set_option Elab.async false
set_option linter.all false
set_option maxRecDepth 100000
set_option maxHeartbeats 4000000
namespace MpS
open PySem L2
section
variable {C : Cf} {X : Cx} {W : WX} {pos : Pos} {cf : Nat → List Mp.D → Mp.Heap → Mp.Res Mp.D}
/-! ### attributes -/
theorem RelF.cons {K : PySem.W.Frag} {ρ : List Addr} {H : Hp} {nm : Nat → Str} {p : Nat × Mp.D} {fs : List (Nat × Mp.D)} {vs : List (Str × V)} (r : RelF K ρ H nm (p :: fs) vs) : ∃ q r', vs = q :: r' ∧ nm p.1 = q.1 ∧ RelD K ρ H p.2 q.2 ∧ RelF K ρ H nm fs r' := by
  obtain ⟨l, g⟩ := r
  cases vs with
  | nil => simp at l
  | cons q r' => exact ⟨q, r', rfl, (g 0 p q rfl rfl).1, (g 0 p q rfl rfl).2, by simpa using l, fun i p' q' e1 e2 => g (i + 1) p' q' (by simpa using e1) (by simpa using e2)⟩
theorem RelF.nil {K : PySem.W.Frag} {ρ : List Addr} {H : Hp} {nm : Nat → Str} {vs : List (Str × V)} (r : RelF K ρ H nm [] vs) : vs = [] := List.eq_nil_of_length_eq_zero r.1.symm
theorem RelF.mk {K : PySem.W.Frag} {ρ : List Addr} {H : Hp} {nm : Nat → Str} {p : Nat × Mp.D} {q : Str × V} {fs : List (Nat × Mp.D)} {vs : List (Str × V)} (h1 : nm p.1 = q.1) (h2 : RelD K ρ H p.2 q.2) (r : RelF K ρ H nm fs vs) : RelF K ρ H nm (p :: fs) (q :: vs) := by
  refine ⟨by simp [r.1], fun i p' q' e1 e2 => ?_⟩
  cases i with
  | zero => simp at e1 e2; subst e1 e2; exact ⟨h1, h2⟩
  | succ i => exact r.2 i p' q' (by simpa using e1) (by simpa using e2)
theorem RelF.emp {K : PySem.W.Frag} {ρ : List Addr} {H : Hp} {nm : Nat → Str} : RelF K ρ H nm [] [] := ⟨rfl, fun i p q e1 _ => by simp at e1⟩
theorem fget_ok {K : PySem.W.Frag} {ρ : List Addr} {H : Hp} {nm : Nat → Str} (inj : ∀ f g, nm f = nm g → f = g) {f : Nat} : ∀ {fs : List (Nat × Mp.D)} {vs : List (Str × V)}, RelF K ρ H nm fs vs → (∀ d, Mp.fget fs f = some d → ∃ v, vs.lookup (nm f) = some v ∧ RelD K ρ H d v) ∧ (Mp.fget fs f = none → vs.lookup (nm f) = none)
  | [], vs, r => by rw [r.nil]; exact ⟨fun d e => by simp [Mp.fget] at e, fun _ => rfl⟩
  | (a, b) :: fs, vs, r => by
    obtain ⟨q, r', rfl, h1, h2, h3⟩ := r.cons
    obtain ⟨q1, q2⟩ := q
    have ih := fget_ok inj (f := f) h3
    simp only [Mp.fget]
    have h1 : nm a = q1 := h1
    by_cases e : a = f
    · subst e
      rw [if_pos rfl, List.lookup_cons, h1, beq_self_eq_true]
      exact ⟨fun d q => by cases q; exact ⟨q2, rfl, h2⟩, fun q => by cases q⟩
    · have ne : ¬ nm f = q1 := fun z => e (inj _ _ (h1.trans z.symm))
      rw [if_neg e, List.lookup_cons, beq_eq_false_iff_ne.mpr ne]
      exact ih
theorem fput_ok {K : PySem.W.Frag} {ρ : List Addr} {H : Hp} {nm : Nat → Str} (inj : ∀ f g, nm f = nm g → f = g) {f : Nat} {d : Mp.D} {v : V} (rv : RelD K ρ H d v) : ∀ {fs : List (Nat × Mp.D)} {vs : List (Str × V)}, RelF K ρ H nm fs vs → RelF K ρ H nm (Mp.fput fs f d) (putF (nm f) v vs)
  | [], vs, r => by rw [r.nil]; exact RelF.mk (p := (f, d)) (q := (nm f, v)) rfl rv .emp
  | (a, b) :: fs, vs, r => by
    obtain ⟨q, r', rfl, h1, h2, h3⟩ := r.cons
    obtain ⟨q1, q2⟩ := q
    have h1 : nm a = q1 := h1
    simp only [Mp.fput]
    unfold putF
    by_cases e : a = f
    · subst e
      rw [if_pos rfl, if_pos h1.symm]
      exact RelF.mk (p := (a, d)) h1 rv h3
    · have ne : ¬ q1 = nm f := fun z => e (inj _ _ (h1.trans z))
      rw [if_neg e, if_neg ne]
      exact (fput_ok inj rv h3).mk (p := (a, b)) (q := (q1, q2)) h1 h2
theorem hasF_ok {c f : Nat} (h : Mp.hasF C.pg c f = true) : ∃ k, C.pg.cls[c]? = some k ∧ f ∈ k.fl := by
  unfold Mp.hasF at h
  split at h
  · rename_i k e; exact ⟨k, e, by simpa using h⟩
  · cases h
theorem Tab.at (T : Tab C) {c f : Nat} (h : Mp.hasF C.pg c f = true) : Cls C.K (C.ca c) ∧ NoAttr C.K (C.ca c) (C.nm f) := by
  obtain ⟨k, e, hf⟩ := hasF_ok h
  exact ⟨T.cls c k e (T.obj c k e fun z => by rw [z] at hf; cases hf), T.noat c k e f hf⟩
theorem se_attr (T : Tab C) (hK : X.K = C.K) {e : Expr} {x : Mp.Ex} {f : Nat} (h : PE X e (tE C W (mE C cf x))) (hb : attributeBase e (C.nm f) X.env (eval e X.env) = eval e X.env) (hx : True) : PE X (.Attribute e (C.nm f) pos) (tE C W (mE C cf (.attr x f))) := by
  refine PE.imp' (pe_fld h hb) fun σ H Q q => ?_
  obtain ⟨ρ, env, h0, es, S, ev⟩ := q
  simp only [mE, Mp.evE] at ev
  refine ⟨ρ, env, h0, es, S, (ev.bind (R := RD C)).imp fun v H1 ⟨d, ρ1, h1, l1, k1, S1, r1, ev1⟩ => ?_⟩
  unfold Mp.getAttr at ev1
  cases d with
  | ref i =>
    simp only at ev1
    split at ev1
    · rename_i c fs ho
      split at ev1
      · rename_i hf
        obtain ⟨z, ez, ev2⟩ := ev1.opt
        obtain ⟨a, rfl, ea⟩ := relRef r1
        obtain ⟨dx, vs, ha, rf, _⟩ := S1.ob i a _ ea ho
        obtain ⟨c1, c2⟩ := T.at hf
        obtain ⟨v, ev, rv⟩ := (fget_ok T.inj rf).1 z ez
        exact ⟨a, C.ca c, dx, vs, v, rfl, ha, by rw [hK]; exact c1, by rw [hK]; exact c2, ev, ev2.ok S1 rv⟩
      · exact ev1.elim
    · rename_i c fs ho
      obtain ⟨a, rfl, ea⟩ := relRef r1
      obtain ⟨_, rfl, _⟩ := S1.ob i a _ ea ho
      obtain ⟨z, ez, _⟩ := ev1.opt
      simp [Mp.fget] at ez
    · exact ev1.elim
  | _ => exact ev1.elim
/-! ### subscripts -/
theorem atI_of {ds : List Mp.D} {vs : List V} {ρ : List Addr} {H : Hp} {i : Int} {z : Mp.D} (g : RelDs C.K ρ H ds vs) (e : ((Mp.place i ds.length).bind fun k => ds[k]?) = some z) : ∃ v, atI vs i = some v ∧ RelD C.K ρ H z v := by
  cases q : Mp.place i ds.length with
  | none => rw [q] at e; cases e
  | some k =>
    rw [q] at e
    obtain ⟨v, ev, rv⟩ := g.get e
    refine ⟨v, ?_, rv⟩
    unfold atI
    rw [g.length]
    have q : ixN ds.length i = some k := q
    rw [q]
    exact ev
theorem se_idx (hK : X.K = C.K) (hu : X.A.units + 1 < cLine) {a b : Expr} {x y : Mp.Ex} (ha : PE X a (tE C W (mE C cf x))) (hb : PE X b (tE C W (mE C cf y))) (hs : PlainIx b) : PE X (.Subscript a b pos) (tE C W (mE C cf (.idx x y))) := by
  refine ⟨fun pins s σ H Q I hq => ?_⟩
  have h' : tE C W (fun env h => (mE C cf x env h).bind fun x h => (mE C cf y env h).bind fun y h => Mp.index x y h) σ H Q := hq.ev fun env h => by simp only [mE, Mp.evE]
  -- a dict, or a sequence: known before
  obtain ⟨ρ, env, h0, es, S, ev⟩ := id h'
  dsimp only at ev
  by_cases dict : ∃ d h1 e h2 i kvs, mE C cf x env h0 = .ok d h1 ∧ mE C cf y env h1 = .ok e h2 ∧ d = .ref i ∧ (h2[i]? = some (.dct kvs) ∨ h2[i]? = some (.fdct kvs))
  · obtain ⟨d, h1, e, h2, i, kvs, e1, e2, rfl, ho⟩ := dict
    refine (pe_dget hu ha hb hs).run pins s σ H Q I ?_
    rw [e1] at ev
    simp only [Mp.Res.bind] at ev
    rw [e2] at ev
    simp only [Mp.Res.bind] at ev
    refine ⟨ρ, env, h0, es, S, ?_⟩
    rw [e1]
    intro ρ1 H1 v1 l1 k1 S1 r1
    refine ⟨ρ1, env, h1, es.mono l1 k1, S1, ?_⟩
    rw [e2]
    intro ρ2 H2 v2 l2 k2 S2 r2
    obtain ⟨p, rfl, ea⟩ := relRef (RelD.mono l2 k2 _ _ r1)
    have ev := EvG.weak (l1.trans l2) (k1.trans k2) ev
    unfold Mp.index at ev
    rcases ho with ho | ho
    · simp only [ho] at ev
      split at ev
      · rename_i kd
        obtain ⟨z, ez, ev2⟩ := ev.opt
        obtain ⟨o, hp, r⟩ := S2.ob i p _ ea ho
        obtain ⟨w, dg, ws, wv⟩ := dct_get (.inl hp) r r2 kd
        obtain ⟨u, rfl, ru⟩ := wv z ez
        exact ⟨p, u, rfl, dg, ev2.ok S2 ru⟩
      · exact ev.elim
    · simp only [ho] at ev
      split at ev
      · rename_i kd
        obtain ⟨z, ez, ev2⟩ := ev.opt
        obtain ⟨ob, o, hp, r⟩ := S2.ob i p _ ea ho
        obtain ⟨w, dg, ws, wv⟩ := dct_get (.inr ⟨ob, hp⟩) r r2 kd
        obtain ⟨u, rfl, ru⟩ := wv z ez
        exact ⟨p, u, rfl, dg, ev2.ok S2 ru⟩
      · exact ev.elim
  · refine (pe_ix ix_seq ha hb hs).run pins s σ H Q I ?_
    refine ⟨ρ, env, h0, es, S, ?_⟩
    cases e1 : mE C cf x env h0 with
    | stk => rw [e1] at ev; exact ev.elim
    | err c fs h' => rw [e1] at ev; exact ev
    | ok d h1 =>
      rw [e1] at ev
      simp only [Mp.Res.bind] at ev
      intro ρ1 H1 v1 l1 k1 S1 r1
      refine ⟨ρ1, env, h1, es.mono l1 k1, S1, ?_⟩
      cases e2 : mE C cf y env h1 with
      | stk => rw [e2] at ev; exact ev.elim
      | err c fs h' => rw [e2] at ev; exact EvG.weak (r := Mp.Res.err c fs h') l1 k1 ev
      | ok e h2 =>
        rw [e2] at ev
        simp only [Mp.Res.bind] at ev
        intro ρ2 H2 v2 l2 k2 S2 r2
        have ev := EvG.weak (l1.trans l2) (k1.trans k2) ev
        have r1 := RelD.mono l2 k2 _ _ r1
        unfold Mp.index at ev
        cases d with
        | tup ds =>
          obtain ⟨p, vs, rfl, t, g⟩ := relTup r1
          cases e with
          | int i =>
            obtain ⟨z, ez, ev2⟩ := EvG.opt ev
            obtain ⟨v, av, rv⟩ := atI_of g ez
            exact .inr (.inl ⟨p, vs, i, v, rfl, relInt r2, by rw [hK]; exact t.sq, av, ev2.ok S2 rv⟩)
          | _ => exact ev.elim
        | str z =>
          cases e with
          | int i =>
            simp only at ev
            split at ev
            · rename_i hl
              obtain ⟨w, ew, ev2⟩ := EvG.opt ev
              cases q : (Mp.place i z.length).bind fun k => z[k]? with
              | none => rw [q] at ew; cases ew
              | some c =>
                rw [q] at ew
                cases ew
                refine .inr (.inr ⟨strV z, i, c, relStr r1, relInt r2, by rw [strV_len]; exact lim_line hl, ?_, ev2.ok S2 (strRel [c])⟩)
                exact q
            · exact ev.elim
          | _ => exact ev.elim
        | ref i =>
          obtain ⟨p, rfl, ea⟩ := relRef r1
          simp only at ev
          split at ev
          · rename_i ds ho
            obtain ⟨vs, hp, g⟩ := S2.lst ea ho
            cases e with
            | int j =>
              obtain ⟨z, ez, ev2⟩ := EvG.opt ev
              obtain ⟨v, av, rv⟩ := atI_of g ez
              exact .inl ⟨p, vs, j, v, rfl, relInt r2, SqL.of hp, av, ev2.ok S2 rv⟩
            | _ => exact ev.elim
          · rename_i ds ho
            obtain ⟨vs, hp, g⟩ := S2.ob i p _ ea ho
            cases e with
            | int j =>
              obtain ⟨z, ez, ev2⟩ := EvG.opt ev
              obtain ⟨v, av, rv⟩ := atI_of g ez
              exact .inl ⟨p, vs, j, v, rfl, relInt r2, by rw [hK]; exact ro_sq hp, av, ev2.ok S2 rv⟩
            | _ => exact ev.elim
          · rename_i kvs ho
            exact (dict ⟨_, _, _, _, i, kvs, e1, e2, rfl, .inl ho⟩).elim
          · rename_i kvs ho
            exact (dict ⟨_, _, _, _, i, kvs, e1, e2, rfl, .inr ho⟩).elim
          · exact ev.elim
        | non => exact ev.elim
        | bl _ => exact ev.elim
        | int _ => exact ev.elim

/-! ### slices -/
theorem clamp_ix (i : Int) (n : Nat) : HT.sIx n 0 (some i) = Mp.clamp i n := rfl
theorem cutAt_ix (n d : Nat) (o : Option Int) : HT.sIx n d o = Mp.cutAt n d o := by
  cases o with
  | none => rfl
  | some i => rfl
theorem cut_rel {K : PySem.W.Frag} {ρ : List Addr} {H : Hp} {ds : List Mp.D} {vs : List V} {lo hi : Option Int} (g : RelDs K ρ H ds vs) : RelDs K ρ H (Mp.cut ds lo hi) (cutV vs lo hi) := by
  unfold Mp.cut cutV
  rw [cutAt_ix, cutAt_ix, g.length]
  exact (g.drop _).take _
def PartOk (X : Cx) (C : Cf) (W : WX) (cf : Nat → List Mp.D → Mp.Heap → Mp.Res Mp.D) (e : Option Expr) (x : Mp.Exs) : Prop :=
  (e = none ∧ x = .nil) ∨ ∃ e' x', e = some e' ∧ x = .cons x' .nil ∧ PE X e' (tE C W (mE C cf x'))
/-- a part's reading -/
theorem part_ok {e : Option Expr} {x : Mp.Exs} (h : PartOk X C W cf e x) : ∃ t : TO, PO X e t ∧ ∀ σ ρ env h0 H (Q : Option Int → Hp → Prop) (Q' : VK) (g : Option Int → Mp.Heap → Mp.Res Mp.D), ES C.K ρ H env σ → Sim C ρ h0 H →
    EvG C W σ (RD C) ((mEs C cf x env h0).bind (Mp.withPart g)) ρ H Q' → (∀ o ρ1 h1 H1, Le ρ ρ1 → Kp H H1 → Sim C ρ1 h1 H1 → EvG C W σ (RD C) (g o h1) ρ1 H1 Q' → Q o H1) → t σ H Q := by
  rcases h with ⟨rfl, rfl⟩ | ⟨e', x', rfl, rfl, h⟩
  · refine ⟨_, po_none, fun σ ρ env h0 H Q Q' g es S ev k => ?_⟩
    simp only [mEs, Mp.evEs] at ev
    exact k none ρ h0 H (Le.refl _) (Kp.refl _) S ev
  · refine ⟨_, po_some h, fun σ ρ env h0 H Q Q' g es S ev k => ⟨ρ, env, h0, es, S, ?_⟩⟩
    simp only [mEs, Mp.evEs, bind_assoc] at ev
    refine (ev.bind (R := RD C)).imp fun v H1 ⟨d, ρ1, h1, l1, k1, S1, r1, ev1⟩ => ?_
    simp only [Mp.Res.bind, Mp.withPart, Mp.part] at ev1
    cases d with
    | int i => exact ⟨i, relInt r1, k (some i) ρ1 h1 H1 l1 k1 S1 ev1⟩
    | _ => exact ev1.elim
theorem se_slice (hK : X.K = C.K) {a : Expr} {lo hi : Option Expr} {x : Mp.Ex} {xl xh : Mp.Exs} {p2 : Pos} (ha : PE X a (tE C W (mE C cf x))) (hl : PartOk X C W cf lo xl) (hh : PartOk X C W cf hi xh) : PE X (.Subscript a (.Slice lo hi none p2) pos) (tE C W (mE C cf (.slice x xl xh))) := by
  obtain ⟨tl, pl, kl⟩ := part_ok hl
  obtain ⟨th, ph, kh⟩ := part_ok hh
  refine PE.imp' (pe_slice (SlR.or sl_list (SlR.or sl_tupA sl_str)) ha pl ph) fun σ H Q q => ?_
  obtain ⟨ρ, env, h0, es, S, ev⟩ := q
  simp only [mE, Mp.evE] at ev
  refine ⟨ρ, env, h0, es, S, (ev.bind (R := RD C)).imp fun v H1 ⟨d, ρ1, h1, l1, k1, S1, r1, ev1⟩ => ?_⟩
  refine kl σ ρ1 env h1 H1 _ Q _ (es.mono l1 k1) S1 ev1 fun o ρ2 h2 H2 l2 k2 S2 ev2 => ?_
  refine kh σ ρ2 env h2 H2 _ Q _ (es.mono (l1.trans l2) (k1.trans k2)) S2 ev2 fun o' ρ3 h3 H3 l3 k3 S3 ev3 => ?_
  have r3 := RelD.mono (l2.trans l3) (k2.trans k3) _ _ r1
  unfold Mp.sliced at ev3
  cases d with
  | tup ds =>
    obtain ⟨p, vs, rfl, t, g⟩ := relTup r3
    refine .inr (.inl ⟨p, vs, rfl, by rw [hK]; exact t.sq, fun w => ?_, fun _ q np => ?_⟩)
    · refine ev3.ok S3 (tupRel t ?_)
      have := cut_rel (lo := o) (hi := o') g
      have e : cutV vs o o' = vs := by unfold cutV; rw [w.1, w.2]; simp
      rw [e] at this
      exact this
    · exact ev3 ρ3 _ _ (Le.refl _) (Kp.new np) (S3.other np _) (tupRel (.inl upd_same) (RelDs.mono (Le.refl _) (Kp.new np) _ _ (cut_rel g)))
  | str z =>
    simp only at ev3
    split at ev3
    · rename_i hl
      refine .inr (.inr ⟨strV z, relStr r3, by rw [strV_len]; exact lim_line hl, ?_⟩)
      have e : cutS (strV z) o o' = strV (Mp.cut z o o') := by
        unfold cutS Mp.cut
        rw [cutAt_ix, cutAt_ix, strV_len]
      rw [e]
      exact ev3.ok S3 (strRel _)
    · exact ev3.elim
  | ref i =>
    obtain ⟨p, rfl, ea⟩ := relRef r3
    simp only at ev3
    split at ev3
    · rename_i ds ho
      obtain ⟨vs, hp, g⟩ := S3.lst ea ho
      refine .inl ⟨p, vs, rfl, SqL.of hp, fun q nq => ?_⟩
      exact ev3 (ρ3 ++ [q]) _ _ (Le.snoc _ _) (Kp.new nq) (S3.newL nq (cut_rel g)) (refRel S3.ref_at)
    · exact ev3.elim
  | non => exact ev3.elim
  | bl _ => exact ev3.elim
  | int _ => exact ev3.elim
theorem se_rev (hK : X.K = C.K) {a : Expr} {x : Mp.Ex} {k : Nat} {p1 p2 p3 : Pos} (ha : PE X a (tE C W (mE C cf x))) : PE X (.Subscript a (.Slice none none (some (.UnaryOp .USub (.Constant (.int 1) k p1) p2)) p3) pos) (tE C W (mE C cf (.rev x))) := by
  refine PE.imp' (pe_revL ha) fun σ H Q q => ?_
  obtain ⟨ρ, env, h0, es, S, ev⟩ := q
  simp only [mE, Mp.evE] at ev
  refine ⟨ρ, env, h0, es, S, (ev.bind (R := RD C)).imp fun v H1 ⟨d, ρ1, h1, l1, k1, S1, r1, ev1⟩ => ?_⟩
  unfold Mp.reved at ev1
  cases d with
  | ref i =>
    obtain ⟨p, rfl, ea⟩ := relRef r1
    simp only at ev1
    split at ev1
    · rename_i ds ho
      obtain ⟨vs, hp, g⟩ := S1.lst ea ho
      exact ⟨p, vs, rfl, SqL.of hp, fun q nq => ev1 (ρ1 ++ [q]) _ _ (Le.snoc _ _) (Kp.new nq) (S1.newL nq g.reverse) (refRel S1.ref_at)⟩
    · exact ev1.elim
  | _ => exact ev1.elim
/-! ### == [] -/
theorem op_isnil (hu : X.A.units < cLine) : OpR X (compareOp .Eq) (fun x y H Q => ∃ a b xs, x = .ref a ∧ y = .ref b ∧ SqL X.K H a xs ∧ SqL X.K H b [] ∧ Q (.bl xs.isEmpty) H) := by
  intro pins s σ H x y v u Q I rx ry h
  obtain ⟨a, b, xs, rfl, rfl, ha, hb, q⟩ := h
  cases rx
  cases ry
  obtain ⟨its, r, p1, _⟩ := I.list ha
  obtain ⟨its2, r2, p2, _⟩ := I.list hb
  cases r2
  cases xs with
  | nil =>
    cases r
    have := SeqAt.eq_listAt (prog := X.prog) (w := X.w) (A := X.A) (E := X.xe) (e := fun _ => true) (Q := EP X pins σ Q) p1.isList p2.isList rfl hu (fun j h1 _ => absurd h1 (by simp)) ⟨.bl true, H, I, rfl, q⟩
    exact this
  | cons z zs =>
    cases r with
    | cons r0 rr =>
      exact SeqAt.eq_list_lengthsAt p1.isList p2.isList (by simp) hu ⟨.bl false, H, I, rfl, q⟩
theorem op_notnil (hu : X.A.units < cLine) : OpR X (compareOp .NotEq) (fun x y H Q => ∃ a b xs, x = .ref a ∧ y = .ref b ∧ SqL X.K H a xs ∧ SqL X.K H b [] ∧ Q (.bl (!xs.isEmpty)) H) := by
  intro pins s σ H x y v u Q I rx ry h
  obtain ⟨a, b, xs, rfl, rfl, ha, hb, q⟩ := h
  cases rx
  cases ry
  obtain ⟨its, r, p1, _⟩ := I.list ha
  obtain ⟨its2, r2, p2, _⟩ := I.list hb
  cases r2
  cases xs with
  | nil =>
    cases r
    exact SeqAt.RcNeAt.lists (e := fun _ => true) p1.isList p2.isList rfl hu (fun j h1 _ => absurd h1 (by simp)) X.prog X.w X.xe (EP X pins σ Q) ⟨.bl false, H, I, rfl, q⟩
  | cons z zs =>
    cases r with
    | cons r0 rr =>
      exact SeqAt.RcNeAt.lists_lengths p1.isList p2.isList (by simp) hu X.prog X.w X.xe (EP X pins σ Q) ⟨.bl true, H, I, rfl, q⟩
end
end MpS
end
section
set_option Elab.async false
set_option linter.all false
set_option maxRecDepth 100000
set_option maxHeartbeats 4000000
namespace MpS
open PySem L2
section
variable {C : Cf} {X : Cx} {W : WX} {pos : Pos} {cf : Nat → List Mp.D → Mp.Heap → Mp.Res Mp.D}
/-- the written empty list, as what stands behind == -/
theorem nil_of {H : Hp} {Q : VK} {r : V → Hp → Prop} (k : ∀ p, H p = none → r (.ref p) (upd H p (.lst []))) : ∀ σ, tLst tNil σ H fun y H2 => r y H2 := fun σ => ⟨Nat.zero_le _, fun p np => k p np⟩
/-- what stands before is a list -/
theorem isnil_go (hK : X.K = C.K) {neg : Bool} {ρ : List Addr} {h : Mp.Heap} {H : Hp} {d : Mp.D} {v : V} {g : Bool → Prop} {α : Type} {R : Rel α Bool} (S : Sim C ρ h H) (r : RelD C.K ρ H d v) {ds : List Mp.D} (e : Mp.itemsOf d h = some ds) (nt : ∀ es, d ≠ .tup es) : ∃ a vs, v = .ref a ∧ SqL X.K H a vs ∧ vs.isEmpty = ds.isEmpty := by
  cases d with
  | ref i =>
    obtain ⟨p, vs, rfl, g, t⟩ := itemsR S r e
    refine ⟨p, vs, rfl, by rw [hK]; exact t, ?_⟩
    have := g.length
    cases vs <;> cases ds <;> first | rfl | (simp at this)
  | tup es => exact absurd rfl (nt es)
  | _ => cases e
theorem SqL.upd' {K : PySem.W.Frag} {H : Hp} {p q : Addr} {vs : List V} {o : HO} (h : SqL K H p vs) (nq : H q = none) : SqL K (upd H q o) p vs := by
  rcases h with h | h
  · refine .inl ?_
    rcases h with h | ⟨ob, h⟩
    · exact .inl (by rw [upd_ne (ne_of_none h nq)]; exact h)
    · exact .inr ⟨ob, by rw [upd_ne (ne_of_none h nq)]; exact h⟩
  · exact .inr h
/-- the interpreter's look at an empty list -/
def isnilD (x : Mp.D) (h : Mp.Heap) : Mp.Res Mp.D := match x with
  | .ref a => match h[a]? with
    | some (.lst ds) => .ok (.bl ds.isEmpty) h
    | some (.ro ds) => .ok (.bl ds.isEmpty) h
    | _ => .stk
  | _ => .stk
theorem isnilD_ok {x : Mp.D} {h h' : Mp.Heap} {z : Mp.D} (e : isnilD x h = .ok z h') : ∃ i ds, x = .ref i ∧ Mp.itemsOf x h = some ds ∧ z = .bl ds.isEmpty ∧ h' = h := by
  unfold isnilD at e
  split at e
  · split at e
    · rename_i a _ ds ho; cases e; exact ⟨a, ds, rfl, by simp only [Mp.itemsOf, ho], rfl, rfl⟩
    · rename_i a _ ds ho; cases e; exact ⟨a, ds, rfl, by simp only [Mp.itemsOf, ho], rfl, rfl⟩
    · cases e
  · cases e
theorem isnilD_noerr {x : Mp.D} {h h' : Mp.Heap} {c : Nat} {fs : List (Nat × Mp.D)} : isnilD x h ≠ .err c fs h' := by
  unfold isnilD
  split
  · split <;> (intro q; cases q)
  · intro q; cases q
/-- the wish behind a comparison with [] -/
theorem isnil_read (hK : X.K = C.K) {σ : St} {ρ : List Addr} {h : Mp.Heap} {H : Hp} {d : Mp.D} {v : V} {Q : Bool → Hp → Prop} (S : Sim C ρ h H) (r : RelD C.K ρ H d v) {z : Mp.D} {h' : Mp.Heap} (e : isnilD d h = .ok z h')
    (k : ∀ b ρ' H', z = .bl b → Le ρ ρ' → Kp H H' → Sim C ρ' h' H' → Q b H') : tLst tNil σ H fun y H2 => ∃ a b xs, v = .ref a ∧ y = .ref b ∧ SqL X.K H2 a xs ∧ SqL X.K H2 b [] ∧ Q xs.isEmpty H2 := by
  obtain ⟨i, ds, rfl, e1, rfl, rfl⟩ := isnilD_ok e
  obtain ⟨p, vs, rfl, g, t⟩ := itemsR S r e1
  refine ⟨Nat.zero_le _, fun q nq => ⟨p, q, vs, rfl, rfl, by rw [hK]; exact SqL.upd' t nq, SqL.of upd_same, ?_⟩⟩
  have ee : vs.isEmpty = ds.isEmpty := by
    have := g.length
    cases vs <;> cases ds <;> first | rfl | (simp at this)
  rw [ee]
  exact k _ ρ _ rfl (Le.refl _) (Kp.new nq) (S.other nq _)
theorem evE_isnil {x : Mp.Ex} {env : Mp.Env} {h : Mp.Heap} : Mp.evE C.pg cf (.isnil x) env h = (Mp.evE C.pg cf x env h).bind isnilD := by
  simp only [Mp.evE]
  rfl
section
variable {a : Expr} {x : Mp.Ex} {p2 : Pos}
theorem se_isnil (hK : X.K = C.K) (hu : X.A.units < cLine) (ha : PE X a (tE C W (mE C cf x))) : PE X (.Compare a [.Eq] [.List [] p2] pos) (tE C W (mE C cf (.isnil x))) := by
  refine PE.imp' (pe_cmpR (op_isnil hu) ha (pe_lst pa_nil) (by rfl)) fun σ H Q q => ?_
  obtain ⟨ρ, env, h0, es, S, ev⟩ := q
  simp only [mE, evE_isnil] at ev
  refine ⟨ρ, env, h0, es, S, (ev.bind (R := RD C)).imp fun v H1 ⟨d, ρ1, h1, l1, k1, S1, r1, ev1⟩ => ?_⟩
  cases e : isnilD d h1 with
  | stk => rw [e] at ev1; exact ev1.elim
  | err c fs h' => exact absurd e isnilD_noerr
  | ok z h' =>
    rw [e] at ev1
    exact isnil_read hK S1 r1 e fun b ρ' H' ez l k S => ev1 ρ' H' _ l k S (by rw [ez]; exact blRel _)
theorem st_isnil (hK : X.K = C.K) (hu : X.A.units < cLine) (ha : PE X a (tE C W (mE C cf x))) : PT X (.Compare a [.Eq] [.List [] p2] pos) (tT C W (mE C cf (.isnil x))) := by
  refine PT.imp' (pt_cmpR (op_isnil hu) ha (pe_lst pa_nil) (by rfl)) fun σ H Q q => ?_
  obtain ⟨ρ, env, h0, es, S, ev⟩ := q
  simp only [mE, evE_isnil, bind_assoc] at ev
  refine ⟨ρ, env, h0, es, S, (ev.bind (R := RD C)).imp fun v H1 ⟨d, ρ1, h1, l1, k1, S1, r1, ev1⟩ => ?_⟩
  cases e : isnilD d h1 with
  | stk => rw [e] at ev1; exact ev1.elim
  | err c fs h' => exact absurd e isnilD_noerr
  | ok z h' =>
    rw [e] at ev1
    refine isnil_read (Q := fun b H' => ∃ k, V.bl b = .bl k ∧ Q k H') hK S1 r1 e fun b ρ' H' ez l k S => ⟨b, rfl, ?_⟩
    subst ez
    exact ev1 ρ' H' b l k S rfl
theorem se_notnil (hK : X.K = C.K) (hu : X.A.units < cLine) (ha : PE X a (tE C W (mE C cf x))) : PE X (.Compare a [.NotEq] [.List [] p2] pos) (tE C W (mE C cf (.not (.isnil x)))) := by
  refine PE.imp' (pe_cmpR (op_notnil hu) ha (pe_lst pa_nil) (by rfl)) fun σ H Q q => ?_
  obtain ⟨ρ, env, h0, es, S, ev⟩ := q
  simp only [mE, Mp.evE.eq_9, evE_isnil, bind_assoc] at ev
  refine ⟨ρ, env, h0, es, S, (ev.bind (R := RD C)).imp fun v H1 ⟨d, ρ1, h1, l1, k1, S1, r1, ev1⟩ => ?_⟩
  cases e : isnilD d h1 with
  | stk => rw [e] at ev1; exact ev1.elim
  | err c fs h' => exact absurd e isnilD_noerr
  | ok z h' =>
    rw [e] at ev1
    refine isnil_read (Q := fun b H' => Q (.bl !b) H') hK S1 r1 e fun b ρ' H' ez l k S => ?_
    subst ez
    exact ev1 ρ' H' _ l k S (blRel _)
theorem st_notnil (hK : X.K = C.K) (hu : X.A.units < cLine) (ha : PE X a (tE C W (mE C cf x))) : PT X (.Compare a [.NotEq] [.List [] p2] pos) (tT C W (mE C cf (.not (.isnil x)))) := by
  refine PT.imp' (pt_cmpR (op_notnil hu) ha (pe_lst pa_nil) (by rfl)) fun σ H Q q => ?_
  obtain ⟨ρ, env, h0, es, S, ev⟩ := q
  simp only [mE, Mp.evE.eq_9, evE_isnil, bind_assoc] at ev
  refine ⟨ρ, env, h0, es, S, (ev.bind (R := RD C)).imp fun v H1 ⟨d, ρ1, h1, l1, k1, S1, r1, ev1⟩ => ?_⟩
  cases e : isnilD d h1 with
  | stk => rw [e] at ev1; exact ev1.elim
  | err c fs h' => exact absurd e isnilD_noerr
  | ok z h' =>
    rw [e] at ev1
    refine isnil_read (Q := fun b H' => ∃ k, V.bl (!b) = .bl k ∧ Q k H') hK S1 r1 e fun b ρ' H' ez l k S => ⟨!b, rfl, ?_⟩
    subst ez
    exact ev1 ρ' H' (!b) l k S rfl
end
/-! ### calls of built-ins -/
section
variable {e : Expr} {es : List Expr} {x : Str} {p : Pos} {xs : Mp.Exs} {b : Mp.Bi}
theorem bi_read {t : TA} {r : List V → Hp → VK → Prop} {σ : St} {H : Hp} {Q : VK} (h : tE C W (mE C cf (.bi b xs)) σ H Q) : tCB (rF C (Mp.biop b)) (tA C W (mEs C cf xs)) σ H Q := by
  obtain ⟨ρ, env, h0, es, S, ev⟩ := h
  simp only [mE, Mp.evE] at ev
  refine ⟨ρ, env, h0, es, S, (ev.bind (R := RDs C)).imp fun vs H1 ⟨ds, ρ1, h1, l1, k1, S1, r1, ev1⟩ => ?_⟩
  cases q : Mp.biop b ds h1 with
  | stk => rw [q] at ev1; exact ev1.elim
  | err c fs h' => exact absurd q (biop_noerr b ds h1 c fs h')
  | ok z h' => rw [q] at ev1; exact ⟨ρ1, h1, ds, S1, r1, z, h', q, ev1⟩
theorem se_biB {id : String} (hc : CallR X (.builtin id) (rF C (Mp.biop b))) (hg : Gl X x) (hm : X.mg x = none) (hv : bootBuiltins x = some (.builtin id)) (ha : PA X (e :: es) (tA C W (mEs C cf xs))) (hn : x ≠ "__name__") (hdb : (x == ("__debug__" : Str)) = false) (ns : ∀ y ∈ e :: es, NoStar y) :
    PE X (.Call (.Name x p) (e :: es) [] pos) (tE C W (mE C cf (.bi b xs))) :=
  PE.imp' (pe_callB hc hg hm hv ha hn hdb (ns e (by simp) es _) (back_plain (fun y hy => ns y (by simp [hy])) _ _)) fun σ H Q h => bi_read (t := tNil) (r := fun _ _ _ => True) h
theorem se_biT {T : String} (hc : CallR X (.type T) (rF C (Mp.biop b))) (hg : Gl X x) (hm : X.mg x = none) (hv : bootBuiltins x = some (.type T)) (ha : PA X (e :: es) (tA C W (mEs C cf xs))) (hn : x ≠ "__name__") (hdb : (x == ("__debug__" : Str)) = false) (ns : ∀ y ∈ e :: es, NoStar y) :
    PE X (.Call (.Name x p) (e :: es) [] pos) (tE C W (mE C cf (.bi b xs))) :=
  PE.imp' (pe_callTy hc hg hm hv ha hn hdb (ns e (by simp) es _) (back_plain (fun y hy => ns y (by simp [hy])) _ _)) fun σ H Q h => bi_read (t := tNil) (r := fun _ _ _ => True) h
end
end
end MpS
end
section
set_option Elab.async false
set_option linter.all false
set_option maxRecDepth 100000
set_option maxHeartbeats 4000000
namespace MpS
open PySem L2
section
variable {C : Cf} {X : Cx} {W : WX} {pos : Pos} {cf : Nat → List Mp.D → Mp.Heap → Mp.Res Mp.D}
/-! ### isinstance -/
/-- a value's type, exceptions among them -/
def TyK (X : Cx) (H : Hp) (v : V) (t : Value) : Prop := TyX X.K H v t ∨ ∃ a D, v = .ref a ∧ t = .ref D ∧ H a = some (ExV (.ref D) none a) ∧ ExcC X.K D
theorem kit_ofK {pins : List (Addr × Obj)} {σ : St} {H : Hp} {s : Shared} {x : V} {u t : Value} (I : L2.Inv X pins σ H s) (rx : RelV x u) (ty : TyK X H x t) : ∃ P : PySem.Heap → Prop, PySem.W.KitX X.K u t P ∧ P s.heap ∧ u ≠ .builtin "__main__.__loader__#opaque" := by
  rcases ty with ty | ⟨a, D, rfl, rfl, ha, E⟩
  · exact kit_of I rx ty
  · cases (show u = Value.ref a from rx)
    obtain ⟨⟨oe, vs, ho, hz, hd⟩, _, _⟩ := (show ObjOk X.prog X.w H s.heap a (ExV (.ref D) none a) from I.hok a _ ha)
    refine ⟨_, PySem.W.handS_kitx_exc (x := a) (ox := oe) E.hg E.hk E.hs E.hd E.ha E.hn E.ht E.hm, ?_, fun z => nomatch z⟩
    obtain ⟨oc, od, oda, osl⟩ := oe
    obtain ⟨h1, h2⟩ := hz
    dsimp only at h1 h2 hd
    subst h1 h2 hd
    exact ⟨ho, rfl, rfl, trivial⟩
/-- isinstance, of such a value -/
def rIs1 (X : Cx) : List V → Hp → VK → Prop := fun xs H Q => ∃ (x c : V) (t u : Value) (b : Bool), xs = [x, c] ∧ ClsV c u ∧ TyK X H x t ∧ PySem.W.kitOne X.K t u = some b ∧ Q (.bl b) H
def rIsN (X : Cx) : List V → Hp → VK → Prop := fun xs H Q => ∃ (x : V) (tp : Addr) (cs : List V) (t : Value) (us : List Value) (b : Bool), xs = [x, .ref tp] ∧ H tp = some (.tup cs) ∧ Paired ClsV cs us ∧ TyK X H x t ∧ PySem.W.kitAny X.K t us = some b ∧ Q (.bl b) H
theorem so_is1 : CallR X (.builtin "isinstance") (rIs1 X) := by
  intro pins s σ H xs us Q I r q
  obtain ⟨x, c, t, u, b, rfl, k, ty, e, w⟩ := q
  obtain ⟨z1, z2, rfl, r1, r2⟩ := vals2 r
  have := k.eq r2; subst this
  obtain ⟨P, Z, p, hx⟩ := kit_ofK I r1 ty
  exact PySem.W.kia_one Z I.kIn p e hx fun tk => ⟨.bl b, H, I.tok tk, rfl, w⟩
theorem so_isN : CallR X (.builtin "isinstance") (rIsN X) := by
  intro pins s σ H xs us Q I r q
  obtain ⟨x, tp, cs, t, ws, b, rfl, hT, k, ty, e, w⟩ := q
  obtain ⟨z1, z2, rfl, r1, r2⟩ := vals2 r
  cases (show z2 = Value.ref tp from r2)
  obtain ⟨P, Z, p, hx⟩ := kit_ofK I r1 ty
  obtain ⟨_, its, rv, ⟨oc, od, dt, sl⟩, h1, h2, n, h3⟩ := (show ObjOk X.prog X.w H s.heap tp (.tup cs) from I.hok tp _ hT)
  have := ClsV.all k rv; subst this
  simp only at h2 h3
  subst h2 h3
  exact PySem.W.kia_tup Z I.kIn p h1 e hx fun tk => ⟨.bl b, H, I.tok tk, rfl, w⟩
theorem kind_ok (T : Tab C) (hK : X.K = C.K) {ρ : List Addr} {h : Mp.Heap} {H : Hp} (S : Sim C ρ h H) {d : Mp.D} {v : V} (r : RelD C.K ρ H d v) {k : Mp.Kn} (e : Mp.kindOf h d = some k) : TyK X H v (knV C k) := by
  cases d with
  | non => cases e; rw [relNon r]; exact .inl <| .base .non
  | bl b => cases e; rw [relBl r]; exact .inl <| .base (.bl b)
  | int i => cases e; rw [relInt r]; exact .inl <| .base (.int i)
  | str s => cases e; rw [relStr r]; exact .inl <| .base (.str _)
  | tup ds =>
    cases e
    obtain ⟨a, vs, rfl, t, g⟩ := relTup r
    rcases t with t | ⟨o, its, n, h1, h2, h3, _⟩
    · exact .inl <| .base (.tup t)
    · exact .inl <| .kTuple (by rw [hK]; exact h1) h2
  | ref i =>
    obtain ⟨a, rfl, ea⟩ := relRef r
    simp only [Mp.kindOf] at e
    split at e
    · rename_i ds ho
      cases e
      obtain ⟨vs, h1, g⟩ := S.lst ea ho
      exact .inl <| .base (.lst h1)
    · rename_i kvs ho
      cases e
      obtain ⟨o, h1, g⟩ := S.ob i a _ ea ho
      rcases g with ⟨ks, rfl, _⟩ | ⟨ks, rfl, g⟩
      · exact .inl <| .base (.dK h1)
      · exact g.elim
    · rename_i c fs ho
      cases e
      obtain ⟨dx, vs, h1, g, kk, e1, e2⟩ := S.ob i a _ ea ho
      have c1 := T.cls c kk e1 e2
      have c2 := T.inst c kk e1 e2
      exact .inl <| .base (.ins h1 (by rw [hK]; exact c1) (by rw [hK]; exact c2.ha) (by rw [hK]; exact c2.hn) (by rw [hK]; exact c2.htk) (by rw [hK]; exact c2.hm))
    · rename_i c fs ho
      cases e
      obtain ⟨h1, _, kk, e1, e2⟩ := S.ob i a _ ea ho
      exact .inr ⟨a, _, rfl, rfl, h1, by rw [hK]; exact T.exc c kk e1 e2⟩
    · cases e
theorem isins_kit (T : Tab C) {h : Mp.Heap} {d : Mp.D} {k : Mp.Kn} (ek : Mp.kindOf h d = some k) : ∀ {ts : List Mp.Ty} {b : Bool}, Mp.isinTys C.pg h d ts = some b → PySem.W.kitAny C.K (knV C k) (ts.map (tyV' C)) = some b
  | [], b, e => by cases e; rfl
  | t :: ts, b, e => by
    simp only [Mp.isinTys, Mp.isinTy, ek, Option.bind_some] at e
    simp only [List.map_cons, PySem.W.kitAny]
    cases q : Mp.isK C.pg k t with
    | none => rw [q] at e; cases e
    | some b' =>
      rw [q] at e
      rw [T.kit k t b' q]
      cases b' with
      | true => cases e; rfl
      | false => exact isins_kit T ek e
/-- a class's name as a value -/
def ClsE (C : Cf) (X : Cx) (e : Expr) (t : Mp.Ty) : Prop := ∃ v, PE X e (tC v) ∧ ClsV v (tyV' C t)
theorem so_isin (hK : X.K = C.K) (T : Tab C) {ρ : List Addr} {h : Mp.Heap} {H : Hp} (S : Sim C ρ h H) {d : Mp.D} {v : V} (r : RelD C.K ρ H d v) {ts : List Mp.Ty} {b : Bool} (e : Mp.isinTys C.pg h d ts = some b) (hts : ts ≠ []) : ∃ t, TyK X H v t ∧ PySem.W.kitAny X.K t (ts.map (tyV' C)) = some b := by
  cases ek : Mp.kindOf h d with
  | none => cases ts with
    | nil => exact absurd rfl hts
    | cons t ts => simp [Mp.isinTys, Mp.isinTy, ek] at e
  | some k => exact ⟨knV C k, kind_ok T hK S r ek, by rw [hK]; exact isins_kit T ek e⟩
theorem kitAny_one {K : PySem.W.Frag} {t c : Value} {b : Bool} (h : PySem.W.kitAny K t [c] = some b) : PySem.W.kitOne K t c = some b := by
  unfold PySem.W.kitAny at h
  split at h
  · rename_i q; rw [q]; exact h
  · rename_i q; rw [q]; unfold PySem.W.kitAny at h; exact h
  · cases h
theorem se_isin1 (hK : X.K = C.K) (T : Tab C) {a c : Expr} {x : Mp.Ex} {t : Mp.Ty} {p : Pos} (ha : PE X a (tE C W (mE C cf x))) (hc : ClsE C X c t) (n1 : NoStar a) (n2 : NoStar c) (hg : Gl X "isinstance") (hm : X.mg "isinstance" = none) : PE X (.Call (.Name "isinstance" p) [a, c] [] pos) (tE C W (mE C cf (.isin x [t]))) := by
  obtain ⟨cv, pc, kc⟩ := hc
  refine PE.imp' (pe_callB so_is1 hg hm (by decide +kernel) (pa_cons ha (pa_cons pc pa_nil (n2 [] _)) (n1 [c] _)) (by decide +kernel) (by decide +kernel) (n1 [c] _) (back_plain (es := [c]) (fun y hy => by simp at hy; rw [hy]; exact n2) _ _)) fun σ H Q q => ?_
  obtain ⟨ρ, env, h0, es, S, ev⟩ := q
  simp only [mE, Mp.evE] at ev
  refine ⟨ρ, env, h0, es, S, (ev.bind (R := RD C)).imp fun v H1 ⟨d, ρ1, h1, l1, k1, S1, r1, ev1⟩ => ?_⟩
  obtain ⟨z, ez, ev2⟩ := ev1.opt
  cases q : Mp.isinTys C.pg h1 d [t] with
  | none => rw [q] at ez; cases ez
  | some b =>
    rw [q] at ez
    cases ez
    obtain ⟨ty, ht, hk⟩ := so_isin hK T S1 r1 q (by simp)
    exact ⟨v, cv, ty, _, b, rfl, kc, ht, kitAny_one hk, ev2.ok S1 (blRel _)⟩
/-- names of classes, one behind another -/
inductive ClsEs (C : Cf) (X : Cx) : List Expr → List Mp.Ty → List V → Prop
  | nil : ClsEs C X [] [] []
  | cons {e : Expr} {es : List Expr} {t : Mp.Ty} {ts : List Mp.Ty} {v : V} {vs : List V} : PE X e (tC v) → ClsV v (tyV' C t) → NoStar e → ClsEs C X es ts vs → ClsEs C X (e :: es) (t :: ts) (v :: vs)
theorem ClsEs.pa {es : List Expr} {ts : List Mp.Ty} {vs : List V} (h : ClsEs C X es ts vs) : PA X es (fun _ H Q => Q vs H) := by
  induction h with
  | nil => exact PA.imp' pa_nil fun σ H Q q => q
  | cons h1 h2 n _ ih => exact PA.imp' (pa_cons h1 ih (n _ _)) fun σ H Q q => q
theorem ClsEs.paired {es : List Expr} {ts : List Mp.Ty} {vs : List V} (h : ClsEs C X es ts vs) : Paired ClsV vs (ts.map (tyV' C)) := by
  induction h with
  | nil => exact .nil
  | cons h1 h2 _ _ ih => exact .cons h2 ih
theorem ClsEs.len {es : List Expr} {ts : List Mp.Ty} {vs : List V} (h : ClsEs C X es ts vs) : vs.length = es.length := by
  induction h with
  | nil => rfl
  | cons _ _ _ _ ih => simp [ih]
theorem se_isinN (hK : X.K = C.K) (T : Tab C) {a : Expr} {cs : List Expr} {vs : List V} {x : Mp.Ex} {ts : List Mp.Ty} {p p2 : Pos} {k : Nat} (ha : PE X a (tE C W (mE C cf x))) (hc : ClsEs C X cs ts vs) (hts : ts ≠ []) (hl : cs.length ≤ 1000) (n1 : NoStar a) (hg : Gl X "isinstance") (hm : X.mg "isinstance" = none) : PE X (.Call (.Name "isinstance" p) [a, .Tuple cs k p2] [] pos) (tE C W (mE C cf (.isin x ts))) := by
  have n2 : NoStar (.Tuple cs k p2) := fun _ _ => rfl
  refine PE.imp' (pe_callB so_isN hg hm (by decide +kernel) (pa_cons ha (pa_cons (pe_tup hc.pa) pa_nil (n2 [] _)) (n1 [_] _)) (by decide +kernel) (by decide +kernel) (n1 [_] _) (back_plain (es := [_]) (fun y hy => by simp at hy; rw [hy]; exact n2) _ _)) fun σ H Q q => ?_
  obtain ⟨ρ, env, h0, es, S, ev⟩ := q
  simp only [mE, Mp.evE] at ev
  refine ⟨ρ, env, h0, es, S, (ev.bind (R := RD C)).imp fun v H1 ⟨d, ρ1, h1, l1, k1, S1, r1, ev1⟩ => ?_⟩
  obtain ⟨z, ez, ev2⟩ := ev1.opt
  cases q : Mp.isinTys C.pg h1 d ts with
  | none => rw [q] at ez; cases ez
  | some b =>
    rw [q] at ez
    cases ez
    refine ⟨by rw [hc.len, sizeLine_eq]; omega, fun tp np => ?_⟩
    have S2 := S1.other np (.tup vs)
    have r2 := RelD.mono (Le.refl _) (Kp.new (o := .tup vs) np) _ _ r1
    obtain ⟨ty, ht, hk⟩ := so_isin hK T S2 r2 q hts
    exact ⟨v, tp, vs, ty, _, b, rfl, upd_same, hc.paired, ht, hk, ev2 ρ1 _ _ (Le.refl _) (Kp.new np) S2 (blRel _)⟩
/-! ### methods of built-in types -/
/-- a method of a built-in type that is served: for lists, for dicts -/
structure BmL (X : Cx) (C : Cf) (name : Str) (b : Mp.Bm) (id : String) : Prop where
  slot : Slot "list" name id
  ty : typeOf (.builtin id) = pure (.type "method_descriptor")
  rule : MtR X id (rML C b)
structure BmD (X : Cx) (C : Cf) (name : Str) (b : Mp.Bm) (id : String) : Prop where
  slot : Slot "dict" name id
  ty : typeOf (.builtin id) = pure (.type "method_descriptor")
  rule : MtR X id (rMD C b)
theorem bmop_noerr (b : Mp.Bm) (x : Mp.D) (ys : List Mp.D) (h : Mp.Heap) (c : Nat) (fs : List (Nat × Mp.D)) (h' : Mp.Heap) : Mp.bmop b x ys h ≠ .err c fs h' := by
  unfold Mp.bmop Mp.bmL Mp.bmD Mp.bmS Mp.opt
  repeat' split
  all_goals (intro q; cases q)
theorem kind1 {h : Mp.Heap} {x : Mp.D} (e : Mp.kindD h x = 1) : ∃ i ds, x = .ref i ∧ h[i]? = some (.lst ds) := by
  unfold Mp.kindD at e
  split at e
  · split at e
    · rename_i i _ ds ho; exact ⟨i, ds, rfl, ho⟩
    · cases e
    · cases e
  · cases e
  · cases e
theorem kind2 {h : Mp.Heap} {x : Mp.D} (e : Mp.kindD h x = 2) : ∃ i kvs, x = .ref i ∧ h[i]? = some (.dct kvs) := by
  unfold Mp.kindD at e
  split at e
  · split at e
    · cases e
    · rename_i i _ kvs ho; exact ⟨i, kvs, rfl, ho⟩
    · cases e
  · cases e
  · cases e
theorem served_kind {b : Mp.Bm} {k : Nat} (e : Mp.served b k = true) : k = 1 ∨ k = 2 := by
  unfold Mp.served at e
  split at e <;> simp at e <;> omega
theorem bm_end {σ : St} {ρ : List Addr} {h2 : Mp.Heap} {H : Hp} {x : Mp.D} {ys : List Mp.D} {b : Mp.Bm} {Q : VK} (ev : EvG C W σ (RD C) (Mp.bmop b x ys h2) ρ H Q) : ∃ z h', Mp.bmop b x ys h2 = .ok z h' ∧ EvG C W σ (RD C) (.ok z h') ρ H Q := by
  cases q : Mp.bmop b x ys h2 with
  | stk => rw [q] at ev; exact ev.elim
  | err c fs h' => exact absurd q (bmop_noerr _ _ _ _ _ _ _)
  | ok z h' => rw [q] at ev; exact ⟨z, h', rfl, ev⟩
/-- o.m(e, ..): a list's or a dict's method, as the receiver is -/
theorem se_bm (hK : X.K = C.K) {o e : Expr} {es : List Expr} {x : Mp.Ex} {xs : Mp.Exs} {name : Str} {apos : Pos} {b : Mp.Bm} (hl : Mp.served b 1 = true → ∃ id, BmL X C name b id) (hd : Mp.served b 2 = true → ∃ id, BmD X C name b id)
    (ho : PE X o (tE C W (mE C cf x))) (ha : PA X (e :: es) (tA C W (mEs C cf xs))) (hb : attributeBase o name X.env (eval o X.env) = eval o X.env) (hline : (apos.endLine == pos.line) = true) (ns : ∀ y ∈ e :: es, NoStar y) (few : (e :: es).length < 20) :
    PE X (.Call (.Attribute o name apos) (e :: es) [] pos) (tE C W (mE C cf (.bm x b xs))) := by
  have hfew : ((backTo pos (starEach (e :: es) X.env)).all (fun x => !x.1) && (backToKw pos (keywordEach [] X.env)).all (fun x => x.1.isSome) && decide ((e :: es).length + ([] : List Keyword).length + (if ([] : List Keyword).isEmpty then 0 else 1) < 30)) = true := by
    rw [back_all ns, Bool.true_and, Bool.and_eq_true]
    exact ⟨rfl, decide_eq_true (by simp only [List.length_nil, List.isEmpty_nil, if_true]; omega)⟩
  have hp := back_plain (es := es) (fun y hy => ns y (by simp [hy])) X.env pos
  refine ⟨fun pins s σ H Q I q => ?_⟩
  obtain ⟨ρ, env, h0, es', S, ev⟩ := q
  simp only [mE, Mp.evE] at ev
  cases e1 : Mp.evE C.pg cf x env h0 with
  | stk => rw [e1] at ev; exact ev.elim
  | err c fs h' =>
    rw [e1] at ev
    exact wpAny_Call_method_late hb hfew hline rfl (thn (ho.run pins s σ H (fun _ _ => False) I ⟨ρ, env, h0, es', S, by simp only [mE]; rw [e1]; exact ev⟩) fun v s1 ⟨x, H1, I1, r1, f⟩ => f.elim)
  | ok d h1 =>
    rw [e1] at ev
    simp only [Mp.Res.bind] at ev
    split at ev
    · rename_i sv
      have fin : ∀ {k : Nat}, Mp.kindD h1 d = k → ∀ {r : V → List V → Hp → VK → Prop}, (∀ ρ2 h2 H2 v us ys z h', Sim C ρ2 h2 H2 → RelD C.K ρ2 H2 d v → RelDs C.K ρ2 H2 ys us → Mp.kindD h2 d = k → Mp.bmop b d ys h2 = .ok z h' → EvG C W σ (RD C) (.ok z h') ρ2 H2 Q → r v us H2 Q) → ∀ ρ1 H1 v, Le ρ ρ1 → Kp H H1 → Sim C ρ1 h1 H1 → RelD C.K ρ1 H1 d v → tA C W (mEs C cf xs) σ H1 fun us H2 => r v us H2 Q := by
        intro k hk r kk ρ1 H1 v l1 k1 S1 r1
        refine ⟨ρ1, env, h1, es'.mono l1 k1, S1, ((ev.weak l1 k1).bind (R := RDs C)).imp fun us H2 ⟨ys, ρ2, h2, l2, k2, S2, r2, ev2⟩ => ?_⟩
        split at ev2
        · rename_i hk2
          obtain ⟨z, h', q, ev3⟩ := bm_end ev2
          exact kk ρ2 h2 H2 v us ys z h' S2 (RelD.mono l2 k2 _ _ r1) r2 (by rw [← hk2]; exact hk) q ev3
        · exact ev2.elim
      rcases served_kind sv with hk | hk
      · rw [hk] at sv
        obtain ⟨id, B⟩ := hl sv
        obtain ⟨i, ds, rfl, hi⟩ := kind1 hk
        refine (pe_bm PySem.F.plainAttrs_list B.slot B.ty B.rule ho ha hb hfew hline (ns e (by simp) _ _) hp).run pins s σ H Q I ⟨ρ, env, h0, es', S, ?_⟩
        simp only [mE]
        rw [e1]
        intro ρ1 H1 v l1 k1 S1 r1
        refine ⟨?_, fin hk (fun ρ2 h2 H2 v us ys z h' S2 r2 rs k2 q ev3 => ?_) ρ1 H1 v l1 k1 S1 r1⟩
        · obtain ⟨a, rfl, ea⟩ := relRef r1
          obtain ⟨vs, ha1, _⟩ := S1.lst ea hi
          exact .inl ⟨rfl, vs, SqL.of ha1⟩
        · obtain ⟨i', ds2, ei, hi2⟩ := kind1 k2
          cases ei
          simp only [Mp.bmop, hi2] at q
          exact ⟨ρ2, h2, i, ds2, ys, S2, r2, rs, hi2, z, h', q, ev3⟩
      · rw [hk] at sv
        obtain ⟨id, B⟩ := hd sv
        obtain ⟨i, ds, rfl, hi⟩ := kind2 hk
        refine (pe_bm PySem.F.plainAttrs_dict B.slot B.ty B.rule ho ha hb hfew hline (ns e (by simp) _ _) hp).run pins s σ H Q I ⟨ρ, env, h0, es', S, ?_⟩
        simp only [mE]
        rw [e1]
        intro ρ1 H1 v l1 k1 S1 r1
        refine ⟨?_, fin hk (fun ρ2 h2 H2 v us ys z h' S2 r2 rs k2 q ev3 => ?_) ρ1 H1 v l1 k1 S1 r1⟩
        · obtain ⟨a, rfl, ea⟩ := relRef r1
          obtain ⟨o, ha1, r⟩ := S1.ob i a _ ea hi
          rcases r with ⟨ks, rfl, _⟩ | ⟨ks, rfl, r⟩
          · exact .inr (.inr (.inl ⟨rfl, .inl ⟨ks, ha1⟩⟩))
          · exact r.elim
        · obtain ⟨i', ds2, ei, hi2⟩ := kind2 k2
          cases ei
          simp only [Mp.bmop, hi2] at q
          exact ⟨ρ2, h2, i, ds2, ys, S2, r2, rs, hi2, z, h', q, ev3⟩
    · exact ev.elim
theorem se_bm0 (hK : X.K = C.K) {o : Expr} {x : Mp.Ex} {name : Str} {apos : Pos} {b : Mp.Bm} (hl : Mp.served b 1 = true → ∃ id, BmL X C name b id) (hd : Mp.served b 2 = true → ∃ id, BmD X C name b id)
    (ho : PE X o (tE C W (mE C cf x))) (hb : attributeBase o name X.env (eval o X.env) = eval o X.env) (hline : (apos.endLine == pos.line) = true) :
    PE X (.Call (.Attribute o name apos) [] [] pos) (tE C W (mE C cf (.bm x b .nil))) := by
  refine ⟨fun pins s σ H Q I q => ?_⟩
  obtain ⟨ρ, env, h0, es', S, ev⟩ := q
  simp only [mE, Mp.evE, Mp.evEs] at ev
  cases e1 : Mp.evE C.pg cf x env h0 with
  | stk => rw [e1] at ev; exact ev.elim
  | err c fs h' =>
    rw [e1] at ev
    exact wpAny_Call_method0_late hb hline (thn (ho.run pins s σ H (fun _ _ => False) I ⟨ρ, env, h0, es', S, by simp only [mE]; rw [e1]; exact ev⟩) fun v s1 ⟨x, H1, I1, r1, f⟩ => f.elim)
  | ok d h1 =>
    rw [e1] at ev
    simp only [Mp.Res.bind] at ev
    split at ev
    · rename_i sv
      rw [if_pos trivial] at ev
      obtain ⟨z, h', q, ev3⟩ := bm_end ev
      rcases served_kind sv with hk | hk
      · rw [hk] at sv
        obtain ⟨id, B⟩ := hl sv
        obtain ⟨i, ds, rfl, hi⟩ := kind1 hk
        refine (pe_bm0 PySem.F.plainAttrs_list B.slot B.ty B.rule ho hb hline).run pins s σ H Q I ⟨ρ, env, h0, es', S, ?_⟩
        simp only [mE]
        rw [e1]
        intro ρ1 H1 v l1 k1 S1 r1
        simp only [Mp.bmop, hi] at q
        refine ⟨?_, ⟨ρ1, h1, i, ds, [], S1, r1, .nil, hi, z, h', q, ev3.weak l1 k1⟩⟩
        obtain ⟨a, rfl, ea⟩ := relRef r1
        obtain ⟨vs, ha1, _⟩ := S1.lst ea hi
        exact .inl ⟨rfl, vs, SqL.of ha1⟩
      · rw [hk] at sv
        obtain ⟨id, B⟩ := hd sv
        obtain ⟨i, ds, rfl, hi⟩ := kind2 hk
        refine (pe_bm0 PySem.F.plainAttrs_dict B.slot B.ty B.rule ho hb hline).run pins s σ H Q I ⟨ρ, env, h0, es', S, ?_⟩
        simp only [mE]
        rw [e1]
        intro ρ1 H1 v l1 k1 S1 r1
        simp only [Mp.bmop, hi] at q
        refine ⟨?_, ⟨ρ1, h1, i, ds, [], S1, r1, .nil, hi, z, h', q, ev3.weak l1 k1⟩⟩
        obtain ⟨a, rfl, ea⟩ := relRef r1
        obtain ⟨o, ha1, r⟩ := S1.ob i a _ ea hi
        rcases r with ⟨ks, rfl, _⟩ | ⟨ks, rfl, r⟩
        · exact .inr (.inr (.inl ⟨rfl, .inl ⟨ks, ha1⟩⟩))
        · exact r.elim
    · exact ev.elim
/-- the methods' names -/
def bmName : Mp.Bm → Str
  | .append => "append"
  | .pop0 => "pop"
  | .pop1 => "pop"
  | .extend => "extend"
  | .insert => "insert"
  | .index => "index"
  | .get1 => "get"
  | .get2 => "get"
  | .setdefault => "setdefault"
  | .remove => "remove"
  | .reverse => "reverse"
  | .split => "split"
  | .join => "join"
  | .count => "count"
  | .upper => "upper"
def bmMany : Mp.Bm → Nat
  | .append => 1
  | .pop0 => 0
  | .pop1 => 1
  | .extend => 1
  | .insert => 2
  | .index => 1
  | .get1 => 1
  | .get2 => 2
  | .setdefault => 2
  | .remove => 1
  | .reverse => 0
  | .split => 1
  | .join => 1
  | .count => 1
  | .upper => 0
theorem bmL_of (hK : X.K = C.K) (hu : X.A.units + 65 < cLine) (b : Mp.Bm) (h : Mp.served b 1 = true) : ∃ id, BmL X C (bmName b) b id := by
  cases b <;> (try (simp [Mp.served] at h; done))
  · exact ⟨_, PySem.F.slot_list_append, PySem.F.type_list_append, sm_append⟩
  · exact ⟨_, PySem.F.slot_list_pop, PySem.F.type_list_pop, sm_pop0⟩
  · exact ⟨_, PySem.F.slot_list_pop, PySem.F.type_list_pop, sm_pop1⟩
  · exact ⟨_, PySem.F.slot_list_extend, PySem.F.type_list_extend, sm_extend hK⟩
  · exact ⟨_, PySem.F.slot_list_insert, PySem.F.type_list_insert, sm_insert⟩
  · exact ⟨_, PySem.F.slot_list_index, PySem.F.type_list_index, sm_index hK hu⟩
  · exact ⟨_, PySem.F.slot_list_reverse, PySem.F.type_list_reverse, sm_reverse⟩
theorem bmD_of (hu : X.A.units + 65 < cLine) (b : Mp.Bm) (h : Mp.served b 2 = true) : ∃ id, BmD X C (bmName b) b id := by
  cases b <;> (try (simp [Mp.served] at h; done))
  · exact ⟨_, PySem.F.slot_dict_pop, PySem.F.type_dict_pop, sm_popD⟩
  · exact ⟨_, PySem.F.slot_dict_get, PySem.F.type_dict_get, sm_get1 (by omega)⟩
  · exact ⟨_, PySem.F.slot_dict_get, PySem.F.type_dict_get, sm_get2 (by omega)⟩
end
end MpS
end
section
set_option Elab.async false
set_option linter.all false
set_option maxRecDepth 100000
set_option maxHeartbeats 4000000
namespace MpS
open PySem L2
/-! ### what is walked -/
/-- the turns of a walk, the interpreter's and the model's -/
def RIt (C : Cf) : Rel Mp.ItV It := fun ρ _ H t J => ∀ ρ' h' H' i, Le ρ ρ' → Kp H H' → Sim C ρ' h' H' → match t.next i h' with
  | none => True
  | some none => J.stop i H'
  | some (some d) => J.go i H' ∧ ∀ x H2, J.yld i H' x H2 → Kp H' H2 ∧ Sim C ρ' h' H2 ∧ RelD C.K ρ' H2 d x
def tI (C : Cf) (W : WX) (m : Mp.Env → Mp.Heap → Mp.Res Mp.ItV) : TI := fun σ H R => ∃ ρ env h, ES C.K ρ H env σ ∧ Sim C ρ h H ∧ EvG C W σ (RIt C) (m env h) ρ H R
section
variable {C : Cf} {X : Cx} {W : WX} {pos : Pos} {cf : Nat → List Mp.D → Mp.Heap → Mp.Res Mp.D}
abbrev mI (C : Cf) (cf : Nat → List Mp.D → Mp.Heap → Mp.Res Mp.D) (e : Mp.It) : Mp.Env → Mp.Heap → Mp.Res Mp.ItV := Mp.evI C.pg cf e
theorem PI.imp' {tg e : Expr} {t t' : TI} (h : PI X tg e t) (k : ∀ σ H Q, t' σ H Q → t σ H Q) : PI X tg e t' := ⟨fun pins s σ H Q I q => h.run pins s σ H Q I (k σ H Q q)⟩
theorem PI.or {tg e : Expr} {t t' : TI} (h : PI X tg e t) (h' : PI X tg e t') : PI X tg e (fun σ H R => t σ H R ∨ t' σ H R) := ⟨fun pins s σ H Q I q => q.elim (fun q => h.run pins s σ H Q I q) fun q => h'.run pins s σ H Q I q⟩
theorem seq_ok {ρ : List Addr} {h : Mp.Heap} {H : Hp} (S : Sim C ρ h H) {a : Nat} {b : Addr} {ds : List Mp.D} (e : ρ[a]? = some b) (q : Mp.seqAt a h = some ds) : ∃ vs, SqL C.K H b vs ∧ RelDs C.K ρ H ds vs := by
  unfold Mp.seqAt at q
  split at q
  · rename_i es ho
    cases q
    obtain ⟨vs, h1, g⟩ := S.lst e ho
    exact ⟨vs, SqL.of h1, g⟩
  · rename_i es ho
    cases q
    obtain ⟨vs, h1, g⟩ := S.ob a b _ e ho
    exact ⟨vs, ro_sq h1, g⟩
  · cases q
theorem seq_has {ρ : List Addr} {h : Mp.Heap} {H : Hp} (S : Sim C ρ h H) {a : Nat} {ds : List Mp.D} (q : Mp.seqAt a h = some ds) : ∃ b, ρ[a]? = some b := by
  unfold Mp.seqAt at q
  split at q
  · rename_i es ho; obtain ⟨b, e, _⟩ := S.at ho; exact ⟨b, e⟩
  · rename_i es ho; obtain ⟨b, e, _⟩ := S.at ho; exact ⟨b, e⟩
  · cases q
theorem it_list {ρ : List Addr} {h : Mp.Heap} {H : Hp} {a : Nat} {b : Addr} (e : ρ[a]? = some b) : RIt C ρ h H (.live a) (Itl C.K b) := by
  intro ρ' h' H' i l k S
  simp only [Mp.ItV.next]
  cases q : Mp.seqAt a h' with
  | none => trivial
  | some ds =>
    obtain ⟨vs, sq, g⟩ := seq_ok S (l _ _ e) q
    cases q1 : ds[i]? with
    | none =>
      simp only [Option.map_some, q1]
      exact ⟨vs, sq, by rw [g.length]; exact List.getElem?_eq_none_iff.mp q1⟩
    | some d =>
      simp only [Option.map_some, q1]
      obtain ⟨v, ev, r⟩ := g.get q1
      refine ⟨⟨vs, v, sq, ev⟩, fun x H2 y => ?_⟩
      obtain ⟨rfl, y⟩ := y
      have := y vs sq
      rw [ev] at this
      cases this
      exact ⟨Kp.refl _, S, r⟩
theorem it_tup {ρ : List Addr} {h : Mp.Heap} {H : Hp} {ds : List Mp.D} {b : Addr} {vs : List V} (t : TupAt C.K H b vs) (g : RelDs C.K ρ H ds vs) : RIt C ρ h H (.snap ds) (Itt C.K b) := by
  intro ρ' h' H' i l k S
  simp only [Mp.ItV.next]
  have t' := t.mono k
  have g' := RelDs.mono l k _ _ g
  cases q1 : ds[i]? with
  | none => exact ⟨vs, t'.sq, by rw [g.length]; exact List.getElem?_eq_none_iff.mp q1⟩
  | some d =>
    obtain ⟨v, ev, r⟩ := g'.get q1
    refine ⟨⟨vs, v, t'.sq, ev⟩, fun x H2 y => ?_⟩
    obtain ⟨rfl, y⟩ := y
    have := y vs t'.sq
    rw [ev] at this
    cases this
    exact ⟨Kp.refl _, S, r⟩
theorem it_str {ρ : List Addr} {h : Mp.Heap} {H : Hp} {s : List Nat} : RIt C ρ h H (.snap (s.map fun c => .str [c])) (Its (strV s)) := by
  intro ρ' h' H' i l k S
  simp only [Mp.ItV.next, List.getElem?_map]
  cases q1 : s[i]? with
  | none =>
    show s.toArray.size ≤ i
    simpa using q1
  | some c =>
    have hi : i < s.toArray.size := by simpa using (List.getElem?_eq_some_iff.mp q1).1
    refine ⟨hi, fun x H2 y => ?_⟩
    obtain ⟨rfl, c', e, rfl⟩ := y
    have e' : s[i]? = some c' := by simpa [strV] using e
    rw [q1] at e'
    cases e'
    exact ⟨Kp.refl _, S, strRel [c]⟩
theorem it_keys {ρ : List Addr} {h : Mp.Heap} {H : Hp} {kvs : List (Mp.D × Mp.D)} {d : Addr} {o : Obj} {ks : List (Key × V)} (t : H d = some (.frz o (.dK ks))) (g : RelKK C.K ρ H kvs ks) : RIt C ρ h H (.snap (kvs.map (·.1))) (Itk d o ks) := by
  intro ρ' h' H' i l k S
  simp only [Mp.ItV.next, List.getElem?_map]
  have t' := k _ _ t rfl
  cases q1 : kvs[i]? with
  | none => exact ⟨t', by rw [← g.1]; exact List.getElem?_eq_none_iff.mp q1⟩
  | some p =>
    have hi : i < ks.length := by rw [← g.1]; exact (List.getElem?_eq_some_iff.mp q1).1
    refine ⟨⟨t', hi⟩, fun x H2 y => ?_⟩
    obtain ⟨rfl, kk, v, e, rfl⟩ := y
    exact ⟨Kp.refl _, S, key_rel (g.2 i p _ q1 e).1⟩
theorem it_items {ρ : List Addr} {h : Mp.Heap} {H : Hp} {kvs : List (Mp.D × Mp.D)} {d : Addr} {o : Obj} {ks : List (Key × V)} (t : H d = some (.frz o (.dK ks))) (g : RelKK C.K ρ H kvs ks) : RIt C ρ h H (.snap (kvs.map fun p => .tup [p.1, p.2])) (Iti d o ks) := by
  intro ρ' h' H' i l k S
  simp only [Mp.ItV.next, List.getElem?_map]
  have t' := k _ _ t rfl
  cases q1 : kvs[i]? with
  | none => exact ⟨t', by rw [← g.1]; exact List.getElem?_eq_none_iff.mp q1⟩
  | some p =>
    have hi : i < ks.length := by rw [← g.1]; exact (List.getElem?_eq_some_iff.mp q1).1
    refine ⟨⟨t', hi⟩, fun x H2 y => ?_⟩
    obtain ⟨T, kk, v, e, rfl, nt, rfl⟩ := y
    obtain ⟨e1, r⟩ := g.2 i p _ q1 e
    have r' := RelD.mono l (k.trans (Kp.new (o := .tup [kV kk, v]) nt)) _ _ r
    exact ⟨Kp.new nt, S.other nt _, tupRel (.inl upd_same) (.cons (key_rel e1) (.one r'))⟩
theorem range_get {lo : Int} {n i : Nat} : (Mp.rangeL lo n)[i]? = if i < n then some (.int (lo + i)) else none := by
  induction n generalizing lo i with
  | zero => simp [Mp.rangeL]
  | succ n ih =>
    cases i with
    | zero => simp [Mp.rangeL]
    | succ i =>
      simp only [Mp.rangeL, List.getElem?_cons_succ, ih]
      by_cases hi : i < n
      · rw [if_pos hi, if_pos (by omega)]
        congr 2
        omega
      · rw [if_neg hi, if_neg (by omega)]
theorem it_range {ρ : List Addr} {h : Mp.Heap} {H : Hp} {lo : Int} {n : Nat} : RIt C ρ h H (.snap (Mp.rangeL lo n)) (Itr lo n) := by
  intro ρ' h' H' i l k S
  simp only [Mp.ItV.next, range_get]
  by_cases hi : i < n
  · rw [if_pos hi]
    refine ⟨hi, fun x H2 y => ?_⟩
    obtain ⟨rfl, rfl⟩ := y
    exact ⟨Kp.refl _, S, intRel _⟩
  · rw [if_neg hi]
    exact Nat.le_of_not_lt hi
theorem it_enum {ρ : List Addr} {h : Mp.Heap} {H : Hp} {a : Nat} {b : Addr} (e : ρ[a]? = some b) : RIt C ρ h H (.enum a) (Ite C.K b) := by
  intro ρ' h' H' i l k S
  simp only [Mp.ItV.next]
  cases q : Mp.seqAt a h' with
  | none => trivial
  | some ds =>
    obtain ⟨vs, sq, g⟩ := seq_ok S (l _ _ e) q
    cases q1 : ds[i]? with
    | none =>
      simp only [Option.map_some, Option.map_none, q1]
      exact ⟨vs, sq, by rw [g.length]; exact List.getElem?_eq_none_iff.mp q1⟩
    | some d =>
      simp only [Option.map_some, q1]
      obtain ⟨v, ev, r⟩ := g.get q1
      refine ⟨⟨vs, v, sq, ev⟩, fun x H2 y => ?_⟩
      obtain ⟨T, z, rfl, nt, rfl, y⟩ := y
      have := y vs sq
      rw [ev] at this
      cases this
      exact ⟨Kp.new nt, S.other nt _, tupRel (.inl upd_same) (.cons (intRel _) (.one (RelD.mono (Le.refl _) (Kp.new nt) _ _ r)))⟩
theorem it_zip {ρ : List Addr} {h : Mp.Heap} {H : Hp} {a c : Nat} {b d : Addr} (e1 : ρ[a]? = some b) (e2 : ρ[c]? = some d) : RIt C ρ h H (.zip a c) (Itz C.K b d) := by
  intro ρ' h' H' i l k S
  simp only [Mp.ItV.next]
  cases q : Mp.seqAt a h' with
  | none => trivial
  | some ds =>
    cases q' : Mp.seqAt c h' with
    | none => trivial
    | some es =>
      obtain ⟨vs, sq, g⟩ := seq_ok S (l _ _ e1) q
      obtain ⟨us, sq', g'⟩ := seq_ok S (l _ _ e2) q'
      cases q1 : ds[i]? with
      | none =>
        simp only [q1]
        exact ⟨vs, us, sq, sq', .inl (by rw [g.length]; exact List.getElem?_eq_none_iff.mp q1)⟩
      | some x =>
        cases q2 : es[i]? with
        | none =>
          simp only [q1, q2]
          exact ⟨vs, us, sq, sq', .inr (by rw [g'.length]; exact List.getElem?_eq_none_iff.mp q2)⟩
        | some y =>
          simp only [q1, q2]
          obtain ⟨v, ev, r⟩ := g.get q1
          obtain ⟨u, eu, r'⟩ := g'.get q2
          refine ⟨⟨vs, us, v, u, sq, sq', ev, eu⟩, fun x H2 y => ?_⟩
          obtain ⟨T, z, z', rfl, nt, rfl, y, y'⟩ := y
          have h1 := y vs sq
          have h2 := y' us sq'
          rw [ev] at h1
          rw [eu] at h2
          cases h1
          cases h2
          exact ⟨Kp.new nt, S.other nt _, tupRel (.inl upd_same) (.cons (RelD.mono (Le.refl _) (Kp.new nt) _ _ r) (.one (RelD.mono (Le.refl _) (Kp.new nt) _ _ r')))⟩
theorem it_zipT {ρ : List Addr} {h : Mp.Heap} {H : Hp} {ds es : List Mp.D} {b d : Addr} {vs us : List V} (t : TupAt C.K H b vs) (t' : TupAt C.K H d us) (g : RelDs C.K ρ H ds vs) (g' : RelDs C.K ρ H es us) : RIt C ρ h H (.snap (List.zipWith (fun x y => .tup [x, y]) ds es)) (RZ.ItzT C.K b d) := by
  intro ρ' h' H' i l k S
  simp only [Mp.ItV.next, List.getElem?_zipWith]
  have t1 := t.mono k
  have t2 := t'.mono k
  have g1 := RelDs.mono l k _ _ g
  have g2 := RelDs.mono l k _ _ g'
  cases q1 : ds[i]? with
  | none => exact ⟨vs, us, t1.sq, t2.sq, .inl (by rw [g.length]; exact List.getElem?_eq_none_iff.mp q1)⟩
  | some x =>
    cases q2 : es[i]? with
    | none => exact ⟨vs, us, t1.sq, t2.sq, .inr (by rw [g'.length]; exact List.getElem?_eq_none_iff.mp q2)⟩
    | some y =>
      obtain ⟨v, ev, r⟩ := g1.get q1
      obtain ⟨u, eu, r'⟩ := g2.get q2
      refine ⟨⟨vs, us, v, u, t1.sq, t2.sq, ev, eu⟩, fun x H2 y => ?_⟩
      obtain ⟨T, z, z', rfl, nt, rfl, y, y'⟩ := y
      have h1 := y vs t1.sq
      have h2 := y' us t2.sq
      rw [ev] at h1
      rw [eu] at h2
      cases h1
      cases h2
      exact ⟨Kp.new nt, S.other nt _, tupRel (.inl upd_same) (.cons (RelD.mono (Le.refl _) (Kp.new nt) _ _ r) (.one (RelD.mono (Le.refl _) (Kp.new nt) _ _ r')))⟩
section
variable {tg e : Expr} {x : Mp.Ex}
/-- a value that is walked -/
def walkOf (pth : Bool) (x : Mp.D) (h : Mp.Heap) : Mp.Res Mp.ItV := match x with
  | .tup ds => .ok (.snap ds) h
  | .str s => .ok (.snap (s.map fun c => .str [c])) h
  | .ref a => match h[a]? with
    | some (.lst _) => .ok (.live a) h
    | some (.ro _) => .ok (.live a) h
    | some (.fdct kvs) => if pth then .ok (.snap (kvs.map (·.1))) h else .stk
    | _ => .stk
  | _ => .stk
theorem evI_e {env : Mp.Env} {h : Mp.Heap} : Mp.evI C.pg cf (.e x) env h = (Mp.evE C.pg cf x env h).bind (walkOf false) := by
  simp only [Mp.evI]
  congr 1
  funext d h1
  cases d with
  | ref a =>
    simp only [walkOf]
    cases h1[a]? with
    | none => rfl
    | some o => cases o <;> rfl
  | _ => rfl
theorem evI_path {env : Mp.Env} {h : Mp.Heap} : Mp.evI C.pg cf (.path x) env h = (Mp.evE C.pg cf x env h).bind (walkOf true) := by
  simp only [Mp.evI]
  rfl
theorem si_walk (hK : X.K = C.K) {pth : Bool} (he : PE X e (tE C W (mE C cf x))) : PI X tg e (tI C W fun env h => (mE C cf x env h).bind (walkOf pth)) := by
  refine ⟨fun pins s σ H R I hw => ?_⟩
  obtain ⟨ρ, env, h0, es, S, ev⟩ := hw
  have ev : EvG C W σ (RIt C) ((mE C cf x env h0).bind (walkOf pth)) ρ H R := ev
  have use : ∀ {t : V → Hp → Prop} , (EvG C W σ (RD C) (mE C cf x env h0) ρ H t) → tE C W (mE C cf x) σ H t := fun {t} q => ⟨ρ, env, h0, es, S, q⟩
  cases q : mE C cf x env h0 with
  | stk => rw [q] at ev; exact ev.elim
  | err c fs h' => exact (pi_list he).run pins s σ H R I (use (by rw [q] at ev ⊢; exact ev))
  | ok d h1 =>
    rw [q] at ev use
    simp only [Mp.Res.bind] at ev
    unfold walkOf at ev
    split at ev
    · rename_i ds
      refine (pi_tup he).run pins s σ H R I (use fun ρ' H' v l k S' r => ?_)
      obtain ⟨a, vs, rfl, t, g⟩ := relTup r
      exact ⟨a, rfl, ⟨vs, by rw [hK]; exact t.sq⟩, ev ρ' H' _ l k S' (by rw [hK]; exact it_tup t g)⟩
    · rename_i s
      refine (pi_str he).run pins _ σ H R I (use fun ρ' H' v l k S' r => ?_)
      exact ⟨_, relStr r, ev ρ' H' _ l k S' it_str⟩
    · rename_i i
      have lst : ∀ ds, Mp.seqAt i h1 = some ds → EvG C W σ (RIt C) (.ok (.live i) h1) ρ H R → wpAny (model X.prog X.w) X.A (eval e X.env) (fun v s1 => wpAny (model X.prog X.w) X.A (pyIter v) (PIE X pins σ tg R) X.xe s1) X.xe s := fun ds q ev => by
        refine (pi_list he).run pins s σ H R I (use fun ρ' H' v l k S' r => ?_)
        obtain ⟨a, rfl, e1⟩ := relRef r
        obtain ⟨vs, sq, g⟩ := seq_ok S' e1 q
        exact ⟨a, rfl, ⟨vs, by rw [hK]; exact sq⟩, ev ρ' H' _ l k S' (by rw [hK]; exact it_list e1)⟩
      split at ev
      · rename_i ds ho; exact lst ds (by simp only [Mp.seqAt, ho]) ev
      · rename_i ds ho; exact lst ds (by simp only [Mp.seqAt, ho]) ev
      · rename_i kvs ho
        split at ev
        · refine (pi_keys he).run pins s σ H R I (use fun ρ' H' v l k S' r => ?_)
          obtain ⟨a, rfl, e1⟩ := relRef r
          obtain ⟨ob, o, h2, g⟩ := S'.ob _ _ _ e1 ho
          rcases g with ⟨ks, rfl, g⟩ | ⟨ks, _, g⟩
          · exact ⟨a, ob, rfl, .inl ⟨ks, h2, ev ρ' H' _ l k S' (it_keys h2 g)⟩⟩
          · exact g.elim
        · exact ev.elim
      · exact ev.elim
    · exact ev.elim
theorem tI.ev {e e' : Mp.Env → Mp.Heap → Mp.Res Mp.ItV} {σ : St} {H : Hp} {Q : It → Hp → Prop} (h : tI C W e σ H Q) (q : ∀ env h, e env h = e' env h) : tI C W e' σ H Q := by
  obtain ⟨ρ, env, h0, es, S, ev⟩ := h
  exact ⟨ρ, env, h0, es, S, by rw [← q]; exact ev⟩
theorem si_e (hK : X.K = C.K) (he : PE X e (tE C W (mE C cf x))) : PI X tg e (tI C W (mI C cf (.e x))) := PI.imp' (si_walk hK he) fun σ H Q h => h.ev fun _ _ => evI_e
theorem si_path (hK : X.K = C.K) (he : PE X e (tE C W (mE C cf x))) : PI X tg e (tI C W (mI C cf (.path x))) := PI.imp' (si_walk hK he) fun σ H Q h => h.ev fun _ _ => evI_path
theorem smallI_of {i : Int} (h : Mp.smallI i = true) : -(2 ^ 62) ≤ i ∧ i < 2 ^ 62 := by
  unfold Mp.smallI at h
  simpa only [Bool.and_eq_true, decide_eq_true_eq] using h
theorem si_rng {p : Pos} (hg : Gl X "range") (hm : X.mg "range" = none) (he : PE X e (tE C W (mE C cf x))) (ns : NoStar e) : PI X tg (.Call (.Name "range" p) [e] [] pos) (tI C W (mI C cf (.rng x))) := by
  refine PI.imp' (pi_range1 hg hm (PA_cons he PA_nil (ns [] _)) (ns [] _)) fun σ H R hw => ?_
  obtain ⟨ρ, env, h0, es, S, ev⟩ := hw
  simp only [mI, Mp.evI] at ev
  refine ⟨ρ, env, h0, es, S, ?_⟩
  simp only [mEs, Mp.evEs]
  cases q : Mp.evE C.pg cf x env h0 with
  | stk => rw [q] at ev; exact ev.elim
  | err c fs h' => rw [q] at ev; exact ev
  | ok d h1 =>
    rw [q] at ev
    simp only [Mp.Res.bind] at ev ⊢
    intro ρ' H' v l k S' r
    obtain ⟨u, rfl, r1⟩ := r.inv1
    split at ev
    · rename_i i
      split at ev
      · rename_i hs
        obtain ⟨h1, h2⟩ := smallI_of hs
        exact ⟨i, by rw [relInt r1], h1, h2, ev ρ' H' _ l k S' it_range⟩
      · exact ev.elim
    · exact ev.elim
theorem si_rng2 {b : Expr} {y : Mp.Ex} {p : Pos} (hg : Gl X "range") (hm : X.mg "range" = none) (he : PE X e (tE C W (mE C cf x))) (hb : PE X b (tE C W (mE C cf y))) (ns : NoStar e) (ns2 : NoStar b) : PI X tg (.Call (.Name "range" p) [e, b] [] pos) (tI C W (mI C cf (.rng2 x y))) := by
  have h2 : starEach [b] X.env = [(false, eval b X.env)] := ns2 [] _
  refine PI.imp' (pi_range2 hg hm (PA_cons he (PA_cons hb PA_nil (ns2 [] _)) (ns [b] _)) (by rw [ns [b], h2]) h2) fun σ H R hw => ?_
  obtain ⟨ρ, env, h0, es, S, ev⟩ := hw
  simp only [mI, Mp.evI] at ev
  refine ⟨ρ, env, h0, es, S, ?_⟩
  simp only [mEs, Mp.evEs]
  cases q : Mp.evE C.pg cf x env h0 with
  | stk => rw [q] at ev; exact ev.elim
  | err c fs h' => rw [q] at ev; exact ev
  | ok d h1 =>
    rw [q] at ev
    simp only [Mp.Res.bind] at ev ⊢
    cases q2 : Mp.evE C.pg cf y env h1 with
    | stk => rw [q2] at ev; exact ev.elim
    | err c fs h' => rw [q2] at ev; exact ev
    | ok d2 h2 =>
      rw [q2] at ev
      simp only [Mp.Res.bind] at ev ⊢
      intro ρ' H' v l k S' r
      obtain ⟨u, u', rfl, r1, r2⟩ := r.inv2
      split at ev
      · rename_i i j
        split at ev
        · rename_i hs
          rw [Bool.and_eq_true] at hs
          obtain ⟨h1, h2⟩ := smallI_of hs.1
          obtain ⟨h3, h4⟩ := smallI_of hs.2
          exact ⟨i, j, by rw [relInt r1, relInt r2], ⟨h1, h2, h3, h4⟩, ev ρ' H' _ l k S' it_range⟩
        · exact ev.elim
      · exact ev.elim
theorem si_enum (hK : X.K = C.K) {p tpos : Pos} {elts : List Expr} {kk : Nat} (hg : Gl X "enumerate") (hm : X.mg "enumerate" = none) (he : PE X e (tE C W (mE C cf x))) (ns : NoStar e) : PI X (.Tuple elts kk tpos) (.Call (.Name "enumerate" p) [e] [] pos) (tI C W (mI C cf (.enum x))) := by
  refine PI.imp' (pi_enum hg hm (PA_cons he PA_nil (ns [] _)) (ns [] _)) fun σ H R hw => ?_
  obtain ⟨ρ, env, h0, es, S, ev⟩ := hw
  simp only [mI, Mp.evI] at ev
  refine ⟨ρ, env, h0, es, S, ?_⟩
  simp only [mEs, Mp.evEs]
  cases q : Mp.evE C.pg cf x env h0 with
  | stk => rw [q] at ev; exact ev.elim
  | err c fs h' => rw [q] at ev; exact ev
  | ok d h1 =>
    rw [q] at ev
    simp only [Mp.Res.bind] at ev ⊢
    intro ρ' H' v l k S' r
    obtain ⟨u, rfl, r1⟩ := r.inv1
    split at ev
    · rename_i i
      obtain ⟨a, rfl, e1⟩ := relRef r1
      have lst : ∀ ds, Mp.seqAt i h1 = some ds → EvG C W σ (RIt C) (.ok (.enum i) h1) ρ H R → ∃ a_1 xs, [V.ref a] = [.ref a_1] ∧ SqL X.K H' a_1 xs ∧ R (Ite X.K a_1) H' := fun ds q ev => by
        obtain ⟨vs, sq, g⟩ := seq_ok S' e1 q
        exact ⟨a, vs, rfl, by rw [hK]; exact sq, ev ρ' H' _ l k S' (by rw [hK]; exact it_enum e1)⟩
      split at ev
      · rename_i ds ho; exact lst ds (by simp only [Mp.seqAt, ho]) ev
      · rename_i ds ho; exact lst ds (by simp only [Mp.seqAt, ho]) ev
      · exact ev.elim
    · exact ev.elim
theorem si_zip (hK : X.K = C.K) {b : Expr} {y : Mp.Ex} {p tpos : Pos} {elts : List Expr} {kk : Nat} (hg : Gl X "zip") (hm : X.mg "zip" = none) (he : PE X e (tE C W (mE C cf x))) (hb : PE X b (tE C W (mE C cf y))) (ns : NoStar e) (ns2 : NoStar b) : PI X (.Tuple elts kk tpos) (.Call (.Name "zip" p) [e, b] [] pos) (tI C W (mI C cf (.zip x y))) := by
  refine PI.imp' (RZ.pi_zipA hg hm (PA_cons he (PA_cons hb PA_nil (ns2 [] _)) (ns [b] _)) (ns [b] _) (back_plain (es := [b]) (fun z hz => by simp at hz; subst hz; exact ns2) _ _)) fun σ H R hw => ?_
  obtain ⟨ρ, env, h0, es, S, ev⟩ := hw
  simp only [mI, Mp.evI] at ev
  refine ⟨ρ, env, h0, es, S, ?_⟩
  simp only [mEs, Mp.evEs]
  cases q : Mp.evE C.pg cf x env h0 with
  | stk => rw [q] at ev; exact ev.elim
  | err c fs h' => rw [q] at ev; exact ev
  | ok d h1 =>
    rw [q] at ev
    simp only [Mp.Res.bind] at ev ⊢
    cases q2 : Mp.evE C.pg cf y env h1 with
    | stk => rw [q2] at ev; exact ev.elim
    | err c fs h' => rw [q2] at ev; exact ev
    | ok d2 h2 =>
      rw [q2] at ev
      simp only [Mp.Res.bind] at ev ⊢
      intro ρ' H' v l k S' r
      obtain ⟨u, u', rfl, r1, r2⟩ := r.inv2
      split at ev
      · rename_i xs ys
        obtain ⟨a, vs, rfl, t, g⟩ := relTup r1
        obtain ⟨c, us, rfl, t', g'⟩ := relTup r2
        exact ⟨a, c, vs, us, rfl, .inr ⟨by rw [hK]; exact t.sq, by rw [hK]; exact t'.sq, ev ρ' H' _ l k S' (by rw [hK]; exact it_zipT t t' g g')⟩⟩
      · rename_i i j
        split at ev
        · rename_i xs ys e3 e4
          obtain ⟨a, rfl, e1⟩ := relRef r1
          obtain ⟨c, rfl, e2⟩ := relRef r2
          obtain ⟨vs, sq, g⟩ := seq_ok S' e1 e3
          obtain ⟨us, sq', g'⟩ := seq_ok S' e2 e4
          exact ⟨a, c, vs, us, rfl, .inl ⟨by rw [hK]; exact sq, by rw [hK]; exact sq', ev ρ' H' _ l k S' (by rw [hK]; exact it_zip e1 e2)⟩⟩
        · exact ev.elim
      · exact ev.elim
theorem si_items {apos cpos tpos : Pos} {elts : List Expr} {kk : Nat} (he : PE X e (tE C W (mE C cf x))) (hbase : attributeBase e "items" X.env (eval e X.env) = eval e X.env) (hline : (apos.endLine == cpos.line) = true) :
    PI X (.Tuple elts kk tpos) (.Call (.Attribute e "items" apos) [] [] cpos) (tI C W (mI C cf (.items x))) := by
  refine PI.imp' (pi_items he hbase hline) fun σ H R hw => ?_
  obtain ⟨ρ, env, h0, es, S, ev⟩ := hw
  simp only [mI, Mp.evI] at ev
  refine ⟨ρ, env, h0, es, S, (ev.bind (R := RD C)).imp fun v H1 ⟨d, ρ1, h1, l1, k1, S1, r1, ev1⟩ => ?_⟩
  split at ev1
  · rename_i i
    split at ev1
    · rename_i kvs ho
      obtain ⟨a, rfl, e1⟩ := relRef r1
      obtain ⟨ob, o, h2, g⟩ := S1.ob _ _ _ e1 ho
      rcases g with ⟨ks, rfl, g⟩ | ⟨ks, _, g⟩
      · exact ⟨a, ob, ks, rfl, h2, ev1.ok S1 (it_items h2 g)⟩
      · exact g.elim
    · exact ev1.elim
  · exact ev1.elim
end
end
end MpS
end
section
set_option Elab.async false
set_option linter.all false
set_option maxRecDepth 100000
set_option maxHeartbeats 4000000
namespace MpS
open PySem L2
/-! ### targets -/
def GG (C : Cf) (σ : St) (vs : List Nat) (r : Mp.Res Mp.Env) (ρ : List Addr) (H : Hp) (Z : St → Hp → Prop) : Prop := match r with
  | .ok env' h' => ∀ ρ' σ' H', Le ρ ρ' → Kp H H' → ES C.K ρ' H' env' σ' → Sim C ρ' h' H' → σ'.length = σ.length → (∀ i : Nat, i ∉ vs → σ'[i]? = σ[i]?) → Z σ' H'
  | _ => False
def tG (C : Cf) (m : Mp.D → Mp.Env → Mp.Heap → Mp.Res Mp.Env) (vs : List Nat) : TG := fun x σ H Z => ∃ ρ env h d, ES C.K ρ H env σ ∧ Sim C ρ h H ∧ RelD C.K ρ H d x ∧ GG C σ vs (m d env h) ρ H Z
def tGs (C : Cf) (m : List Mp.D → Mp.Env → Mp.Heap → Mp.Res Mp.Env) (vs : List Nat) : TGs := fun xs σ H Z => ∃ ρ env h ds, ES C.K ρ H env σ ∧ Sim C ρ h H ∧ RelDs C.K ρ H ds xs ∧ GG C σ vs (m ds env h) ρ H Z
theorem ES.set {K : PySem.W.Frag} {ρ : List Addr} {H : Hp} {env : Mp.Env} {σ : St} (e : ES K ρ H env σ) {i : Nat} {d : Mp.D} {v : V} (r : RelD K ρ H d v) : ES K ρ H (env.set i (some d)) (σ.set i (some v)) := by
  refine ⟨by simp [e.1], fun j d' q => ?_⟩
  rw [List.getElem?_set] at q ⊢
  by_cases hj : i = j
  · subst hj
    rw [if_pos rfl] at q ⊢
    split at q
    · rename_i hl
      rw [if_pos (by rw [← e.1]; exact hl)]
      cases q
      exact ⟨v, rfl, r⟩
    · cases q
  · rw [if_neg hj] at q ⊢
    exact e.2 j d' q
theorem ES.none {K : PySem.W.Frag} {ρ : List Addr} {H : Hp} {env : Mp.Env} {σ : St} (e : ES K ρ H env σ) {i : Nat} : ES K ρ H (env.set i none) (σ.set i none) := by
  refine ⟨by simp [e.1], fun j d' q => ?_⟩
  rw [List.getElem?_set] at q ⊢
  by_cases hj : i = j
  · subst hj
    rw [if_pos rfl] at q
    split at q <;> cases q
  · rw [if_neg hj] at q ⊢
    exact e.2 j d' q
theorem ES.wipe {K : PySem.W.Frag} {ρ : List Addr} {H : Hp} {env : Mp.Env} {σ : St} (e : ES K ρ H env σ) : ∀ vs : List Nat, ES K ρ H (Mp.wipe env vs) (L2.wipe σ vs)
  | [] => e
  | i :: is => (ES.wipe e is).none
theorem wipe_get (σ : St) {i : Nat} : ∀ {vs : List Nat}, i ∈ vs → (L2.wipe σ vs)[i]? = if i < σ.length then some none else none
  | v :: vs, h => by
    unfold L2.wipe
    rw [List.getElem?_set]
    by_cases hv : v = i
    · subst hv
      rw [if_pos rfl, wipe_length]
    · rw [if_neg hv]
      exact wipe_get σ (by simpa [Ne.symm hv] using h)
theorem wipe_same {σ σ' : St} {vs ws : List Nat} (hl : σ'.length = σ.length) (he : ∀ i : Nat, i ∉ ws → σ'[i]? = σ[i]?) (hs : ∀ i ∈ ws, i ∈ vs) : L2.wipe σ' vs = L2.wipe σ vs := by
  apply List.ext_getElem?
  intro i
  by_cases hi : i ∈ vs
  · rw [wipe_get σ' hi, wipe_get σ hi, hl]
  · rw [wipe_out hi, wipe_out hi]
    exact he i fun z => hi (hs i z)
theorem wipe_wipe (σ : St) (vs : List Nat) : L2.wipe (L2.wipe σ vs) vs = L2.wipe σ vs := by
  apply List.ext_getElem?
  intro i
  by_cases hi : i ∈ vs
  · rw [wipe_get _ hi, wipe_get σ hi, wipe_length]
  · rw [wipe_out hi]
section
variable {C : Cf} {X : Cx} {W : WX} {pos : Pos} {cf : Nat → List Mp.D → Mp.Heap → Mp.Res Mp.D}
theorem GG.weak {σ : St} {vs ws : List Nat} {r : Mp.Res Mp.Env} {ρ ρ1 : List Addr} {H H1 : Hp} {Z : St → Hp → Prop} (l : Le ρ ρ1) (k : Kp H H1) (hs : ∀ i ∈ ws, i ∈ vs) (h : GG C σ vs r ρ H Z) : GG C σ ws r ρ1 H1 Z := by
  cases r with
  | ok env h' => exact fun ρ' σ' H' l' k' es S hl he => h ρ' σ' H' (l.trans l') (k.trans k') es S hl fun i hi => he i fun z => hi (hs i z)
  | err c fs h' => exact h
  | stk => exact h
theorem PG.imp' {e : Expr} {t t' : TG} (h : PG X e t) (k : ∀ x σ H Z, t' x σ H Z → t x σ H Z) : PG X e t' := ⟨fun pins s σ H v u Q I r q => h.run pins s σ H v u Q I r (k v σ H Q q)⟩
theorem PGs.imp' {es : List Expr} {t t' : TGs} (h : PGs X es t) (k : ∀ x σ H Z, t' x σ H Z → t x σ H Z) : PGs X es t' := ⟨fun pins s σ H v u Q I r q => h.run pins s σ H v u Q I r (k v σ H Q q)⟩
abbrev mT (C : Cf) (cf : Nat → List Mp.D → Mp.Heap → Mp.Res Mp.D) (t : Mp.Tg) : Mp.D → Mp.Env → Mp.Heap → Mp.Res Mp.Env := Mp.evT C.pg cf t
abbrev mTs (C : Cf) (cf : Nat → List Mp.D → Mp.Heap → Mp.Res Mp.D) (t : Mp.Tgs) : List Mp.D → Mp.Env → Mp.Heap → Mp.Res Mp.Env := Mp.evTgs C.pg cf t
theorem sg_name {i : Nat} {x : Str} (hN : X.N.Nodup) (hi : X.N[i]? = some x) (hx : Loc X.env.scope x) (hf : X.fn x = true ∨ X.env.scope.names.lookup x = some .local) : PG X (.Name x pos) (tG C (mT C cf (.nm i)) [i]) := by
  refine PG.imp' (pg_name hN hi hx hf) fun x σ H Z ⟨ρ, env, h, d, es, S, r, g⟩ => ?_
  simp only [mT, Mp.evT] at g
  split at g
  · refine g ρ _ H (Le.refl _) (Kp.refl _) (es.set r) S (by simp) fun j hj => ?_
    rw [List.getElem?_set_ne (by simpa [eq_comm] using hj)]
  · exact g.elim
theorem sgs_nil : PGs X [] (tGs C (mTs C cf .nil) []) := PGs.imp' pgs_nil fun xs σ H Z ⟨ρ, env, h, ds, es, S, r, g⟩ => by
  simp only [mTs, Mp.evTgs] at g
  split at g
  · have : xs = [] := by simpa only [RelDs] using r
    exact ⟨this, g ρ σ H (Le.refl _) (Kp.refl _) es S rfl fun _ _ => rfl⟩
  · exact g.elim
theorem sgs_cons {e : Expr} {es : List Expr} {t : Mp.Tg} {ts : Mp.Tgs} {vs ws : List Nat} (h1 : PG X e (tG C (mT C cf t) vs)) (h2 : PGs X es (tGs C (mTs C cf ts) ws)) (hs : (assignEach (e :: es) X.env).map (·.2) = assign e X.env :: (assignEach es X.env).map (·.2)) : PGs X (e :: es) (tGs C (mTs C cf (.cons t ts)) (vs ++ ws)) := by
  refine PGs.imp' (pgs_cons h1 h2 hs) fun xs σ H Z ⟨ρ, env, h, ds, es, S, r, g⟩ => ?_
  simp only [mTs, Mp.evTgs] at g
  split at g
  · exact g.elim
  · rename_i d ds
    obtain ⟨v, us, rfl, r1, r2⟩ := r.inv_cons
    refine ⟨v, us, rfl, ρ, env, h, d, es, S, r1, ?_⟩
    show GG C σ vs (Mp.evT C.pg cf t d env h) ρ H _
    cases q : Mp.evT C.pg cf t d env h with
    | stk => rw [q] at g; exact g.elim
    | err c fs h' => rw [q] at g; exact g.elim
    | ok env' h' =>
      rw [q] at g
      simp only [Mp.Res.bind] at g
      intro ρ' σ' H' l k es' S' hl he
      refine ⟨ρ', env', h', ds, es', S', RelDs.mono l k _ _ r2, ?_⟩
      show GG C σ' ws (Mp.evTgs C.pg cf ts ds env' h') ρ' H' Z
      cases q2 : Mp.evTgs C.pg cf ts ds env' h' with
      | stk => rw [q2] at g; exact g.elim
      | err c fs h' => rw [q2] at g; exact g.elim
      | ok env2 h2 =>
        rw [q2] at g
        intro ρ2 σ2 H2 l2 k2 es2 S2 hl2 he2
        exact g ρ2 σ2 H2 (l.trans l2) (k.trans k2) es2 S2 (hl2.trans hl) fun i hi => by
          rw [List.mem_append, not_or] at hi
          exact (he2 i hi.2).trans (he i hi.1)
/-- a target that is no star -/
def NoStarT (e : Expr) : Prop := ∀ es env, assignEach (e :: es) env = (false, assign e env) :: assignEach es env
theorem each_len {es : List Expr} (h : ∀ e ∈ es, NoStarT e) : (assignEach es X.env).length = es.length ∧ (assignEach es X.env).findIdx? (·.1) = none := by
  induction es with
  | nil => exact ⟨rfl, rfl⟩
  | cons e es ih =>
    rw [h e (by simp) es]
    obtain ⟨h1, h2⟩ := ih fun x hx => h x (by simp [hx])
    refine ⟨by simp [h1], ?_⟩
    rw [List.findIdx?_cons]
    simp only [Bool.false_eq_true, if_false, h2, Option.map_none]
theorem tgs_len : ∀ {ts : Mp.Tgs} {ds : List Mp.D} {env env' : Mp.Env} {h h' : Mp.Heap}, Mp.evTgs C.pg cf ts ds env h = .ok env' h' → ∀ {es : List Expr} {n : Nat}, True := fun _ => trivial
def tgLen : Mp.Tgs → Nat
  | .nil => 0
  | .cons _ ts => tgLen ts + 1
theorem tg_len {ts : Mp.Tgs} : ∀ {ds : List Mp.D} {env env' : Mp.Env} {h h' : Mp.Heap}, Mp.evTgs C.pg cf ts ds env h = .ok env' h' → ds.length = tgLen ts := by
  intro ds
  induction ds generalizing ts with
  | nil =>
    intro env env' h h' e
    cases ts with
    | nil => rfl
    | cons t ts => simp only [Mp.evTgs] at e; cases e
  | cons d ds ih =>
    intro env env' h h' e
    cases ts with
    | nil => simp only [Mp.evTgs] at e; cases e
    | cons t ts =>
      simp only [Mp.evTgs] at e
      cases q : Mp.evT C.pg cf t d env h with
      | stk => rw [q] at e; cases e
      | err c fs h' => rw [q] at e; cases e
      | ok env2 h2 =>
        rw [q] at e
        simp only [List.length_cons, tgLen, ih e]
theorem sg_tup (hK : X.K = C.K) {es : List Expr} {k : Nat} {ts : Mp.Tgs} {vs : List Nat} (hc : X.calm = true) (h : PGs X es (tGs C (mTs C cf ts) vs)) (ns : ∀ e ∈ es, NoStarT e) (hl : es.length = tgLen ts) : PG X (.Tuple es k pos) (tG C (mT C cf (.tup ts)) vs) := by
  refine PG.imp' (pg_tup (n := es.length) hc h (each_len ns).1 (each_len ns).2) fun x σ H Z ⟨ρ, env, h, d, es, S, r, g⟩ => ?_
  simp only [mT, Mp.evT] at g
  split at g
  · rename_i ds
    obtain ⟨a, us, rfl, t, r1⟩ := relTup r
    refine ⟨a, us, rfl, by rw [hK]; exact t.sq, ?_, ρ, env, h, ds, es, S, r1, g⟩
    rw [r1.length, hl]
    cases q : Mp.evTgs C.pg cf ts ds env h with
    | stk => rw [q] at g; exact g.elim
    | err c fs h' => rw [q] at g; exact g.elim
    | ok env' h' => exact tg_len q
  · exact g.elim
/-- o[i] = v by the interpreter -/
def rSet (C : Cf) : TSet := fun o i v H Z => ∃ ρ h d e f h', Sim C ρ h H ∧ RelD C.K ρ H d o ∧ RelD C.K ρ H e i ∧ RelD C.K ρ H f v ∧ Mp.setIndex d e f h = .ok () h' ∧ ∀ ρ' H', Le ρ ρ' → Kp H H' → Sim C ρ' h' H' → Z H'
theorem so_set (hu : X.A.units + 1 < cLine) : PSet X (rSet C) := by
  intro pins s σ H o i v ov iv u Q I ro ri rv q
  obtain ⟨ρ, h, d, e, f, h', S, rd, re, rf, ev, k⟩ := q
  unfold Mp.setIndex at ev
  split at ev
  · rename_i a
    obtain ⟨p, rfl, ea⟩ := relRef rd
    split at ev
    · rename_i ds ho
      split at ev
      · rename_i j
        split at ev
        · rename_i n hn
          cases ev
          have hj := relInt re
          subst hj
          obtain ⟨vs, ha, g⟩ := S.lst ea ho
          refine set_list pins s σ H _ _ v ov iv u Q I ro ri rv ⟨p, vs, j, n, rfl, rfl, ha, by rw [g.length]; exact hn, ?_⟩
          have kp : Kp H (upd H p (.lst (vs.set n v))) := Kp.upd fun u e => by rw [ha] at e; cases e; rfl
          exact k ρ _ (Le.refl _) kp (S.put ea (fun ds e => by rw [ho] at e; cases e; rfl) kp (fun b hb => upd_ne hb) ⟨_, upd_same, RelDs.mono (Le.refl _) kp _ _ (g.set n rf)⟩)
        · cases ev
      · cases ev
    · rename_i kvs ho
      split at ev
      · rename_i hc
        rw [Bool.and_eq_true, decide_eq_true_eq] at hc
        cases ev
        cases (show ov = Value.ref p from ro)
        exact d_put hu I S ea ho hc.1 hc.2 re rf ri rv fun H' s' I' kp S' => ⟨H', I', k ρ _ (Le.refl _) kp S'⟩
      · cases ev
    · cases ev
  · cases ev
theorem setIndex_noerr {d e f : Mp.D} {h h' : Mp.Heap} {c : Nat} {fs : List (Nat × Mp.D)} : Mp.setIndex d e f h ≠ .err c fs h' := by
  unfold Mp.setIndex
  repeat' split
  all_goals (intro q; cases q)
theorem sg_idx (hu : X.A.units + 1 < cLine) {a b : Expr} {x y : Mp.Ex} (ha : PE X a (tE C W (mE C cf x))) (hb : PE X b (tE C W (mE C cf y)))
    (hf : ∀ v, assign (.Subscript a b pos) X.env v = (do
      let ov ← holding [v] (eval a X.env)
      let iv ← holding [v, ov] (eval b X.env)
      standAt pos
      holding [v, ov, iv] (setItem ov iv v)
      release [v, ov, iv] [])) : PG X (.Subscript a b pos) (tG C (mT C cf (.idx x y)) []) := by
  refine PG.imp' (pg_sub ha hb (so_set (C := C) hu) hf) fun v σ H Z ⟨ρ, env, h, d, es, S, r, g⟩ => ?_
  simp only [mT, Mp.evT] at g
  refine ⟨ρ, env, h, es, S, ?_⟩
  cases q : Mp.evE C.pg cf x env h with
  | stk => rw [q] at g; exact g.elim
  | err c fs h' => rw [q] at g; exact g.elim
  | ok d1 h1 =>
    simp only [mE]
    rw [q] at g ⊢
    simp only [Mp.Res.bind] at g
    intro ρ1 H1 o l1 k1 S1 r1
    refine ⟨ρ1, env, h1, es.mono l1 k1, S1, ?_⟩
    cases q2 : Mp.evE C.pg cf y env h1 with
    | stk => rw [q2] at g; exact g.elim
    | err c fs h' => rw [q2] at g; exact g.elim
    | ok d2 h2 =>
      rw [q2] at g
      simp only [Mp.Res.bind] at g
      intro ρ2 H2 i l2 k2 S2 r2
      cases q3 : Mp.setIndex d1 d2 d h2 with
      | stk => rw [q3] at g; exact g.elim
      | err c fs h' => rw [q3] at g; exact g.elim
      | ok u h3 =>
        rw [q3] at g
        refine ⟨ρ2, h2, d1, d2, d, h3, S2, RelD.mono l2 k2 _ _ r1, r2, RelD.mono (l1.trans l2) (k1.trans k2) _ _ r, q3, fun ρ3 H3 l3 k3 S3 => ?_⟩
        exact g ρ3 σ H3 (l1.trans (l2.trans l3)) (k1.trans (k2.trans k3)) (es.mono (l1.trans (l2.trans l3)) (k1.trans (k2.trans k3))) S3 rfl fun _ _ => rfl
/-- a field is written -/
theorem setAttr_at (T : Tab C) {ρ : List Addr} {h h' : Mp.Heap} {H : Hp} (S : Sim C ρ h H) {d e : Mp.D} {f : Nat} {x y : V} (r : RelD C.K ρ H d x) (rv : RelD C.K ρ H e y) (q : Mp.setAttr C.pg d f e h = .ok () h') :
    ∃ a c dx fs, x = .ref a ∧ H a = some (.ins c dx fs) ∧ Cls C.K c ∧ NoAttr C.K c (C.nm f) ∧ fs.length < 1000 ∧ Kp H (upd H a (.ins c dx (putF (C.nm f) y fs))) ∧ Sim C ρ h' (upd H a (.ins c dx (putF (C.nm f) y fs))) := by
  unfold Mp.setAttr at q
  split at q
  · rename_i i
    split at q
    · rename_i c fs ho
      split at q
      · rename_i hc
        rw [Bool.and_eq_true, decide_eq_true_eq] at hc
        cases q
        obtain ⟨a, rfl, ea⟩ := relRef r
        obtain ⟨dx, vs, ha, rf, kk⟩ := S.ob i a _ ea ho
        obtain ⟨c1, c2⟩ := T.at hc.1
        have kp : Kp H (upd H a (.ins (C.ca c) dx (putF (C.nm f) y vs))) := Kp.upd fun u e => by rw [ha] at e; cases e; rfl
        refine ⟨a, _, dx, vs, rfl, ha, c1, c2, by rw [← rf.1]; omega, kp, S.put ea (fun ds e => by rw [ho] at e; cases e; rfl) kp (fun b hb => upd_ne hb) ⟨dx, _, upd_same, (fput_ok T.inj rv rf).mono (Le.refl _) kp, kk⟩⟩
      · cases q
    · cases q
  · cases q
/-- o.f = .. -/
def gFld (K : PySem.W.Frag) (to : TE) (f : Str) : TG := fun v σ H Q => to σ H fun o H1 => ∃ a c dx fs, o = .ref a ∧ H1 a = some (.ins c dx fs) ∧ Cls K c ∧ NoAttr K c f ∧ fs.length < 1000 ∧ Q σ (upd H1 a (.ins c dx (putF f v fs)))
theorem pg_fld {a : Expr} {to : TE} {f : Str} (ha : PE X a to) : PG X (.Attribute a f pos) (gFld X.K to f) := by
  constructor
  intro pins s σ H v u Q I r w
  rw [arm_assign_Attribute]
  apply wpAny_bind
  apply wpAny_holding
  refine thn (ha.run pins s σ H _ I w) ?_
  rintro ov s1 ⟨x, H1, I1, r1, p, c, dx, fs, e, hp, hc, hn, hl, w1⟩
  cases e
  cases (show ov = Value.ref p from r1)
  apply wpAny_bind
  apply wpAny_standAt
  apply wpAny_bind
  apply wpAny_holding
  exact setattr_ok I1 hp hc hn hl r fun s2 I2 => wpAny_release ⟨σ, _, I2, w1⟩
theorem sg_attr (T : Tab C) (hK : X.K = C.K) {a : Expr} {x : Mp.Ex} {f : Nat} (ha : PE X a (tE C W (mE C cf x))) : PG X (.Attribute a (C.nm f) pos) (tG C (mT C cf (.attr x f)) []) := by
  refine PG.imp' (pg_fld ha) fun v σ H Z ⟨ρ, env, h, d, es, S, r, g⟩ => ?_
  simp only [mT, Mp.evT] at g
  refine ⟨ρ, env, h, es, S, ?_⟩
  cases q : Mp.evE C.pg cf x env h with
  | stk => rw [q] at g; exact g.elim
  | err c fs h' => rw [q] at g; exact g.elim
  | ok d1 h1 =>
    simp only [mE]
    rw [q] at g ⊢
    simp only [Mp.Res.bind] at g
    intro ρ1 H1 o l1 k1 S1 r1
    cases q2 : Mp.setAttr C.pg d1 f d h1 with
    | stk => rw [q2] at g; exact g.elim
    | err c fs h' => rw [q2] at g; exact g.elim
    | ok u h2 =>
      rw [q2] at g
      obtain ⟨p, c, dx, fs, rfl, hp, c1, c2, hl, kp, S2⟩ := setAttr_at T S1 r1 (RelD.mono l1 k1 _ _ r) q2
      exact ⟨p, c, dx, fs, rfl, hp, by rw [hK]; exact c1, by rw [hK]; exact c2, hl, g ρ1 σ _ l1 (k1.trans kp) (es.mono l1 (k1.trans kp)) S2 rfl fun _ _ => rfl⟩
end
end MpS
end
section
set_option Elab.async false
set_option linter.all false
set_option maxRecDepth 100000
set_option maxHeartbeats 4000000
namespace MpS
open PySem L2
/-! ### comprehensions -/
def tTs (C : Cf) (W : WX) (m : Mp.Env → Mp.Heap → Mp.Res Bool) : TT := fun σ H Q => ∃ ρ env h, ES C.K ρ H env σ ∧ Sim C ρ h H ∧ EvG C W σ RB (m env h) ρ H Q
/-- an end without errors -/
def CG (C : Cf) (r : Mp.Res Unit) (ρ : List Addr) (H : Hp) (Z : Hp → Prop) : Prop := match r with
  | .ok _ h' => ∀ ρ' H', Le ρ ρ' → Kp H H' → Sim C ρ' h' H' → Z H'
  | _ => False
section
variable {C : Cf} {X : Cx} {W : WX} {pos : Pos} {cf : Nat → List Mp.D → Mp.Heap → Mp.Res Mp.D}
theorem CG.weak {r : Mp.Res Unit} {ρ ρ1 : List Addr} {H H1 : Hp} {Z : Hp → Prop} (l : Le ρ ρ1) (k : Kp H H1) (h : CG C r ρ H Z) : CG C r ρ1 H1 Z := by
  cases r with
  | ok u h' => exact fun ρ' H' l' k' S => h ρ' H' (l.trans l') (k.trans k') S
  | err c fs h' => exact h
  | stk => exact h
abbrev mBs (C : Cf) (cf : Nat → List Mp.D → Mp.Heap → Mp.Res Mp.D) (e : Mp.Exs) : Mp.Env → Mp.Heap → Mp.Res Bool := Mp.evTs C.pg cf e
theorem PTs.imp' {es : List Expr} {t t' : TT} (h : PTs X es t) (k : ∀ σ H Q, t' σ H Q → t σ H Q) : PTs X es t' := ⟨fun pins s σ H Q I q => h.run pins s σ H Q I (k σ H Q q)⟩
theorem sts_nil : PTs X [] (tTs C W (mBs C cf .nil)) := PTs.imp' pts_nil fun σ H Q ⟨ρ, env, h, es, S, ev⟩ => by
  simp only [mBs, Mp.evTs] at ev
  exact ev.ok S rfl
theorem sts_one {c : Expr} {x : Mp.Ex} (hc : PT X c (tT C W (mE C cf x))) : PTs X [c] (tTs C W (mBs C cf (.cons x .nil))) := PTs.imp' (pts_one hc) fun σ H Q ⟨ρ, env, h, es, S, ev⟩ => by
  refine ⟨ρ, env, h, es, S, ?_⟩
  simp only [mBs, Mp.evTs] at ev
  simp only [mE]
  cases q : Mp.evE C.pg cf x env h with
  | stk => rw [q] at ev; exact ev.elim
  | err c fs h' => rw [q] at ev; exact ev
  | ok d h1 =>
    rw [q] at ev
    simp only [Mp.Res.bind] at ev ⊢
    cases q1 : Mp.truth h1 d with
    | none => rw [q1] at ev; exact ev.elim
    | some t =>
      rw [q1] at ev
      cases t <;> exact ev
/-- the turns of a comprehension -/
theorem comp_loop {t : Mp.ItV} {J : It} {ρ0 : List Addr} {h0 : Mp.Heap} {H0 : Hp} (hr : RIt C ρ0 h0 H0 t J) {tg : Mp.Tg} {ifs : Mp.Exs} {vs own : List Nat} (hv : ∀ i ∈ vs, i ∈ own) {put : Mp.Env → Mp.Heap → Mp.Res Unit} {tP : St → Hp → (Hp → Prop) → Prop}
    (hP : ∀ σ2 ρ env h H Z, ES C.K ρ H env σ2 → Sim C ρ h H → Le ρ0 ρ → Kp H0 H → CG C (put env h) ρ H Z → tP σ2 H Z) {env : Mp.Env} {σ : St} (es : ES C.K ρ0 H0 env σ) {Z : Hp → Prop} :
    ∀ i m H, (∃ ρ h, Le ρ0 ρ ∧ Kp H0 H ∧ Sim C ρ h H ∧ CG C (Mp.compN t.next (mT C cf tg) (mBs C cf ifs) put (Mp.wipe env own) m i h) ρ H Z) →
      (J.stop i H ∧ Z H) ∨ (J.go i H ∧ ∃ Nx : Hp → Prop, (∀ H', Nx H' → ∃ m', m' < m ∧ (∃ ρ h, Le ρ0 ρ ∧ Kp H0 H' ∧ Sim C ρ h H' ∧ CG C (Mp.compN t.next (mT C cf tg) (mBs C cf ifs) put (Mp.wipe env own) m' (i + 1) h) ρ H' Z)) ∧
        ∀ x H', J.yld i H x H' → tG C (mT C cf tg) vs x (L2.wipe σ own) H' fun σ2 H2 => L2.wipe σ2 own = L2.wipe σ own ∧ tTs C W (mBs C cf ifs) σ2 H2 fun b H3 => if b = true then tP σ2 H3 Nx else Nx H3) := by
  rintro i m H ⟨ρ, h, l, k, S, cg⟩
  have nx := hr ρ h H i l k S
  cases q : t.next i h with
  | none =>
    cases m with
    | zero => simp only [Mp.compN, q] at cg; exact cg.elim
    | succ m => simp only [Mp.compN, q] at cg; exact cg.elim
  | some o =>
    rw [q] at nx
    cases o with
    | none =>
      refine .inl ⟨nx, ?_⟩
      cases m with
      | zero => simp only [Mp.compN, q] at cg; exact cg ρ H (Le.refl _) (Kp.refl _) S
      | succ m => simp only [Mp.compN, q] at cg; exact cg ρ H (Le.refl _) (Kp.refl _) S
    | some d =>
      refine .inr ⟨nx.1, ?_⟩
      cases m with
      | zero => simp only [Mp.compN, q] at cg; exact cg.elim
      | succ m =>
        simp only [Mp.compN, q] at cg
        refine ⟨fun H' => ∃ ρ h, Le ρ0 ρ ∧ Kp H0 H' ∧ Sim C ρ h H' ∧ CG C (Mp.compN t.next (mT C cf tg) (mBs C cf ifs) put (Mp.wipe env own) m (i + 1) h) ρ H' Z, fun H' w => ⟨m, Nat.lt_succ_self m, w⟩, fun x H1 y => ?_⟩
        obtain ⟨k1, S1, r1⟩ := nx.2 x H1 y
        refine ⟨ρ, Mp.wipe env own, h, d, (es.mono l (k.trans k1)).wipe own, S1, r1, ?_⟩
        cases q1 : mT C cf tg d (Mp.wipe env own) h with
        | stk => rw [q1] at cg; exact cg.elim
        | err c fs h' => rw [q1] at cg; exact cg.elim
        | ok env1 h1 =>
          rw [q1] at cg
          intro ρ2 σ2 H2 l2 k2 es2 S2 hl2 he2
          refine ⟨by rw [wipe_same hl2 he2 hv, wipe_wipe], ρ2, env1, h1, es2, S2, ?_⟩
          cases q2 : mBs C cf ifs env1 h1 with
          | stk => simp only [q2] at cg; exact cg.elim
          | err c fs h' => simp only [q2] at cg; exact cg.elim
          | ok b h2 =>
            intro ρ3 H3 b' l3 k3 S3 eb
            have eb : b = b' := eb
            subst eb
            have L3 := l.trans (l2.trans l3)
            have K3 := k.trans (k1.trans (k2.trans k3))
            cases b with
            | false =>
              simp only [q2] at cg
              rw [if_neg Bool.false_ne_true]
              exact ⟨ρ3, h2, L3, K3, S3, cg.weak (l2.trans l3) (k1.trans (k2.trans k3))⟩
            | true =>
              simp only [q2] at cg
              rw [if_pos rfl]
              refine hP σ2 ρ3 env1 h2 H3 _ (es2.mono l3 k3) S3 L3 K3 ?_
              cases q3 : put env1 h2 with
              | stk => rw [q3] at cg; exact cg.elim
              | err c fs h' => rw [q3] at cg; exact cg.elim
              | ok u h3 =>
                rw [q3] at cg
                intro ρ4 H4 l4 k4 S4
                exact ⟨ρ4, h3, L3.trans l4, K3.trans k4, S4, cg.weak (l2.trans (l3.trans l4)) (k1.trans (k2.trans (k3.trans k4)))⟩
/-- an item is put into the new list -/
theorem putL_ok {x : Mp.Ex} {σ : St} {ρ : List Addr} {env : Mp.Env} {h : Mp.Heap} {H : Hp} {Z : Hp → Prop} {a : Nat} {D : Addr} (es : ES C.K ρ H env σ) (S : Sim C ρ h H) (ea : ρ[a]? = some D) (cg : CG C (Mp.putL a (Mp.evE C.pg cf x env h)) ρ H Z) :
    tE C W (mE C cf x) σ H fun y H4 => ∃ acc, H4 D = some (.lst acc) ∧ acc.length < sizeLine ∧ Z (upd H4 D (.lst (acc ++ [y]))) := by
  refine ⟨ρ, env, h, es, S, ?_⟩
  simp only [mE]
  cases q : Mp.evE C.pg cf x env h with
  | stk => rw [q] at cg; exact cg.elim
  | err c fs h' => rw [q] at cg; exact cg.elim
  | ok d h1 =>
    rw [q] at cg
    simp only [Mp.putL] at cg
    intro ρ1 H1 y l k S1 r
    split at cg
    · rename_i acc ho
      split at cg
      · rename_i hl
        obtain ⟨vs, hv, g⟩ := S1.lst (l _ _ ea) ho
        refine ⟨vs, hv, by rw [g.length]; exact lim_line' hl, ?_⟩
        have kp : Kp H1 (upd H1 D (.lst (vs ++ [y]))) := Kp.upd fun u e => by rw [hv] at e; cases e; rfl
        exact cg ρ1 _ l (k.trans kp) (S1.put (l _ _ ea) (fun ds e => by rw [ho] at e; cases e; rfl) kp (fun b hb => upd_ne hb) ⟨_, upd_same, RelDs.mono (Le.refl _) kp _ _ (g.append (.one r))⟩)
      · exact cg.elim
    · exact cg.elim
theorem putD_ok {x y : Mp.Ex} {σ : St} {ρ : List Addr} {env : Mp.Env} {h : Mp.Heap} {H : Hp} {Z : Hp → Prop} {a : Nat} {D : Addr} (es : ES C.K ρ H env σ) (S : Sim C ρ h H) (ea : ρ[a]? = some D)
    (cg : CG C (match Mp.evE C.pg cf x env h with
        | .ok x h => Mp.putD a x (Mp.evE C.pg cf y env h)
        | _ => .stk) ρ H Z) :
    tE C W (mE C cf x) σ H fun u H4 => tE C W (mE C cf y) σ H4 fun z H5 => ∃ kvs k, u = kV k ∧ H5 D = some (.dK kvs) ∧ kvs.length < sizeLine ∧ Z (upd H5 D (.dK (putK kvs k z))) := by
  refine ⟨ρ, env, h, es, S, ?_⟩
  simp only [mE]
  cases q : Mp.evE C.pg cf x env h with
  | stk => rw [q] at cg; exact cg.elim
  | err c fs h' => rw [q] at cg; exact cg.elim
  | ok d h1 =>
    rw [q] at cg
    simp only at cg
    intro ρ1 H1 u l k S1 r
    refine ⟨ρ1, env, h1, es.mono l k, S1, ?_⟩
    cases q1 : Mp.evE C.pg cf y env h1 with
    | stk => rw [q1] at cg; exact cg.elim
    | err c fs h' => rw [q1] at cg; exact cg.elim
    | ok d2 h2 =>
      rw [q1] at cg
      simp only [Mp.putD] at cg
      intro ρ2 H2 z l2 k2 S2 r2
      split at cg
      · rename_i kvs ho
        split at cg
        · rename_i hc
          rw [Bool.and_eq_true, decide_eq_true_eq] at hc
          obtain ⟨kk, ek⟩ := keyOf_of hc.1
          have ea2 := l2 _ _ (l _ _ ea)
          obtain ⟨o, ho2, g⟩ := S2.ob a D _ ea2 ho
          rcases g with ⟨ks, rfl, g⟩ | ⟨ks, _, g⟩
          · refine ⟨ks, kk, keyOf_V r ek, ho2, by rw [← g.1]; exact lim_line' hc.2, ?_⟩
            have kp : Kp H2 (upd H2 D (.dK (putK ks kk z))) := Kp.upd fun u e => by rw [ho2] at e; cases e; rfl
            exact cg ρ2 _ (l.trans l2) (k.trans (k2.trans kp)) (S2.put ea2 (fun ds e => by rw [ho] at e; cases e; rfl) kp (fun b hb => upd_ne hb) ⟨_, upd_same, .inl ⟨_, rfl, (dput_rel ek r2 g).mono (Le.refl _) kp⟩⟩)
          · exact g.elim
        · exact cg.elim
      · exact cg.elim
/-! ### locks -/
theorem mirH_none (r : Mp.Res Mp.D) : Mp.mirH none r = r := by cases r <;> rfl
theorem lkOf_some {r : Mp.Res Mp.D} {h : Mp.Heap} {a : Nat} {kvs : List (Mp.D × Mp.D)} (e : Mp.lkOf r h = some (a, kvs)) : h[a]? = some (.dct kvs) := by
  unfold Mp.lkOf at e
  split at e
  · split at e
    · rename_i ho; cases e; exact ho
    · cases e
  · cases e
theorem evL_some {it : Mp.It} {env : Mp.Env} {h : Mp.Heap} {a : Nat} {kvs : List (Mp.D × Mp.D)} (e : Mp.evL C.pg cf it env h = some (a, kvs)) : h[a]? = some (.dct kvs) := by
  cases it <;> simp only [Mp.evL] at e <;> first | exact lkOf_some e | cases e
/-- a dict is locked -/
theorem Sim.lock {ρ : List Addr} {h : Mp.Heap} {H : Hp} (S : Sim C ρ h H) {a : Nat} {kvs : List (Mp.D × Mp.D)} (e : h[a]? = some (.dct kvs)) : ∃ d u, ρ[a]? = some d ∧ H d = some u ∧ Mut (some u) ∧ Sta u = false ∧ RelDict C.K ρ H kvs u ∧
    ∀ od, Kp H (upd H d (.frz od u)) ∧ Sim C ρ (h.set a (.fdct kvs)) (upd H d (.frz od u)) := by
  obtain ⟨d, ed, u, hu, g⟩ := S.at e
  have hs : Mut (some u) ∧ Sta u = false := by
    rcases g with ⟨ks, rfl, _⟩ | ⟨ks, rfl, _⟩ <;> exact ⟨trivial, rfl⟩
  refine ⟨d, u, ed, hu, hs.1, hs.2, g, fun od => ?_⟩
  have kp : Kp H (upd H d (.frz od u)) := Kp.upd fun o e => by rw [hu] at e; cases e; exact hs.2
  exact ⟨kp, S.put ed (fun ds q => by rw [e] at q; cases q; rfl) kp (fun b hb => upd_ne hb) ⟨od, u, upd_same, g.mono (Le.refl _) kp⟩⟩
/-- .. and free again -/
theorem Sim.free {ρ ρ' : List Addr} {h' h2 : Mp.Heap} {H H' : Hp} {a : Nat} {d : Addr} {u : HO} {od : Obj} {kvs : List (Mp.D × Mp.D)} (ed : ρ[a]? = some d) (hu : H d = some u) (hs : Sta u = false) (g : RelDict C.K ρ H kvs u)
    (l : Le ρ ρ') (k : Kp (upd H d (.frz od u)) H') (S : Sim C ρ' h' H') (e : Mp.unlock (some (a, kvs)) h' = some h2) : H' d = some (.frz od u) ∧ Kp H (upd H' d u) ∧ Sim C ρ' h2 (upd H' d u) := by
  have hf : H' d = some (.frz od u) := k d _ upd_same rfl
  have kt : Kt H' (upd H' d u) := fun b o q s => by
    have n : b ≠ d := fun z => by subst z; rw [hf] at q; cases q; cases s
    rw [upd_ne n]; exact q
  have kp : Kp H (upd H' d u) := fun b o q s => by
    have n : b ≠ d := fun z => by
      subst z
      rw [hu] at q
      cases q
      rw [hs] at s
      cases s
    rw [upd_ne n]
    exact k b o (by rw [upd_ne n]; exact q) s
  refine ⟨hf, kp, ?_⟩
  simp only [Mp.unlock] at e
  split at e
  · rename_i kvs2 ho
    cases e
    exact S.putT (l _ _ ed) (fun ds q => by rw [ho] at q; cases q; rfl) kt (fun b hb => upd_ne hb) ⟨u, upd_same, g.mono l kp⟩
  · cases e
theorem lock_ev {σ : St} {r : Mp.Res Mp.D} {ρ : List Addr} {H : Hp} {Q : VK} {a : Nat} {d : Addr} {u : HO} {kvs : List (Mp.D × Mp.D)} (ev : EvG C W σ (RD C) (Mp.mirH (some (a, kvs)) r) ρ H Q) (ed : ρ[a]? = some d) (hu : H d = some u) (hs : Sta u = false) (g : RelDict C.K ρ H kvs u) (od : Obj) :
    EvG C W σ (RD C) r ρ (upd H d (.frz od u)) (fun v H' => H' d = some (.frz od u) ∧ Q v (upd H' d u)) := by
  have kp0 : Kp H (upd H d (.frz od u)) := Kp.upd fun o e => by rw [hu] at e; cases e; exact hs
  cases r with
  | stk => exact ev
  | err c fs h' => exact fun ρ' H' dd l k S r => ev ρ' H' dd l (kp0.trans k) S r
  | ok x h' =>
    simp only [Mp.mirH] at ev
    cases q : Mp.unlock (some (a, kvs)) h' with
    | none => rw [q] at ev; exact ev.elim
    | some h2 =>
      rw [q] at ev
      intro ρ' H' v l k S' r
      obtain ⟨hf, kp, S2⟩ := Sim.free ed hu hs g l k S' q
      refine ⟨hf, ev ρ' _ v l kp S2 (RelD.monoT (Le.refl _) ?_ _ _ r)⟩
      intro b o e t
      have n : b ≠ d := fun z => by subst z; rw [hf] at e; cases e; cases t
      rw [upd_ne n]; exact e
/-- an expression that walks something, which may be a dict that is locked -/
theorem se_lock {e : Expr} {it : Mp.It} {m0 : Mp.Env → Mp.Heap → Mp.Res Mp.D} (h : PE X e (tE C W m0)) {m : Mp.Env → Mp.Heap → Mp.Res Mp.D} (hm : ∀ env h, m env h = Mp.mirH (Mp.evL C.pg cf it env h) (m0 env (Mp.lockH (Mp.evL C.pg cf it env h) h))) : PE X e (tE C W m) := by
  refine ⟨fun pins s σ H Q I w => ?_⟩
  obtain ⟨ρ, env, h0, es, S, ev⟩ := w
  rw [hm] at ev
  cases q : Mp.evL C.pg cf it env h0 with
  | none =>
    rw [q] at ev
    exact h.run pins s σ H Q I ⟨ρ, env, h0, es, S, by rw [← mirH_none (m0 env h0)]; exact ev⟩
  | some p =>
    obtain ⟨a, kvs⟩ := p
    rw [q] at ev
    obtain ⟨d, u, ed, hu, mu, hs, g, ok⟩ := S.lock (evL_some q)
    refine (pe_lock h).run pins s σ H Q I ⟨d, u, hu, mu, fun od => ?_⟩
    obtain ⟨kp, S1⟩ := ok od
    exact ⟨ρ, env, _, es.mono (Le.refl _) kp, S1, lock_ev ev ed hu hs g od⟩
/-! ### the forms -/
section
variable {elt tg iter : Expr} {ifs : List Expr} {scope : Scope} {own : List (Str × Nat)} {x : Mp.Ex} {t : Mp.Tg} {it : Mp.It} {fs : Mp.Exs} {vs : List Nat} {W2 : WX}
abbrev compM (C : Cf) (cf : Nat → List Mp.D → Mp.Heap → Mp.Res Mp.D) (x : Mp.Ex) (own : List Nat) (t : Mp.Tg) (it : Mp.It) (fs : Mp.Exs) : ME := fun env h => (Mp.evI C.pg cf it env h).bind fun t1 h1 => match Mp.compN t1.next (Mp.evT C.pg cf t) (Mp.evTs C.pg cf fs) (fun env h => Mp.putL h1.length (Mp.evE C.pg cf x env h)) (Mp.wipe env own) (t1.count h1) 0 (h1 ++ [.lst []]) with
  | .ok _ h2 => .ok (.ref h1.length) h2
  | _ => .stk
theorem lc_wish {σ : St} {H : Hp} {Q : VK} (hv : ∀ i ∈ vs, i ∈ own.map (·.2)) (w : tE C W (compM C cf x (own.map (·.2)) t it fs) σ H Q) : tLc (tI C W (mI C cf it)) (tG C (mT C cf t) vs) (tTs C W2 (mBs C cf fs)) (tE C W2 (mE C cf x)) (own.map (·.2)) σ H Q := by
  obtain ⟨ρ, env, h0, es, S, ev⟩ := w
  refine ⟨ρ, env, h0, es, S, (ev.bind (R := RIt C)).imp fun J H1 ⟨t1, ρ1, h1, l1, k1, S1, r1, ev1⟩ D nD => ?_⟩
  have kD : Kp H1 (upd H1 D (.lst [])) := Kp.new nD
  have SD := S1.newL nD (.nil : RelDs C.K ρ1 H1 [] [])
  have eD : (ρ1 ++ [D])[h1.length]? = some D := S1.ref_at
  have r1' : RIt C (ρ1 ++ [D]) (h1 ++ [.lst []]) (upd H1 D (.lst [])) t1 J := fun ρ' h' H' i l k S => r1 ρ' h' H' i ((Le.snoc _ _).trans l) (kD.trans k) S
  refine ⟨fun i m H' => ∃ ρ h, Le (ρ1 ++ [D]) ρ ∧ Kp (upd H1 D (.lst [])) H' ∧ Sim C ρ h H' ∧ CG C (Mp.compN t1.next (mT C cf t) (mBs C cf fs) (fun env h => Mp.putL h1.length (Mp.evE C.pg cf x env h)) (Mp.wipe env (own.map (·.2))) m i h) ρ H' (Q (.ref D)),
    ⟨t1.count h1, _, _, Le.refl _, Kp.refl _, SD, ?_⟩, ?_⟩
  · simp only [mT, mBs]
    cases q : Mp.compN t1.next (Mp.evT C.pg cf t) (Mp.evTs C.pg cf fs) (fun env h => Mp.putL h1.length (Mp.evE C.pg cf x env h)) (Mp.wipe env (own.map (·.2))) (t1.count h1) 0 (h1 ++ [.lst []]) with
    | stk => simp only [q] at ev1; exact ev1.elim
    | err c fs h' => simp only [q] at ev1; exact ev1.elim
    | ok u h2 =>
      simp only [q] at ev1
      exact fun ρ' H' l k S' => ev1 ρ' H' _ ((Le.snoc _ _).trans l) (kD.trans k) S' (refRel (l _ _ eD))
  · refine comp_loop r1' hv (tP := fun σ2 H3 Nx => tE C W2 (mE C cf x) σ2 H3 fun y H4 => ∃ acc, H4 D = some (.lst acc) ∧ acc.length < sizeLine ∧ Nx (upd H4 D (.lst (acc ++ [y])))) (fun σ2 ρ2 env2 h2 H2 Z es2 S2 l2 k2 cg => ?_) (es.mono (l1.trans (Le.snoc _ _)) (k1.trans kD))
    exact putL_ok es2 S2 (l2 _ _ eD) cg
theorem se_comp (hc : X.calm = true) (hN : X.N.Nodup) (hi : PI X tg iter (tI C W (mI C cf it))) (ok : BlkOk X.N X.env.scope scope own) (hv : ∀ i ∈ vs, i ∈ own.map (·.2))
    (hg : ∀ (s : Shared) (H : Hp) (Z : Addr) (cl : List (Str × Addr)) (fp : List Addr), PG (X.blk s H scope (compEnvC scope cl Z X.env) fp) tg (tG C (mT C cf t) vs)) (ht : ∀ (s : Shared) (H : Hp) (Z : Addr) (cl : List (Str × Addr)) (fp : List Addr), PTs (X.blk s H scope (compEnvC scope cl Z X.env) fp) ifs (tTs C W2 (mBs C cf fs)))
    (he : ∀ (s : Shared) (H : Hp) (Z : Addr) (cl : List (Str × Addr)) (fp : List Addr), PE (X.blk s H scope (compEnvC scope cl Z X.env) fp) elt (tE C W2 (mE C cf x))) (hs : ∀ x, foldedSetIterable iter X.env x = pure x) :
    PE X (.ListComp elt [⟨tg, iter, ifs, 0⟩] scope pos) (tE C W (mE C cf (.comp x (own.map (·.2)) t it fs))) :=
  se_lock (it := it) (PE.imp' (pe_lc hc hN hi ok hg ht he hs) fun σ H Q w => lc_wish hv w) fun env h => by simp only [mE, Mp.evE]; rfl
abbrev dcompM (C : Cf) (cf : Nat → List Mp.D → Mp.Heap → Mp.Res Mp.D) (x y : Mp.Ex) (own : List Nat) (t : Mp.Tg) (it : Mp.It) (fs : Mp.Exs) : ME := fun env h => (Mp.evI C.pg cf it env h).bind fun t1 h1 => match Mp.compN t1.next (Mp.evT C.pg cf t) (Mp.evTs C.pg cf fs) (fun env h => match Mp.evE C.pg cf x env h with
    | .ok x h => Mp.putD h1.length x (Mp.evE C.pg cf y env h)
    | _ => .stk) (Mp.wipe env own) (t1.count h1) 0 (h1 ++ [.dct []]) with
  | .ok _ h2 => .ok (.ref h1.length) h2
  | _ => .stk
theorem Sim.newD {ρ : List Addr} {h : Mp.Heap} {H : Hp} (S : Sim C ρ h H) {p : Addr} (np : H p = none) {kvs : List (Mp.D × Mp.D)} {ks : List (Key × V)} (r : RelKK C.K ρ H kvs ks) : Sim C (ρ ++ [p]) (h ++ [.dct kvs]) (upd H p (.dK ks)) :=
  S.new np (Kp.new np) (fun b hb => upd_ne hb) ⟨_, upd_same, .inl ⟨ks, rfl, r.mono (Le.snoc ρ p) (Kp.new np)⟩⟩
theorem RelKK.emp {K : PySem.W.Frag} {ρ : List Addr} {H : Hp} : RelKK K ρ H [] [] := ⟨rfl, fun i p q e _ => by simp at e⟩
theorem dc_wish {y : Mp.Ex} {σ : St} {H : Hp} {Q : VK} (hv : ∀ i ∈ vs, i ∈ own.map (·.2)) (w : tE C W (dcompM C cf x y (own.map (·.2)) t it fs) σ H Q) : tDc (tI C W (mI C cf it)) (tG C (mT C cf t) vs) (tTs C W2 (mBs C cf fs)) (tE C W2 (mE C cf x)) (tE C W2 (mE C cf y)) (own.map (·.2)) σ H Q := by
  obtain ⟨ρ, env, h0, es, S, ev⟩ := w
  refine ⟨ρ, env, h0, es, S, (ev.bind (R := RIt C)).imp fun J H1 ⟨t1, ρ1, h1, l1, k1, S1, r1, ev1⟩ D nD => ?_⟩
  have kD : Kp H1 (upd H1 D (.dK [])) := Kp.new nD
  have SD := S1.newD nD (RelKK.emp (K := C.K) (ρ := ρ1) (H := H1))
  have eD : (ρ1 ++ [D])[h1.length]? = some D := S1.ref_at
  have r1' : RIt C (ρ1 ++ [D]) (h1 ++ [.dct []]) (upd H1 D (.dK [])) t1 J := fun ρ' h' H' i l k S => r1 ρ' h' H' i ((Le.snoc _ _).trans l) (kD.trans k) S
  refine ⟨fun i m H' => ∃ ρ h, Le (ρ1 ++ [D]) ρ ∧ Kp (upd H1 D (.dK [])) H' ∧ Sim C ρ h H' ∧ CG C (Mp.compN t1.next (mT C cf t) (mBs C cf fs) (fun env h => match Mp.evE C.pg cf x env h with
    | .ok x h => Mp.putD h1.length x (Mp.evE C.pg cf y env h)
    | _ => .stk) (Mp.wipe env (own.map (·.2))) m i h) ρ H' (Q (.ref D)),
    ⟨t1.count h1, _, _, Le.refl _, Kp.refl _, SD, ?_⟩, ?_⟩
  · simp only [mT, mBs]
    cases q : Mp.compN t1.next (Mp.evT C.pg cf t) (Mp.evTs C.pg cf fs) (fun env h => match Mp.evE C.pg cf x env h with
      | .ok x h => Mp.putD h1.length x (Mp.evE C.pg cf y env h)
      | _ => .stk) (Mp.wipe env (own.map (·.2))) (t1.count h1) 0 (h1 ++ [.dct []]) with
    | stk => simp only [q] at ev1; exact ev1.elim
    | err c fs h' => simp only [q] at ev1; exact ev1.elim
    | ok u h2 =>
      simp only [q] at ev1
      exact fun ρ' H' l k S' => ev1 ρ' H' _ ((Le.snoc _ _).trans l) (kD.trans k) S' (refRel (l _ _ eD))
  · refine comp_loop r1' hv (tP := fun σ2 H3 Nx => tE C W2 (mE C cf x) σ2 H3 fun u H4 => tE C W2 (mE C cf y) σ2 H4 fun z H5 => ∃ kvs k, u = kV k ∧ H5 D = some (.dK kvs) ∧ kvs.length < sizeLine ∧ Nx (upd H5 D (.dK (putK kvs k z)))) (fun σ2 ρ2 env2 h2 H2 Z es2 S2 l2 k2 cg => ?_) (es.mono (l1.trans (Le.snoc _ _)) (k1.trans kD))
    exact putD_ok es2 S2 (l2 _ _ eD) cg
theorem se_dcomp {kx : Expr} {y : Mp.Ex} (hc : X.calm = true) (hN : X.N.Nodup) (hi : PI X tg iter (tI C W (mI C cf it))) (ok : BlkOk X.N X.env.scope scope own) (hv : ∀ i ∈ vs, i ∈ own.map (·.2))
    (hg : ∀ (s : Shared) (H : Hp) (Z : Addr) (cl : List (Str × Addr)) (fp : List Addr), PG (X.blk s H scope (compEnvC scope cl Z X.env) fp) tg (tG C (mT C cf t) vs)) (ht : ∀ (s : Shared) (H : Hp) (Z : Addr) (cl : List (Str × Addr)) (fp : List Addr), PTs (X.blk s H scope (compEnvC scope cl Z X.env) fp) ifs (tTs C W2 (mBs C cf fs)))
    (hk : ∀ (s : Shared) (H : Hp) (Z : Addr) (cl : List (Str × Addr)) (fp : List Addr), PE (X.blk s H scope (compEnvC scope cl Z X.env) fp) kx (tE C W2 (mE C cf x)))
    (he : ∀ (s : Shared) (H : Hp) (Z : Addr) (cl : List (Str × Addr)) (fp : List Addr), PE (X.blk s H scope (compEnvC scope cl Z X.env) fp) elt (tE C W2 (mE C cf y))) (hs : ∀ x, foldedSetIterable iter X.env x = pure x) :
    PE X (.DictComp kx elt [⟨tg, iter, ifs, 0⟩] scope pos) (tE C W (mE C cf (.dcomp x y (own.map (·.2)) t it fs))) :=
  se_lock (it := it) (PE.imp' (pe_dc hc hN hi ok hg ht hk he hs) fun σ H Q w => dc_wish hv w) fun env h => by simp only [mE, Mp.evE]; rfl
section
variable {tg1 iter1 : Expr} {ifs1 : List Expr} {t' : Mp.Tg} {it' : Mp.It} {fs' : Mp.Exs} {vs' own2 : List Nat}
abbrev put2 (C : Cf) (cf : Nat → List Mp.D → Mp.Heap → Mp.Res Mp.D) (a : Nat) (x : Mp.Ex) (own2 : List Nat) (t' : Mp.Tg) (it' : Mp.It) (fs' : Mp.Exs) : Mp.Env → Mp.Heap → Mp.Res Unit := fun env h => match Mp.evI C.pg cf it' env h with
  | .ok t2 h2 => Mp.compN t2.next (Mp.evT C.pg cf t') (Mp.evTs C.pg cf fs') (fun env h => Mp.putL a (Mp.evE C.pg cf x env h)) (Mp.wipe env own2) (t2.count h2) 0 h2
  | _ => .stk
abbrev comp2M (C : Cf) (cf : Nat → List Mp.D → Mp.Heap → Mp.Res Mp.D) (x : Mp.Ex) (own own2 : List Nat) (t : Mp.Tg) (it : Mp.It) (fs : Mp.Exs) (t' : Mp.Tg) (it' : Mp.It) (fs' : Mp.Exs) : ME := fun env h => (Mp.evI C.pg cf it env h).bind fun t1 h1 => match Mp.compN t1.next (Mp.evT C.pg cf t) (Mp.evTs C.pg cf fs) (put2 C cf h1.length x own2 t' it' fs') (Mp.wipe env own) (t1.count h1) 0 (h1 ++ [.lst []]) with
  | .ok _ h2 => .ok (.ref h1.length) h2
  | _ => .stk
theorem lc2_wish {σ : St} {H : Hp} {Q : VK} (hv : ∀ i ∈ vs, i ∈ own.map (·.2)) (hv' : ∀ i ∈ vs', i ∈ own2) (w : tE C W (comp2M C cf x (own.map (·.2)) own2 t it fs t' it' fs') σ H Q) :
    tLc2 (tI C W (mI C cf it)) (tG C (mT C cf t) vs) (tTs C W2 (mBs C cf fs)) (tI C W2 (mI C cf it')) (tG C (mT C cf t') vs') (tTs C W2 (mBs C cf fs')) (tE C W2 (mE C cf x)) (own.map (·.2)) own2 σ H Q := by
  obtain ⟨ρ, env, h0, es, S, ev⟩ := w
  refine ⟨ρ, env, h0, es, S, (ev.bind (R := RIt C)).imp fun J H1 ⟨t1, ρ1, h1, l1, k1, S1, r1, ev1⟩ D nD => ?_⟩
  have kD : Kp H1 (upd H1 D (.lst [])) := Kp.new nD
  have SD := S1.newL nD (.nil : RelDs C.K ρ1 H1 [] [])
  have eD : (ρ1 ++ [D])[h1.length]? = some D := S1.ref_at
  have r1' : RIt C (ρ1 ++ [D]) (h1 ++ [.lst []]) (upd H1 D (.lst [])) t1 J := fun ρ' h' H' i l k S => r1 ρ' h' H' i ((Le.snoc _ _).trans l) (kD.trans k) S
  refine ⟨fun i m H' => ∃ ρ h, Le (ρ1 ++ [D]) ρ ∧ Kp (upd H1 D (.lst [])) H' ∧ Sim C ρ h H' ∧ CG C (Mp.compN t1.next (mT C cf t) (mBs C cf fs) (put2 C cf h1.length x own2 t' it' fs') (Mp.wipe env (own.map (·.2))) m i h) ρ H' (Q (.ref D)),
    ⟨t1.count h1, _, _, Le.refl _, Kp.refl _, SD, ?_⟩, ?_⟩
  · simp only [mT, mBs]
    cases q : Mp.compN t1.next (Mp.evT C.pg cf t) (Mp.evTs C.pg cf fs) (put2 C cf h1.length x own2 t' it' fs') (Mp.wipe env (own.map (·.2))) (t1.count h1) 0 (h1 ++ [.lst []]) with
    | stk => simp only [q] at ev1; exact ev1.elim
    | err c fs h' => simp only [q] at ev1; exact ev1.elim
    | ok u h2 =>
      simp only [q] at ev1
      exact fun ρ' H' l k S' => ev1 ρ' H' _ ((Le.snoc _ _).trans l) (kD.trans k) S' (refRel (l _ _ eD))
  · refine comp_loop r1' hv (tP := fun σ2 H3 Nx => tI C W2 (mI C cf it') σ2 H3 fun J1 H4 => ∃ W1 : Nat → Nat → Hp → Prop, (∃ m, W1 0 m H4) ∧ ∀ j k H, W1 j k H →
      (J1.stop j H ∧ Nx H) ∨ (J1.go j H ∧ ∃ Nx1 : Hp → Prop, (∀ H', Nx1 H' → ∃ k', k' < k ∧ W1 (j + 1) k' H') ∧ ∀ y H', J1.yld j H y H' → tG C (mT C cf t') vs' y (L2.wipe σ2 own2) H' fun σ3 H5 => L2.wipe σ3 own2 = L2.wipe σ2 own2 ∧ tTs C W2 (mBs C cf fs') σ3 H5 fun b H6 =>
        if b = true then tE C W2 (mE C cf x) σ3 H6 fun y H7 => ∃ acc, H7 D = some (.lst acc) ∧ acc.length < sizeLine ∧ Nx1 (upd H7 D (.lst (acc ++ [y]))) else Nx1 H6)) (fun σ2 ρ2 env2 h2 H2 Z es2 S2 l2 k2 cg => ?_) (es.mono (l1.trans (Le.snoc _ _)) (k1.trans kD))
    refine ⟨ρ2, env2, h2, es2, S2, ?_⟩
    simp only [mI]
    cases q : Mp.evI C.pg cf it' env2 h2 with
    | stk => simp only [put2, q] at cg; exact cg.elim
    | err c fs h' => simp only [put2, q] at cg; exact cg.elim
    | ok t2 h3 =>
      simp only [put2, q] at cg
      intro ρ3 H3 J1 l3 k3 S3 r3
      refine ⟨fun i m H' => ∃ ρ h, Le ρ3 ρ ∧ Kp H3 H' ∧ Sim C ρ h H' ∧ CG C (Mp.compN t2.next (mT C cf t') (mBs C cf fs') (fun env h => Mp.putL h1.length (Mp.evE C.pg cf x env h)) (Mp.wipe env2 own2) m i h) ρ H' Z, ⟨t2.count h3, ρ3, h3, Le.refl _, Kp.refl _, S3, cg.weak l3 k3⟩, ?_⟩
      refine comp_loop r3 hv' (tP := fun σ2 H3 Nx => tE C W2 (mE C cf x) σ2 H3 fun y H4 => ∃ acc, H4 D = some (.lst acc) ∧ acc.length < sizeLine ∧ Nx (upd H4 D (.lst (acc ++ [y])))) (fun σ2 ρ4 env2 h4 H4 Z es4 S4 l4 k4 cg => ?_) (es2.mono l3 k3)
      exact putL_ok es4 S4 (l4 _ _ (l3 _ _ (l2 _ _ eD))) cg
theorem se_comp2 (hc : X.calm = true) (hN : X.N.Nodup) (hi : PI X tg iter (tI C W (mI C cf it))) (ok : BlkOk X.N X.env.scope scope own) (hv : ∀ i ∈ vs, i ∈ own.map (·.2)) (hv' : ∀ i ∈ vs', i ∈ own2) (ho : ∀ i ∈ own2, i ∈ own.map (·.2))
    (hg : ∀ (s : Shared) (H : Hp) (Z : Addr) (cl : List (Str × Addr)) (fp : List Addr), PG (X.blk s H scope (compEnvC scope cl Z X.env) fp) tg (tG C (mT C cf t) vs)) (ht : ∀ (s : Shared) (H : Hp) (Z : Addr) (cl : List (Str × Addr)) (fp : List Addr), PTs (X.blk s H scope (compEnvC scope cl Z X.env) fp) ifs (tTs C W2 (mBs C cf fs)))
    (hi1 : ∀ (s : Shared) (H : Hp) (Z : Addr) (cl : List (Str × Addr)) (fp : List Addr), PI (X.blk s H scope (compEnvC scope cl Z X.env) fp) tg1 iter1 (tI C W2 (mI C cf it')))
    (hg1 : ∀ (s : Shared) (H : Hp) (Z : Addr) (cl : List (Str × Addr)) (fp : List Addr), PG (X.blk s H scope (compEnvC scope cl Z X.env) fp) tg1 (tG C (mT C cf t') vs')) (ht1 : ∀ (s : Shared) (H : Hp) (Z : Addr) (cl : List (Str × Addr)) (fp : List Addr), PTs (X.blk s H scope (compEnvC scope cl Z X.env) fp) ifs1 (tTs C W2 (mBs C cf fs')))
    (he : ∀ (s : Shared) (H : Hp) (Z : Addr) (cl : List (Str × Addr)) (fp : List Addr), PE (X.blk s H scope (compEnvC scope cl Z X.env) fp) elt (tE C W2 (mE C cf x))) (hs : ∀ x, foldedSetIterable iter X.env x = pure x) (hs1 : ∀ env x, foldedSetIterable iter1 env x = pure x) :
    PE X (.ListComp elt [⟨tg, iter, ifs, 0⟩, ⟨tg1, iter1, ifs1, 0⟩] scope pos) (tE C W (mE C cf (.comp2 x (own.map (·.2)) own2 t it fs t' it' fs'))) :=
  se_lock (it := it) (PE.imp' (pe_lc2 hc hN hi ok ho hg ht hi1 hg1 ht1 he hs hs1) fun σ H Q w => lc2_wish hv hv' w) fun env h => by simp only [mE, Mp.evE]; rfl
end
end
end
end MpS
end
section
set_option Elab.async false
set_option linter.all false
set_option maxRecDepth 100000
set_option maxHeartbeats 4000000
namespace MpS
open PySem L2
/-! ### statements -/
/-- a statement's end, the interpreter's and what is wanted of the model's -/
def SG (C : Cf) (W : WX) (D : Ends) (ρ : List Addr) (H : Hp) (r : Mp.SR) : Prop := match r with
  | .nx env h' => ∀ ρ' σ' H', Le ρ ρ' → Kp H H' → ES C.K ρ' H' env σ' → Sim C ρ' h' H' → D.nx σ' H'
  | .rt d h' => ∀ ρ' H' v, Le ρ ρ' → Kp H H' → Sim C ρ' h' H' → RelD C.K ρ' H' d v → D.rt v H'
  | .bk env h' => ∀ ρ' σ' H', Le ρ ρ' → Kp H H' → ES C.K ρ' H' env σ' → Sim C ρ' h' H' → D.bk σ' H'
  | .ct env h' => ∀ ρ' σ' H', Le ρ ρ' → Kp H H' → ES C.K ρ' H' env σ' → Sim C ρ' h' H' → D.ct σ' H'
  | .er c fs env h' => ∀ ρ' σ' H' d, Le ρ ρ' → Kp H H' → ES C.K ρ' H' env σ' → Sim C ρ' h' H' → ErrR C ρ' H' fs d → W (.ref (C.ca c)) d σ' H'
  | .stk => False
def tS (C : Cf) (W : WX) (m : Mp.Env → Mp.Heap → Mp.SR) : TS := fun D σ H => ∃ ρ env h, ES C.K ρ H env σ ∧ Sim C ρ h H ∧ SG C W D ρ H (m env h)
section
variable {C : Cf} {X : Cx} {W : WX} {pos : Pos} {cf : Nat → List Mp.D → Mp.Heap → Mp.Res Mp.D}
abbrev mS (C : Cf) (cf : Nat → List Mp.D → Mp.Heap → Mp.Res Mp.D) (s : Mp.St) : Mp.Env → Mp.Heap → Mp.SR := Mp.evS C.pg cf s
abbrev mSs (C : Cf) (cf : Nat → List Mp.D → Mp.Heap → Mp.Res Mp.D) (s : Mp.Sts) : Mp.Env → Mp.Heap → Mp.SR := Mp.evSs C.pg cf s
theorem SG.weak {D : Ends} {r : Mp.SR} {ρ ρ1 : List Addr} {H H1 : Hp} (l : Le ρ ρ1) (k : Kp H H1) (h : SG C W D ρ H r) : SG C W D ρ1 H1 r := by
  cases r with
  | nx env h' => exact fun ρ' σ' H' l' k' => h ρ' σ' H' (l.trans l') (k.trans k')
  | rt d h' => exact fun ρ' H' v l' k' => h ρ' H' v (l.trans l') (k.trans k')
  | bk env h' => exact fun ρ' σ' H' l' k' => h ρ' σ' H' (l.trans l') (k.trans k')
  | ct env h' => exact fun ρ' σ' H' l' k' => h ρ' σ' H' (l.trans l') (k.trans k')
  | er c fs env h' => exact fun ρ' σ' H' d l' k' => h ρ' σ' H' d (l.trans l') (k.trans k')
  | stk => exact h
/-- an expression, then what is made of its value -/
theorem SG.st {α β : Type} {R : Rel α β} {D : Ends} {r : Mp.Res α} {f : α → Mp.Heap → Mp.SR} {ρ : List Addr} {H : Hp} {env : Mp.Env} {σ : St} (es : ES C.K ρ H env σ) (h : SG C W D ρ H (r.st env f)) :
    EvG C W σ R r ρ H (fun v H1 => ∃ a ρ1 h1, Le ρ ρ1 ∧ Kp H H1 ∧ ES C.K ρ1 H1 env σ ∧ Sim C ρ1 h1 H1 ∧ R ρ1 h1 H1 a v ∧ SG C W D ρ1 H1 (f a h1)) := by
  cases r with
  | ok a h' => exact fun ρ' H' v l k S r => ⟨a, ρ', h', l, k, es.mono l k, S, r, SG.weak l k h⟩
  | err c fs h' => exact fun ρ' H' d l k S r => h ρ' σ H' d l k (es.mono l k) S r
  | stk => exact h
/-- an end that goes on -/
theorem SG.nx {D : Ends} {ρ : List Addr} {H : Hp} {env : Mp.Env} {h : Mp.Heap} {σ : St} (w : SG C W D ρ H (.nx env h)) (es : ES C.K ρ H env σ) (S : Sim C ρ h H) : D.nx σ H := w ρ σ H (Le.refl _) (Kp.refl _) es S
theorem ss_pass : PS X (.Pass pos) (tS C W (mS C cf .pass)) := PS.imp' ps_pass fun D σ H ⟨ρ, env, h, es, S, w⟩ => by
  simp only [mS, Mp.evS] at w; exact w.nx es S
theorem ss_break : PS X (.Break pos) (tS C W (mS C cf .brk)) := PS.imp' ps_break fun D σ H ⟨ρ, env, h, es, S, w⟩ => by
  simp only [mS, Mp.evS] at w; exact w ρ σ H (Le.refl _) (Kp.refl _) es S
theorem ss_continue : PS X (.Continue pos) (tS C W (mS C cf .cont)) := PS.imp' ps_continue fun D σ H ⟨ρ, env, h, es, S, w⟩ => by
  simp only [mS, Mp.evS] at w; exact w ρ σ H (Le.refl _) (Kp.refl _) es S
section
variable {e a b : Expr} {x y z : Mp.Ex}
theorem ss_expr (he : PE X e (tE C W (mE C cf x))) (hs : swapsWith e none pos.line X.env = pure false) : PS X (.Expr e pos) (tS C W (mS C cf (.expr x))) := PS.imp' (ps_expr he hs) fun D σ H ⟨ρ, env, h, es, S, w⟩ => by
  simp only [mS, Mp.evS] at w
  exact ⟨ρ, env, h, es, S, (w.st es (R := RD C)).imp fun v H1 ⟨d, ρ1, h1, l1, k1, es1, S1, r1, w1⟩ => w1.nx es1 S1⟩
theorem ss_ret (he : PE X e (tE C W (mE C cf x))) : PS X (.Return (some e) pos) (tS C W (mS C cf (.ret x))) := PS.imp' (ps_ret he) fun D σ H ⟨ρ, env, h, es, S, w⟩ => by
  simp only [mS, Mp.evS] at w
  exact ⟨ρ, env, h, es, S, (w.st es (R := RD C)).imp fun v H1 ⟨d, ρ1, h1, l1, k1, es1, S1, r1, w1⟩ => w1 ρ1 H1 v (Le.refl _) (Kp.refl _) S1 r1⟩
theorem ss_retN : PS X (.Return none pos) (tS C W (mS C cf (.ret (.c .non)))) := PS.imp' ps_retN fun D σ H ⟨ρ, env, h, es, S, w⟩ => by
  simp only [mS, Mp.evS, Mp.evE, Mp.Res.st] at w
  exact w ρ H .non (Le.refl _) (Kp.refl _) S nonRel
/-- a value is stored -/
theorem store_ok {t : Mp.Tg} {vs : List Nat} {D : Ends} {d : Mp.D} {v : V} {σ : St} {ρ : List Addr} {env : Mp.Env} {h : Mp.Heap} {H : Hp} (es : ES C.K ρ H env σ) (S : Sim C ρ h H) (r : RelD C.K ρ H d v) (w : SG C W D ρ H (match Mp.evT C.pg cf t d env h with
    | .ok env h => .nx env h
    | _ => .stk)) : tG C (mT C cf t) vs v σ H D.nx := by
  refine ⟨ρ, env, h, d, es, S, r, ?_⟩
  simp only [mT]
  cases q : Mp.evT C.pg cf t d env h with
  | stk => rw [q] at w; exact w.elim
  | err c fs h' => rw [q] at w; exact w.elim
  | ok env' h' =>
    rw [q] at w
    exact fun ρ' σ' H' l k es' S' _ _ => w ρ' σ' H' l k es' S'
theorem ss_asg {tg : Expr} {t : Mp.Tg} {vs : List Nat} (he : PE X e (tE C W (mE C cf x))) (hg : PG X tg (tG C (mT C cf t) vs)) (hs : swapsWithSole [tg] e pos.line X.env = pure false) (hw : swappedStores [tg] e X.env = pure none)
    (h1 : (assignEach [tg] X.env).map (·.2) = [assign tg X.env]) : PS X (.Assign [tg] e pos) (tS C W (mS C cf (.asg t x))) := PS.imp' (ps_asg he hg hs hw h1) fun D σ H ⟨ρ, env, h, es, S, w⟩ => by
  simp only [mS, Mp.evS] at w
  exact ⟨ρ, env, h, es, S, (w.st es (R := RD C)).imp fun v H1 ⟨d, ρ1, h1, l1, k1, es1, S1, r1, w1⟩ => store_ok es1 S1 r1 w1⟩
theorem ss_asg2 {t1 t2 : Expr} {t u : Mp.Tg} {vs us : List Nat} (he : PE X e (tE C W (mE C cf x))) (hg : PG X t1 (tG C (mT C cf t) vs)) (hg2 : PG X t2 (tG C (mT C cf u) us)) (ha : (assignEach [t1, t2] X.env).map (·.2) = [assign t1 X.env, assign t2 X.env]) (hw : swappedStores [t1, t2] e X.env = pure none) :
    PS X (.Assign [t1, t2] e pos) (tS C W (mS C cf (.asg2 t u x))) := PS.imp' (ps_asg2 he hg hg2 ha hw) fun D σ H ⟨ρ, env, h, es, S, w⟩ => by
  simp only [mS, Mp.evS] at w
  refine ⟨ρ, env, h, es, S, (w.st es (R := RD C)).imp fun v H1 ⟨d, ρ1, h1, l1, k1, es1, S1, r1, w1⟩ => ?_⟩
  refine ⟨ρ1, env, h1, d, es1, S1, r1, ?_⟩
  simp only [mT]
  cases q : Mp.evT C.pg cf t d env h1 with
  | stk => rw [q] at w1; exact w1.elim
  | err c fs h' => rw [q] at w1; exact w1.elim
  | ok env' h' =>
    rw [q] at w1
    exact fun ρ' σ' H' l k es' S' _ _ => store_ok es' S' (RelD.mono l k _ _ r1) (w1.weak l k)
/-- a, b = x, y with local names -/
theorem ss_par {i j : Nat} {n m : Str} {px py pt : Pos} {kt k2 : Nat} {pt2 : Pos} {xs : Mp.Exs} (hc : X.calm = true) (hN : X.N.Nodup) (hi : X.N[i]? = some n) (hj : X.N[j]? = some m) (hij : i ≠ j)
    (hx : X.env.scope.names.lookup n = some .local) (hy : X.env.scope.names.lookup m = some .local) (ha : PA X [a, b] (tA C W (mEs C cf xs)))
    (hw : swappedStores [.Tuple [.Name n px, .Name m py] kt pt] (.Tuple [a, b] k2 pt2) X.env = pure (some [n, m])) (hs : swapsWithSole [.Tuple [.Name n px, .Name m py] kt pt] (.Tuple [a, b] k2 pt2) pos.line X.env = pure false) :
    PS X (.Assign [.Tuple [.Name n px, .Name m py] kt pt] (.Tuple [a, b] k2 pt2) pos) (tS C W (mS C cf (.asg (.tup (.cons (.nm i) (.cons (.nm j) .nil))) (.tup xs)))) := PS.imp' (ps_par hc hN hi hj hij hx hy ha hw hs) fun D σ H ⟨ρ, env, h, es, S, w⟩ => by
  simp only [mS, Mp.evS, Mp.evE] at w
  refine ⟨ρ, env, h, es, S, ?_⟩
  show EvG C W σ (RDs C) (Mp.evEs C.pg cf xs env h) ρ H _
  cases q : Mp.evEs C.pg cf xs env h with
  | stk => rw [q] at w; exact w.elim
  | err c fs h' => rw [q] at w; exact fun ρ' H' d l k S' r => w ρ' σ H' d l k (es.mono l k) S' r
  | ok ds h1 =>
    rw [q] at w
    simp only [Mp.Res.bind] at w
    intro ρ1 H1 vs l1 k1 S1 r1
    split at w
    · simp only [Mp.Res.st, Mp.evT] at w
      cases ds with
      | nil => simp only [Mp.evTgs] at w; exact w.elim
      | cons d ds =>
        cases ds with
        | nil =>
          simp only [Mp.evTgs, Mp.evT] at w
          split at w
          · rename_i q2
            split at q2 <;> simp only [Mp.Res.bind] at q2 <;> cases q2
          · exact w.elim
        | cons d2 ds =>
          obtain ⟨v, us, rfl, rv, ru⟩ := r1.inv_cons
          obtain ⟨u, us', rfl, rv2, rr⟩ := ru.inv_cons
          cases ds with
          | cons d3 ds =>
            simp only [Mp.evTgs, Mp.evT] at w
            split at w
            · rename_i q2
              split at q2 <;> simp only [Mp.Res.bind] at q2
              · split at q2 <;> cases q2
              · cases q2
            · exact w.elim
          | nil =>
            have e0 : us' = [] := by simpa only [RelDs] using rr
            subst e0
            refine ⟨v, u, rfl, ?_⟩
            simp only [Mp.evTgs, Mp.evT] at w
            by_cases h1 : i < env.length
            · rw [if_pos h1] at w
              simp only [Mp.Res.bind, List.length_set] at w
              by_cases h2 : j < env.length
              · rw [if_pos h2] at w
                exact w ρ1 _ H1 l1 k1 (((es.mono l1 k1).set rv).set rv2) S1
              · rw [if_neg h2] at w; exact w.elim
            · rw [if_neg h1] at w; exact w.elim
    · exact w.elim
theorem ss_par3 {i j l : Nat} {n m o : Str} {c : Expr} {px py pz pt : Pos} {kt k2 : Nat} {pt2 : Pos} {xs : Mp.Exs} (hc : X.calm = true) (hN : X.N.Nodup) (hi : X.N[i]? = some n) (hj : X.N[j]? = some m) (hl : X.N[l]? = some o) (hij : i ≠ j) (hil : i ≠ l) (hjl : j ≠ l)
    (hx : X.env.scope.names.lookup n = some .local) (hy : X.env.scope.names.lookup m = some .local) (hz : X.env.scope.names.lookup o = some .local) (ha : PA X [a, b, c] (tA C W (mEs C cf xs)))
    (hw : swappedStores [.Tuple [.Name n px, .Name m py, .Name o pz] kt pt] (.Tuple [a, b, c] k2 pt2) X.env = pure (some [n, m, o])) (hs : swapsWithSole [.Tuple [.Name n px, .Name m py, .Name o pz] kt pt] (.Tuple [a, b, c] k2 pt2) pos.line X.env = pure false) :
    PS X (.Assign [.Tuple [.Name n px, .Name m py, .Name o pz] kt pt] (.Tuple [a, b, c] k2 pt2) pos) (tS C W (mS C cf (.asg (.tup (.cons (.nm i) (.cons (.nm j) (.cons (.nm l) .nil)))) (.tup xs)))) := PS.imp' (ps_par3 hc hN hi hj hl hij hil hjl hx hy hz ha hw hs) fun D σ H ⟨ρ, env, h, es, S, w⟩ => by
  simp only [mS, Mp.evS, Mp.evE] at w
  refine ⟨ρ, env, h, es, S, ?_⟩
  show EvG C W σ (RDs C) (Mp.evEs C.pg cf xs env h) ρ H _
  cases q : Mp.evEs C.pg cf xs env h with
  | stk => rw [q] at w; exact w.elim
  | err c fs h' => rw [q] at w; exact fun ρ' H' d l k S' r => w ρ' σ H' d l k (es.mono l k) S' r
  | ok ds h1 =>
    rw [q] at w
    simp only [Mp.Res.bind] at w
    intro ρ1 H1 vs l1 k1 S1 r1
    split at w
    · simp only [Mp.Res.st, Mp.evT] at w
      cases q2 : Mp.evTgs C.pg cf (.cons (.nm i) (.cons (.nm j) (.cons (.nm l) .nil))) ds env h1 with
      | stk => rw [q2] at w; exact w.elim
      | err c fs h' => rw [q2] at w; exact w.elim
      | ok env' h2 =>
        rw [q2] at w
        have hlen := tg_len q2
        match ds, hlen, r1, q2 with
        | [d1, d2, d3], _, r1, q2 =>
          obtain ⟨v, us, rfl, rv, ru⟩ := r1.inv_cons
          obtain ⟨u, us', rfl, rv2, rr⟩ := ru.inv_cons
          obtain ⟨t, rfl, rt⟩ := rr.inv1
          refine ⟨v, u, t, rfl, ?_⟩
          simp only [Mp.evTgs, Mp.evT] at q2
          by_cases h1 : i < env.length
          · rw [if_pos h1] at q2
            simp only [Mp.Res.bind, List.length_set] at q2
            by_cases h2 : j < env.length
            · rw [if_pos h2] at q2
              simp only [Mp.Res.bind, List.length_set] at q2
              by_cases h3 : l < env.length
              · rw [if_pos h3] at q2
                cases q2
                exact w ρ1 _ H1 l1 k1 ((((es.mono l1 k1).set rv).set rv2).set rt) S1
              · rw [if_neg h3] at q2; cases q2
            · rw [if_neg h2] at q2; cases q2
          · rw [if_neg h1] at q2; cases q2
    · exact w.elim
/-! ### op= -/
def rAug (C : Cf) (op : Mp.BOp) : TIp := fun x y H Q => ∃ ρ h d e, Sim C ρ h H ∧ RelD C.K ρ H d x ∧ RelD C.K ρ H e y ∧ ∃ z h', Mp.augop op d e h = .ok z h' ∧ ∀ ρ' H' v, Le ρ ρ' → Kp H H' → Sim C ρ' h' H' → RelD C.K ρ' H' z v → Q v H'
theorem so_aug {op : Mp.BOp} : PIp X (opOf op) (rAug C op) := by
  intro pins s σ H x y v u Q I r1 r2 q
  obtain ⟨ρ, h, d, e, S, rd, re, z, h', ev, k⟩ := q
  unfold Mp.augop at ev
  split at ev
  · cases ev
    have h1 := relInt rd; have h2 := relInt re
    subst h1 h2
    exact ip_add pins s σ H _ _ v u Q I r1 r2 ⟨_, _, rfl, rfl, k ρ H _ (Le.refl _) (Kp.refl _) S (intRel _)⟩
  · rename_i s1 s2
    split at ev
    · rename_i hl
      cases ev
      have h1 := relStr rd; have h2 := relStr re
      subst h1 h2
      exact iop_add_str pins s σ H _ _ v u Q I r1 r2 ⟨_, _, rfl, rfl, by rw [strV_len, strV_len]; exact lim_line hl, by rw [strV_app]; exact k ρ H _ (Le.refl _) (Kp.refl _) S (strRel _)⟩
    · cases ev
  · cases ev
    have h1 := relInt rd; have h2 := relInt re
    subst h1 h2
    exact ip_sub pins s σ H _ _ v u Q I r1 r2 ⟨_, _, rfl, rfl, k ρ H _ (Le.refl _) (Kp.refl _) S (intRel _)⟩
  · cases ev
theorem augop_noerr {op : Mp.BOp} {d e : Mp.D} {h h' : Mp.Heap} {c : Nat} {fs : List (Nat × Mp.D)} : Mp.augop op d e h ≠ .err c fs h' := by
  unfold Mp.augop
  repeat' split
  all_goals (intro q; cases q)
theorem rAug.ok {op : Mp.BOp} {d e : Mp.D} {x y : V} {ρ : List Addr} {h : Mp.Heap} {H : Hp} {Q : VK} {σ : St} (S : Sim C ρ h H) (r1 : RelD C.K ρ H d x) (r2 : RelD C.K ρ H e y) (ev : EvG C W σ (RD C) (Mp.augop op d e h) ρ H Q) : rAug C op x y H Q := by
  cases q : Mp.augop op d e h with
  | ok z h' => rw [q] at ev; exact ⟨ρ, h, d, e, S, r1, r2, z, h', q, ev⟩
  | err c fs h' => exact absurd q augop_noerr
  | stk => rw [q] at ev; exact ev.elim
theorem ss_aug {i : Nat} {n : Str} {op : Mp.BOp} {pos' : Pos} (hN : X.N.Nodup) (hi : X.N[i]? = some n) (hx : Loc X.env.scope n) (hf : X.fn n = true ∨ X.env.scope.names.lookup n = some .local) (he : PE X e (tE C W (mE C cf x))) :
    PS X (.AugAssign (.Name n pos') (opOf op) e pos) (tS C W (mS C cf (.aug i op x))) := PS.imp' (ps_aug hN hi hx he (so_aug (C := C)) hf) fun D σ H ⟨ρ, env, h, es, S, w⟩ => by
  simp only [mS, Mp.evS] at w
  cases q : env[i]? with
  | none => rw [q] at w; exact w.elim
  | some o =>
    cases o with
    | none => rw [q] at w; exact w.elim
    | some d =>
      rw [q] at w
      obtain ⟨v, ev, rv⟩ := es.2 i d q
      refine ⟨v, ev, ρ, env, h, es, S, (w.st es (R := RD C)).imp fun y H1 ⟨d1, ρ1, h1, l1, k1, es1, S1, r1, w1⟩ => ?_⟩
      refine rAug.ok S1 (RelD.mono l1 k1 _ _ rv) r1 ((w1.st es1 (R := RD C)).imp fun z H2 ⟨d2, ρ2, h2, l2, k2, es2, S2, r2, w2⟩ => ?_)
      split at w2
      · exact w2 ρ2 _ H2 (Le.refl _) (Kp.refl _) (es2.set r2) S2
      · exact w2.elim
end
end
end MpS
end
section
set_option Elab.async false
set_option linter.all false
set_option maxRecDepth 100000
set_option maxHeartbeats 4000000
namespace MpS
open PySem L2
section
variable {C : Cf} {X : Cx} {W : WX} {pos : Pos} {cf : Nat → List Mp.D → Mp.Heap → Mp.Res Mp.D}
/-! ### blocks -/
theorem sss_nil : PSs X [] (tS C W (mSs C cf .nil)) := PSs.imp' pss_nil fun D σ H ⟨ρ, env, h, es, S, w⟩ => by
  simp only [mSs, Mp.evSs] at w; exact w.nx es S
theorem sss_cons {s : Stmt} {ss : List Stmt} {x : Mp.St} {xs : Mp.Sts} (h1 : PS X s (tS C W (mS C cf x))) (h2 : PSs X ss (tS C W (mSs C cf xs))) : PSs X (s :: ss) (tS C W (mSs C cf (.cons x xs))) := PSs.imp' (pss_cons h1 h2) fun D σ H ⟨ρ, env, h, es, S, w⟩ => by
  simp only [mSs, Mp.evSs] at w
  refine ⟨ρ, env, h, es, S, ?_⟩
  simp only [mS]
  cases q : Mp.evS C.pg cf x env h with
  | nx env' h' =>
    rw [q] at w
    exact fun ρ' σ' H' l k es' S' => ⟨ρ', env', h', es', S', w.weak l k⟩
  | rt d h' => rw [q] at w; exact w
  | bk env' h' => rw [q] at w; exact w
  | ct env' h' => rw [q] at w; exact w
  | er c fs env' h' => rw [q] at w; exact w
  | stk => rw [q] at w; exact w
/-! ### tests -/
theorem SG.test {m : ME} {D : Ends} {ρ : List Addr} {H : Hp} {env : Mp.Env} {h : Mp.Heap} {σ : St} {f : Bool → Mp.Heap → Mp.SR} (es : ES C.K ρ H env σ) (w : SG C W D ρ H ((m env h).st env fun x h => match Mp.truth h x with
    | some true => f true h
    | some false => f false h
    | none => .stk)) : EvG C W σ RB ((m env h).bind fun d h => Mp.opt (Mp.truth h d) h) ρ H (fun b H1 => ∃ ρ1 h1, Le ρ ρ1 ∧ Kp H H1 ∧ ES C.K ρ1 H1 env σ ∧ Sim C ρ1 h1 H1 ∧ SG C W D ρ1 H1 (f b h1)) := by
  cases q : m env h with
  | stk => rw [q] at w; exact w.elim
  | err c fs h' => rw [q] at w; exact fun ρ' H' d l k S r => w ρ' σ H' d l k (es.mono l k) S r
  | ok d h' =>
    rw [q] at w
    simp only [Mp.Res.st, Mp.Res.bind] at w ⊢
    cases q1 : Mp.truth h' d with
    | none => rw [q1] at w; exact w.elim
    | some t =>
      rw [q1] at w
      intro ρ' H' b l k S eb
      have eb : t = b := eb
      subst eb
      cases t with
      | true => exact ⟨ρ', h', l, k, es.mono l k, S, w.weak l k⟩
      | false => exact ⟨ρ', h', l, k, es.mono l k, S, w.weak l k⟩
theorem ss_if {c : Expr} {a b : List Stmt} {x : Mp.Ex} {xs ys : Mp.Sts} (hc : PT X c (tT C W (mE C cf x))) (ha : PSs X a (tS C W (mSs C cf xs))) (hb : PSs X b (tS C W (mSs C cf ys))) : PS X (.If c a b pos) (tS C W (mS C cf (.if_ x xs ys))) := PS.imp' (ps_if hc ha hb) fun D σ H ⟨ρ, env, h, es, S, w⟩ => by
  simp only [mS, Mp.evS] at w
  refine ⟨ρ, env, h, es, S, (SG.test (C := C) (W := W) (D := D) (m := Mp.evE C.pg cf x) (f := fun b h => match b with
    | true => Mp.evSs C.pg cf xs env h
    | false => Mp.evSs C.pg cf ys env h) es w).imp fun b H1 q => ?_⟩
  obtain ⟨ρ1, h1, l1, k1, es1, S1, w1⟩ := q
  cases b with
  | true => rw [if_pos rfl]; exact ⟨ρ1, env, h1, es1, S1, w1⟩
  | false => rw [if_neg Bool.false_ne_true]; exact ⟨ρ1, env, h1, es1, S1, w1⟩
/-! ### loops -/
theorem ss_while {c : Expr} {a : List Stmt} {x : Mp.Ex} {xs : Mp.Sts} (hp : PassesOwn (model X.prog X.w) X.A X.env X.xe) (hc : PT X c (tT C W (mE C cf x))) (ha : PSs X a (tS C W (mSs C cf xs))) : PS X (.While c a [] pos) (tS C W (mS C cf (.while_ x xs))) := PS.imp' (ps_while hp hc ha) fun D σ H ⟨ρ, env, h, es, S, w⟩ => by
  simp only [mS, Mp.evS] at w
  refine ⟨fun m σ H => ∃ ρ env h, ES C.K ρ H env σ ∧ Sim C ρ h H ∧ SG C W D ρ H (Mp.whileN (Mp.evE C.pg cf x) (Mp.evSs C.pg cf xs) m env h), ⟨Mp.fuel, ρ, env, h, es, S, w⟩, ?_⟩
  rintro m σ H ⟨ρ, env, h, es, S, w⟩
  cases m with
  | zero => simp only [Mp.whileN] at w; exact w.elim
  | succ m =>
    simp only [Mp.whileN] at w
    let f : Bool → Mp.Heap → Mp.SR := fun b h1 => match b with
      | true => match Mp.evSs C.pg cf xs env h1 with
        | .nx env2 h2 => Mp.whileN (Mp.evE C.pg cf x) (Mp.evSs C.pg cf xs) m env2 h2
        | .ct env2 h2 => Mp.whileN (Mp.evE C.pg cf x) (Mp.evSs C.pg cf xs) m env2 h2
        | .bk env2 h2 => .nx env2 h2
        | r => r
      | false => .nx env h1
    have w' : SG C W D ρ H ((Mp.evE C.pg cf x env h).st env fun d h1 => match Mp.truth h1 d with
      | some true => f true h1
      | some false => f false h1
      | none => .stk) := by
      cases q : Mp.evE C.pg cf x env h with
      | stk => rw [q] at w; exact w
      | err c fs h' => rw [q] at w; exact w
      | ok d h1 =>
        rw [q] at w
        simp only [Mp.Res.st]
        cases q1 : Mp.truth h1 d with
        | none => simp only [q1] at w; exact w
        | some t =>
          simp only [q1] at w
          cases t with
          | true => exact w
          | false => exact w
    refine ⟨ρ, env, h, es, S, (SG.test (C := C) (W := W) (D := D) (m := Mp.evE C.pg cf x) (f := f) es w').imp fun b H1 q => ?_⟩
    obtain ⟨ρ1, h1, l1, k1, es1, S1, w1⟩ := q
    cases b with
    | false => rw [if_neg Bool.false_ne_true]; exact SG.nx w1 es1 S1
    | true =>
      rw [if_pos rfl]
      have w1 : SG C W D ρ1 H1 (match Mp.evSs C.pg cf xs env h1 with
        | .nx env2 h2 => Mp.whileN (Mp.evE C.pg cf x) (Mp.evSs C.pg cf xs) m env2 h2
        | .ct env2 h2 => Mp.whileN (Mp.evE C.pg cf x) (Mp.evSs C.pg cf xs) m env2 h2
        | .bk env2 h2 => .nx env2 h2
        | r => r) := w1
      refine ⟨fun σ' H' => ∃ ρ env h, ES C.K ρ H' env σ' ∧ Sim C ρ h H' ∧ SG C W D ρ H' (Mp.whileN (Mp.evE C.pg cf x) (Mp.evSs C.pg cf xs) m env h), fun σ' H' q => ⟨m, Nat.lt_succ_self m, q⟩, ρ1, env, h1, es1, S1, ?_⟩
      simp only [mSs]
      cases q : Mp.evSs C.pg cf xs env h1 with
      | nx env2 h2 => rw [q] at w1; exact fun ρ' σ' H' l k es' S' => ⟨ρ', env2, h2, es', S', w1.weak l k⟩
      | ct env2 h2 => rw [q] at w1; exact fun ρ' σ' H' l k es' S' => ⟨ρ', env2, h2, es', S', w1.weak l k⟩
      | bk env2 h2 => rw [q] at w1; exact w1
      | rt d h2 => rw [q] at w1; exact w1
      | er c fs env2 h2 => rw [q] at w1; exact w1
      | stk => rw [q] at w1; exact w1
/-- the walk itself -/
abbrev forM (C : Cf) (cf : Nat → List Mp.D → Mp.Heap → Mp.Res Mp.D) (t : Mp.Tg) (it : Mp.It) (xs : Mp.Sts) : Mp.Env → Mp.Heap → Mp.SR := fun env h => (Mp.evI C.pg cf it env h).st env fun v h => Mp.forN v.next (Mp.evT C.pg cf t) (Mp.evSs C.pg cf xs) (v.count h) 0 env h
theorem for_wish {t : Mp.Tg} {vs : List Nat} {it : Mp.It} {xs : Mp.Sts} {D : Ends} {σ : St} {H : Hp} (w : tS C W (forM C cf t it xs) D σ H) : tFor (tI C W (mI C cf it)) (tG C (mT C cf t) vs) (tS C W (mSs C cf xs)) D σ H := by
  obtain ⟨ρ, env, h, es, S, w⟩ := w
  refine ⟨ρ, env, h, es, S, (w.st es (R := RIt C)).imp fun J H1 ⟨v, ρ1, h1, l1, k1, es1, S1, r1, w1⟩ => ?_⟩
  refine ⟨fun i m σ H => ∃ ρ env h, Le ρ1 ρ ∧ Kp H1 H ∧ ES C.K ρ H env σ ∧ Sim C ρ h H ∧ SG C W D ρ H (Mp.forN v.next (Mp.evT C.pg cf t) (Mp.evSs C.pg cf xs) m i env h), ⟨v.count h1, ρ1, env, h1, Le.refl _, Kp.refl _, es1, S1, w1⟩, ?_⟩
  rintro i m σ H ⟨ρ, env, h, l, k, es, S, w⟩
  have nx := r1 ρ h H i l k S
  cases q : v.next i h with
  | none =>
    cases m with
    | zero => simp only [Mp.forN, q] at w; exact w.elim
    | succ m => simp only [Mp.forN, q] at w; exact w.elim
  | some o =>
    rw [q] at nx
    cases o with
    | none =>
      refine .inl ⟨nx, ?_⟩
      cases m with
      | zero => simp only [Mp.forN, q] at w; exact w.nx es S
      | succ m => simp only [Mp.forN, q] at w; exact w.nx es S
    | some d =>
      refine .inr ⟨nx.1, ?_⟩
      cases m with
      | zero => simp only [Mp.forN, q] at w; exact w.elim
      | succ m =>
        simp only [Mp.forN, q] at w
        refine ⟨fun σ' H' => ∃ ρ env h, Le ρ1 ρ ∧ Kp H1 H' ∧ ES C.K ρ H' env σ' ∧ Sim C ρ h H' ∧ SG C W D ρ H' (Mp.forN v.next (Mp.evT C.pg cf t) (Mp.evSs C.pg cf xs) m (i + 1) env h), fun σ' H' z => ⟨m, Nat.lt_succ_self m, z⟩, fun x H2 y => ?_⟩
        obtain ⟨k2, S2, r2⟩ := nx.2 x H2 y
        refine ⟨ρ, env, h, d, es.mono (Le.refl _) k2, S2, r2, ?_⟩
        simp only [mT]
        cases q1 : Mp.evT C.pg cf t d env h with
        | stk => simp only [q1] at w; exact w.elim
        | err c fs h' => simp only [q1] at w; exact w.elim
        | ok env1 h3 =>
          simp only [q1] at w
          intro ρ3 σ3 H3 l3 k3 es3 S3 _ _
          refine ⟨ρ3, env1, h3, es3, S3, ?_⟩
          have w := SG.weak l3 (k2.trans k3) w
          simp only [mSs]
          cases q2 : Mp.evSs C.pg cf xs env1 h3 with
          | nx env2 h4 => rw [q2] at w; exact fun ρ' σ' H' l' k' es' S' => ⟨ρ', env2, h4, l.trans (l3.trans l'), k.trans (k2.trans (k3.trans k')), es', S', w.weak l' k'⟩
          | ct env2 h4 => rw [q2] at w; exact fun ρ' σ' H' l' k' es' S' => ⟨ρ', env2, h4, l.trans (l3.trans l'), k.trans (k2.trans (k3.trans k')), es', S', w.weak l' k'⟩
          | bk env2 h4 => rw [q2] at w; exact w
          | rt d h4 => rw [q2] at w; exact w
          | er c fs env2 h4 => rw [q2] at w; exact w
          | stk => rw [q2] at w; exact w
/-! ### locks -/
theorem mirS_none {r : Mp.SR} {D : Ends} {ρ : List Addr} {H : Hp} (h : SG C W D ρ H (Mp.mirS none r)) : SG C W D ρ H r := by
  cases r with
  | bk env h' => exact h.elim
  | ct env h' => exact h.elim
  | nx env h' => exact h
  | rt d h' => exact h
  | er c fs env h' => exact h
  | stk => exact h
theorem lock_sg {r : Mp.SR} {D : Ends} {ρ : List Addr} {H : Hp} {a : Nat} {d : Addr} {u : HO} {kvs : List (Mp.D × Mp.D)} (w : SG C W D ρ H (Mp.mirS (some (a, kvs)) r)) (ed : ρ[a]? = some d) (hu : H d = some u) (hs : Sta u = false) (g : RelDict C.K ρ H kvs u) (od : Obj) :
    SG C W ⟨fun σ' H' => H' d = some (.frz od u) ∧ D.nx σ' (upd H' d u), fun v H' => H' d = some (.frz od u) ∧ D.rt v (upd H' d u), fun σ' H' => H' d = some (.frz od u) ∧ D.bk σ' (upd H' d u), fun σ' H' => H' d = some (.frz od u) ∧ D.ct σ' (upd H' d u)⟩ ρ (upd H d (.frz od u)) r := by
  have kp0 : Kp H (upd H d (.frz od u)) := Kp.upd fun o e => by rw [hu] at e; cases e; exact hs
  cases r with
  | bk env h' => exact w.elim
  | ct env h' => exact w.elim
  | stk => exact w
  | er c fs env h' => exact fun ρ' σ' H' x l k es S r => w ρ' σ' H' x l (kp0.trans k) es S r
  | nx env h' =>
    simp only [Mp.mirS] at w
    cases q : Mp.unlock (some (a, kvs)) h' with
    | none => rw [q] at w; exact w.elim
    | some h2 =>
      rw [q] at w
      intro ρ' σ' H' l k es S'
      obtain ⟨hf, kp, S2⟩ := Sim.free ed hu hs g l k S' q
      refine ⟨hf, w ρ' σ' _ l kp (ES.monoT (Le.refl _) ?_ es) S2⟩
      intro b o e t
      have n : b ≠ d := fun z => by subst z; rw [hf] at e; cases e; cases t
      rw [upd_ne n]; exact e
  | rt x h' =>
    simp only [Mp.mirS] at w
    cases q : Mp.unlock (some (a, kvs)) h' with
    | none => rw [q] at w; exact w.elim
    | some h2 =>
      rw [q] at w
      intro ρ' H' v l k S' r
      obtain ⟨hf, kp, S2⟩ := Sim.free ed hu hs g l k S' q
      refine ⟨hf, w ρ' _ v l kp S2 (RelD.monoT (Le.refl _) ?_ _ _ r)⟩
      intro b o e t
      have n : b ≠ d := fun z => by subst z; rw [hf] at e; cases e; cases t
      rw [upd_ne n]; exact e
theorem ss_lock {s : Stmt} {it : Mp.It} {m0 m : Mp.Env → Mp.Heap → Mp.SR} (h : PS X s (tS C W m0)) (hm : ∀ env h, m env h = Mp.mirS (Mp.evL C.pg cf it env h) (m0 env (Mp.lockH (Mp.evL C.pg cf it env h) h))) : PS X s (tS C W m) := by
  refine ⟨fun pins st σ H D I w => ?_⟩
  obtain ⟨ρ, env, h0, es, S, w⟩ := w
  rw [hm] at w
  cases q : Mp.evL C.pg cf it env h0 with
  | none =>
    rw [q] at w
    exact h.run pins st σ H D I ⟨ρ, env, h0, es, S, mirS_none w⟩
  | some p =>
    obtain ⟨a, kvs⟩ := p
    rw [q] at w
    obtain ⟨d, u, ed, hu, mu, hs, g, ok⟩ := S.lock (evL_some q)
    refine (ps_lock h).run pins st σ H D I ⟨d, u, hu, mu, fun od => ?_⟩
    obtain ⟨kp, S1⟩ := ok od
    exact ⟨ρ, env, _, es.mono (Le.refl _) kp, S1, lock_sg w ed hu hs g od⟩
theorem ss_for {tg iter : Expr} {a : List Stmt} {t : Mp.Tg} {vs : List Nat} {it : Mp.It} {xs : Mp.Sts} (hp : PassesOwn (model X.prog X.w) X.A X.env X.xe) (hc : X.calm = true) (hi : PI X tg iter (tI C W (mI C cf it))) (hg : PG X tg (tG C (mT C cf t) vs)) (ha : PSs X a (tS C W (mSs C cf xs)))
    (hs : ∀ x, foldedSetIterable iter X.env x = pure x) : PS X (.For tg iter a [] pos) (tS C W (mS C cf (.for_ t it xs))) :=
  ss_lock (cf := cf) (it := it) (PS.imp' (ps_for hp hc hi hg ha hs) fun D σ H w => for_wish w) fun env h => by simp only [mS, Mp.evS]
/-! ### name = [..] -/
theorem ss_setLc {i : Nat} {y : Str} {py spos : Pos} {elt tg iter : Expr} {ifs : List Expr} {scope : Scope} {own : List (Str × Nat)} {x : Mp.Ex} {t : Mp.Tg} {it : Mp.It} {fs : Mp.Exs} {vs : List Nat} {W2 : WX} (hc : X.calm = true) (hN : X.N.Nodup) (hy : X.N[i]? = some y) (hyl : X.env.scope.names.lookup y = some .local)
    (hsw : swapsWith (.ListComp elt [⟨tg, iter, ifs, 0⟩] scope pos) (some (.Name y py)) spos.line X.env = pure true) (hi : PI X tg iter (tI C W (mI C cf it))) (ok : BlkOk X.N X.env.scope scope own) (hv : ∀ i ∈ vs, i ∈ own.map (·.2))
    (hg : ∀ (s : Shared) (H : Hp) (Z : Addr) (cl : List (Str × Addr)) (fp : List Addr), PG (X.blk s H scope (compEnvC scope cl Z X.env) fp) tg (tG C (mT C cf t) vs)) (ht : ∀ (s : Shared) (H : Hp) (Z : Addr) (cl : List (Str × Addr)) (fp : List Addr), PTs (X.blk s H scope (compEnvC scope cl Z X.env) fp) ifs (tTs C W2 (mBs C cf fs)))
    (he : ∀ (s : Shared) (H : Hp) (Z : Addr) (cl : List (Str × Addr)) (fp : List Addr), PE (X.blk s H scope (compEnvC scope cl Z X.env) fp) elt (tE C W2 (mE C cf x))) (hs : ∀ x, foldedSetIterable iter X.env x = pure x) :
    PS X (.Assign [.Name y py] (.ListComp elt [⟨tg, iter, ifs, 0⟩] scope pos) spos) (tS C W (mS C cf (.asg (.nm i) (.comp x (own.map (·.2)) t it fs)))) := by
  refine ss_lock (cf := cf) (it := it) (m0 := fun env h => (compM C cf x (own.map (·.2)) t it fs env h).st env fun d h => match Mp.evT C.pg cf (.nm i) d env h with
    | .ok env h => .nx env h
    | _ => .stk) (PS.imp' (ps_setLc hc hN hy hyl hsw hi ok hg ht he hs) fun D σ H ⟨ρ, env, h, es, S, w⟩ => ?_) fun env h => ?_
  · refine lc_wish hv ⟨ρ, env, h, es, S, (w.st es (R := RD C)).imp fun v H1 ⟨d, ρ1, h1, l1, k1, es1, S1, r1, w1⟩ => ?_⟩
    simp only [Mp.evT] at w1
    split at w1
    · rename_i q2
      split at q2
      · cases q2
        exact w1 ρ1 _ H1 (Le.refl _) (Kp.refl _) (es1.set r1) S1
      · cases q2
    · exact w1.elim
  · have hE : Mp.evE C.pg cf (.comp x (own.map (·.2)) t it fs) env h = Mp.mirH (Mp.evL C.pg cf it env h) (compM C cf x (own.map (·.2)) t it fs env (Mp.lockH (Mp.evL C.pg cf it env h) h)) := by simp only [Mp.evE] <;> rfl
    simp only [mS, Mp.evS]
    rw [hE]
    simp only [Mp.evT]
    generalize compM C cf x (own.map (·.2)) t it fs env (Mp.lockH (Mp.evL C.pg cf it env h) h) = r
    generalize Mp.evL C.pg cf it env h = lk
    by_cases hl : i < env.length
    · simp only [if_pos hl]
      cases r with
      | stk => rfl
      | err c fs' h' => rfl
      | ok d h' =>
        simp only [Mp.mirH, Mp.Res.st, Mp.mirS]
        cases q2 : Mp.unlock lk h' <;> rfl
    · simp only [if_neg hl]
      cases r with
      | stk => rfl
      | err c fs' h' => rfl
      | ok d h' =>
        simp only [Mp.mirH, Mp.Res.st, Mp.mirS]
        cases q2 : Mp.unlock lk h' <;> rfl
end
end MpS
end
section
set_option Elab.async false
set_option linter.all false
set_option maxRecDepth 100000
set_option maxHeartbeats 4000000
namespace MpS
open PySem L2
section
variable {C : Cf} {X : Cx} {W : WX} {pos : Pos} {cf : Nat → List Mp.D → Mp.Heap → Mp.Res Mp.D}
abbrev DcE (kx vx tg iter : Expr) (ifs : List Expr) (scope : Scope) (pos : Pos) : Expr := .DictComp kx vx [⟨tg, iter, ifs, 0⟩] scope pos
/-- name = {..}, stored from within -/
theorem ps_setDc {i : Nat} {y : Str} {py spos : Pos} {kx vx tg iter : Expr} {ifs : List Expr} {scope : Scope} {own : List (Str × Nat)} {wi : TI} {g : TG} {tt : TT} {tk tv : TE} (hc : X.calm = true) (hN : X.N.Nodup) (hy : X.N[i]? = some y) (hyl : X.env.scope.names.lookup y = some .local)
    (hsw : swapsWith (DcE kx vx tg iter ifs scope pos) (some (.Name y py)) spos.line X.env = pure true) (hi : PI X tg iter wi) (ok : BlkOk X.N X.env.scope scope own)
    (hg : ∀ (s : Shared) (H : Hp) (Z : Addr) (cl : List (Str × Addr)) (fp : List Addr), PG (X.blk s H scope (compEnvC scope cl Z X.env) fp) tg g)
    (ht : ∀ (s : Shared) (H : Hp) (Z : Addr) (cl : List (Str × Addr)) (fp : List Addr), PTs (X.blk s H scope (compEnvC scope cl Z X.env) fp) ifs tt)
    (hk : ∀ (s : Shared) (H : Hp) (Z : Addr) (cl : List (Str × Addr)) (fp : List Addr), PE (X.blk s H scope (compEnvC scope cl Z X.env) fp) kx tk)
    (he : ∀ (s : Shared) (H : Hp) (Z : Addr) (cl : List (Str × Addr)) (fp : List Addr), PE (X.blk s H scope (compEnvC scope cl Z X.env) fp) vx tv) (hs : ∀ x, foldedSetIterable iter X.env x = pure x) :
    PS X (.Assign [.Name y py] (DcE kx vx tg iter ifs scope pos) spos) (tAsg (tDc wi g tt tk tv (own.map (·.2))) (gName i)) := by
  constructor
  intro pins s σ H D I w
  rw [exec_Assign_Name_used _ _ _ _ hsw]
  apply wpAny_bind
  apply wpAny_standAt
  apply wpAny_bind
  have w' : tDc wi g tt tk tv (own.map (·.2)) σ H (fun x H1 => D.nx (σ.set i (some x)) H1) := w
  have core := dc_core (pos := pos) (pos' := firstIterPos [⟨tg, iter, ifs, 0⟩] pos) (use := some (assign (.Name y py) X.env)) (Qf := fun _ s' => SP X pins D .next s') hc hN I hi ok hg ht hk he hs w' (fun L Z s1 m H1 I1 q hn f => by
    show wpAny _ _ (assign (.Name y py) X.env (.ref L)) _ _ _
    apply wpAny_assign_Name
    refine store_ok2 (v := V.ref L) I1 hN hy (.inl hyl) rfl ?_ (.inr hyl)
    rintro s2 I2 ⟨b, sb, hb⟩
    obtain ⟨f0, f1, f2, f3, f4, f5⟩ := f
    have ne : Z ≠ b := by
      rcases hb with z | z
      · rw [z]; exact f1
      · intro e; exact f4 y b z e.symm
    refine ⟨m, hn.sameBut sb ne, ?_⟩
    intro h3 sb3
    have I3 := I2.turned (h' := h3) (t' := s2.toks) (fun c o hc e => (sb3.2 c hc).trans e) f0 f1 f3 f4 f5
    exact ⟨_, H1, I3, q⟩)
  exact wpAny_bind (thn core fun _ s2 hq => wpAny_pure (wpAny_pure hq))
theorem ss_setDc {i : Nat} {y : Str} {py spos : Pos} {kx elt tg iter : Expr} {ifs : List Expr} {scope : Scope} {own : List (Str × Nat)} {x z : Mp.Ex} {t : Mp.Tg} {it : Mp.It} {fs : Mp.Exs} {vs : List Nat} {W2 : WX} (hc : X.calm = true) (hN : X.N.Nodup) (hy : X.N[i]? = some y) (hyl : X.env.scope.names.lookup y = some .local)
    (hsw : swapsWith (DcE kx elt tg iter ifs scope pos) (some (.Name y py)) spos.line X.env = pure true) (hi : PI X tg iter (tI C W (mI C cf it))) (ok : BlkOk X.N X.env.scope scope own) (hv : ∀ i ∈ vs, i ∈ own.map (·.2))
    (hg : ∀ (s : Shared) (H : Hp) (Z : Addr) (cl : List (Str × Addr)) (fp : List Addr), PG (X.blk s H scope (compEnvC scope cl Z X.env) fp) tg (tG C (mT C cf t) vs)) (ht : ∀ (s : Shared) (H : Hp) (Z : Addr) (cl : List (Str × Addr)) (fp : List Addr), PTs (X.blk s H scope (compEnvC scope cl Z X.env) fp) ifs (tTs C W2 (mBs C cf fs)))
    (hk : ∀ (s : Shared) (H : Hp) (Z : Addr) (cl : List (Str × Addr)) (fp : List Addr), PE (X.blk s H scope (compEnvC scope cl Z X.env) fp) kx (tE C W2 (mE C cf x)))
    (he : ∀ (s : Shared) (H : Hp) (Z : Addr) (cl : List (Str × Addr)) (fp : List Addr), PE (X.blk s H scope (compEnvC scope cl Z X.env) fp) elt (tE C W2 (mE C cf z))) (hs : ∀ x, foldedSetIterable iter X.env x = pure x) :
    PS X (.Assign [.Name y py] (DcE kx elt tg iter ifs scope pos) spos) (tS C W (mS C cf (.asg (.nm i) (.dcomp x z (own.map (·.2)) t it fs)))) := by
  refine ss_lock (cf := cf) (it := it) (m0 := fun env h => (dcompM C cf x z (own.map (·.2)) t it fs env h).st env fun d h => match Mp.evT C.pg cf (.nm i) d env h with
    | .ok env h => .nx env h
    | _ => .stk) (PS.imp' (ps_setDc hc hN hy hyl hsw hi ok hg ht hk he hs) fun D σ H ⟨ρ, env, h, es, S, w⟩ => ?_) fun env h => ?_
  · refine dc_wish hv ⟨ρ, env, h, es, S, (w.st es (R := RD C)).imp fun v H1 ⟨d, ρ1, h1, l1, k1, es1, S1, r1, w1⟩ => ?_⟩
    simp only [Mp.evT] at w1
    split at w1
    · rename_i q2
      split at q2
      · cases q2
        exact w1 ρ1 _ H1 (Le.refl _) (Kp.refl _) (es1.set r1) S1
      · cases q2
    · exact w1.elim
  · have hE : Mp.evE C.pg cf (.dcomp x z (own.map (·.2)) t it fs) env h = Mp.mirH (Mp.evL C.pg cf it env h) (dcompM C cf x z (own.map (·.2)) t it fs env (Mp.lockH (Mp.evL C.pg cf it env h) h)) := by simp only [Mp.evE] <;> rfl
    simp only [mS, Mp.evS]
    rw [hE]
    simp only [Mp.evT]
    generalize dcompM C cf x z (own.map (·.2)) t it fs env (Mp.lockH (Mp.evL C.pg cf it env h) h) = r
    generalize Mp.evL C.pg cf it env h = lk
    by_cases hl : i < env.length
    · simp only [if_pos hl]
      cases r with
      | stk => rfl
      | err c fs' h' => rfl
      | ok d h' =>
        simp only [Mp.mirH, Mp.Res.st, Mp.mirS]
        cases q2 : Mp.unlock lk h' <;> rfl
    · simp only [if_neg hl]
      cases r with
      | stk => rfl
      | err c fs' h' => rfl
      | ok d h' =>
        simp only [Mp.mirH, Mp.Res.st, Mp.mirS]
        cases q2 : Mp.unlock lk h' <;> rfl
/-! ### del d[k] -/
theorem delIndex_ok {d e : Mp.D} {h h' : Mp.Heap} {ρ : List Addr} {H : Hp} {x y : V} (S : Sim C ρ h H) (rx : RelD C.K ρ H d x) (ry : RelD C.K ρ H e y) (q : Mp.delIndex d e h = .ok () h') :
    ∃ a kvs k, x = .ref a ∧ H a = some (.dK kvs) ∧ y = kV k ∧ (valV kvs k).isSome = true ∧ Kp H (upd H a (.dK (dropK kvs k))) ∧ Sim C ρ h' (upd H a (.dK (dropK kvs k))) := by
  unfold Mp.delIndex at q
  split at q
  · rename_i i
    split at q
    · rename_i kvs ho
      split at q
      · rename_i w hk hg
        cases q
        obtain ⟨a, rfl, ea⟩ := relRef rx
        obtain ⟨o, h1, r⟩ := S.ob i a _ ea ho
        obtain ⟨kk, ek⟩ := keyOf_of hk
        rcases r with ⟨ks, rfl, r⟩ | ⟨ks, _, r⟩
        · obtain ⟨u, eu, _⟩ := (dget_val ek r).1 _ hg
          have kp : Kp H (upd H a (.dK (dropK ks kk))) := Kp.upd fun u e => by rw [h1] at e; cases e; rfl
          refine ⟨a, ks, kk, rfl, h1, keyOf_V ry ek, by rw [eu]; rfl, kp, S.put ea (fun ds e => by rw [ho] at e; cases e; rfl) kp (fun b hb => upd_ne hb) ⟨_, upd_same, .inl ⟨_, rfl, (ddel_rel ek r).mono (Le.refl _) kp⟩⟩⟩
        · exact r.elim
      · cases q
    · cases q
  · cases q
theorem ss_del {o i : Expr} {x y : Mp.Ex} {tpos : Pos} (ho : PE X o (tE C W (mE C cf x))) (hi : PE X i (tE C W (mE C cf y))) : PS X (.Delete [.Subscript o i tpos] pos) (tS C W (mS C cf (.del x y))) := PS.imp' (ps_ddel ho hi) fun D σ H ⟨ρ, env, h, es, S, w⟩ => by
  simp only [mS, Mp.evS] at w
  refine ⟨ρ, env, h, es, S, (w.st es (R := RD C)).imp fun v H1 ⟨d, ρ1, h1, l1, k1, es1, S1, r1, w1⟩ => ?_⟩
  refine ⟨ρ1, env, h1, es1, S1, (w1.st es1 (R := RD C)).imp fun u H2 ⟨e, ρ2, h2, l2, k2, es2, S2, r2, w2⟩ => ?_⟩
  cases q : Mp.delIndex d e h2 with
  | stk => rw [q] at w2; exact w2.elim
  | err c fs h' =>
    unfold Mp.delIndex at q
    repeat' split at q
    all_goals cases q
  | ok z h3 =>
    rw [q] at w2
    obtain ⟨a, ks, kk, e1, e2, e3, e4, kp, S3⟩ := delIndex_ok S2 (RelD.mono l2 k2 _ _ r1) r2 q
    exact ⟨a, ks, kk, e1, e2, e3, e4, w2 ρ2 σ _ (Le.refl _) kp (es2.mono (Le.refl _) kp) S3⟩
/-! ### name = [.. for .. for ..] -/
theorem ss_setLc2 {i : Nat} {y : Str} {py spos : Pos} {elt tg iter tg1 iter1 : Expr} {ifs ifs1 : List Expr} {scope : Scope} {own : List (Str × Nat)} {x : Mp.Ex} {t t' : Mp.Tg} {it it' : Mp.It} {fs fs' : Mp.Exs} {vs vs' own2 : List Nat} {W2 : WX} (hc : X.calm = true) (hN : X.N.Nodup) (hy : X.N[i]? = some y) (hyl : X.env.scope.names.lookup y = some .local)
    (hsw : swapsWith (.ListComp elt [⟨tg, iter, ifs, 0⟩, ⟨tg1, iter1, ifs1, 0⟩] scope pos) (some (.Name y py)) spos.line X.env = pure true) (hi : PI X tg iter (tI C W (mI C cf it))) (ok : BlkOk X.N X.env.scope scope own) (hv : ∀ i ∈ vs, i ∈ own.map (·.2)) (hv' : ∀ i ∈ vs', i ∈ own2) (ho : ∀ i ∈ own2, i ∈ own.map (·.2))
    (hg : ∀ (s : Shared) (H : Hp) (Z : Addr) (cl : List (Str × Addr)) (fp : List Addr), PG (X.blk s H scope (compEnvC scope cl Z X.env) fp) tg (tG C (mT C cf t) vs)) (ht : ∀ (s : Shared) (H : Hp) (Z : Addr) (cl : List (Str × Addr)) (fp : List Addr), PTs (X.blk s H scope (compEnvC scope cl Z X.env) fp) ifs (tTs C W2 (mBs C cf fs)))
    (hi1 : ∀ (s : Shared) (H : Hp) (Z : Addr) (cl : List (Str × Addr)) (fp : List Addr), PI (X.blk s H scope (compEnvC scope cl Z X.env) fp) tg1 iter1 (tI C W2 (mI C cf it')))
    (hg1 : ∀ (s : Shared) (H : Hp) (Z : Addr) (cl : List (Str × Addr)) (fp : List Addr), PG (X.blk s H scope (compEnvC scope cl Z X.env) fp) tg1 (tG C (mT C cf t') vs')) (ht1 : ∀ (s : Shared) (H : Hp) (Z : Addr) (cl : List (Str × Addr)) (fp : List Addr), PTs (X.blk s H scope (compEnvC scope cl Z X.env) fp) ifs1 (tTs C W2 (mBs C cf fs')))
    (he : ∀ (s : Shared) (H : Hp) (Z : Addr) (cl : List (Str × Addr)) (fp : List Addr), PE (X.blk s H scope (compEnvC scope cl Z X.env) fp) elt (tE C W2 (mE C cf x))) (hs : ∀ x, foldedSetIterable iter X.env x = pure x) (hs1 : ∀ env x, foldedSetIterable iter1 env x = pure x) :
    PS X (.Assign [.Name y py] (.ListComp elt [⟨tg, iter, ifs, 0⟩, ⟨tg1, iter1, ifs1, 0⟩] scope pos) spos) (tS C W (mS C cf (.asg (.nm i) (.comp2 x (own.map (·.2)) own2 t it fs t' it' fs')))) := by
  refine ss_lock (cf := cf) (it := it) (m0 := fun env h => (comp2M C cf x (own.map (·.2)) own2 t it fs t' it' fs' env h).st env fun d h => match Mp.evT C.pg cf (.nm i) d env h with
    | .ok env h => .nx env h
    | _ => .stk) (PS.imp' (ps_setLc2 hc hN hy hyl hsw hi ok ho hg ht hi1 hg1 ht1 he hs hs1) fun D σ H ⟨ρ, env, h, es, S, w⟩ => ?_) fun env h => ?_
  · refine lc2_wish hv hv' ⟨ρ, env, h, es, S, (w.st es (R := RD C)).imp fun v H1 ⟨d, ρ1, h1, l1, k1, es1, S1, r1, w1⟩ => ?_⟩
    simp only [Mp.evT] at w1
    split at w1
    · rename_i q2
      split at q2
      · cases q2
        exact w1 ρ1 _ H1 (Le.refl _) (Kp.refl _) (es1.set r1) S1
      · cases q2
    · exact w1.elim
  · have hE : Mp.evE C.pg cf (.comp2 x (own.map (·.2)) own2 t it fs t' it' fs') env h = Mp.mirH (Mp.evL C.pg cf it env h) (comp2M C cf x (own.map (·.2)) own2 t it fs t' it' fs' env (Mp.lockH (Mp.evL C.pg cf it env h) h)) := by simp only [Mp.evE] <;> rfl
    simp only [mS, Mp.evS]
    rw [hE]
    simp only [Mp.evT]
    generalize comp2M C cf x (own.map (·.2)) own2 t it fs t' it' fs' env (Mp.lockH (Mp.evL C.pg cf it env h) h) = r
    generalize Mp.evL C.pg cf it env h = lk
    by_cases hl : i < env.length
    · simp only [if_pos hl]
      cases r with
      | stk => rfl
      | err c fs' h' => rfl
      | ok d h' =>
        simp only [Mp.mirH, Mp.Res.st, Mp.mirS]
        cases q2 : Mp.unlock lk h' <;> rfl
    · simp only [if_neg hl]
      cases r with
      | stk => rfl
      | err c fs' h' => rfl
      | ok d h' =>
        simp only [Mp.mirH, Mp.Res.st, Mp.mirS]
        cases q2 : Mp.unlock lk h' <;> rfl
end
end MpS
end
section
set_option Elab.async false
set_option linter.all false
set_option maxRecDepth 100000
set_option maxHeartbeats 4000000
namespace MpS
open PySem L2
section
variable {C : Cf} {X : Cx} {W : WX} {pos : Pos} {cf : Nat → List Mp.D → Mp.Heap → Mp.Res Mp.D}
/-- a field is read -/
theorem getAttr_at (T : Tab C) {ρ : List Addr} {h h' : Mp.Heap} {H : Hp} (S : Sim C ρ h H) {d z : Mp.D} {f : Nat} {x : V} (r : RelD C.K ρ H d x) (q : Mp.getAttr C.pg d f h = .ok z h') :
    h' = h ∧ ∃ i a c fs dx vs v, d = .ref i ∧ x = .ref a ∧ ρ[i]? = some a ∧ h[i]? = some (.ins c fs) ∧ H a = some (.ins (C.ca c) dx vs) ∧ Cls C.K (C.ca c) ∧ NoAttr C.K (C.ca c) (C.nm f) ∧ vs.lookup (C.nm f) = some v ∧ RelD C.K ρ H z v := by
  unfold Mp.getAttr at q
  split at q
  · rename_i i
    obtain ⟨a, rfl, ea⟩ := relRef r
    split at q
    · rename_i c fs ho
      split at q
      · rename_i hf
        cases e : Mp.fget fs f with
        | none => rw [e] at q; cases q
        | some w =>
          rw [e] at q
          cases q
          obtain ⟨dx, vs, ha, rf, _⟩ := S.ob i a _ ea ho
          obtain ⟨c1, c2⟩ := T.at hf
          obtain ⟨v, ev, rv⟩ := (fget_ok T.inj rf).1 _ e
          exact ⟨rfl, i, a, c, fs, dx, vs, v, rfl, rfl, ea, ho, ha, c1, c2, ev, rv⟩
      · cases q
    · rename_i c fs ho
      obtain ⟨_, rfl, _⟩ := S.ob i a _ ea ho
      simp [Mp.fget, Mp.opt] at q
    · cases q
  · cases q
theorem getAttr_noerr {pg : Mp.Pg} {d : Mp.D} {f : Nat} {h h' : Mp.Heap} {c : Nat} {fs : List (Nat × Mp.D)} : Mp.getAttr pg d f h ≠ .err c fs h' := by
  unfold Mp.getAttr Mp.opt
  repeat' split
  all_goals (intro q; cases q)
theorem ss_augAttr (T : Tab C) (hK : X.K = C.K) {o e : Expr} {x y : Mp.Ex} {f : Nat} {op : Mp.BOp} {tpos : Pos} (ho : PE X o (tE C W (mE C cf x))) (he : PE X e (tE C W (mE C cf y))) :
    PS X (.AugAssign (.Attribute o (C.nm f) tpos) (opOf op) e pos) (tS C W (mS C cf (.augAttr x f op y))) := by
  have hop : InOp X (opOf op) (rAug C op) := fun pins s σ H a b u v Q I r1 r2 q => so_aug pins s σ H a b u v Q I r1 r2 q
  refine PS.imp' (ps_fldaug ho he hop) fun D σ H ⟨ρ, env, h, es, S, w⟩ => ?_
  simp only [mS, Mp.evS] at w
  refine ⟨ρ, env, h, es, S, (w.st es (R := RD C)).imp fun v H1 ⟨d, ρ1, h1, l1, k1, es1, S1, r1, w1⟩ => ?_⟩
  cases q : Mp.getAttr C.pg d f h1 with
  | stk => rw [q] at w1; exact w1.elim
  | err c fs h' => exact absurd q getAttr_noerr
  | ok z h' =>
    rw [q] at w1
    obtain ⟨rfl, i, a, c, fs, dx, vs, u, rfl, rfl, ea, hi, ha, c1, c2, lk, ru⟩ := getAttr_at T S1 r1 q
    refine ⟨a, C.ca c, dx, vs, u, rfl, ha, by rw [hK]; exact c1, by rw [hK]; exact c2, lk, ?_⟩
    have w1 : SG C W D ρ1 H1 ((Mp.evE C.pg cf y env h').st env fun y h => (Mp.augop op z y h).st env fun z h => if Mp.clsOf h (.ref i) = Mp.clsOf h' (.ref i) then (Mp.setAttr C.pg (.ref i) f z h).st env fun _ h => .nx env h else .stk) := w1
    refine ⟨ρ1, env, h', es1, S1, (w1.st es1 (R := RD C)).imp fun b H2 ⟨e2, ρ2, h2, l2, k2, es2, S2, r2, w2⟩ => ?_⟩
    refine rAug.ok S2 (RelD.mono l2 k2 _ _ ru) r2 ((w2.st es2 (R := RD C)).imp fun n H3 ⟨e3, ρ3, h3, l3, k3, es3, S3, r3, w3⟩ => ?_)
    have ea3 := l3 _ _ (l2 _ _ ea)
    split at w3
    · rename_i hc
      have hc' : Mp.clsOf h' (.ref i) = some c := by simp only [Mp.clsOf, hi]
      rw [hc'] at hc
      unfold Mp.clsOf at hc
      dsimp only at hc
      split at hc
      · rename_i c' fs' hi'
        cases hc
        obtain ⟨dx', vs', ha', rf, kk⟩ := S3.ob i a _ ea3 hi'
        unfold Mp.setAttr at w3
        simp only [hi'] at w3
        split at w3
        · rename_i hcc
          rw [Bool.and_eq_true, decide_eq_true_eq] at hcc
          have kp : Kp H3 (upd H3 a (.ins (C.ca c) dx' (putF (C.nm f) n vs'))) := Kp.upd fun u e => by rw [ha'] at e; cases e; rfl
          refine ⟨dx', vs', ha', by rw [← rf.1]; omega, ?_⟩
          exact w3 ρ3 σ _ (Le.refl _) kp (es3.mono (Le.refl _) kp) (S3.put ea3 (fun ds e => by rw [hi'] at e; cases e; rfl) kp (fun b hb => upd_ne hb) ⟨dx', _, upd_same, (fput_ok T.inj r3 rf).mono (Le.refl _) kp, kk⟩)
        · exact w3.elim
      · cases hc
    · exact w3.elim
end
end MpS
end
section
set_option Elab.async false
set_option linter.all false
set_option maxRecDepth 100000
set_option maxHeartbeats 4000000
namespace MpS
open PySem L2
/-! ### how a call's arguments are bound -/
/-- plain parameters only -/
structure PlainPs (fd : FuncData) (names : List Str) : Prop where
  po : fd.params.posonlyargs = []
  ko : fd.params.kwonlyargs = []
  va : fd.params.vararg = none
  ka : fd.params.kwarg = none
  nm : fd.params.args.map (·.arg) = names
  nd : names.Nodup
theorem lookup_snoc {α : Type} {l : List (Str × α)} {n : Str} {k : Str} {v : α} : (l ++ [(k, v)]).lookup n = (l.lookup n).or (if n = k then some v else none) := by
  rw [List.lookup_append]
  congr 1
  by_cases h : n = k
  · subst h; simp [List.lookup]
  · have hb : (n == k) = false := beq_false_of_ne h
    rw [if_neg h]; simp [List.lookup, hb]
/-- the defaults that are needed are put behind -/
theorem wpAny_dfl {M : Model} {A : Around} {E : Value → Shared → Prop} {s : Shared} : ∀ (ds : List (Str × Value)) (sl : List (Str × Value)) {Q : List (Str × Value) → Shared → Prop},
    (∀ sl', (∀ n, sl'.lookup n = (sl.lookup n).or (ds.lookup n)) → Q sl' s) → wpAny M A (forIn ds sl fun x r => do
      if (r.lookup x.1).isNone = true then pure (ForInStep.yield (r ++ [(x.1, x.2)])) else pure (ForInStep.yield r)) Q E s
  | [], sl, Q, h => by
    rw [List.forIn_nil]
    exact wpAny_pure (h sl fun n => by simp [List.lookup])
  | (k, v) :: ds, sl, Q, h => by
    rw [List.forIn_cons]
    by_cases hk : (sl.lookup k).isNone = true
    · simp only [hk, if_true]
      refine wpAny_bind (wpAny_pure ?_)
      refine wpAny_dfl ds _ fun sl' e => h sl' fun n => ?_
      rw [e, lookup_snoc]
      by_cases hn : n = k
      · subst hn
        have e0 : sl.lookup n = none := by simpa using hk
        rw [e0]
        simp [List.lookup]
      · have hb : (n == k) = false := beq_false_of_ne hn
        rw [if_neg hn]
        simp [List.lookup, hb]
    · simp only [hk, if_false]
      refine wpAny_bind (wpAny_pure ?_)
      refine wpAny_dfl ds _ fun sl' e => h sl' fun n => ?_
      rw [e]
      by_cases hn : n = k
      · subst hn
        cases e0 : sl.lookup n with
        | none => rw [e0] at hk; exact absurd rfl hk
        | some w => rfl
      · have hb : (n == k) = false := beq_false_of_ne hn
        simp [List.lookup, hb]
/-- the keywords are put behind -/
theorem wpAny_kw {M : Model} {A : Around} {E : Value → Shared → Prop} {s : Shared} {names : List Str} {f : Str × Value → List (Str × Value) × List (Str × Value) → Sem (ForInStep (List (Str × Value) × List (Str × Value)))}
    (hf : ∀ x sl, names.contains x.1 = true → sl.lookup x.1 = none → f x (sl, []) = pure (ForInStep.yield (sl ++ [(x.1, x.2)], []))) : ∀ (kw : List (Str × Value)) (sl : List (Str × Value)) {Q : List (Str × Value) × List (Str × Value) → Shared → Prop},
    (∀ p ∈ kw, p.1 ∈ names) → (kw.map (·.1)).Nodup → (∀ p ∈ kw, sl.lookup p.1 = none) → Q (sl ++ kw, []) s → wpAny M A (forIn kw (sl, []) f) Q E s
  | [], sl, Q, _, _, _, q => by
    rw [List.forIn_nil]
    exact wpAny_pure (by simpa using q)
  | (k, v) :: kw, sl, Q, h1, h2, h3, q => by
    rw [List.forIn_cons, hf (k, v) sl (by simpa using h1 (k, v) (by simp)) (h3 (k, v) (by simp))]
    refine wpAny_bind (wpAny_pure ?_)
    rw [List.map_cons, List.nodup_cons] at h2
    refine wpAny_kw hf kw _ (fun p hp => h1 p (by simp [hp])) h2.2 (fun p hp => ?_) (by simpa using q)
    rw [lookup_snoc, h3 p (by simp [hp]), if_neg fun z => h2.1 (by rw [← z]; exact List.mem_map_of_mem (f := (·.1)) hp)]
    rfl
/-- what is bound -/
def bound (names : List Str) (us : List Value) (kw : List (Str × Value)) (D : List Value) (n : Str) : Option Value := (((names.zip us).lookup n).or (kw.lookup n)).or (((names.drop (names.length - D.length)).zip D).lookup n)
theorem bind_gen {M : Model} {A : Around} {E : Value → Shared → Prop} {s : Shared} {fd : FuncData} {names : List Str} (P : PlainPs fd names) {us : List Value} {kw : List (Str × Value)} {o : Option (Array Value)} {Q : List (Str × Value) → Shared → Prop}
    (hd : ∀ (Q : Option (Array Value) → Shared → Prop), Q o s → wpAny M A (seqItems? fd.defaults) Q E s) (le : us.length ≤ names.length) (hD : (o.getD #[]).toList.length ≤ names.length) (h1 : ∀ p ∈ kw, p.1 ∈ names) (h2 : (kw.map (·.1)).Nodup) (h3 : ∀ p ∈ kw, (names.zip us).lookup p.1 = none)
    (hm : ∀ n ∈ names.take (names.length - (o.getD #[]).toList.length), ((names.zip us).lookup n).or (kw.lookup n) ≠ none)
    (hQ : Q (names.filterMap fun n => (bound names us kw (o.getD #[]).toList n).map (n, ·)) s) : wpAny M A (bindArgs fd ⟨us, kw⟩) Q E s := by
  unfold bindArgs
  simp only [P.po, P.ko, P.va, P.ka, P.nm, List.map_nil, List.nil_append, List.append_nil]
  refine wpAny_bind (wpAny_kw (names := names) (fun x sl a b => ?_) kw _ h1 h2 h3 ?_)
  · simp only [a, Bool.true_or, if_true, b, Option.isSome_none, Bool.false_eq_true, if_false]
  refine wpAny_bind (hd _ ?_)
  rw [if_neg (by simp; omega)]
  simp only [Nat.sub_eq_zero_of_le hD, List.drop_zero]
  rw [if_neg (by
    simp only [Bool.not_eq_true', Bool.not_eq_false, List.isEmpty_iff, List.filter_eq_nil_iff]
    intro n hn z
    have := hm n hn
    rw [List.lookup_append] at z
    rw [Option.isNone_iff_eq_none] at z
    exact this z)]
  refine wpAny_bind (wpAny_dfl _ _ fun sl' e => ?_)
  rw [List.forIn_nil]
  refine wpAny_bind (wpAny_pure ?_)
  simp only [List.isEmpty_nil, Bool.not_true, Bool.false_eq_true, if_false]
  refine wpAny_pure ?_
  have ee : (fun n => Option.map (fun x => (n, x)) (sl'.lookup n)) = fun n => (bound names us kw (o.getD #[]).toList n).map (n, ·) := by
    funext n
    rw [e, List.lookup_append]
    rfl
  rw [ee]
  exact hQ
/-! ### by places -/
/-- the place of a parameter's value among the written arguments and the defaults -/
def selAt (names ks : List Str) (np nd : Nat) (j : Nat) (n : Str) : Option Nat :=
  if j < np then some j else match ks.idxOf? n with
    | some t => some (np + t)
    | none => if names.length - nd ≤ j then some (np + ks.length + (j - (names.length - nd))) else none
def selOf (names ks : List Str) (np nd : Nat) : Nat → List Str → Option (List Nat)
  | _, [] => some []
  | j, n :: ns => match selAt names ks np nd j n, selOf names ks np nd (j + 1) ns with
    | some k, some r => some (k :: r)
    | _, _ => none
/-- what a call's form must be -/
def selOk (names ks : List Str) (np nd : Nat) : Bool := decide (np ≤ names.length) && decide (nd ≤ names.length) && decide names.Nodup && decide ks.Nodup && ks.all (fun k => decide (k ∈ names.drop np))
theorem lookup_zip_at {α : Type} : ∀ {names : List Str} {us : List α} {j : Nat} {n : Str} {v : α}, names.Nodup → names[j]? = some n → us[j]? = some v → (names.zip us).lookup n = some v
  | [], _, j, n, v, _, h, _ => by simp at h
  | _ :: _, [], j, n, v, _, _, h => by simp at h
  | m :: ms, u :: us, 0, n, v, _, h1, h2 => by
    simp at h1 h2
    subst h1 h2
    simp [List.lookup]
  | m :: ms, u :: us, j + 1, n, v, nd, h1, h2 => by
    rw [List.nodup_cons] at nd
    have hn : n ≠ m := fun z => nd.1 (by rw [← z]; exact List.mem_of_getElem? (by simpa using h1))
    have hb : (n == m) = false := beq_false_of_ne hn
    simp only [List.zip_cons_cons, List.lookup, hb]
    exact lookup_zip_at nd.2 (by simpa using h1) (by simpa using h2)
theorem lookup_zip_none {α : Type} {names : List Str} {us : List α} {n : Str} (h : n ∉ names.take us.length) : (names.zip us).lookup n = none := by
  induction names generalizing us with
  | nil => rfl
  | cons m ms ih =>
    cases us with
    | nil => rfl
    | cons u us =>
      simp only [List.length_cons, List.take_succ_cons, List.mem_cons, not_or] at h
      have hb : (n == m) = false := beq_false_of_ne h.1
      simp only [List.zip_cons_cons, List.lookup, hb]
      exact ih h.2
theorem nodup_at : ∀ {names : List Str} (nd : names.Nodup) {i j : Nat} {n : Str} (h1 : names[i]? = some n) (h2 : names[j]? = some n), i = j
  | [], _, i, j, n, h, _ => by simp at h
  | m :: ms, nd, 0, 0, n, _, _ => rfl
  | m :: ms, nd, 0, j + 1, n, h1, h2 => by
    rw [List.nodup_cons] at nd
    simp at h1 h2
    subst h1
    exact absurd (List.mem_of_getElem? h2) nd.1
  | m :: ms, nd, i + 1, 0, n, h1, h2 => by
    rw [List.nodup_cons] at nd
    simp at h1 h2
    subst h2
    exact absurd (List.mem_of_getElem? h1) nd.1
  | m :: ms, nd, i + 1, j + 1, n, h1, h2 => by
    rw [List.nodup_cons] at nd
    have q : i = j := nodup_at (n := n) nd.2 (by simpa using h1) (by simpa using h2)
    omega
theorem idxOf_at {ks : List Str} {n : Str} {t : Nat} (h : ks.idxOf? n = some t) : ks[t]? = some n := by
  unfold List.idxOf? at h
  rw [List.findIdx?_eq_some_iff_getElem] at h
  obtain ⟨hl, h1, _⟩ := h
  rw [List.getElem?_eq_getElem hl]
  simpa using h1
theorem idxOf_none {ks : List Str} {n : Str} (h : ks.idxOf? n = none) : n ∉ ks := by
  unfold List.idxOf? at h
  rw [List.findIdx?_eq_none_iff] at h
  intro hm
  have := h n hm
  simp at this
/-- the value at a parameter's place is what is bound -/
theorem sel_bound {names ks : List Str} {np nd : Nat} (ok : selOk names ks np nd = true) {us ws D : List Value} (l1 : us.length = np) (l2 : ws.length = ks.length) (l3 : D.length = nd) {j : Nat} {n : Str} (hj : names[j]? = some n) {k : Nat} (hk : selAt names ks np nd j n = some k) :
    ∃ v, (if k < (us ++ ws).length then (us ++ ws)[k]? else D[k - (us ++ ws).length]?) = some v ∧ bound names us (ks.zip ws) D n = some v ∧ (j < names.length - nd → ((names.zip us).lookup n).or ((ks.zip ws).lookup n) ≠ none) := by
  unfold selOk at ok
  simp only [Bool.and_eq_true, decide_eq_true_eq, List.all_eq_true] at ok
  obtain ⟨⟨⟨⟨o1, o2⟩, o3⟩, o4⟩, o5⟩ := ok
  have hjl : j < names.length := (List.getElem?_eq_some_iff.mp hj).1
  unfold selAt at hk
  split at hk
  · rename_i hjn
    cases hk
    have hju : j < us.length := by omega
    refine ⟨us[j], ?_, ?_, fun _ => ?_⟩
    · rw [if_pos (by rw [List.length_append]; omega), List.getElem?_append_left hju, List.getElem?_eq_getElem hju]
    · unfold bound
      rw [lookup_zip_at o3 hj (List.getElem?_eq_getElem hju)]
      rfl
    · rw [lookup_zip_at o3 hj (List.getElem?_eq_getElem hju)]
      simp
  · rename_i hjn
    have hno : (names.zip us).lookup n = none := lookup_zip_none fun hm => by
      obtain ⟨i, hi⟩ := List.mem_iff_getElem?.mp hm
      rw [List.getElem?_take] at hi
      split at hi
      · have := nodup_at o3 hj hi
        omega
      · cases hi
    split at hk
    · rename_i t ht
      cases hk
      have htk := idxOf_at ht
      have htl : t < ws.length := by rw [l2]; exact (List.getElem?_eq_some_iff.mp htk).1
      refine ⟨ws[t], ?_, ?_, fun _ => ?_⟩
      · rw [if_pos (by rw [List.length_append]; omega), List.getElem?_append_right (by omega), show np + t - us.length = t by omega, List.getElem?_eq_getElem htl]
      · unfold bound
        rw [hno, lookup_zip_at o4 htk (List.getElem?_eq_getElem htl)]
        rfl
      · rw [hno, lookup_zip_at o4 htk (List.getElem?_eq_getElem htl)]
        simp
    · rename_i ht
      split at hk
      · rename_i hd
        cases hk
        have hdl : j - (names.length - nd) < D.length := by omega
        refine ⟨D[j - (names.length - nd)], ?_, ?_, fun z => by omega⟩
        · rw [if_neg (by rw [List.length_append]; omega), List.length_append, show np + ks.length + (j - (names.length - nd)) - (us.length + ws.length) = j - (names.length - nd) by omega, List.getElem?_eq_getElem hdl]
        · unfold bound
          have h2 : (ks.zip ws).lookup n = none := lookup_zip_none fun hm => idxOf_none ht (List.mem_of_mem_take hm)
          rw [hno, h2, l3]
          refine lookup_zip_at (j := j - (names.length - nd)) (o3.sublist (List.drop_sublist _ _)) ?_ (List.getElem?_eq_getElem hdl)
          rw [List.getElem?_drop, show names.length - nd + (j - (names.length - nd)) = j by omega]
          exact hj
      · cases hk
theorem selOf_ok {names ks : List Str} {np nd : Nat} {g : Str → Option Value} {us : List Value} {D : List Value} {P : Str → Prop} : ∀ {ns : List Str} {j : Nat} {sel : List Nat}, selOf names ks np nd j ns = some sel →
    (∀ i n k, ns[i]? = some n → selAt names ks np nd (j + i) n = some k → ∃ v, (if k < us.length then us[k]? else D[k - us.length]?) = some v ∧ g n = some v) →
    ∃ vals, Mp.picked us sel D = some vals ∧ vals.length = ns.length ∧ ns.filterMap (fun n => (g n).map (n, ·)) = ns.zip vals
  | [], j, sel, h, _ => by
    unfold selOf at h
    cases h
    exact ⟨[], rfl, rfl, rfl⟩
  | n :: ns, j, sel, h, H => by
    unfold selOf at h
    split at h
    · rename_i k r hk hr
      cases h
      obtain ⟨v, e1, e2⟩ := H 0 n k rfl hk
      obtain ⟨vals, e3, e4, e5⟩ := selOf_ok (P := P) hr fun i m k' h1 h2 => H (i + 1) m k' (by simpa using h1) (by rw [show j + (i + 1) = j + 1 + i by omega]; exact h2)
      refine ⟨v :: vals, ?_, by simp [e4], ?_⟩
      · simp only [Mp.picked, e1, e3]
      · simp only [List.filterMap_cons, e2, Option.map_some, e5, List.zip_cons_cons]
    · cases h
theorem selOf_at {names ks : List Str} {np nd : Nat} : ∀ {ns : List Str} {j : Nat} {sel : List Nat}, selOf names ks np nd j ns = some sel → ∀ i n, ns[i]? = some n → ∃ k, selAt names ks np nd (j + i) n = some k
  | [], j, sel, h, i, n, hi => by simp at hi
  | m :: ns, j, sel, h, i, n, hi => by
    unfold selOf at h
    split at h
    · rename_i k r hk hr
      cases i with
      | zero => simp at hi; subst hi; exact ⟨k, hk⟩
      | succ i =>
        obtain ⟨k', h'⟩ := selOf_at hr i n (by simpa using hi)
        exact ⟨k', by rw [show j + (i + 1) = j + 1 + i by omega]; exact h'⟩
    · cases h
/-- how a call binds -/
theorem binds_sel {K : PySem.W.Frag} {fd : FuncData} {names ks : List Str} {np nd : Nat} (P : PlainPs fd names) {dvs : List V} (hD : DflV K fd.defaults dvs) (hn : dvs.length = nd) (ok : selOk names ks np nd = true) {sel : List Nat} (hs : selOf names ks np nd 0 names = some sel) :
    ∃ D : List Value, Vals dvs D ∧ ∀ (s : Shared) (us ws : List Value), K.In s.heap → us.length = np → ws.length = ks.length → ∃ vals, Mp.picked (us ++ ws) sel D = some vals ∧ vals.length = names.length ∧ BindsTo s fd ⟨us, ks.zip ws⟩ (names.zip vals) := by
  have go : ∀ (o : Option (Array Value)) (D : List Value), (o.getD #[]).toList = D → D.length = nd → ∀ (s : Shared) (us ws : List Value), (∀ (M : Model) (A : Around) (E : Value → Shared → Prop) (Q : Option (Array Value) → Shared → Prop), Q o s → wpAny M A (seqItems? fd.defaults) Q E s) → us.length = np → ws.length = ks.length → ∃ vals, Mp.picked (us ++ ws) sel D = some vals ∧ vals.length = names.length ∧ BindsTo s fd ⟨us, ks.zip ws⟩ (names.zip vals) := by
    intro o D eD l3 s us ws hd l1 l2
    have ok' := ok
    unfold selOk at ok'
    simp only [Bool.and_eq_true, decide_eq_true_eq, List.all_eq_true] at ok'
    obtain ⟨⟨⟨⟨o1, o2⟩, o3⟩, o4⟩, o5⟩ := ok'
    obtain ⟨vals, e1, e2, e3⟩ := selOf_ok (P := fun _ => True) (g := bound names us (ks.zip ws) D) (us := us ++ ws) (D := D) hs fun i n k h1 h2 => by
      rw [Nat.zero_add] at h2
      obtain ⟨v, a, b, _⟩ := sel_bound ok l1 l2 l3 h1 h2
      exact ⟨v, a, b⟩
    refine ⟨vals, e1, e2, fun M A E Q q => ?_⟩
    have hkey : (ks.zip ws).map (·.1) = ks := List.map_fst_zip (by omega)
    have hin : ∀ p ∈ ks.zip ws, p.1 ∈ names.drop np := fun p hp => by
      have : p.1 ∈ ks := by rw [← hkey]; exact List.mem_map_of_mem (f := (·.1)) hp
      simpa using o5 p.1 this
    refine bind_gen P (o := o) (fun Q q => hd M A E Q q) (by omega) (by rw [eD]; omega) (fun p hp => List.mem_of_mem_drop (hin p hp)) (by rw [hkey]; exact o4) (fun p hp => ?_) (fun n hn => ?_) (by rw [eD, e3]; exact q)
    · refine lookup_zip_none fun hm => ?_
      rw [l1] at hm
      obtain ⟨i, hi⟩ := List.mem_iff_getElem?.mp hm
      obtain ⟨j, hj⟩ := List.mem_iff_getElem?.mp (hin p hp)
      rw [List.getElem?_take] at hi
      rw [List.getElem?_drop] at hj
      split at hi
      · have := nodup_at o3 hi hj
        omega
      · cases hi
    · obtain ⟨j, hj⟩ := List.mem_iff_getElem?.mp hn
      rw [List.getElem?_take] at hj
      split at hj
      · rename_i hlt
        rw [eD, l3] at hlt
        obtain ⟨k, hk⟩ := selOf_at hs j n hj
        rw [Nat.zero_add] at hk
        obtain ⟨v, _, _, h⟩ := sel_bound ok l1 l2 l3 hj hk
        exact h hlt
      · cases hj
  rcases hD with ⟨rfl, e⟩ | ⟨hne, T, ob, its, m, e, lT, oT, rT⟩
  · refine ⟨[], .nil, fun s us ws X l1 l2 => go none [] rfl hn s us ws (fun M A E Q q => ?_) l1 l2⟩
    rw [e]
    exact wpAny_pure q
  · refine ⟨its, rT, fun s us ws X l1 l2 => go (some its.toArray) its (by simp) (by rw [← rT.length]; exact hn) s us ws (fun M A E Q q => ?_) l1 l2⟩
    rw [e]
    exact wpAny_seqItems (X _ _ lT) oT q
end MpS
end
section
set_option Elab.async false
set_option linter.all false
set_option maxRecDepth 100000
set_option maxHeartbeats 4000000
namespace MpS
open PySem L2
/-! ### calls -/
abbrev WK (E : XK) : WX := fun c d _ H => E c d H
/-- a function's promise: it does what the interpreter does -/
def spF (C : Cf) (cf : Nat → List Mp.D → Mp.Heap → Mp.Res Mp.D) (f : Nat) : Sp := fun vs H Q E => ∃ ρ h ds, Sim C ρ h H ∧ RelDs C.K ρ H ds vs ∧ ds.length = (C.ps f).length ∧ EvG C (WK E) [] (RD C) (cf f ds h) ρ H Q
/-- what is known of a function -/
structure FnD (C : Cf) (f : Nat) (fn : Mp.Fn) (fd : FuncData) (dvs : List V) : Prop where
  pl : PlainPs fd (C.ps f)
  dfl : DflV C.K fd.defaults dvs
  dd : ∀ ρ H, RelDs C.K ρ H fn.dfl dvs
  kp : PySem.W.keepIn C.K (.ref (C.fa f)) = true
  lk : ∃ oc od osl, C.K.lookup (C.fa f) = some ⟨oc, od, .func fd, osl⟩
/-- all functions keep their promises -/
def FnAll (C : Cf) (k : Nat) (cf : Nat → List Mp.D → Mp.Heap → Mp.Res Mp.D) : Prop := ∀ f fn, C.pg.fns[f]? = some fn → ∃ fd dvs, FnD C f fn fd dvs ∧ FnOk C.P C.w C.K C.mg C.base (L2.CX C.P C.w) k (C.fa f) fd (C.ps f) (spF C cf f)
/-- a context of the program -/
structure XOk (C : Cf) (X : Cx) : Prop where
  P : X.prog = C.P
  w : X.w = C.w
  K : X.K = C.K
  mg : X.mg = C.mg
  base : X.base = C.base
  calm : X.calm = true
  nd : X.N.Nodup
theorem vals_get {vs : List V} {us : List Value} (r : Vals vs us) {k : Nat} {u : Value} (h : us[k]? = some u) : ∃ v, vs[k]? = some v ∧ RelV v u := by
  induction r generalizing k with
  | nil => simp at h
  | cons a b ih =>
    cases k with
    | zero => simp at h; subst h; exact ⟨_, rfl, a⟩
    | succ k => obtain ⟨v, e1, e2⟩ := ih (by simpa using h); exact ⟨v, by simpa using e1, e2⟩
theorem picked_vals {vs dvs : List V} {us D : List Value} (r : Vals vs us) (rd : Vals dvs D) : ∀ {sel : List Nat} {vals : List Value}, Mp.picked us sel D = some vals → ∃ vv, Mp.picked vs sel dvs = some vv ∧ Vals vv vals
  | [], vals, h => by simp only [Mp.picked] at h; cases h; exact ⟨[], rfl, .nil⟩
  | k :: sel, vals, h => by
    simp only [Mp.picked] at h
    split at h
    · rename_i d ds e1 e2
      cases h
      obtain ⟨vv, e3, e4⟩ := picked_vals r rd e2
      have hl := r.length
      by_cases hk : k < us.length
      · rw [if_pos hk] at e1
        obtain ⟨v, ev, rv⟩ := vals_get r e1
        exact ⟨v :: vv, by simp only [Mp.picked, if_pos (show k < vs.length by omega), ev, e3], .cons rv e4⟩
      · rw [if_neg hk] at e1
        obtain ⟨v, ev, rv⟩ := vals_get rd e1
        exact ⟨v :: vv, by
          have hk' : ¬ k < vs.length := by omega
          simp only [Mp.picked, if_neg hk']
          rw [hl, ev, e3], .cons rv e4⟩
    · cases h
theorem picked_rel {K : PySem.W.Frag} {ρ : List Addr} {H : Hp} {xs dfl : List Mp.D} {vs dvs : List V} (r : RelDs K ρ H xs vs) (rd : RelDs K ρ H dfl dvs) : ∀ {sel : List Nat} {ds : List Mp.D} {vv : List V}, Mp.picked xs sel dfl = some ds → Mp.picked vs sel dvs = some vv → RelDs K ρ H ds vv
  | [], ds, vv, h, h' => by simp only [Mp.picked] at h h'; cases h; cases h'; exact .nil
  | k :: sel, ds, vv, h, h' => by
    simp only [Mp.picked] at h h'
    split at h
    · rename_i d ds' e1 e2
      cases h
      split at h'
      · rename_i v vv' e3 e4
        cases h'
        refine .cons ?_ (picked_rel r rd e2 e4)
        have hl := r.length
        by_cases hk : k < xs.length
        · rw [if_pos hk] at e1
          rw [if_pos (by omega)] at e3
          obtain ⟨u, eu, ru⟩ := r.get e1
          rw [eu] at e3
          cases e3
          exact ru
        · rw [if_neg hk] at e1
          rw [if_neg (by omega), hl] at e3
          obtain ⟨u, eu, ru⟩ := rd.get e1
          rw [eu] at e3
          cases e3
          exact ru
      · cases h'
    · cases h
theorem picked_len {α : Type} {xs dfl : List α} : ∀ {sel : List Nat} {ds : List α}, Mp.picked xs sel dfl = some ds → ds.length = sel.length
  | [], ds, h => by simp only [Mp.picked] at h; cases h; rfl
  | k :: sel, ds, h => by
    simp only [Mp.picked] at h
    split at h
    · rename_i e1 e2
      cases h
      rw [List.length_cons, List.length_cons, picked_len e2]
    · cases h
theorem selOf_len {names ks : List Str} {np nd : Nat} : ∀ {ns : List Str} {j : Nat} {sel : List Nat}, selOf names ks np nd j ns = some sel → sel.length = ns.length
  | [], j, sel, h => by unfold selOf at h; cases h; rfl
  | n :: ns, j, sel, h => by
    unfold selOf at h
    split at h
    · rename_i hk hr
      cases h
      rw [List.length_cons, List.length_cons, selOf_len hr]
    · cases h
section
variable {C : Cf} {X : Cx} {E : XK} {pos : Pos} {cf : Nat → List Mp.D → Mp.Heap → Mp.Res Mp.D} {k f np : Nat} {fn : Mp.Fn} {fd : FuncData} {dvs : List V} {ks : List Str} {sel : List Nat}
theorem EvG.wk {α β : Type} {R : Rel α β} {σ σ' : St} {r : Mp.Res α} {ρ : List Addr} {H : Hp} {Q : β → Hp → Prop} (h : EvG C (WK E) σ R r ρ H Q) : EvG C (WK E) σ' R r ρ H Q := by
  cases r <;> exact h
/-- what a call's form says of its selection -/
structure SelOk (C : Cf) (f : Nat) (fn : Mp.Fn) (ks : List Str) (np : Nat) (sel : List Nat) : Prop where
  ok : selOk (C.ps f) ks np fn.dfl.length = true
  sel : selOf (C.ps f) ks np fn.dfl.length 0 (C.ps f) = some sel
/-- the callee runs -/
theorem run_sel (xo : XOk C X) (D : FnD C f fn fd dvs) (F : FnOk C.P C.w C.K C.mg C.base (L2.CX C.P C.w) k (C.fa f) fd (C.ps f) (spF C cf f)) (hr : Room k X.A) (so : SelOk C f fn ks np sel) (hx : Passes (L2.CX C.P C.w) X E)
    {pins : List (Addr × Obj)} {σ : St} {H : Hp} {s : Shared} {Q : VK} {us ws : List Value} {vs zs : List V} (I : L2.Inv X pins σ H s) (r : Vals vs us) (rz : Vals zs ws) (l1 : us.length = np) (l2 : ws.length = ks.length)
    (h : ∀ vv, Mp.picked (vs ++ zs) sel dvs = some vv → spF C cf f vv H Q E) : wpAny (model X.prog X.w) X.A (call (.ref (C.fa f)) us (ks.zip ws)) (EP X pins σ Q) X.xe s := by
  have dl : dvs.length = fn.dfl.length := (D.dd [] (fun _ => none)).length
  obtain ⟨Dv, rD, bind⟩ := binds_sel D.pl D.dfl dl so.ok so.sel
  obtain ⟨vals, e1, e2, e3⟩ := bind s us ws (by rw [← xo.K]; exact I.kIn) l1 l2
  obtain ⟨vv, e4, r4⟩ := picked_vals (r.append rz) rD e1
  have F' : FnOk X.prog X.w X.K X.mg X.base (L2.CX C.P C.w) k (C.fa f) fd (C.ps f) (spF C cf f) := by rw [xo.P, xo.w, xo.K, xo.mg, xo.base]; exact F
  refine wpAny_call (codeAny_mono (F'.run X.A X.stack s H ⟨us, ks.zip ws⟩ vals vv Q E hr I.env0 e3 r4 (h vv e4)) fun r s' hq => ?_)
  cases r with
  | error e => exact hx pins σ H s e s' I hq
  | ok fl =>
    cases fl with
    | ret u => exact I.after hq
    | next => exact False.elim hq
    | brk => exact False.elim hq
    | cont => exact False.elim hq
/-! ### the arguments of a call -/
/-- positional ones, then keywords -/
structure PAK (X : Cx) (es : List Expr) (kws : List Keyword) (ks : List Str) (t : TA) : Prop where
  run : ∀ (pos : Pos) (fv : Value) (first : List Value) (pins : List (Addr × Obj)) (s : Shared) (σ : St) (H : Hp) (Q : Value → Shared → Prop), L2.Inv X pins σ H s → PySem.W.keepIn X.K fv = true →
    t σ H (fun xs H1 => ∀ s1 us ws vs zs, xs = vs ++ zs → L2.Inv X pins σ H1 s1 → Vals vs us → Vals zs ws → us.length = es.length → ws.length = ks.length → wpAny (model X.prog X.w) X.A (call fv (first ++ us) (ks.zip ws)) Q X.xe s1) →
    wpAny (model X.prog X.w) X.A (callWith pos fv first (backTo pos (starEach es X.env)) (backToKw pos (keywordEach kws X.env))) Q X.xe s
/-- keywords, all with names -/
def kwNames : List Keyword → Option (List Str)
  | [] => some []
  | ⟨some n, _, _⟩ :: r => (kwNames r).map (n :: ·)
  | ⟨none, _, _⟩ :: _ => none
theorem kw_all : ∀ {kws : List Keyword} {ks : List Str}, kwNames kws = some ks → (backToKw pos (keywordEach kws X.env)).all (·.1.isSome) = true ∧ (backToKw pos (keywordEach kws X.env)).filterMap (·.1) = ks ∧ (backToKw pos (keywordEach kws X.env)).any (·.1.isNone) = false
  | [], ks, h => by simp only [kwNames] at h; cases h; exact ⟨rfl, rfl, rfl⟩
  | ⟨some n, v, p⟩ :: r, ks, h => by
    simp only [kwNames] at h
    cases q : kwNames r with
    | none => rw [q] at h; cases h
    | some rs =>
      rw [q] at h
      cases h
      obtain ⟨h1, h2, h3⟩ := kw_all q
      simp only [keywordEach, backToKw, List.map_cons] at h1 h2 h3 ⊢
      refine ⟨?_, ?_, ?_⟩
      · simpa using h1
      · simpa using h2
      · simpa using h3
  | ⟨none, v, p⟩ :: r, ks, h => by simp only [kwNames] at h; cases h
theorem plain_all {es : List Expr} (ns : ∀ e ∈ es, NoStar e) : (backTo pos (starEach es X.env)).any (·.1) = false := back_plain ns _ _
theorem PK.imp' {kws : List Keyword} {t t' : TA} (h : PK X kws t) (k : ∀ σ H Q, t' σ H Q → t σ H Q) : PK X kws t' := ⟨fun pos pins s σ H Q I q => h.run pos pins s σ H Q I (k σ H Q q)⟩
def exLen : Mp.Exs → Nat
  | .nil => 0
  | .cons _ es => exLen es + 1
theorem evEs_len : ∀ {xs : Mp.Exs} {env : Mp.Env} {h h' : Mp.Heap} {ds : List Mp.D}, Mp.evEs C.pg cf xs env h = .ok ds h' → ds.length = exLen xs
  | .nil, env, h, h', ds, e => by simp only [Mp.evEs] at e; cases e; rfl
  | .cons x xs, env, h, h', ds, e => by
    simp only [Mp.evEs] at e
    cases q : Mp.evE C.pg cf x env h with
    | stk => rw [q] at e; cases e
    | err c fs h' => rw [q] at e; cases e
    | ok d h1 =>
      rw [q] at e
      simp only [Mp.Res.bind] at e
      cases q2 : Mp.evEs C.pg cf xs env h1 with
      | stk => rw [q2] at e; cases e
      | err c fs h' => rw [q2] at e; cases e
      | ok ds' h2 =>
        rw [q2] at e
        cases e
        rw [List.length_cons, evEs_len q2]
        rfl
theorem tA.len {W : WX} {xs : Mp.Exs} {σ : St} {H : Hp} {Q : List V → Hp → Prop} (w : tA C W (mEs C cf xs) σ H Q) : tA C W (mEs C cf xs) σ H fun vs H1 => vs.length = exLen xs ∧ Q vs H1 := by
  obtain ⟨ρ, env, h, es, S, ev⟩ := w
  refine ⟨ρ, env, h, es, S, ?_⟩
  simp only [mEs] at ev ⊢
  cases q : Mp.evEs C.pg cf xs env h with
  | stk => rw [q] at ev; exact ev
  | err c fs h' => rw [q] at ev; exact ev
  | ok ds h1 =>
    rw [q] at ev
    exact fun ρ' H' v l k S r => ⟨by rw [r.length]; exact evEs_len q, ev ρ' H' v l k S r⟩
theorem tA.nil' {W : WX} {σ : St} {H : Hp} {Q : List V → Hp → Prop} (w : tA C W (mEs C cf .nil) σ H Q) : Q [] H := by
  obtain ⟨ρ, env, h, es, S, ev⟩ := w
  simp only [mEs, Mp.evEs] at ev
  exact ev.ok S RelDs.nil
theorem kw_len : ∀ {kws : List Keyword} {ks : List Str}, kwNames kws = some ks → ks.length = kws.length
  | [], ks, h => by simp only [kwNames] at h; cases h; rfl
  | ⟨some n, v, p⟩ :: r, ks, h => by
    simp only [kwNames] at h
    cases q : kwNames r with
    | none => rw [q] at h; cases h
    | some rs => rw [q] at h; cases h; rw [List.length_cons, List.length_cons, kw_len q]
  | ⟨none, v, p⟩ :: r, ks, h => by simp only [kwNames] at h; cases h
/-- the wish behind the arguments -/
def tArgs (C : Cf) (W : WX) (cf : Nat → List Mp.D → Mp.Heap → Mp.Res Mp.D) (xs ys : Mp.Exs) : TA := fun σ H Q => tA C W (mEs C cf xs) σ H fun vs H1 => tA C W (mEs C cf ys) σ H1 fun zs H2 => Q (vs ++ zs) H2
theorem pak_of {W : WX} (xo : XOk C X) {es : List Expr} {kws : List Keyword} {xs ys : Mp.Exs} (ns : ∀ e ∈ es, NoStar e) (hk : kwNames kws = some ks) (ha : PA X es (tA C W (mEs C cf xs))) (hb : PK X kws (tA C W (mEs C cf ys))) (h0 : exLen xs = es.length) (h1 : exLen ys = kws.length) :
    PAK X es kws ks (tArgs C W cf xs ys) := by
  refine ⟨fun pos fv first pins s σ H Q I kp w => ?_⟩
  obtain ⟨k1, k2, k3⟩ := kw_all (X := X) (pos := pos) hk
  have kl := kw_len hk
  cases es with
  | nil =>
    have hn : xs = .nil := by cases xs with
      | nil => rfl
      | cons x xs => simp [exLen] at h0
    subst hn
    have w' := (tA.nil' w).len
    cases kws with
    | nil =>
      have hn : ys = .nil := by cases ys with
        | nil => rfl
        | cons x xs => simp [exLen] at h1
      subst hn
      have hks : ks = [] := by simpa using kl
      subst hks
      have q := (tA.nil' w').2
      exact PySem.W.callWith_K0 I.kIn kp (q s [] [] [] [] rfl I .nil .nil rfl rfl)
    | cons kw kws =>
      refine PySem.W.callWith_KW0 (h₀ := X.base) I.ok.mod.kin kp k1 ?_ (by rw [k3]; rfl)
      refine thn (hb.run pos pins s σ H _ I w') fun ws s2 ⟨zs, H2, I2, rz, l2, q2⟩ => ⟨I2.kIn, ?_⟩
      rw [k2]
      exact q2 s2 [] ws [] zs rfl I2 .nil rz rfl (by rw [← rz.length, l2, h1, kl])
  | cons e es =>
    have he : starEach (e :: es) X.env = (false, eval e X.env) :: starEach es X.env := ns e (by simp) es _
    have hp : (backTo pos (starEach es X.env)).any (·.1) = false := plain_all fun y hy => ns y (by simp [hy])
    have hp2 : (backTo pos (starEach (e :: es) X.env)).any (·.1) = false := plain_all ns
    cases kws with
    | nil =>
      have hn : ys = .nil := by cases ys with
        | nil => rfl
        | cons x xs => simp [exLen] at h1
      subst hn
      have hks : ks = [] := by simpa using kl
      subst hks
      refine PySem.W.callWith_K (h₀ := X.base) I.ok.mod.kin kp (thn (ha.run pos pins s σ H _ I w.len) fun us s1 ⟨vs, H1, I1, r, l1, q⟩ => ⟨I1.kIn, ?_⟩) he hp
      have q' := tA.nil' q
      exact q' s1 us [] vs [] rfl I1 r .nil (by rw [← r.length, l1, h0]) rfl
    | cons kw kws =>
      refine PySem.W.callWith_KW (h₀ := X.base) I.ok.mod.kin kp k1 (thn (ha.run pos pins s σ H _ I w.len) fun us s1 ⟨vs, H1, I1, r, l1, q⟩ => ?_) (by rw [hp2, k3]; rfl) he
      refine thn (hb.run pos pins s1 σ H1 _ I1 q.len) fun ws s2 ⟨zs, H2, I2, rz, l2, q2⟩ => ⟨I2.kIn, ?_⟩
      rw [k2]
      exact q2 s2 us ws vs zs rfl I2 r rz (by rw [← r.length, l1, h0]) (by rw [← rz.length, l2, h1, kl])
theorem PK_nil {W : WX} : PK X [] (tA C W (mEs C cf .nil)) := PK.imp' pk_nil fun σ H Q w => tA.nil' w
theorem PK_cons {W : WX} {nm : Option Str} {e : Expr} {kpos : Pos} {kws : List Keyword} {x : Mp.Ex} {xs : Mp.Exs} (h1 : PE X e (tE C W (mE C cf x))) (h2 : PK X kws (tA C W (mEs C cf xs))) : PK X (⟨nm, e, kpos⟩ :: kws) (tA C W (mEs C cf (.cons x xs))) :=
  PK.imp' (pk_cons h1 h2) fun σ H Q h => tA.cons (by
    obtain ⟨ρ, env, h, es, S, ev⟩ := h
    refine ⟨ρ, env, h, es, S, ?_⟩
    simpa only [mEs, Mp.evEs] using ev)
theorem evEs_app : ∀ {a b : Mp.Exs} {env : Mp.Env} {h : Mp.Heap}, Mp.evEs C.pg cf (a.app b) env h = (Mp.evEs C.pg cf a env h).bind fun xs h => (Mp.evEs C.pg cf b env h).bind fun ys h => .ok (xs ++ ys) h
  | .nil, b, env, h => by
    simp only [Mp.Exs.app, Mp.evEs, Mp.Res.bind, List.nil_append]
    cases Mp.evEs C.pg cf b env h <;> rfl
  | .cons x a, b, env, h => by
    simp only [Mp.Exs.app, Mp.evEs]
    cases Mp.evE C.pg cf x env h with
    | stk => rfl
    | err c fs h' => rfl
    | ok d h1 =>
      simp only [Mp.Res.bind]
      rw [evEs_app]
      cases Mp.evEs C.pg cf a env h1 with
      | stk => rfl
      | err c fs h' => rfl
      | ok ds h2 =>
        simp only [Mp.Res.bind]
        cases Mp.evEs C.pg cf b env h2 <;> rfl
/-- what is done with the arguments -/
theorem args_wish {W : WX} {xs ys : Mp.Exs} {f : List Mp.D → Mp.Heap → Mp.Res Mp.D} {σ : St} {H : Hp} {Q : VK} (w : tE C W (fun env h => (mEs C cf (xs.app ys) env h).bind f) σ H Q) {r : List V → Hp → Prop} (k : ∀ ds vs ρ h H, Sim C ρ h H → RelDs C.K ρ H ds vs → EvG C W σ (RD C) (f ds h) ρ H Q → r vs H) : tArgs C W cf xs ys σ H r := by
  obtain ⟨ρ, env, h, es, S, ev⟩ := w
  simp only [mEs, evEs_app, bind_assoc] at ev
  refine ⟨ρ, env, h, es, S, (ev.bind (R := RDs C)).imp fun vs H1 ⟨ds, ρ1, h1, l1, k1, S1, r1, ev1⟩ => ?_⟩
  refine ⟨ρ1, env, h1, es.mono l1 k1, S1, (ev1.bind (R := RDs C)).imp fun zs H2 ⟨es', ρ2, h2, l2, k2, S2, r2, ev2⟩ => ?_⟩
  exact k (ds ++ es') (vs ++ zs) ρ2 h2 H2 S2 ((RelDs.mono l2 k2 _ _ r1).append r2) ev2
theorem args_wish' {W : WX} {xs ys : Mp.Exs} {f : List Mp.D → Mp.Heap → Mp.Res Mp.D} {σ : St} {H : Hp} {Q : VK} {ρ : List Addr} {env : Mp.Env} {h : Mp.Heap} (es : ES C.K ρ H env σ) (S : Sim C ρ h H) (ev : EvG C W σ (RD C) ((Mp.evEs C.pg cf (xs.app ys) env h).bind f) ρ H Q) {r : List V → Hp → Prop}
    (k : ∀ ds vs ρ' h' H', Le ρ ρ' → Kp H H' → Sim C ρ' h' H' → RelDs C.K ρ' H' ds vs → EvG C W σ (RD C) (f ds h') ρ' H' Q → r vs H') : tArgs C W cf xs ys σ H r := by
  simp only [mEs, evEs_app, bind_assoc] at ev
  refine ⟨ρ, env, h, es, S, (ev.bind (R := RDs C)).imp fun vs H1 ⟨ds, ρ1, h1, l1, k1, S1, r1, ev1⟩ => ?_⟩
  refine ⟨ρ1, env, h1, es.mono l1 k1, S1, (ev1.bind (R := RDs C)).imp fun zs H2 ⟨es', ρ2, h2, l2, k2, S2, r2, ev2⟩ => ?_⟩
  exact k (ds ++ es') (vs ++ zs) ρ2 h2 H2 (l1.trans l2) (k1.trans k2) S2 ((RelDs.mono l2 k2 _ _ r1).append r2) ev2
/-! ### the calls -/
section
variable {x : Str} {p apos : Pos} {e o : Expr} {es : List Expr} {kws : List Keyword} {xs ys : Mp.Exs} {z : Mp.Ex}
theorem pk_eq (h : PySem.W.keepIn C.K v = true) (xo : XOk C X) : PySem.W.keepIn X.K v = true := by rw [xo.K]; exact h
/-- what the interpreter does at a call -/
def callM (C : Cf) (cf : Nat → List Mp.D → Mp.Heap → Mp.Res Mp.D) (f : Nat) (sel : List Nat) (xs : List Mp.D) (h : Mp.Heap) : Mp.Res Mp.D := match C.pg.fns[f]? with
  | some fn => match Mp.picked xs sel fn.dfl with
    | some ds => cf f ds h
    | none => .stk
  | none => .stk
theorem callM_sp (D : FnD C f fn fd dvs) (hf : C.pg.fns[f]? = some fn) (so : SelOk C f fn ks np sel) {ds : List Mp.D} {vs vv : List V} {ρ : List Addr} {h : Mp.Heap} {H : Hp} {Q : VK} {σ : St} (S : Sim C ρ h H) (r : RelDs C.K ρ H ds vs) (ev : EvG C (WK E) σ (RD C) (callM C cf f sel ds h) ρ H Q) (hp : Mp.picked vs sel dvs = some vv) : spF C cf f vv H Q E := by
  unfold callM at ev
  rw [hf] at ev
  dsimp only at ev
  split at ev
  · rename_i es he
    refine ⟨ρ, h, es, S, picked_rel r (D.dd ρ H) he hp, ?_, ev.wk⟩
    rw [picked_len he, selOf_len so.sel]
  · exact ev.elim
theorem se_call (xo : XOk C X) (FA : FnAll C k cf) (hr : Room k X.A) (hx : Passes (L2.CX C.P C.w) X E) (hf : C.pg.fns[f]? = some fn) (hg : Gl X x) (hm : C.mg x = some (.ref (C.fa f))) (hdb : (x == ("__debug__" : Str)) = false) (so : SelOk C f fn ks np sel) (hl : es.length = np) (pk : PAK X es kws ks (tArgs C (WK E) cf xs ys)) :
    PE X (.Call (.Name x p) es kws pos) (tE C (WK E) (mE C cf (.call f (xs.app ys) sel))) := by
  obtain ⟨fd, dvs, D, F⟩ := FA f fn hf
  refine ⟨fun pins s σ H Q I w => ?_⟩
  refine wpAny_Call_Name_kw (ld_glob I hg (by rw [xo.mg]; exact hm) ?_ hdb)
  refine pk.run pos _ [] pins s σ H _ I (by rw [xo.K]; exact D.kp) ?_
  refine args_wish (f := callM C cf f sel) (w.ev fun env h => by simp only [mE, mEs, Mp.evE, callM]; rfl) fun ds vs ρ h H1 S r ev => ?_
  intro s1 us ws vs' zs e I1 r1 r2 l1 l2
  subst e
  exact run_sel xo D F hr so hx I1 r1 r2 (l1.trans hl) l2 fun vv hv => callM_sp D hf so S r ev hv
/-- o.m(..) -/
theorem se_meth (T : Tab C) (xo : XOk C X) (FA : FnAll C k cf) (hr : Room k X.A) (hx : Passes (L2.CX C.P C.w) X E) {m : Nat} (hm : ∀ (c : Nat) kk g, C.pg.cls[c]? = some kk → kk.ms.lookup m = some g → ∃ fn, C.pg.fns[g]? = some fn ∧ SelOk C g fn ks (np + 1) sel) (hl : es.length = np)
    (ho : PE X o (tE C (WK E) (mE C cf z))) (pk : PAK X es kws ks (tArgs C (WK E) cf xs ys)) {pl : Sem Bool}
    (ht : eval (.Call (.Attribute o (C.nm m) apos) es kws pos) X.env = (do
      let ov ← eval o X.env
      standAt apos.atName
      let (f, first) ← holding [ov] (getMethod ov (C.nm m) pl)
      callWith pos f first (backTo pos (starEach es X.env)) (backToKw pos (keywordEach kws X.env)))) :
    PE X (.Call (.Attribute o (C.nm m) apos) es kws pos) (tE C (WK E) (mE C cf (.meth z m (xs.app ys) sel))) := by
  refine ⟨fun pins s σ H Q I w => ?_⟩
  obtain ⟨ρ, env, h, es0, S, ev⟩ := w
  simp only [mE, Mp.evE] at ev
  refine PySem.W.methodCall_KW (pl := pl) (thn (ho.run pins s σ H _ I ⟨ρ, env, h, es0, S, (ev.bind (R := RD C)).imp fun v H1 q => q⟩) fun u s1 ⟨v, H1, I1, ru, d, ρ1, h1, l1, k1, S1, r1, ev1⟩ => ?_) ht
  cases d with
  | ref i =>
    obtain ⟨a, rfl, ea⟩ := relRef r1
    dsimp only at ev1
    split at ev1
    · rename_i c fs hc
      split at ev1
      · rename_i g hno hmt
        cases hcl : C.pg.cls[c]? with
        | none => rw [hcl] at hmt; cases hmt
        | some kk =>
          rw [hcl] at hmt
          have hmt : kk.ms.lookup m = some g := hmt
          obtain ⟨fn, hf, so⟩ := hm c kk g hcl hmt
          obtain ⟨fd, dvs, D, F⟩ := FA g fn hf
          obtain ⟨dx, vs, ha, rf, kk', hkk, hinit⟩ := S1.ob i a _ ea hc
          rw [hcl] at hkk
          cases hkk
          obtain rfl : u = Value.ref a := ru
          have hM := T.meth c kk m g hcl hmt
          have hC := T.cls c kk hcl hinit
          have hnf : vs.lookup (C.nm m) = none := by
            have h0 : Mp.fget fs m = none := by
              cases q : Mp.fget fs m with
              | none => rfl
              | some z => rw [q] at hno; cases hno
            exact (fget_ok T.inj rf).2 h0
          refine getmeth_ok I1 ha (by rw [xo.K]; exact hC) (by rw [xo.K]; exact hM) hnf ?_
          refine pk.run pos _ [.ref a] pins s1 σ H1 _ I1 (by rw [xo.K]; exact D.kp) ?_
          have es1 := es0.mono l1 k1
          refine args_wish' (f := fun ds h => callM C cf g sel (.ref i :: ds) h) (Q := Q) es1 S1 ?_ fun ds us ρ2 h2 H2 l2 k2 S2 r2 ev2 => ?_
          · exact ev1
          · intro s2 us' ws vs' zs e I2 ra rz la lz
            subst e
            have re : RelDs C.K ρ2 H2 (.ref i :: ds) (.ref a :: (vs' ++ zs)) := .cons (refRel (l2 _ _ ea)) r2
            exact run_sel (us := .ref a :: us') (vs := .ref a :: vs') xo D F hr so hx I2 (.cons rfl ra) rz (by rw [List.length_cons, la, hl]) lz fun vv hv => callM_sp D hf so S2 re ev2 hv
      · exact ev1.elim
    · exact ev1.elim
  | _ => exact ev1.elim
/-- a class called -/
theorem run_mk (xo : XOk C X) {c : Nat} {kk : Mp.Cl} (hc : C.pg.cls[c]? = some kk) (hi : kk.init.isSome = true) (M : Mk C.K (C.ca c) (C.fa f)) (D : FnD C f fn fd dvs) (F : FnOk C.P C.w C.K C.mg C.base (L2.CX C.P C.w) k (C.fa f) fd (C.ps f) (spF C cf f)) (hr : Room (k + 1) X.A) (so : SelOk C f fn ks (np + 1) sel) (hx : Passes (L2.CX C.P C.w) X E) (hf : C.pg.fns[f]? = some fn)
    {pins : List (Addr × Obj)} {σ : St} {H : Hp} {s : Shared} {Q : VK} {us ws : List Value} {vs zs : List V} {ds : List Mp.D} {ρ : List Addr} {h : Mp.Heap} (I : L2.Inv X pins σ H s) (r : Vals vs us) (rz : Vals zs ws) (l1 : us.length = np) (l2 : ws.length = ks.length) (S : Sim C ρ h H) (rd : RelDs C.K ρ H ds (vs ++ zs))
    (ev : EvG C (WK E) σ (RD C) (match callM C cf f sel (.ref h.length :: ds) (h ++ [.ins c []]) with
          | .ok .non h1 => .ok (.ref h.length) h1
          | .ok _ _ => .stk
          | .err c fs h1 => .err c fs h1
          | .stk => .stk) ρ H Q) : wpAny (model X.prog X.w) X.A (call (.ref (C.ca c)) us (ks.zip ws)) (EP X pins σ Q) X.xe s := by
  have dl : dvs.length = fn.dfl.length := (D.dd [] (fun _ => none)).length
  have I2 := L2.Inv.made (C := C.ca c) I
  have nx : H (s.heap.objs.size + 1) = none := I.hok.fresh (Nat.le_succ _)
  have nd : H s.heap.objs.size = none := I.hok.fresh (Nat.le_refl _)
  have ne : s.heap.objs.size + 1 ≠ s.heap.objs.size := Nat.succ_ne_self _
  obtain ⟨Dv, rD, bind⟩ := binds_sel D.pl D.dfl dl so.ok so.sel
  have k0 : Kp H (upd H s.heap.objs.size (.own (s.heap.objs.size + 1))) := Kp.new nd
  have nx1 : upd H s.heap.objs.size (.own (s.heap.objs.size + 1)) (s.heap.objs.size + 1) = none := by rw [upd_ne ne]; exact nx
  have k1 : Kp (upd H s.heap.objs.size (.own (s.heap.objs.size + 1))) (upd (upd H s.heap.objs.size (.own (s.heap.objs.size + 1))) (s.heap.objs.size + 1) (.ins (C.ca c) s.heap.objs.size [])) := Kp.new nx1
  have S1 : Sim C (ρ ++ [s.heap.objs.size + 1]) (h ++ [.ins c []]) (upd (upd H s.heap.objs.size (.own (s.heap.objs.size + 1))) (s.heap.objs.size + 1) (.ins (C.ca c) s.heap.objs.size [])) :=
    (S.other nd _).new nx1 k1 (fun b hb => upd_ne hb) ⟨s.heap.objs.size, [], upd_same, RelF.emp, kk, hc, hi⟩
  have ea : (ρ ++ [s.heap.objs.size + 1])[h.length]? = some (s.heap.objs.size + 1) := S.ref_at
  have rd1 : RelDs C.K (ρ ++ [s.heap.objs.size + 1]) (upd (upd H s.heap.objs.size (.own (s.heap.objs.size + 1))) (s.heap.objs.size + 1) (.ins (C.ca c) s.heap.objs.size [])) (.ref h.length :: ds) (.ref (s.heap.objs.size + 1) :: (vs ++ zs)) :=
    .cons (refRel ea) (RelDs.mono (Le.snoc _ _) (k0.trans k1) _ _ rd)
  obtain ⟨vals, e1, e2, e3⟩ := bind _ (Value.ref (s.heap.objs.size + 1) :: us) ws (by rw [← xo.K]; exact I2.kIn) (by rw [List.length_cons, l1]) l2
  have rr : Vals (V.ref (s.heap.objs.size + 1) :: vs) (Value.ref (s.heap.objs.size + 1) :: us) := .cons rfl r
  obtain ⟨vv, e4, r4⟩ := picked_vals (rr.append rz) rD e1
  have F' : FnOk X.prog X.w X.K X.mg X.base (L2.CX C.P C.w) k (C.fa f) fd (C.ps f) (spF C cf f) := by rw [xo.P, xo.w, xo.K, xo.mg, xo.base]; exact F
  have ev' : EvG C (WK E) σ (RD C) (callM C cf f sel (.ref h.length :: ds) (h ++ [.ins c []])) (ρ ++ [s.heap.objs.size + 1]) (upd (upd H s.heap.objs.size (.own (s.heap.objs.size + 1))) (s.heap.objs.size + 1) (.ins (C.ca c) s.heap.objs.size [])) (fun v H2 => v = .non ∧ Q (.ref (s.heap.objs.size + 1)) H2) := by
    cases q : callM C cf f sel (.ref h.length :: ds) (h ++ [.ins c []]) with
    | stk => rw [q] at ev; exact ev
    | err c fs h1 => rw [q] at ev; exact ev.weak (Le.snoc _ _) (k0.trans k1)
    | ok d h1 =>
      rw [q] at ev
      cases d with
      | non =>
        intro ρ' H' v l k S' r'
        exact ⟨relNon r', ev ρ' H' _ ((Le.snoc _ _).trans l) ((k0.trans k1).trans k) S' (refRel (l _ _ ea))⟩
      | _ => exact ev.elim
  have sp := callM_sp D hf so S1 rd1 ev' e4
  have mk' : PySem.W.makesIn X.K (C.ca c) = true ∧ PySem.W.findIn X.K (.ref (C.ca c)) "__init__" = some (some (.ref (C.fa f))) := by rw [xo.K]; exact ⟨M.makes, M.init⟩
  have fn' : PySem.W.isFn X.K (.ref (C.fa f)) = true := by rw [xo.K]; exact M.fn
  refine wpAny_call (make_map (f := C.fa f) I.kIn mk'.1 mk'.2 (beq_iff_eq.mp fn') (codeAny_mono (F'.run _ X.stack _ _ ⟨Value.ref (s.heap.objs.size + 1) :: us, ks.zip ws⟩ vals vv _ E (hr.make (C.ca c) us (ks.zip ws))
    (I2.env0.make (C.ca c) us (ks.zip ws)) e3 r4 sp) fun r s' hq' => ?_))
  cases r with
  | error e => exact hx pins σ _ _ e s' I2 hq'
  | ok fl =>
    cases fl with
    | ret u =>
      obtain ⟨v, H', I3, rv, ev, q3⟩ := I2.after hq'
      subst ev
      exact ⟨rv, ⟨V.ref (s.heap.objs.size + 1), H', I3, rfl, q3⟩⟩
    | next => exact False.elim hq'
    | brk => exact False.elim hq'
    | cont => exact False.elim hq'
theorem se_mk (xo : XOk C X) (FA : FnAll C k cf) (hr : Room (k + 1) X.A) (hx : Passes (L2.CX C.P C.w) X E) {c : Nat} {kk : Mp.Cl} (hc : C.pg.cls[c]? = some kk) (hi : kk.init = some f) (hf : C.pg.fns[f]? = some fn) (M : Mk C.K (C.ca c) (C.fa f)) (hg : Gl X x) (hm : C.mg x = some (.ref (C.ca c))) (hdb : (x == ("__debug__" : Str)) = false)
    (so : SelOk C f fn ks (np + 1) sel) (hl : es.length = np) (pk : PAK X es kws ks (tArgs C (WK E) cf xs ys)) : PE X (.Call (.Name x p) es kws pos) (tE C (WK E) (mE C cf (.mk c (xs.app ys) sel))) := by
  obtain ⟨fd, dvs, D, F⟩ := FA f fn hf
  refine ⟨fun pins s σ H Q I w => ?_⟩
  refine wpAny_Call_Name_kw (ld_glob I hg (by rw [xo.mg]; exact hm) ?_ hdb)
  refine pk.run pos _ [] pins s σ H _ I (by rw [xo.K]; exact M.kp) ?_
  obtain ⟨ρ, env, h, es0, S, ev⟩ := w
  refine args_wish' (f := fun xs h => match callM C cf f sel (.ref h.length :: xs) (h ++ [.ins c []]) with
          | .ok .non h1 => .ok (.ref h.length) h1
          | .ok _ _ => .stk
          | .err c fs h1 => .err c fs h1
          | .stk => .stk) (Q := Q) es0 S ?_ fun ds vs ρ2 h2 H2 l2 k2 S2 r2 ev2 => ?_
  · simp only [mE, Mp.evE, hc, hi, hf, Option.bind_some] at ev
    have : (fun xs (h : Mp.Heap) => (match callM C cf f sel (.ref h.length :: xs) (h ++ [.ins c []]) with
          | .ok .non h1 => Mp.Res.ok (Mp.D.ref h.length) h1
          | .ok _ _ => .stk
          | .err c fs h1 => .err c fs h1
          | .stk => .stk)) = fun xs h => (match Mp.picked (.ref h.length :: xs) sel fn.dfl with
        | some ds => match cf f ds (h ++ [.ins c []]) with
          | .ok .non h1 => .ok (.ref h.length) h1
          | .ok _ _ => .stk
          | .err c fs h1 => .err c fs h1
          | .stk => .stk
        | none => .stk) := by
      funext xs h
      simp only [callM, hf]
      cases Mp.picked (.ref h.length :: xs) sel fn.dfl <;> rfl
    rw [this]
    exact ev
  · intro s1 us ws vs' zs e I1 r1 r3 la lz
    subst e
    exact run_mk xo hc (by rw [hi]; rfl) M D F hr so hx hf I1 r1 r3 (la.trans hl) lz S2 r2 ev2
end
end
end MpS
end
section
set_option Elab.async false
set_option linter.all false
set_option maxRecDepth 100000
set_option maxHeartbeats 4000000
namespace MpS
open PySem PySem.Spec PyProof.Rows L2
/-! ### an exception kept behind its clause -/
section
variable {X : Cx} {pins : List (Addr × Obj)} {σ : L2.St} {H : Hp} {s : Shared}
/-- an untracked record that is none of ours' things is tracked from now on -/
theorem inv_take {a : Addr} {oe : Obj} {vs : Array Value} {cls : Value} {d : Option Addr} (I : L2.Inv X pins σ H s) (ha : s.heap.get? a = some oe) (hz : Zc cls d oe) (hd : oe.data = .fields vs) (na : H a = none)
    (n0 : X.s_0.heap.get? a = none) (nL : a ≠ X.env.locals) (np : ∀ p ∈ X.pn ++ pins, p.1 ≠ a) : L2.Inv X pins σ (upd H a (ExV cls d a)) s := by
  have ne0 : ∀ b o, X.s_0.heap.get? b = some o → b ≠ a := fun b o e z => by rw [z, n0] at e; cases e
  have new : ObjOk X.prog X.w (upd H a (ExV cls d a)) s.heap a (ExV cls d a) := ⟨⟨oe, vs, ha, hz, hd⟩, ⟨oe, ha⟩, fun h1 h2 ⟨o, v, e1, e2, e3⟩ k => ⟨o, v, k o e1, e2, e3⟩⟩
  exact {
    ok := I.ok
    os := I.os
    bare := I.bare
    base := {
      keep := I.base.keep
      slot := I.base.slot
      free := fun b o e n x => by rw [upd_ne (ne0 b o e)]; exact I.base.free b o e n x
      there := I.base.there
      tups := fun b xs e => by
        have q := I.base.tups b xs e
        rw [upd_ne (ne_of_none q na)]; exact q
      frzs := fun b o u e => by
        have q := I.base.frzs b o u e
        rw [upd_ne (ne_of_none q na)]; exact q
      tbls := fun b ps e => by
        obtain ⟨m, q⟩ := I.base.tbls b ps e
        exact ⟨m, by rw [upd_ne (ne_of_none q na)]; exact q⟩ }
    loc := I.loc
    cell := I.cell
    free := by rw [upd_ne (Ne.symm nL)]; exact I.free
    freeC := fun x c e => by
      have nc : c ≠ a := fun z => by
        obtain ⟨v, o, h1, h2⟩ := I.cell x c e
        rw [z, ha] at h1; cases h1
        rw [hd] at h2; cases h2
      rw [upd_ne nc]; exact I.freeC x c e
    pin := fun p hp => by
      obtain ⟨h1, h2, h3⟩ := I.pin p hp
      exact ⟨h1, by rw [upd_ne (np p hp)]; exact h2, h3⟩
    hok := fun b u e => by
      by_cases hb : b = a
      · subst hb
        rw [upd_same] at e
        cases e
        exact new
      · rw [upd_ne hb] at e
        exact (I.hok b u e).stay (fun c v _ q => q) (fun c q => by rw [upd_ne (ne_of_none q na)]; exact q) fun c xs q => by rw [upd_ne (ne_of_none q na)]; exact q
    len := I.len }
end
/-- what the clause wishes of what the body raises, if it keeps it -/
def wTake (K : PySem.W.Frag) (c : Value) (i N : Nat) (ts : Addr → Value → Option Addr → TS) (Wo : WX) (D : Ends) : WX := fun cls d σ H => ∃ b, PySem.W.exmOne K cls c = some b ∧ (b = false → Wo cls d σ H) ∧
  (b = true → σ.length = N → ∀ a, H a = none → ts a cls d { nx := fun σ' H' => D.nx (σ'.set i none) (upd H' a (ExV cls d a)), rt := fun _ _ => False, bk := fun _ _ => False, ct := fun _ _ => False } (σ.set i (some (.ref a))) H)
section
variable {X : Cx} {x n : Str} {c : Value} {i : Nat} {body suite : List Stmt} {b₀ : Stmt} {np pos pos' : Pos} {tb : WX → TS} {ts : Addr → Value → Option Addr → TS} {Wo : WX}
theorem ps_try_take (stk : X.stack = X.env :: X.outer) (hfr0 : X.env.frame = some X.env.locals) (nex : X.ex = []) (nd : X.N.Nodup) (at_ : X.N[i]? = some n) (lc : X.env.kindOf n = some .local) (nms : Names X x c) (tk : Takes X Wo)
    (hb : ∀ (W : WX) (pn : List (Addr × Obj)) (xe : Value → Shared → Prop), Takes (X.tr pn xe) W → PassesOwn (model X.prog X.w) X.A X.env xe → PSs (X.tr pn xe) body (tb W))
    (hsu : ∀ (a : Addr) (oe : Obj) (cls : Value) (d : Option Addr) (pn : List (Addr × Obj)), Zc cls d oe → (∃ vs, oe.data = .fields vs) → PSs (X.suite a ((a, oe) :: pn)) (b₀ :: suite) (ts a cls d)) :
    PS X (.Try body [.ExceptHandler (some (.Name x np)) (some n) (b₀ :: suite) pos'] [] [] pos) (fun D σ H => tb (wTake X.K c i X.N.length ts Wo D) D σ H) := by
  refine ⟨fun pins s σ H D I h => ?_⟩
  have ok := I.ok
  have fr : X.A.frames = some (X.env :: X.outer) := by rw [ok.frames, stk]
  have lc' : Loc X.env.scope n := .inl lc
  refine wpAny_Try_except ?_
  refine wpAny_mono ((hb (wTake X.K c i X.N.length ts Wo D) (X.pn ++ pins) (fun e t1 => wpAny (model X.prog X.w) X.A (noteFrame e X.env) (fun _ t2 => wpAny (model X.prog X.w) X.A (setFlight e none) (fun _ t3 =>
    wpAny (model X.prog X.w) X.A (handleBy e X.env [.ExceptHandler (some (.Name x np)) (some n) (b₀ :: suite) pos']) (SP X pins D) X.xe t3) X.xe t2) X.xe t1) (fun u t y => ?_) PassesOwn.looking).run [] s σ H D (I.toTry _) h) (fun f t1 y => ?_) (fun e t1 y => y)
  · obtain ⟨a, G, t0, pins1, σ1, H1, cls, d, rfl, J1, inG, upG, sk, na, eos, ebr, b, e1, no, yes⟩ := y
    have J : L2.Inv X pins σ1 H1 t0 := J1.ofTry ok
    have sk1 : Sky G (X.env :: X.outer) a (Zc cls d) X.env.locals t.heap := by rw [← stk]; exact sk
    show wpAny (model X.prog X.w) X.A (noteFrame (.ref a) X.env) _ _ _
    refine Sky.land Zc.steady fr hfr0 sk1 fun k3 fl3 u3 => ?_
    have J3 : L2.Inv X pins σ1 H1 { t with heap := k3 } := J.landed inG fl3.1 (upG.trans u3) eos ebr
    obtain ⟨o3, w3, g3, z3, d3⟩ := fl3.there
    have off : ∀ {h : PySem.Heap} {o : Obj} {vs : Array Value}, h.FunFrames G (X.env :: X.outer) → h.get? a = some o → o.data = .fields vs → a ∉ frs (X.env :: X.outer) := fun {h o vs} ff e dd hm => by
      obtain ⟨_, o', e', hnf⟩ := ff.mem hm
      rw [e] at e'; cases e'; exact hnf _ dd
    have offA := off fl3.2.2.1 g3 d3
    have neL : a ≠ X.env.locals := fun z => offA (List.mem_filterMap.mpr ⟨X.env, List.mem_cons_self, by rw [hfr0, z]⟩)
    have neF : a ∉ X.fs := fun hm => by
      obtain ⟨e, he, q⟩ := List.mem_filterMap.mp hm
      exact offA (List.mem_filterMap.mpr ⟨e, List.mem_cons_of_mem _ he, q⟩)
    have notG : G.get? a = none := fl3.2.1
    have nPin : ∀ p ∈ X.pn ++ pins, p.1 ≠ a := fun p hp z => by
      obtain ⟨q1, q2, q3, q4, _⟩ := J.pin p hp
      have : p.1 ∉ frs X.stack := by
        rw [stk]; rw [z]; exact offA
      have r := inG p.1 p.2 q1 this
      rw [z, notG] at r; cases r
    have n0 : X.s_0.heap.get? a = none := by
      cases e : X.s_0.heap.get? a with
      | none => rfl
      | some o =>
        obtain ⟨o', q⟩ := J.base.there a o e (by rw [nex]; exact fun z => nomatch z)
        have r := inG a o' q (by rw [stk]; exact offA)
        rw [notG] at r; cases r
    have S3 := J3.suite g3 d3 na neL neF
    refine wpAny_handleBy_cons (codeAny_handlers_test ?_) (by intro q; cases q)
    have LT : PySem.W.Looks (model X.prog X.w) k3 (typeOf (.ref a)) cls := fun A Q E s k q => wpAny_typeOf_ref (k _ _ g3) (by rw [z3.1]; exact q)
    have LM := PySem.W.exm_one (M := model X.prog X.w) (J3.kIn) LT e1
    have tst : ∀ {Q : Value → Shared → Prop} {E : Value → Shared → Prop}, Q c { t with heap := k3 } → wpAny (model X.prog X.w) (X.A.mark (some (.ref a))) (eval (.Name x np) X.env) Q E { t with heap := k3 } := fun {Q E} q => by
      obtain ⟨hg, hdb, hm | ⟨hm, hv, hnn⟩⟩ := nms
      · exact ld_glob (X := X.suite a ((a, o3) :: (X.pn ++ pins))) S3 hg hm q hdb
      · exact ld_blt (X := X.suite a ((a, o3) :: (X.pn ++ pins))) S3 hg hm hv q hnn hdb
    refine tst (LM.here ?_)
    cases b with
    | true =>
      refine codeAny_handlers_suite_as (HandSPX.lands_againZ fl3 fun k4 fl4 u4 => ?_)
      have J4 : L2.Inv X pins σ1 H1 { t with heap := k4 } := J.landed inG fl4.1 ((upG.trans u3).trans u4) eos ebr
      obtain ⟨o4, w4, g4, z4, d4⟩ := fl4.there
      have S4 := J4.suite g4 d4 na neL neF
      refine L2.store_ok (X := X.suite a ((a, o4) :: (X.pn ++ pins))) (v := .ref a) S4 nd at_ lc' rfl (fun t5 S5 => ?_) (.inr lc)
      refine wpAny_mono ((hsu a o4 cls d (X.pn ++ pins) z4 ⟨_, d4⟩).run [] t5 _ H1 _ S5 (yes rfl J.len a na)) (fun f t6 y6 => ?_) (fun _ _ z => False.elim z)
      cases f with
      | next =>
        obtain ⟨σ6, H6, S6, q6⟩ := y6
        obtain ⟨g6, n6, _⟩ := S6.pin (a, o4) (List.mem_append_left _ List.mem_cons_self)
        have J6 := inv_take (S6.unsuite ok) g6 z4 d4 n6 n0 neL nPin
        exact gone_ok J6 nd at_ lc fun t7 J7 => ⟨_, _, J7, q6⟩
      | brk => obtain ⟨_, _, _, q6⟩ := y6; exact False.elim q6
      | cont => obtain ⟨_, _, _, q6⟩ := y6; exact False.elim q6
      | ret u => obtain ⟨_, _, _, _, _, q6⟩ := y6; exact False.elim q6
    | false =>
      show wpAny _ X.A (handleBy (.ref a) X.env []) _ _ _
      refine wpAny_handleBy_nil ?_
      obtain ⟨_, _, _, oe, vs, T, oT, ts', he, hz, hd, h1, hr⟩ := id fl3
      unfold PySem.passOn
      refine wpAny_bind (wpAny_field he hd h1 ?_)
      rw [if_neg (show ¬ ((Value.ref T == Value.none) = true) from by simp)]
      have last : wpAny (model X.prog X.w) X.A (setFlight (.ref a) X.env.frame) (fun _ s4 => wpAny (model X.prog X.w) X.A (throw (.ref a) : Sem Flow) (SP X pins D) X.xe s4) X.xe { t with heap := k3 } := by
        rw [hfr0]
        refine HandSPX.setFlight_upZ fl3 fun k4 held4 u4 => wpAny_throw (tk _ _ ?_)
        exact ⟨a, G, t0, pins, σ1, H1, cls, d, rfl, J, inG, (upG.trans u3).trans u4, .inr (.inr (by rw [stk]; exact held4)), na, eos, ebr, no rfl⟩
      first
        | exact wpAny_bind (wpAny_pure (wpAny_bind last))
        | exact wpAny_bind last
  · cases f with
    | next => obtain ⟨σ1, H1, J1, q⟩ := y; exact wpAny_execs_nil ⟨σ1, H1, J1.ofTry ok, q⟩
    | brk => obtain ⟨σ1, H1, J1, q⟩ := y; exact ⟨σ1, H1, J1.ofTry ok, q⟩
    | cont => obtain ⟨σ1, H1, J1, q⟩ := y; exact ⟨σ1, H1, J1.ofTry ok, q⟩
    | ret u => obtain ⟨v, σ1, H1, J1, r, q⟩ := y; exact ⟨v, σ1, H1, J1.ofTry ok, r, q⟩
end
/-! ### the def that gives back what a lambda raises -/
/-- caught: what it makes of the lambda's reading -/
def TCau (K : PySem.W.Frag) (CS : Addr) : (XK → Hp → VK → Prop) → Hp → VK → Prop := fun tl H Q =>
  tl (fun cls d H' => PySem.W.exmOne K cls (.ref CS) = some true ∧ ∀ a, H' a = none → Q (.ref a) (upd H' a (ExV cls d a))) H (fun _ H' => Q .non H')
/-- its names: the argument, what is caught, the clause's -/
structure CauN (Ng : List Str) (sg : Scope) (a c e : Str) : Prop where
  N : Ng = [a, c, e]
  nd : [a, c, e].Nodup
  lc : sg.names.lookup c = some .local
  le : sg.names.lookup e = some .local
  dc : (c == ("__debug__" : Str)) = false ∧ (c == ("__classdict__" : Str)) = false
  de : (e == ("__debug__" : Str)) = false ∧ (e == ("__classdict__" : Str)) = false
def cauBody (a c e x : Str) (k : Nat) (p : List Pos) : List Stmt :=
  let q := fun i => p.getD i ⟨0, 0, 0, 0⟩
  [.Assign [.Name c (q 0)] (.Constant .none k (q 1)) (q 2),
   .Try [.Expr (.Call (.Name a (q 3)) [] [] (q 4)) (q 5)] [.ExceptHandler (some (.Name x (q 6))) (some e) [.Assign [.Name c (q 7)] (.Name e (q 8)) (q 9)] (q 10)] [] [] (q 11),
   .Return (some (.Name c (q 12))) (q 13)]
theorem caught_gives {X : Cx} {Ng : List Str} {x a c e ex q : Str} {sg : Scope} {g CS : Addr} {cdg : Value} {k : Nat} {p : List Pos} (cn : CauN Ng sg a c e) (hge : sg.names.lookup ex = some .globalImplicit) (hme : X.mg ex = some (.ref CS)) (hde : (ex == ("__debug__" : Str)) = false) :
    LamX.GivesTo X Ng x sg g cdg (cauBody a c e ex k p) a q (TCau X.K CS) := by
  obtain ⟨rfl, nd, lc, le, dc, de⟩ := cn
  intro f c' s H Q tl act hc h
  let Y := (cxOf C8.CX0 X.prog X.w X.K X.mg X.base [a, c, e] x sg g cdg X.A X.stack s H C8.E0).nox
  have hgl : Gl Y ex := hge
  have vc : Vis sg c := .inl lc
  have ve : Vis sg e := .inl le
  have try_ := ps_try_take (X := Y) (x := ex) (n := e) (c := .ref CS) (i := 2) (Wo := fun _ _ _ _ => False) (np := p.getD 6 ⟨0, 0, 0, 0⟩) (pos := p.getD 11 ⟨0, 0, 0, 0⟩) (pos' := p.getD 10 ⟨0, 0, 0, 0⟩) (body := [.Expr (.Call (.Name a (p.getD 3 ⟨0, 0, 0, 0⟩)) [] [] (p.getD 4 ⟨0, 0, 0, 0⟩)) (p.getD 5 ⟨0, 0, 0, 0⟩)])
    (tb := fun W D σ H => ∃ Ech : XK, (∀ cls d (σ' : L2.St) H', Ech cls d H' → W cls d σ' H') ∧ σ[0]? = some (some (.ref f)) ∧ H c' = some (LamX.CodeO c' q) ∧ tl Ech H (fun _ H' => D.nx σ H'))
    rfl rfl rfl nd rfl le ⟨hgl, hde, .inl hme⟩ LamX.takes0 (fun W pn xe tk _ => ?_) (fun ad oe cls d pn _ _ => pss_one (ps_set (pos := p.getD 9 ⟨0, 0, 0, 0⟩) (pos' := p.getD 7 ⟨0, 0, 0, 0⟩) (i := 1) nd rfl (.inl lc) (pe_var (i := 2) (pos := p.getD 8 ⟨0, 0, 0, 0⟩) rfl ve de.1 de.2)))
  · refine ⟨_, pss_cons (ps_set (pos := p.getD 2 ⟨0, 0, 0, 0⟩) (pos' := p.getD 0 ⟨0, 0, 0, 0⟩) (i := 1) nd rfl (.inl lc) (pe_non (pos := p.getD 1 ⟨0, 0, 0, 0⟩))) (pss_cons try_ (pss_one (ps_ret (pos := p.getD 13 ⟨0, 0, 0, 0⟩) (pe_var (i := 1) (pos := p.getD 12 ⟨0, 0, 0, 0⟩) rfl vc dc.1 dc.2)))), ?_⟩
    refine ⟨fun cls d H' => PySem.W.exmOne X.K cls (.ref CS) = some true ∧ ∀ a, H' a = none → Q (.ref a) (upd H' a (ExV cls d a)), fun cls d σ' H' ⟨e1, e2⟩ => ⟨true, e1, fun z => (by cases z), fun _ hl ad na => ?_⟩, rfl, hc, ?_⟩
    · have hl : σ'.length = 3 := hl
      refine ⟨.ref ad, ?_, .ref ad, ?_, e2 ad na⟩
      · rw [List.getElem?_set_self (by omega)]
      · rw [List.getElem?_set_ne (by decide), List.getElem?_set_self (by rw [List.length_set]; omega)]
    · exact cast (congrArg (fun K => tl _ H K) (funext fun v => funext fun H' => propext ⟨fun z => ⟨.non, rfl, z⟩, fun ⟨v, e, z⟩ => by cases e; exact z⟩)) h
  · refine ⟨fun pins s' σ' H' D I h' => ?_⟩
    obtain ⟨Ech, hW, h1, h2, h3⟩ := h'
    have hp := act W pn xe Ech (p.getD 3 ⟨0, 0, 0, 0⟩) (p.getD 4 ⟨0, 0, 0, 0⟩) tk hW
    have hq := pss_one (ps_expr (pos := p.getD 5 ⟨0, 0, 0, 0⟩) hp)
    exact hq.run pins s' σ' H' D I ⟨h1, h2, h3⟩
end MpS
end
section
set_option Elab.async false
set_option linter.all false
set_option maxRecDepth 100000
set_option maxHeartbeats 4000000
namespace MpS
open PySem L2
/-! ### written dicts -/
section
variable {C : Cf} {X : Cx} {W : WX} {pos : Pos} {cf : Nat → List Mp.D → Mp.Heap → Mp.Res Mp.D}
theorem merge_rel {ρ : List Addr} {H : Hp} : ∀ {ps : List (Mp.D × Mp.D)} {ks : List (Key × V)} {kvs : List (Mp.D × Mp.D)} {kk : List (Key × V)}, RelKK C.K ρ H ps ks → RelKK C.K ρ H kvs kk → RelKK C.K ρ H (Mp.merge kvs ps) (mergeK kk ks)
  | [], ks, kvs, kk, r, r0 => by
    have : ks = [] := List.eq_nil_of_length_eq_zero r.1.symm
    subst this
    exact r0
  | (k, v) :: ps, ks, kvs, kk, r, r0 => by
    cases ks with
    | nil => have := r.1; simp at this
    | cons q ks =>
      obtain ⟨e, rv⟩ := r.2 0 _ _ rfl rfl
      have r' : RelKK C.K ρ H ps ks := ⟨by simpa using r.1, fun i a b h1 h2 => r.2 (i + 1) a b (by simpa using h1) (by simpa using h2)⟩
      have e' : keyOf k = some q.1 := e
      show RelKK C.K ρ H (Mp.merge (Mp.dput kvs k v) ps) (mergeK (putK kk q.1 q.2) ks)
      exact merge_rel r' (dput_rel e' rv r0)
/-- the pairs' trees -/
def pairEx : List (Mp.Ex × Mp.Ex) → Mp.Exs
  | [] => .nil
  | (a, b) :: r => .cons a (.cons b (pairEx r))
def pairTE (C : Cf) (W : WX) (cf : Nat → List Mp.D → Mp.Heap → Mp.Res Mp.D) (l : List (Mp.Ex × Mp.Ex)) : List (TE × TE) := l.map fun p => (tE C W (mE C cf p.1), tE C W (mE C cf p.2))
/-- flat pairs -/
def flatP : List (V × V) → List V
  | [] => []
  | (a, b) :: r => a :: b :: flatP r
theorem pairs_wish {l : List (Mp.Ex × Mp.Ex)} {σ : St} : ∀ {H : Hp} {Q : List (V × V) → Hp → Prop}, tA C W (mEs C cf (pairEx l)) σ H (fun vs H1 => ∀ ps, flatP ps = vs → Q ps H1) → tPairs (pairTE C W cf l) σ H Q := by
  induction l with
  | nil =>
    intro H Q w
    exact tA.nil' w [] rfl
  | cons p l ih =>
    intro H Q w
    obtain ⟨a, b⟩ := p
    obtain ⟨ρ, env, h, es, S, ev⟩ := w
    simp only [mEs, pairEx, Mp.evEs, bind_assoc] at ev
    refine ⟨ρ, env, h, es, S, (ev.bind (R := RD C)).imp fun x H1 ⟨d, ρ1, h1, l1, k1, S1, r1, ev1⟩ => ?_⟩
    refine ⟨ρ1, env, h1, es.mono l1 k1, S1, (ev1.bind (R := RD C)).imp fun y H2 ⟨e, ρ2, h2, l2, k2, S2, r2, ev2⟩ => ?_⟩
    refine ih ⟨ρ2, env, h2, es.mono (l1.trans l2) (k1.trans k2), S2, (ev2.bind (R := RDs C)).imp fun vs H3 ⟨ds, ρ3, h3, l3, k3, S3, r3, ev3⟩ ps hp => ?_⟩
    have q := ev3.ok S3 (.cons (RelD.mono (l2.trans l3) (k2.trans k3) _ _ r1) (.cons (RelD.mono l3 k3 _ _ r2) r3) : RelDs C.K ρ3 H3 (d :: e :: ds) (x :: y :: vs))
    exact q ((x, y) :: ps) (by simp only [flatP, hp])
/-- keys that are texts or ints -/
theorem disp_ok {ρ : List Addr} {H : Hp} : ∀ {xs : List Mp.D} {ps : List (Mp.D × Mp.D)} {vs : List V} {pv : List (V × V)}, Mp.dispOf xs = some ps → RelDs C.K ρ H xs vs → flatP pv = vs → ∃ kvs : List (Key × V), pv = kvs.map (fun kv => (kV kv.1, kv.2)) ∧ RelKK C.K ρ H ps kvs ∧ 2 * kvs.length = xs.length
  | [], ps, vs, pv, h, r, e => by
    simp only [Mp.dispOf] at h
    cases h
    have : vs = [] := by simpa only [RelDs] using r
    subst this
    cases pv with
    | nil => exact ⟨[], rfl, RelKK.emp, rfl⟩
    | cons p pv => obtain ⟨a, b⟩ := p; simp [flatP] at e
  | [x], ps, vs, pv, h, r, e => by simp only [Mp.dispOf] at h; cases h
  | k :: v :: xs, ps, vs, pv, h, r, e => by
    simp only [Mp.dispOf] at h
    split at h
    · rename_i hk
      obtain ⟨ps', h1, rfl⟩ := Option.map_eq_some_iff.mp h
      obtain ⟨a, us, rfl, ra, r'⟩ := r.inv_cons
      obtain ⟨b, us', rfl, rb, r''⟩ := r'.inv_cons
      cases pv with
      | nil => simp [flatP] at e
      | cons p pv =>
        obtain ⟨a', b'⟩ := p
        simp only [flatP, List.cons.injEq] at e
        obtain ⟨rfl, rfl, e⟩ := e
        obtain ⟨kvs, e1, e2, e3⟩ := disp_ok h1 r'' e
        obtain ⟨kk, ek⟩ := keyOf_of hk
        refine ⟨(kk, b') :: kvs, by rw [e1, List.map_cons, keyOf_V ra ek], ⟨by simp [e2.1], fun i p q h1 h2 => ?_⟩, by simp only [List.length_cons]; omega⟩
        cases i with
        | zero => simp at h1 h2; subst h1 h2; exact ⟨ek, rb⟩
        | succ i => exact e2.2 i p q (by simpa using h1) (by simpa using h2)
    · cases h
theorem se_dnil : PE X (.Dict [] [] pos) (tE C W (mE C cf (.dct .nil))) := PE.imp' pe_dnewK fun σ H Q ⟨ρ, env, h, es, S, ev⟩ p np => by
  simp only [mE, Mp.evE, Mp.evEs, Mp.Res.bind] at ev
  have e0 : (h ++ [Mp.MO.dct []])[h.length]? = some (.dct []) := by rw [List.getElem?_append_right (Nat.le_refl _)]; simp
  rw [e0] at ev
  simp only [List.length_nil, Nat.zero_le, if_true, Mp.dispOf, Mp.merge] at ev
  have e1 : (h ++ [Mp.MO.dct []]).set h.length (.dct []) = h ++ [.dct []] := by
    rw [List.set_append_right _ _ (Nat.le_refl _)]; simp
  rw [e1] at ev
  exact ev (ρ ++ [p]) _ _ (Le.snoc _ _) (Kp.new np) (S.newD np RelKK.emp) (refRel S.ref_at)
theorem se_dct {keys : List (Option Expr)} {values : List Expr} {l : List (Mp.Ex × Mp.Ex)} (h : PPs X pos keys values (pairTE C W cf l)) (hall : keys.all (·.isSome) = true) (hl : keys.length = values.length) (h0 : keys ≠ []) (h15 : keys.length ≤ 15) : PE X (.Dict keys values pos) (tE C W (mE C cf (.dct (pairEx l)))) := by
  refine PE.imp' (pe_disp h hall hl h0 h15) fun σ H Q ⟨ρ, env, h, es, S, ev⟩ p np => ?_
  simp only [mE, Mp.evE] at ev
  have kD : Kp H (upd H p (.dK [])) := Kp.new np
  have SD := S.newD np (RelKK.emp (K := C.K) (ρ := ρ) (H := H))
  have eD : (ρ ++ [p])[h.length]? = some p := S.ref_at
  refine pairs_wish ⟨ρ ++ [p], env, h ++ [.dct []], es.mono (Le.snoc _ _) kD, SD, ((ev.weak (Le.snoc _ _) kD).bind (R := RDs C)).imp fun vs H1 ⟨ds, ρ1, h1, l1, k1, S1, r1, ev1⟩ ps hp => ?_⟩
  split at ev1
  · rename_i ho
    split at ev1
    · rename_i pp hd
      split at hd
      · rename_i h30
        obtain ⟨o, ho1, g⟩ := S1.ob _ _ _ (l1 _ _ eD) ho
        rcases g with ⟨ks, rfl, g⟩ | ⟨ks, _, g⟩
        · have : ks = [] := List.eq_nil_of_length_eq_zero g.1.symm
          subst this
          obtain ⟨kvs, e1, e2, e3⟩ := disp_ok hd r1 hp
          refine ⟨ho1, kvs, e1, by omega, ?_⟩
          have kp : Kp H1 (upd H1 p (.dK (mergeK [] kvs))) := Kp.upd fun u e => by rw [ho1] at e; cases e; rfl
          exact ev1 ρ1 _ _ (Le.refl _) kp (S1.put (l1 _ _ eD) (fun ds e => by rw [ho] at e; cases e; rfl) kp (fun b hb => upd_ne hb) ⟨_, upd_same, .inl ⟨_, rfl, (merge_rel e2 RelKK.emp).mono (Le.refl _) kp⟩⟩) (refRel (l1 _ _ eD))
        · exact g.elim
      · cases hd
    · exact ev1.elim
  · exact ev1.elim
/-! ### dict(..) -/
theorem pairs_list {ρ : List Addr} {H : Hp} : ∀ {ds : List Mp.D} {vs : List V} {ps : List (Mp.D × Mp.D)}, RelDs C.K ρ H ds vs → Mp.pairsOf ds = some ps → ∃ (as : List Addr) (kvs : List (Key × V)), vs = as.map V.ref ∧ Paired (fun p kv => SqT C.K H p [kV kv.1, kv.2]) as kvs ∧ RelKK C.K ρ H ps kvs
  | [], vs, ps, r, e => by
    simp only [Mp.pairsOf] at e
    cases e
    have : vs = [] := by simpa only [RelDs] using r
    subst this
    exact ⟨[], [], rfl, .nil, RelKK.emp⟩
  | d :: ds, vs, ps, r, e => by
    simp only [Mp.pairsOf] at e
    split at e
    · rename_i p ps' h1 h2
      split at e
      · rename_i hk
        cases e
        obtain ⟨v, us, rfl, rv, ru⟩ := r.inv_cons
        obtain ⟨as, kvs, rfl, e2, e3⟩ := pairs_list ru h2
        unfold Mp.pairOf at h1
        split at h1
        · rename_i k w
          cases h1
          obtain ⟨a, xs, rfl, t, g⟩ := relTup rv
          obtain ⟨x, y, rfl, rx, ry⟩ := g.inv2
          obtain ⟨kk, ek⟩ := keyOf_of hk
          have ex := keyOf_V rx ek
          subst ex
          refine ⟨a :: as, (kk, y) :: kvs, rfl, .cons t.sq e2, ⟨by simp [e3.1], fun i p q q1 q2 => ?_⟩⟩
          cases i with
          | zero => simp at q1 q2; subst q1 q2; exact ⟨ek, ry⟩
          | succ i => exact e3.2 i p q (by simpa using q1) (by simpa using q2)
        · cases h1
      · cases e
    · cases e
theorem fin_dct {ρ : List Addr} {h : Mp.Heap} {H : Hp} {Q : VK} {kvs : List (Mp.D × Mp.D)} {ks : List (Key × V)} {p : Addr} (k : ∀ ρ' H' v, Le ρ ρ' → Kp H H' → Sim C ρ' (h ++ [.dct kvs]) H' → RelD C.K ρ' H' (.ref h.length) v → Q v H') (S : Sim C ρ h H) (np : H p = none) (r : RelKK C.K ρ H kvs ks) : Q (.ref p) (upd H p (.dK ks)) :=
  k (ρ ++ [p]) _ _ (Le.snoc _ _) (Kp.new np) (S.newD np r) (refRel S.ref_at)
theorem so_dict (hK : X.K = C.K) (hc : X.calm = true) : CallR X (.type "dict") (rF C (Mp.biop .dict)) := by
  intro pins s σ H xs us Q I r q
  obtain ⟨ρ, h, ds, S, g, z, h', ev, k⟩ := q
  unfold Mp.biop at ev
  split at ev <;> (try cases ‹Mp.Bi.dict = _›)
  · rename_i i
    obtain ⟨v, rfl, r1⟩ := g.inv1
    obtain ⟨a, rfl, ea⟩ := relRef r1
    split at ev
    · rename_i es ho
      split at ev
      · rename_i ps hp
        obtain ⟨rfl, rfl⟩ := ok_inj ev
        obtain ⟨vs, h1, g⟩ := S.lst ea ho
        obtain ⟨as, kvs, rfl, e2, e3⟩ := pairs_list g hp
        refine call_dictP hc pins s σ H _ us Q I r ⟨a, as, kvs, rfl, SqL.of h1, by rw [hK]; exact e2, fun p np => fin_dct k S np (merge_rel e3 RelKK.emp)⟩
      · cases ev
    · rename_i kvs ho
      obtain ⟨rfl, rfl⟩ := ok_inj ev
      obtain ⟨o, h1, g⟩ := S.ob i a _ ea ho
      rcases g with ⟨ks, rfl, g⟩ | ⟨ks, _, g⟩
      · exact call_dictD pins s σ H _ us Q I r ⟨a, ks, rfl, .inl h1, fun p np => fin_dct k S np g⟩
      · exact g.elim
    · cases ev
  · cases ev
end
end MpS
end
section
set_option Elab.async false
set_option linter.all false
set_option maxRecDepth 100000
set_option maxHeartbeats 4000000
namespace MpS
open PySem L2
/-! ### forms of the tree -/
def notSuper : Expr → Bool
  | .Call (.Name id _) [] [] _ => id != ("super" : Str)
  | _ => true
theorem abase {e : Expr} {f : Str} {env : PySem.Env} {whole : Sem Value} (h : notSuper e = true) : attributeBase e f env whole = whole := by
  cases e with
  | Call g es ks p =>
    cases g with
    | Name id q =>
      cases es with
      | nil =>
        cases ks with
        | nil => exact abase_call h
        | cons k ks => rfl
      | cons e es => rfl
    | _ => rfl
  | _ => rfl
def starry : Expr → Bool
  | .Starred _ _ => true
  | _ => false
theorem nostar {e : Expr} (h : starry e = false) : NoStar e := by
  intro es env
  cases e with
  | Starred e p => cases h
  | _ => rfl
theorem nostarT {e : Expr} (h : starry e = false) : NoStarT e := by
  intro es env
  cases e with
  | Starred e p => cases h
  | _ => rfl
theorem nostars {es : List Expr} (h : es.all (fun e => !starry e) = true) : ∀ e ∈ es, NoStar e := fun e he => nostar (by simpa using List.all_eq_true.mp h e he)
theorem nostarsT {es : List Expr} (h : es.all (fun e => !starry e) = true) : ∀ e ∈ es, NoStarT e := fun e he => nostarT (by simpa using List.all_eq_true.mp h e he)
def slicy : Expr → Bool
  | .Slice _ _ _ _ => true
  | _ => false
def testy : Expr → Bool
  | .UnaryOp .Not _ _ => true
  | .BoolOp _ _ _ => true
  | .IfExp _ _ _ _ => true
  | .Compare _ _ _ _ => true
  | _ => false
theorem plain_test {e : Expr} {env : PySem.Env} (h : testy e = false) : ∀ whole, isTrue e env whole = (do let v ← whole; standAt e.pos; holding [v] (truthy v)) := by
  intro whole
  cases e with
  | UnaryOp o a p =>
    cases o with
    | Not => cases h
    | _ => rfl
  | BoolOp o es p => cases h
  | IfExp c a b p => cases h
  | Compare a o c p => cases h
  | _ => rfl
theorem plain_ix {b : Expr} (h : slicy b = false) : PlainIx b := by
  intro o i
  cases b with
  | Slice l u s p => cases h
  | _ => rfl
section
variable {C : Cf} {X : Cx} {E : XK} {pos : Pos} {cf : Nat → List Mp.D → Mp.Heap → Mp.Res Mp.D}
theorem star_len : ∀ (es : List Expr) (env : PySem.Env), (starEach es env).length = es.length
  | [], env => rfl
  | e :: es, env => by
    cases e <;> simp only [starEach, List.length_cons, star_len es env]
theorem kwe_len : ∀ (ks : List Keyword) (env : PySem.Env), (keywordEach ks env).length = ks.length
  | [], env => rfl
  | ⟨n, v, p⟩ :: ks, env => by simp only [keywordEach, List.length_cons, kwe_len ks env]
/-- a method's call as the model does it -/
theorem meth_tree {o : Expr} {m : Str} {apos : Pos} {es : List Expr} {kws : List Keyword} {ks : List Str} (hb : notSuper o = true) (hl : (apos.endLine == pos.line) = true) (ns : es.all (fun e => !starry e) = true) (hk : kwNames kws = some ks) (few : es.length + kws.length < 20) :
    eval (.Call (.Attribute o m apos) es kws pos) X.env = (do
      let ov ← eval o X.env
      standAt apos.atName
      let (f, first) ← holding [ov] (getMethod ov m (do return (← importBound o X.env).getD true))
      callWith pos f first (backTo pos (starEach es X.env)) (backToKw pos (keywordEach kws X.env))) := by
  refine mcall_of (abase hb) fun ov => ?_
  have h1 : (backTo pos (starEach es X.env)).all (fun x => !x.1) = true := back_all (nostars ns) _ _
  obtain ⟨h2, h3, h4⟩ := kw_all (X := X) (pos := pos) hk
  have form : methodCallForm (es.length + kws.length) (backTo pos (starEach es X.env)) (backToKw pos (keywordEach kws X.env)) = true := by
    unfold methodCallForm
    rw [h1, h2]
    simp only [Bool.and_true, Bool.true_and, decide_eq_true_eq]
    split <;> omega
  unfold methodCall
  rw [form]
  unfold methodCallPos calleeOf
  simp only [hl, Bool.not_true, Bool.or_true, if_true, Bool.false_or]
  rfl
end
end MpS
end
section
set_option Elab.async false
set_option linter.all false
set_option maxRecDepth 100000
set_option maxHeartbeats 4000000
namespace MpS
open PySem L2
/-! ### list(range(..)), tuple(range(..)) -/
section
variable {C : Cf} {X : Cx} {W : WX} {pos : Pos} {cf : Nat → List Mp.D → Mp.Heap → Mp.Res Mp.D}
/-- a range's ends, by its arguments -/
def rgPair : List V → Option (Int × Int)
  | [.int n] => some (0, n)
  | [.int i, .int j] => some (i, j)
  | _ => none
def RgE (X : Cx) (C : Cf) (W : WX) (cf : Nat → List Mp.D → Mp.Heap → Mp.Res Mp.D) (e : Expr) (xs : Mp.Exs) : Prop := ∃ t, PRg X e t ∧ ∀ σ H (Q : Int → Int → Hp → Prop), tA C W (mEs C cf xs) σ H (fun vs H1 => ∃ p, rgPair vs = some p ∧ Q p.1 p.2 H1) → t σ H Q
theorem rg_rel {K : PySem.W.Frag} {ρ : List Addr} {H : Hp} {i j : Int} : RelDs K ρ H (Mp.rangeL i (j - i).toNat) (rgV i j) := by
  rw [RelDs.iff]
  have hl : ∀ (n : Nat) (lo : Int), (Mp.rangeL lo n).length = n := fun n => by
    induction n with
    | zero => intro lo; rfl
    | succ n ih => intro lo; simp [Mp.rangeL, ih]
  refine ⟨by rw [hl, rgV_length], fun k d v h1 h2 => ?_⟩
  rw [range_get] at h1
  split at h1
  · rename_i hk
    cases h1
    unfold rgV at h2
    rw [List.getElem?_map, List.getElem?_range hk] at h2
    cases h2
    simp only [RelD]
  · cases h1
theorem rgOk_of {i j : Int} (h1 : Mp.smallI i = true) (h2 : Mp.smallI j = true) (h3 : (j - i).toNat ≤ Mp.lim) : RgOk i j := by
  obtain ⟨a, b⟩ := smallI_of h1
  obtain ⟨c, d⟩ := smallI_of h2
  unfold Mp.lim at h3
  exact ⟨a, b, c, d, by omega⟩
theorem tA.consE {x : Mp.Ex} {xs : Mp.Exs} {σ : St} {H : Hp} {Q : List V → Hp → Prop} (w : tA C W (mEs C cf (.cons x xs)) σ H Q) : tE C W (mE C cf x) σ H fun v H1 => tA C W (mEs C cf xs) σ H1 fun vs H2 => Q (v :: vs) H2 := by
  obtain ⟨ρ, env, h, es, S, ev⟩ := w
  exact tA.cons (ma := mE C cf x) (ms := mEs C cf xs) ⟨ρ, env, h, es, S, by simpa only [mE, mEs, Mp.evEs] using ev⟩
theorem tE.mono {m : ME} {σ : St} {H : Hp} {Q Q' : VK} (w : tE C W m σ H Q) (k : ∀ v H1, Q v H1 → Q' v H1) : tE C W m σ H Q' := by
  obtain ⟨ρ, env, h, es, S, ev⟩ := w
  exact ⟨ρ, env, h, es, S, ev.imp k⟩
theorem rg_one {p : Pos} {a : Expr} {x : Mp.Ex} (hg : Gl X "range") (hm : X.mg "range" = none) (ha : PE X a (tE C W (mE C cf x))) (ns : NoStar a) : RgE X C W cf (.Call (.Name "range" p) [a] [] pos) (.cons x .nil) := by
  refine ⟨_, prg_1 hg hm ha (ns [] _), fun σ H Q w => (tA.consE w).mono fun v H1 w1 => ?_⟩
  obtain ⟨q, e, h⟩ := tA.nil' w1
  unfold rgPair at e
  split at e
  · rename_i n hn; cases hn; cases e; exact ⟨n, rfl, h⟩
  · rename_i hn; cases hn
  · cases e
theorem rg_two {p : Pos} {a b : Expr} {x y : Mp.Ex} (hg : Gl X "range") (hm : X.mg "range" = none) (ha : PE X a (tE C W (mE C cf x))) (hb : PE X b (tE C W (mE C cf y))) (ns : NoStar a) (ns2 : NoStar b) : RgE X C W cf (.Call (.Name "range" p) [a, b] [] pos) (.cons x (.cons y .nil)) := by
  refine ⟨_, prg_2 hg hm ha hb (ns [b] _) (ns2 [] _) (hp := back_plain (es := [b]) (fun z hz => by simp at hz; rw [hz]; exact ns2) _ _), fun σ H Q w => (tA.consE w).mono fun v H1 w1 => (tA.consE w1).mono fun u H2 w2 => ?_⟩
  obtain ⟨q, e, h⟩ := tA.nil' w2
  unfold rgPair at e
  split at e
  · rename_i hn; cases hn
  · rename_i i j hn; cases hn; cases e; exact ⟨i, j, rfl, rfl, h⟩
  · cases e
/-- the items, and the ends -/
theorem rgOf_ok {ρ : List Addr} {H : Hp} {ds es : List Mp.D} {vs : List V} (r : RelDs C.K ρ H ds vs) (e : Mp.rgOf ds = some es) : ∃ p, rgPair vs = some p ∧ RgOk p.1 p.2 ∧ es = Mp.rangeL p.1 (p.2 - p.1).toNat := by
  unfold Mp.rgOf at e
  split at e
  · rename_i n
    split at e
    · rename_i hc
      rw [Bool.and_eq_true, decide_eq_true_eq] at hc
      cases e
      obtain ⟨v, rfl, r1⟩ := r.inv1
      have hv := relInt r1
      subst hv
      exact ⟨(0, n), rfl, rgOk_of (show Mp.smallI 0 = true by decide) hc.1 (by simpa using hc.2), by simp⟩
    · cases e
  · rename_i i j
    split at e
    · rename_i hc
      rw [Bool.and_eq_true, Bool.and_eq_true, decide_eq_true_eq] at hc
      cases e
      obtain ⟨v, u, rfl, r1, r2⟩ := r.inv2
      have hv := relInt r1
      have hu := relInt r2
      subst hv hu
      exact ⟨(i, j), rfl, rgOk_of hc.1.1 hc.1.2 hc.2, rfl⟩
    · cases e
  · cases e
theorem se_rgl {p : Pos} {e : Expr} {xs : Mp.Exs} (hc : X.calm = true) (hg : Gl X "list") (hm : X.mg "list" = none) (he : RgE X C W cf e xs) (ns : NoStar e) : PE X (.Call (.Name "list" p) [e] [] pos) (tE C W (mE C cf (.rg false xs))) := by
  obtain ⟨t, pr, k⟩ := he
  refine PE.imp' (pe_listRg hc hg hm pr (ns [] _)) fun σ H Q ⟨ρ, env, h, es, S, ev⟩ => ?_
  simp only [mE, Mp.evE] at ev
  refine k σ H _ ⟨ρ, env, h, es, S, (ev.bind (R := RDs C)).imp fun vs H1 ⟨ds, ρ1, h1, l1, k1, S1, r1, ev1⟩ => ?_⟩
  split at ev1
  · rename_i items hi
    obtain ⟨q, e1, e2, rfl⟩ := rgOf_ok r1 hi
    simp only [Bool.false_eq_true, if_false] at ev1
    exact ⟨q, e1, e2, fun a na => ev1 (ρ1 ++ [a]) _ _ (Le.snoc _ _) (Kp.new na) (S1.newL na rg_rel) (refRel S1.ref_at)⟩
  · exact ev1.elim
theorem se_rgt {p : Pos} {e : Expr} {xs : Mp.Exs} (hc : X.calm = true) (hg : Gl X "tuple") (hm : X.mg "tuple" = none) (he : RgE X C W cf e xs) (ns : NoStar e) : PE X (.Call (.Name "tuple" p) [e] [] pos) (tE C W (mE C cf (.rg true xs))) := by
  obtain ⟨t, pr, k⟩ := he
  refine PE.imp' (pe_tupRg hc hg hm pr (ns [] _)) fun σ H Q ⟨ρ, env, h, es, S, ev⟩ => ?_
  simp only [mE, Mp.evE] at ev
  refine k σ H _ ⟨ρ, env, h, es, S, (ev.bind (R := RDs C)).imp fun vs H1 ⟨ds, ρ1, h1, l1, k1, S1, r1, ev1⟩ => ?_⟩
  split at ev1
  · rename_i items hi
    obtain ⟨q, e1, e2, rfl⟩ := rgOf_ok r1 hi
    simp only [if_true] at ev1
    exact ⟨q, e1, e2, fun a na => ev1 ρ1 _ _ (Le.refl _) (Kp.new na) (S1.other na _) (tupRel (.inl upd_same) rg_rel)⟩
  · exact ev1.elim
end
end MpS
end
section
set_option Elab.async false
set_option linter.all false
set_option maxRecDepth 100000
set_option maxHeartbeats 4000000
namespace MpS
open PySem L2
/-! ### the tree into the interpreter's form -/
/-- where a piece of text stands: the slots' names, the scope, the names that may be stored -/
structure Ctx where
  N : List Str
  sc : Scope
  st : Str → Bool
  lm : Bool
/-- what the text's top says of names -/
structure Tb where
  fn : Str → Option Nat
  cl : Str → Option Nat
  am : Str → Option Nat
  kc : Str → Option Mp.D
  nb : Str → Bool
  ex : Str → Option Nat
  cg : Str → Option Nat
def slotOf (c : Ctx) (x : Str) : Option Nat := match c.sc.names.lookup x with
  | some .local => if (x == ("__debug__" : Str)) || (x == ("__classdict__" : Str)) then none else c.N.idxOf? x
  | some .cell => if (x == ("__debug__" : Str)) || (x == ("__classdict__" : Str)) then none else c.N.idxOf? x
  | some .free => if (x == ("__debug__" : Str)) || (x == ("__classdict__" : Str)) then none else c.N.idxOf? x
  | _ => none
def isGl (c : Ctx) (x : Str) : Bool := c.sc.names.lookup x == some .globalImplicit
def constD : Const → Option Mp.D
  | .none => some .non
  | .bool b => some (.bl b)
  | .int i => some (.int i)
  | .str s => some (.str s.cps.toList)
  | _ => none
def bopOf : Operator → Option Mp.BOp
  | .Add => some .add
  | .Sub => some .sub
  | .Mult => some .mul
  | .FloorDiv => some .fdiv
  | .Mod => some .mod
  | .Pow => some .pow
  | _ => none
def cmpOf : CmpOp → Option Mp.COp
  | .Eq => some .eq
  | .NotEq => some .ne
  | .Lt => some .lt
  | .LtE => some .le
  | .Gt => some .gt
  | .GtE => some .ge
  | .Is => some .is_
  | .IsNot => some .isnot
  | .In => some .in_
  | .NotIn => some .notin
abbrev Tr := Ctx → Expr → Option Mp.Ex
def trEs (f : Expr → Option Mp.Ex) : List Expr → Option Mp.Exs
  | [] => some .nil
  | e :: es => match f e, trEs f es with
    | some x, some xs => if starry e then none else some (.cons x xs)
    | _, _ => none
def trKs (f : Expr → Option Mp.Ex) : List Keyword → Option Mp.Exs
  | [] => some .nil
  | ⟨_, e, _⟩ :: es => match f e, trKs f es with
    | some x, some xs => some (.cons x xs)
    | _, _ => none
def trPart (f : Expr → Option Mp.Ex) : Option Expr → Option Mp.Exs
  | none => some .nil
  | some e => (f e).map fun x => .cons x .nil
def nilList : Expr → Bool
  | .List [] _ => true
  | _ => false
def trCmp (f : Expr → Option Mp.Ex) (a : Expr) (op : CmpOp) (b : Expr) : Option Mp.Ex :=
  if nilList b && (op == .Eq) then (f a).map .isnil
  else if nilList b && (op == .NotEq) then (f a).map fun x => .not (.isnil x)
  else match cmpOf op, f a, f b with
    | some o, some x, some y => if behindInMarks op b then none else some (.cmp o x y)
    | _, _, _ => none
/-- targets -/
def trT (f : Expr → Option Mp.Ex) (T : Tb) (c : Ctx) : Expr → Option (Mp.Tg × List Nat)
  | .Name x _ => match c.N.idxOf? x with
    | some i => if c.st x then some (.nm i, [i]) else none
    | none => none
  | .Attribute o m _ => match f o, T.am m with
    | some x, some i => some (.attr x i, [])
    | _, _ => none
  | .Subscript o i _ => match f o, f i with
    | some x, some y => if slicy i then none else some (.idx x y, [])
    | _, _ => none
  | _ => none
def trTs (f : Expr → Option Mp.Ex) (T : Tb) (c : Ctx) : List Expr → Option (Mp.Tgs × List Nat)
  | [] => some (.nil, [])
  | e :: es => match trT f T c e, trTs f T c es with
    | some (t, vs), some (ts, ws) => if starry e then none else some (.cons t ts, vs ++ ws)
    | _, _ => none
def trTg (f : Expr → Option Mp.Ex) (T : Tb) (c : Ctx) : Expr → Option (Mp.Tg × List Nat)
  | .Tuple es _ _ => (trTs f T c es).map fun p => (.tup p.1, p.2)
  | e => trT f T c e
def tupTg : Expr → Bool
  | .Tuple _ _ _ => true
  | _ => false
/-- an expression that is only looked up -/
def isPath : Expr → Bool
  | .Name _ _ => true
  | .Attribute _ _ _ => true
  | .Subscript _ _ _ => true
  | _ => false
/-- what is walked -/
def trI (f : Expr → Option Mp.Ex) (T : Tb) (c : Ctx) (tg : Expr) : Expr → Option Mp.It
  | .Call (.Name x p) [e] [] q =>
    if x == ("range" : Str) && isGl c x && T.nb x then (if starry e then none else (f e).map .rng)
    else if x == ("enumerate" : Str) && isGl c x && T.nb x then (if starry e || !tupTg tg then none else (f e).map .enum)
    else (f (.Call (.Name x p) [e] [] q)).map .e
  | .Call (.Name x p) [e, b] [] q =>
    if x == ("range" : Str) && isGl c x && T.nb x then (if starry e || starry b then none else match f e, f b with
      | some y, some z => some (.rng2 y z)
      | _, _ => none)
    else if x == ("zip" : Str) && isGl c x && T.nb x then (if starry e || starry b || !tupTg tg then none else match f e, f b with
      | some y, some z => some (.zip y z)
      | _, _ => none)
    else (f (.Call (.Name x p) [e, b] [] q)).map .e
  | .Call (.Attribute o m ap) [] [] q =>
    if m == ("items" : Str) && tupTg tg && notSuper o && (ap.endLine == q.line) then (f o).map .items else (f (.Call (.Attribute o m ap) [] [] q)).map .e
  | e => if isPath e then (f e).map .path else (match e with
    | .Set _ _ _ => none
    | e => (f e).map .e)
/-- a comprehension's own names with their slots -/
def ownOf (c : Ctx) (scope : Scope) : List (Str × Nat) := scope.names.filterMap fun p => if p.2 == .local || p.2 == .cell then (c.N.idxOf? p.1).map (p.1, ·) else none
def blkCtx (c : Ctx) (scope : Scope) : Ctx := ⟨c.N, relS scope c.sc, fun x => scope.names.lookup x == some .local || scope.names.lookup x == some .cell, false⟩
def trIfs (f : Expr → Option Mp.Ex) : List Expr → Option Mp.Exs
  | [] => some .nil
  | [e] => (f e).map fun x => .cons x .nil
  | _ => none
/-- a clause's target, within; vs: its slots -/
structure Cl1 where
  t : Mp.Tg
  vs : List Nat
  it : Mp.It
  fs : Mp.Exs
def trCl (fi : Expr → Option Mp.Ex) (ci : Ctx) (fo : Expr → Option Mp.Ex) (co : Ctx) (T : Tb) (g : Comprehension) : Option Cl1 := match trTg fi T ci g.target, trI fo T co g.target g.iter, trIfs fi g.ifs with
  | some (t, vs), some it, some fs => if g.is_async == 0 then some ⟨t, vs, it, fs⟩ else none
  | _, _, _ => none
def comp1 (rec : Tr) (T : Tb) (c : Ctx) (scope : Scope) (g : Comprehension) : Option Cl1 := match trCl (rec (blkCtx c scope)) (blkCtx c scope) (rec c) c T g with
  | some k => if blkC c.N c.sc scope (ownOf c scope) && k.vs.all (fun i => (ownOf c scope).map (·.2) |>.contains i) then some k else none
  | none => none
def comp2 (rec : Tr) (T : Tb) (c : Ctx) (scope : Scope) (k : Comprehension) : Option Cl1 := match trCl (rec (blkCtx c scope)) (blkCtx c scope) (rec (blkCtx c scope)) (blkCtx c scope) T k with
  | some r => if r.vs.all (fun i => (ownOf c scope).map (·.2) |>.contains i) then some r else none
  | none => none
def biOf (x : Str) (n : Nat) : Option Mp.Bi :=
  if x == ("abs" : Str) && n == 1 then some .abs
  else if x == ("int" : Str) && n == 1 then some .int
  else if x == ("len" : Str) && n == 1 then some .len
  else if x == ("min" : Str) && n == 2 then some .min2
  else if x == ("max" : Str) && n == 2 then some .max2
  else if x == ("tuple" : Str) && n == 1 then some .tuple
  else if x == ("list" : Str) && n == 1 then some .list
  else if x == ("sum" : Str) && n == 1 then some .sum
  else if x == ("sorted" : Str) && n == 1 then some .sorted
  else if x == ("dict" : Str) && n == 1 then some .dict
  else if x == ("all" : Str) && n == 1 then some .all1
  else if x == ("any" : Str) && n == 1 then some .any1
  else if x == ("max" : Str) && n == 1 then some .max1
  else if x == ("min" : Str) && n == 1 then some .min1
  else none
def tyOf (T : Tb) (c : Ctx) : Expr → Option Mp.Ty
  | .Name x _ => if isGl c x then (match T.cl x with
      | some k => some (.cls k)
      | none => if T.nb x then (if x == ("int" : Str) then some .int else if x == ("bool" : Str) then some .bool else if x == ("str" : Str) then some .str else if x == ("tuple" : Str) then some .tuple else if x == ("list" : Str) then some .list else if x == ("dict" : Str) then some .dict else none) else none) else none
  | _ => none
def tysOf (T : Tb) (c : Ctx) : List Expr → Option (List Mp.Ty)
  | [] => some []
  | e :: es => match tyOf T c e, tysOf T c es with
    | some t, some ts => some (t :: ts)
    | _, _ => none
def bmOf (m : Str) (n : Nat) : Option Mp.Bm :=
  if m == ("append" : Str) && n == 1 then some .append
  else if m == ("pop" : Str) && n == 0 then some .pop0
  else if m == ("pop" : Str) && n == 1 then some .pop1
  else if m == ("extend" : Str) && n == 1 then some .extend
  else if m == ("insert" : Str) && n == 2 then some .insert
  else if m == ("index" : Str) && n == 1 then some .index
  else if m == ("get" : Str) && n == 1 then some .get1
  else if m == ("get" : Str) && n == 2 then some .get2
  else if m == ("reverse" : Str) && n == 0 then some .reverse
  else none
/-- all classes that have a method m: the selection is the same -/
def methSel (pg : Mp.Pg) (ps : Nat → List Str) (ks : List Str) (np : Nat) (m : Nat) : List Mp.Cl → Option (Option (List Nat))
  | [] => some none
  | k :: r => match methSel pg ps ks np m r with
    | none => none
    | some o => match k.ms.lookup m with
      | none => some o
      | some g => match pg.fns[g]? with
        | none => none
        | some fn => match selOf (ps g) ks (np + 1) fn.dfl.length 0 (ps g) with
          | none => none
          | some s => if selOk (ps g) ks (np + 1) fn.dfl.length && (o == none || o == some s) then some (some s) else none
/-- list(range(..)), tuple(range(..)) -/
def trRg (f : Expr → Option Mp.Ex) (T : Tb) (c : Ctx) (x : Str) : Expr → Option Mp.Ex
  | .Call (.Name r _) [a] [] _ => if (x == ("list" : Str) || x == ("tuple" : Str)) && (r == ("range" : Str) && isGl c r && T.nb r && !starry a) then (f a).map fun y => .rg (x == ("tuple" : Str)) (.cons y .nil) else none
  | .Call (.Name r _) [a, b] [] _ => if (x == ("list" : Str) || x == ("tuple" : Str)) && (r == ("range" : Str) && isGl c r && T.nb r && !starry a && !starry b) then (match f a, f b with
    | some y, some z => some (.rg (x == ("tuple" : Str)) (.cons y (.cons z .nil)))
    | _, _ => none) else none
  | _ => none
def trCall (f : Expr → Option Mp.Ex) (T : Tb) (c : Ctx) (pg : Mp.Pg) (ps : Nat → List Str) (x : Str) (es : List Expr) (kws : List Keyword) : Option Mp.Ex :=
  if isGl c x then
    (match T.fn x with
    | some g => match pg.fns[g]?, trEs f es, trKs f kws, kwNames kws with
      | some fn, some xs, some ys, some ks => match selOf (ps g) ks es.length fn.dfl.length 0 (ps g) with
        | some s => if selOk (ps g) ks es.length fn.dfl.length then some (.call g (xs.app ys) s) else none
        | none => none
      | _, _, _, _ => none
    | none => match T.cl x with
      | some k => match pg.cls[k]?, trEs f es, trKs f kws, kwNames kws with
        | some kk, some xs, some ys, some ks => match kk.init with
          | some g => match pg.fns[g]? with
            | some fn => match selOf (ps g) ks (es.length + 1) fn.dfl.length 0 (ps g) with
              | some s => if selOk (ps g) ks (es.length + 1) fn.dfl.length then some (.mk k (xs.app ys) s) else none
              | none => none
            | none => none
          | none => none
        | _, _, _, _ => none
      | none => if T.nb x && kws.isEmpty then (match es with
        | [a, b] => if x == ("isinstance" : Str) then (if starry a || starry b then none else match b with
            | .Tuple cs _ _ => match f a, tysOf T c cs with
              | some y, some (t :: ts) => if decide (cs.length ≤ 1000) then some (.isin y (t :: ts)) else none
              | _, _ => none
            | b => match f a, tyOf T c b with
              | some y, some t => some (.isin y [t])
              | _, _ => none)
          else (match biOf x 2, trEs f [a, b] with
            | some o, some xs => some (.bi o xs)
            | _, _ => none)
        | [a] => (match trRg f T c x a with
          | some y => some y
          | none => (match biOf x 1, trEs f [a] with
            | some o, some xs => some (.bi o xs)
            | _, _ => none))
        | _ => none) else none)
  else none
def trMeth (f : Expr → Option Mp.Ex) (T : Tb) (pg : Mp.Pg) (ps : Nat → List Str) (o : Expr) (m : Str) (ap : Pos) (es : List Expr) (kws : List Keyword) (q : Pos) : Option Mp.Ex :=
  if notSuper o && (ap.endLine == q.line) && decide (es.length + kws.length < 20) then
    (match bmOf m es.length with
    | some b => if kws.isEmpty then (match f o, trEs f es with
        | some x, some xs => some (.bm x b xs)
        | _, _ => none) else none
    | none => match T.am m, f o, trEs f es, trKs f kws, kwNames kws with
      | some i, some x, some xs, some ys, some ks => match methSel pg ps ks es.length i pg.cls with
        | some (some s) => some (.meth x i (xs.app ys) s)
        | _ => none
      | _, _, _, _, _ => none)
  else none
def trD (f : Expr → Option Mp.Ex) : List (Option Expr) → List Expr → Option (List (Mp.Ex × Mp.Ex))
  | [], [] => some []
  | some k :: ks, v :: vs => match f k, f v, trD f ks vs with
    | some x, some y, some r => if decide (r.length < 15) then some ((x, y) :: r) else none
    | _, _, _ => none
  | _, _ => none
/-- a lambda's text -/
def lamC (c : Ctx) (scope : Scope) : Ctx := ⟨c.N, scope, fun _ => false, false⟩
/-- caught(lambda: ..) -/
def trCau (rec : Tr) (T : Tb) (c : Ctx) (x : Str) : List Expr → List Keyword → Option Mp.Ex
  | [.Lambda ⟨[], [], none, [], [], none, []⟩ body scope _], [] => if c.lm && isGl c x && LamX.lamSB c.sc scope then (match T.cg x with
    | some cl => (rec (lamC c scope) body).map (.caught cl)
    | none => none) else none
  | _, _ => none
def stepE (T : Tb) (pg : Mp.Pg) (ps : Nat → List Str) (rec : Tr) (c : Ctx) : Expr → Option Mp.Ex
  | .Constant k _ _ => (constD k).map .c
  | .Name x _ => match slotOf c x with
    | some i => some (.v i)
    | none => if isGl c x then (T.kc x).map .c else none
  | .BinOp a op b _ => match bopOf op, rec c a, rec c b with
    | some o, some x, some y => some (.bin o x y)
    | _, _, _ => none
  | .UnaryOp .USub a _ => (rec c a).map .neg
  | .UnaryOp .Not a _ => (rec c a).map .not
  | .Compare a [op] [b] _ => trCmp (rec c) a op b
  | .Compare a [op, op'] [b, d] _ => match cmpOf op, cmpOf op', rec c a, rec c b, rec c d with
    | some o, some o', some x, some y, some z => if lastMarks [op, op'] [b, d] then none else some (.chain o o' x y z)
    | _, _, _, _, _ => none
  | .BoolOp op [a] _ => rec c a
  | .BoolOp op (a :: b :: r) p => match rec c a, rec c (.BoolOp op (b :: r) p) with
    | some x, some y => some (match op with
      | .And => .and x y
      | .Or => .or x y)
    | _, _ => none
  | .IfExp t a b _ => match rec c t, rec c a, rec c b with
    | some x, some y, some z => some (.ite x y z)
    | _, _, _ => none
  | .Tuple es _ _ => (trEs (rec c) es).map .tup
  | .List es _ => (trEs (rec c) es).map .lst
  | .Dict keys vals _ => (trD (rec c) keys vals).map fun l => .dct (pairEx l)
  | .ListComp elt [g] scope _ => match comp1 rec T c scope g, rec (blkCtx c scope) elt with
    | some k, some x => some (.comp x ((ownOf c scope).map (·.2)) k.t k.it k.fs)
    | _, _ => none
  | .ListComp elt [g, g2] scope _ => match comp1 rec T c scope g, comp2 rec T c scope g2, rec (blkCtx c scope) elt with
    | some k, some r, some x => some (.comp2 x ((ownOf c scope).map (·.2)) r.vs k.t k.it k.fs r.t r.it r.fs)
    | _, _, _ => none
  | .DictComp kx vx [g] scope _ => match comp1 rec T c scope g, rec (blkCtx c scope) kx, rec (blkCtx c scope) vx with
    | some k, some x, some y => some (.dcomp x y ((ownOf c scope).map (·.2)) k.t k.it k.fs)
    | _, _, _ => none
  | .Attribute o m _ => match T.am m, rec c o with
    | some i, some x => if notSuper o then some (.attr x i) else none
    | _, _ => none
  | .Subscript a (.Slice lo hi none _) _ => match rec c a, trPart (rec c) lo, trPart (rec c) hi with
    | some x, some l, some h => some (.slice x l h)
    | _, _, _ => none
  | .Subscript a (.Slice none none (some (.UnaryOp .USub (.Constant (.int 1) _ _) _)) _) _ => (rec c a).map .rev
  | .Subscript a b _ => match rec c a, rec c b with
    | some x, some y => if slicy b then none else some (.idx x y)
    | _, _ => none
  | .Call (.Name x _) es kws _ => match trCau rec T c x es kws with
    | some y => some y
    | none => trCall (rec c) T c pg ps x es kws
  | .Call (.Attribute o m ap) es kws q => trMeth (rec c) T pg ps o m ap es kws q
  | _ => none
def trE (T : Tb) (pg : Mp.Pg) (ps : Nat → List Str) : Nat → Tr
  | 0 => fun _ _ => none
  | n + 1 => fun c e => stepE T pg ps (trE T pg ps n) c e
end MpS
end
section
set_option Elab.async false
set_option linter.all false
set_option maxRecDepth 100000
set_option maxHeartbeats 4000000
namespace MpS
open PySem L2
/-! ### the translation is sound -/
/-- an own exception class without own __init__ -/
structure ExF (C : Cf) (c : Nat) : Prop where
  q : PySem.W.excIn C.K (C.ca c) He.veBase "ValueError.__new__" = true
  kp : PySem.W.keepIn C.K (.ref (C.ca c)) = true
  sub : PySem.W.subIn C.K (.ref (C.ca c)) (.type "BaseException") = some true
  ty : PySem.W.typeIn C.K (.ref (C.ca c)) = some (.type "type")
/-- the def that gives back what a lambda raises: class cl and those under it -/
structure CauF (C : Cf) (x : Str) (cl : Nat) : Prop where
  at_ : ∃ (g : Addr) (k : Nat) (p : List Pos) (a c e ex : Str) (sg : Scope) (pg : Arguments) (dV kV doc pm cdv ct oc : Value) (an od : Option Addr) (osl : Array (Option Value)),
    C.mg x = some (.ref g) ∧ PySem.W.keepIn C.K (.ref g) = true ∧ C.K.lookup g = some ⟨oc, od, .func (PySem.W.fnOf x x pg (cauBody a c e ex k p) sg dV kV doc pm an cdv ct), osl⟩ ∧ PySem.W.codeIn C.K cdv x = true ∧
    L2.Binds C.K (PySem.W.fnOf x x pg (cauBody a c e ex k p) sg dV kV doc pm an cdv ct) [a] [] ∧ FnScope [a, c, e] [a] sg ∧ Vis sg a ∧ CauN [a, c, e] sg a c e ∧ sg.names.lookup ex = some .globalImplicit ∧ C.mg ex = some (.ref (C.ca cl)) ∧ (ex == ("__debug__" : Str)) = false ∧ (x == ("__debug__" : Str)) = false ∧
    (a == ("__debug__" : Str)) = false ∧ (a == ("__classdict__" : Str)) = false
structure TbOk (C : Cf) (T : Tb) : Prop where
  fn : ∀ x f, T.fn x = some f → C.mg x = some (.ref (C.fa f)) ∧ (x == ("__debug__" : Str)) = false
  cl : ∀ x c, T.cl x = some c → C.mg x = some (.ref (C.ca c)) ∧ (x == ("__debug__" : Str)) = false ∧ ∀ kk f, C.pg.cls[c]? = some kk → kk.init = some f → Mk C.K (C.ca c) (C.fa f)
  am : ∀ s i, T.am s = some i → C.nm i = s
  kc : ∀ x d, T.kc x = some d → (x == ("__debug__" : Str)) = false ∧ ∃ v u, C.mg x = some u ∧ RelV v u ∧ ∀ ρ H, RelD C.K ρ H d v
  nb : ∀ x, T.nb x = true → C.mg x = none
  ex : ∀ x c, T.ex x = some c → C.mg x = some (.ref (C.ca c)) ∧ (x == ("__debug__" : Str)) = false ∧ ExF C c
  cg : ∀ x cl, T.cg x = some cl → CauF C x cl
/-- a context in which lambdas are made -/
def LamOk (C : Cf) (k : Nat) (X : Cx) : Prop := ∃ cd P : Addr, X.env.code = .ref cd ∧ LamX.TabB X.base X.mg cd P ∧ (P, X.env.qual ++ "<lambda>") ∈ C.tb ∧ (∀ p ∈ C.tb, p.1 = P → p.2 = X.env.qual ++ "<lambda>") ∧ Room (k + 3) X.A
/-- a context of a function's text -/
structure SX (C : Cf) (c : Ctx) (k : Nat) (X : Cx) (E : XK) : Prop where
  xo : XOk C X
  N : X.N = c.N
  sc : X.env.scope = c.sc
  st : ∀ x, c.st x = true → Loc X.env.scope x ∧ (X.fn x = true ∨ X.env.scope.names.lookup x = some .local)
  room : Room (k + 1) X.A
  hx : Passes (L2.CX C.P C.w) X E
  lm : c.lm = true → LamOk C k X
section
variable {C : Cf} {T : Tb} {k : Nat} {cf : Nat → List Mp.D → Mp.Heap → Mp.Res Mp.D} {c : Ctx} {X : Cx} {E : XK}
theorem SX.u65 (s : SX C c k X E) : X.A.units + 65 < cLine := by have := s.room.un; omega
theorem SX.u1 (s : SX C c k X E) : X.A.units + 1 < cLine := by have := s.room.un; omega
theorem SX.u0 (s : SX C c k X E) : X.A.units < cLine := by have := s.room.un; omega
theorem SX.gl (s : SX C c k X E) {x : Str} (h : isGl c x = true) : Gl X x := by
  unfold isGl at h
  show X.env.scope.names.lookup x = some .globalImplicit
  rw [s.sc]
  simpa using h
theorem SX.blt (s : SX C c k X E) (TO : TbOk C T) {x : Str} (h : T.nb x = true) : X.mg x = none := by rw [s.xo.mg]; exact TO.nb x h
theorem idx_at {N : List Str} {x : Str} {i : Nat} (h : N.idxOf? x = some i) : N[i]? = some x := idxOf_at h
theorem SX.slot (s : SX C c k X E) {x : Str} {i : Nat} (h : slotOf c x = some i) : X.N[i]? = some x ∧ Vis X.env.scope x ∧ (x == ("__debug__" : Str)) = false ∧ (x == ("__classdict__" : Str)) = false := by
  unfold slotOf at h
  have go : ∀ (b : Bool), (if ((x == ("__debug__" : Str)) || (x == ("__classdict__" : Str))) = true then none else c.N.idxOf? x) = some i → X.N[i]? = some x ∧ (x == ("__debug__" : Str)) = false ∧ (x == ("__classdict__" : Str)) = false := fun _ h => by
    split at h
    · cases h
    · rename_i q
      rw [Bool.or_eq_true, not_or] at q
      exact ⟨by rw [s.N]; exact idx_at h, by simpa using q.1, by simpa using q.2⟩
  split at h
  · rename_i q
    obtain ⟨h1, h2, h3⟩ := go true h
    exact ⟨h1, .inl (by rw [s.sc]; exact q), h2, h3⟩
  · rename_i q
    obtain ⟨h1, h2, h3⟩ := go true h
    exact ⟨h1, .inr (.inl (by rw [s.sc]; exact q)), h2, h3⟩
  · rename_i q
    obtain ⟨h1, h2, h3⟩ := go true h
    exact ⟨h1, .inr (.inr (by rw [s.sc]; exact q)), h2, h3⟩
  · cases h
/-- what is known of an expression and its form -/
structure Snd (C : Cf) (cf : Nat → List Mp.D → Mp.Heap → Mp.Res Mp.D) (X : Cx) (E : XK) (e : Expr) (x : Mp.Ex) : Prop where
  pe : PE X e (tE C (WK E) (mE C cf x))
  pt : PT X e (tT C (WK E) (mE C cf x))
  pw : ∀ op vs p, e = .BoolOp op vs p → PW X e (tT C (WK E) (mE C cf x))
theorem Snd.plain (s : SX C c k X E) {e : Expr} {x : Mp.Ex} (ht : testy e = false) (h : PE X e (tE C (WK E) (mE C cf x))) : Snd C cf X E e x :=
  ⟨h, st_val s.xo.K h (plain_test ht), fun op vs p q => by subst q; cases ht⟩
/-- the translation one step further down -/
def IH (C : Cf) (k : Nat) (cf : Nat → List Mp.D → Mp.Heap → Mp.Res Mp.D) (rec : Tr) : Prop := ∀ c e x, rec c e = some x → ∀ X E, SX C c k X E → Snd C cf X E e x
variable {rec : Tr}
theorem trEs_ok (ih : IH C k cf rec) (s : SX C c k X E) : ∀ {es : List Expr} {xs : Mp.Exs}, trEs (rec c) es = some xs → PA X es (tA C (WK E) (mEs C cf xs)) ∧ es.all (fun e => !starry e) = true ∧ exLen xs = es.length
  | [], xs, h => by simp only [trEs] at h; cases h; exact ⟨PA_nil, rfl, rfl⟩
  | e :: es, xs, h => by
    simp only [trEs] at h
    split at h
    · rename_i x ys h1 h2
      split at h
      · cases h
      · rename_i ns
        cases h
        obtain ⟨a, b, d⟩ := trEs_ok ih s h2
        have ns' : starry e = false := by simpa using ns
        refine ⟨PA_cons (ih c e x h1 X E s).pe a (nostar ns' es _), ?_, by simp [exLen, d]⟩
        rw [List.all_cons, b, ns']
        rfl
    · cases h
theorem trKs_ok (ih : IH C k cf rec) (s : SX C c k X E) : ∀ {es : List Keyword} {xs : Mp.Exs}, trKs (rec c) es = some xs → PK X es (tA C (WK E) (mEs C cf xs)) ∧ exLen xs = es.length
  | [], xs, h => by simp only [trKs] at h; cases h; exact ⟨PK_nil, rfl⟩
  | ⟨n, e, p⟩ :: es, xs, h => by
    simp only [trKs] at h
    split at h
    · rename_i x ys h1 h2
      cases h
      obtain ⟨a, d⟩ := trKs_ok ih s h2
      exact ⟨PK_cons (ih c e x h1 X E s).pe a, by simp [exLen, d]⟩
    · cases h
theorem bop_eq {op : Operator} {o : Mp.BOp} (h : bopOf op = some o) : op = opOf o := by
  cases op <;> simp [bopOf] at h <;> subst h <;> rfl
theorem cmp_eq {op : CmpOp} {o : Mp.COp} (h : cmpOf op = some o) : op = copOf o := by
  cases op <;> simp [cmpOf] at h <;> subst h <;> rfl
theorem const_ok (s : SX C c k X E) {q : Const} {n : Nat} {p : Pos} {d : Mp.D} (h : constD q = some d) : PE X (.Constant q n p) (tE C (WK E) (mE C cf (.c d))) := by
  have go : ∀ v, PE X (.Constant q n p) (tC v) → (∀ ρ H, RelD C.K ρ H d v) → PE X (.Constant q n p) (tE C (WK E) (mE C cf (.c d))) := fun v h1 h2 => PE.imp' (se_const (C := C) (W := WK E) h1 h2) fun σ H Q w => w.ev fun env h => by simp only [mE, Mp.evE]
  cases q with
  | none => simp only [constD] at h; cases h; exact go .non pe_non fun ρ H => nonRel
  | bool b => simp only [constD] at h; cases h; exact go (.bl b) pe_bl fun ρ H => blRel b
  | int i => simp only [constD] at h; cases h; exact go (.int i) pe_int fun ρ H => intRel i
  | str z => simp only [constD] at h; cases h; exact go (.str z) pe_str fun ρ H => strRel z.cps.toList
  | _ => simp only [constD] at h; cases h
theorem name_ok (TO : TbOk C T) (s : SX C c k X E) {x : Str} {p : Pos} {y : Mp.Ex} (h : (match slotOf c x with
    | some i => some (Mp.Ex.v i)
    | none => if isGl c x then (T.kc x).map .c else none) = some y) : PE X (.Name x p) (tE C (WK E) (mE C cf y)) := by
  split at h
  · rename_i i hi
    cases h
    obtain ⟨h1, h2, h3, h4⟩ := s.slot hi
    exact se_var (pe_var h1 h2 h3 h4)
  · split at h
    · rename_i hg
      cases q : T.kc x with
      | none => rw [q] at h; cases h
      | some d =>
        rw [q] at h
        cases h
        obtain ⟨hd, v, u, hm, r, rd⟩ := TO.kc x d q
        refine PE.imp' (pe_glob (s.gl hg) (by rw [s.xo.mg]; exact hm) r hd) fun σ H Q w => ?_
        obtain ⟨ρ, env, h0, es, S, ev⟩ := w
        simp only [mE, Mp.evE] at ev
        exact ev.ok S (rd ρ H)
    · cases h
theorem cmp_ok (ih : IH C k cf rec) (s : SX C c k X E) {a b : Expr} {op : CmpOp} {p : Pos} {y : Mp.Ex} (h : trCmp (rec c) a op b = some y) : Snd C cf X E (.Compare a [op] [b] p) y := by
  unfold trCmp at h
  split at h
  · rename_i q
    rw [Bool.and_eq_true] at q
    cases b with
    | List es p2 =>
      cases es with
      | nil =>
        have : op = .Eq := by simpa using q.2
        subst this
        cases r : rec c a with
        | none => rw [r] at h; cases h
        | some x =>
          rw [r] at h
          cases h
          have h1 := (ih c a x r X E s).pe
          exact ⟨se_isnil s.xo.K s.u0 h1, st_isnil s.xo.K s.u0 h1, fun _ _ _ z => by cases z⟩
      | cons e es => cases q.1
    | _ => cases q.1
  · split at h
    · rename_i q
      rw [Bool.and_eq_true] at q
      cases b with
      | List es p2 =>
        cases es with
        | nil =>
          have : op = .NotEq := by simpa using q.2
          subst this
          cases r : rec c a with
          | none => rw [r] at h; cases h
          | some x =>
            rw [r] at h
            cases h
            have h1 := (ih c a x r X E s).pe
            exact ⟨se_notnil s.xo.K s.u0 h1, st_notnil s.xo.K s.u0 h1, fun _ _ _ z => by cases z⟩
        | cons e es => cases q.1
      | _ => cases q.1
    · split at h
      · rename_i o x y' ho ha hb
        split at h
        · cases h
        · rename_i hm
          cases h
          have := cmp_eq ho
          subst this
          have h1 := (ih c a x ha X E s).pe
          have h2 := (ih c b y' hb X E s).pe
          have hm' : behindInMarks (copOf o) b = false := by simpa using hm
          exact ⟨se_cmp s.xo.K s.u65 h1 h2 hm', st_cmp s.xo.K s.u65 h1 h2 hm', fun _ _ _ z => by cases z⟩
      · cases h
theorem chain_ok (ih : IH C k cf rec) (s : SX C c k X E) {a b d : Expr} {op op' : CmpOp} {p : Pos} {y : Mp.Ex} (h : (match cmpOf op, cmpOf op', rec c a, rec c b, rec c d with
    | some o, some o', some x, some y, some z => if lastMarks [op, op'] [b, d] then none else some (Mp.Ex.chain o o' x y z)
    | _, _, _, _, _ => none) = some y) : Snd C cf X E (.Compare a [op, op'] [b, d] p) y := by
  split at h
  · rename_i o o' x y' z h1 h2 h3 h4 h5
    split at h
    · cases h
    · rename_i hm
      cases h
      have e1 := cmp_eq h1
      have e2 := cmp_eq h2
      subst e1 e2
      have q1 := (ih c a x h3 X E s).pe
      have q2 := (ih c b y' h4 X E s).pe
      have q3 := (ih c d z h5 X E s).pe
      have hm' : lastMarks [copOf o, copOf o'] [b, d] = false := by simpa using hm
      exact ⟨se_chain s.xo.K s.u65 q1 q2 q3 hm', st_chain s.xo.K s.u65 q1 q2 q3 hm', fun _ _ _ z => by cases z⟩
  · cases h
theorem bool1_ok (ih : IH C k cf rec) (s : SX C c k X E) {op : BoolOp} {a : Expr} {p : Pos} {y : Mp.Ex} (h : rec c a = some y) : Snd C cf X E (.BoolOp op [a] p) y := by
  have q := ih c a y h X E s
  have pw := sw_one (op := op) (pos := p) q.pt
  exact ⟨se_one q.pe, pw.pt, fun _ _ _ _ => pw⟩
theorem bool2_ok (ih : IH C k cf rec) (s : SX C c k X E) {op : BoolOp} {a b : Expr} {r : List Expr} {p : Pos} {y : Mp.Ex} (h : (match rec c a, rec c (.BoolOp op (b :: r) p) with
    | some x, some y => some (match op with
      | .And => Mp.Ex.and x y
      | .Or => .or x y)
    | _, _ => none) = some y) : Snd C cf X E (.BoolOp op (a :: b :: r) p) y := by
  split at h
  · rename_i x y' h1 h2
    have q1 := ih c a x h1 X E s
    have q2 := ih c _ y' h2 X E s
    cases op with
    | And =>
      cases h
      have pw := sw_and q1.pt (q2.pw _ _ _ rfl)
      exact ⟨se_and s.xo.K q1.pe q2.pe, pw.pt, fun _ _ _ _ => pw⟩
    | Or =>
      cases h
      have pw := sw_or q1.pt (q2.pw _ _ _ rfl)
      exact ⟨se_or s.xo.K q1.pe q2.pe, pw.pt, fun _ _ _ _ => pw⟩
  · cases h
/-- a if t else b, as a test -/
theorem st_ite {W : WX} {t a b : Expr} {ec ea eb : Mp.Ex} {p : Pos} (hc : PT X t (tT C W (mE C cf ec))) (ha : PT X a (tT C W (mE C cf ea))) (hb : PT X b (tT C W (mE C cf eb))) : PT X (.IfExp t a b p) (tT C W (mE C cf (.ite ec ea eb))) := by
  refine ⟨fun pins s σ H Q I w => ?_⟩
  obtain ⟨ρ, env, h0, es, S, ev⟩ := w
  simp only [mE, Mp.evE, bind_assoc] at ev
  rw [arm_isTrue_IfExp]
  refine wpAny_bind (thn (hc.run pins s σ H (fun d H1 => if d = true then tT C W (mE C cf ea) σ H1 Q else tT C W (mE C cf eb) σ H1 Q) I ⟨ρ, env, h0, es, S, ?_⟩) fun d s1 ⟨H1, I1, q⟩ => ?_)
  · show EvG C W σ RB ((Mp.evE C.pg cf ec env h0).bind fun d h => Mp.opt (Mp.truth h d) h) ρ H _
    cases q : Mp.evE C.pg cf ec env h0 with
    | stk => rw [q] at ev; exact ev.elim
    | err c fs h' => rw [q] at ev; exact ev
    | ok d h1 =>
      rw [q] at ev
      simp only [Mp.Res.bind] at ev ⊢
      cases q1 : Mp.truth h1 d with
      | none => simp only [q1] at ev; exact ev.elim
      | some t =>
        simp only [q1] at ev
        intro ρ1 H1 b' l1 k1 S1 eb'
        have eb' : t = b' := eb'
        subst eb'
        cases t with
        | true => rw [if_pos rfl]; exact ⟨ρ1, env, h1, es.mono l1 k1, S1, EvG.weak l1 k1 ev⟩
        | false => rw [if_neg Bool.false_ne_true]; exact ⟨ρ1, env, h1, es.mono l1 k1, S1, EvG.weak l1 k1 ev⟩
  · cases d with
    | true => rw [if_pos rfl] at q ⊢; exact ha.run pins s1 σ H1 Q I1 q
    | false => rw [if_neg Bool.false_ne_true] at q ⊢; exact hb.run pins s1 σ H1 Q I1 q
theorem ite_ok (ih : IH C k cf rec) (s : SX C c k X E) {t a b : Expr} {p : Pos} {y : Mp.Ex} (h : (match rec c t, rec c a, rec c b with
    | some x, some y, some z => some (Mp.Ex.ite x y z)
    | _, _, _ => none) = some y) : Snd C cf X E (.IfExp t a b p) y := by
  split at h
  · rename_i x y' z h1 h2 h3
    cases h
    have q1 := ih c t x h1 X E s
    have q2 := ih c a y' h2 X E s
    have q3 := ih c b z h3 X E s
    exact ⟨se_ite q1.pt q2.pe q3.pe, st_ite q1.pt q2.pt q3.pt, fun _ _ _ z => by cases z⟩
  · cases h
theorem part_tr (ih : IH C k cf rec) (s : SX C c k X E) {o : Option Expr} {xs : Mp.Exs} (h : trPart (rec c) o = some xs) : PartOk X C (WK E) cf o xs := by
  cases o with
  | none => simp only [trPart] at h; cases h; exact .inl ⟨rfl, rfl⟩
  | some e =>
    simp only [trPart] at h
    cases q : rec c e with
    | none => rw [q] at h; cases h
    | some x => rw [q] at h; cases h; exact .inr ⟨e, x, rfl, rfl, (ih c e x q X E s).pe⟩
/-! ### targets, walks -/
theorem trT_ok (TA : Tab C) (TO : TbOk C T) (ih : IH C k cf rec) (s : SX C c k X E) {e : Expr} {t : Mp.Tg} {vs : List Nat} (h : trT (rec c) T c e = some (t, vs)) : PG X e (tG C (mT C cf t) vs) := by
  cases e with
  | Name x p =>
    simp only [trT] at h
    split at h
    · rename_i i hi
      split at h
      · rename_i hs
        cases h
        obtain ⟨h1, h2⟩ := s.st x hs
        exact sg_name s.xo.nd (by rw [s.N]; exact idx_at hi) h1 h2
      · cases h
    · cases h
  | Attribute o m p =>
    simp only [trT] at h
    split at h
    · rename_i x i h1 h2
      cases h
      have := TO.am m i h2
      subst this
      exact sg_attr TA s.xo.K (ih c o x h1 X E s).pe
    · cases h
  | Subscript o i p =>
    simp only [trT] at h
    split at h
    · rename_i x y h1 h2
      split at h
      · cases h
      · rename_i hs
        cases h
        refine sg_idx s.u1 (ih c o x h1 X E s).pe (ih c i y h2 X E s).pe fun v => ?_
        cases i with
        | Slice a b d p => exact absurd rfl hs
        | _ => rfl
    · cases h
  | _ => simp only [trT] at h; cases h
theorem trTs_ok (TA : Tab C) (TO : TbOk C T) (ih : IH C k cf rec) (s : SX C c k X E) : ∀ {es : List Expr} {ts : Mp.Tgs} {vs : List Nat}, trTs (rec c) T c es = some (ts, vs) → PGs X es (tGs C (mTs C cf ts) vs) ∧ es.all (fun e => !starry e) = true ∧ es.length = tgLen ts
  | [], ts, vs, h => by simp only [trTs] at h; cases h; exact ⟨sgs_nil, rfl, rfl⟩
  | e :: es, ts, vs, h => by
    simp only [trTs] at h
    split at h
    · rename_i t us ts' ws h1 h2
      split at h
      · cases h
      · rename_i ns
        cases h
        obtain ⟨a, b, d⟩ := trTs_ok TA TO ih s h2
        have ns' : starry e = false := by simpa using ns
        refine ⟨sgs_cons (trT_ok TA TO ih s h1) a ?_, ?_, by simp [tgLen, d]⟩
        · rw [nostarT ns' es X.env]
          rfl
        · rw [List.all_cons, b, ns']
          rfl
    · cases h
theorem trTg_ok (TA : Tab C) (TO : TbOk C T) (ih : IH C k cf rec) (s : SX C c k X E) {e : Expr} {t : Mp.Tg} {vs : List Nat} (h : trTg (rec c) T c e = some (t, vs)) : PG X e (tG C (mT C cf t) vs) := by
  cases e with
  | Tuple es n p =>
    simp only [trTg] at h
    cases q : trTs (rec c) T c es with
    | none => rw [q] at h; cases h
    | some r =>
      obtain ⟨ts, ws⟩ := r
      rw [q] at h
      cases h
      obtain ⟨a, b, d⟩ := trTs_ok TA TO ih s q
      exact sg_tup s.xo.K s.xo.calm a (nostarsT b) d
  | _ => exact trT_ok TA TO ih s h
end
end MpS
end
section
set_option Elab.async false
set_option linter.all false
set_option maxRecDepth 100000
set_option maxHeartbeats 4000000
namespace MpS
open PySem L2
section
variable {C : Cf} {T : Tb} {k : Nat} {cf : Nat → List Mp.D → Mp.Heap → Mp.Res Mp.D} {c : Ctx} {X : Cx} {E : XK} {rec : Tr}
theorem fold_plain {e : Expr} (h : ∀ es n p, e ≠ .Set es n p) (env : PySem.Env) : ∀ x, foldedSetIterable e env x = pure x := by
  intro x
  cases e with
  | Set es n p => exact absurd rfl (h es n p)
  | _ => rfl
/-- the walk's fact, and that it is no set display -/
def WalkOk (C : Cf) (cf : Nat → List Mp.D → Mp.Heap → Mp.Res Mp.D) (X : Cx) (E : XK) (tg e : Expr) (it : Mp.It) : Prop := PI X tg e (tI C (WK E) (mI C cf it)) ∧ ∀ es n p, e ≠ .Set es n p
theorem walk_e (ih : IH C k cf rec) (s : SX C c k X E) {tg e : Expr} {it : Mp.It} (hn : ∀ es n p, e ≠ .Set es n p) (h : (rec c e).map Mp.It.e = some it) : WalkOk C cf X E tg e it := by
  cases q : rec c e with
  | none => rw [q] at h; cases h
  | some x => rw [q] at h; cases h; exact ⟨si_e s.xo.K (ih c e x q X E s).pe, hn⟩
theorem walk_p (ih : IH C k cf rec) (s : SX C c k X E) {tg e : Expr} {it : Mp.It} (hn : ∀ es n p, e ≠ .Set es n p) (h : (rec c e).map Mp.It.path = some it) : WalkOk C cf X E tg e it := by
  cases q : rec c e with
  | none => rw [q] at h; cases h
  | some x => rw [q] at h; cases h; exact ⟨si_path s.xo.K (ih c e x q X E s).pe, hn⟩
theorem tup_of {tg : Expr} (h : tupTg tg = true) : ∃ es n p, tg = .Tuple es n p := by
  cases tg with
  | Tuple es n p => exact ⟨es, n, p, rfl⟩
  | _ => cases h
theorem trI_call1 (TO : TbOk C T) (ih : IH C k cf rec) (s : SX C c k X E) {tg : Expr} {x : Str} {p q : Pos} {e : Expr} {it : Mp.It} (h : trI (rec c) T c tg (.Call (.Name x p) [e] [] q) = some it) : WalkOk C cf X E tg (.Call (.Name x p) [e] [] q) it := by
  have hn : ∀ es n p', (Expr.Call (.Name x p) [e] [] q) ≠ .Set es n p' := fun _ _ _ z => by cases z
  simp only [trI] at h
  split at h
  · rename_i hc
    simp only [Bool.and_eq_true, beq_iff_eq] at hc
    obtain ⟨⟨rfl, hg⟩, hb⟩ := hc
    split at h
    · cases h
    · rename_i ns
      have ns' : starry e = false := by simpa using ns
      cases q : rec c e with
      | none => rw [q] at h; cases h
      | some x => rw [q] at h; cases h; exact ⟨si_rng (s.gl hg) (s.blt TO hb) (ih c e x q X E s).pe (nostar ns'), hn⟩
  · split at h
    · rename_i hc
      simp only [Bool.and_eq_true, beq_iff_eq] at hc
      obtain ⟨⟨rfl, hg⟩, hb⟩ := hc
      split at h
      · cases h
      · rename_i ns
        rw [Bool.or_eq_true, not_or] at ns
        have ns' : starry e = false := by simpa using ns.1
        obtain ⟨es, n, p', rfl⟩ := tup_of (tg := tg) (by simpa using ns.2)
        cases q : rec c e with
        | none => rw [q] at h; cases h
        | some x => rw [q] at h; cases h; exact ⟨si_enum s.xo.K (s.gl hg) (s.blt TO hb) (ih c e x q X E s).pe (nostar ns'), hn⟩
    · exact walk_e ih s hn h
theorem trI_call2 (TO : TbOk C T) (ih : IH C k cf rec) (s : SX C c k X E) {tg : Expr} {x : Str} {p q : Pos} {e b : Expr} {it : Mp.It} (h : trI (rec c) T c tg (.Call (.Name x p) [e, b] [] q) = some it) : WalkOk C cf X E tg (.Call (.Name x p) [e, b] [] q) it := by
  have hn : ∀ es n p', (Expr.Call (.Name x p) [e, b] [] q) ≠ .Set es n p' := fun _ _ _ z => by cases z
  simp only [trI] at h
  split at h
  · rename_i hc
    simp only [Bool.and_eq_true, beq_iff_eq] at hc
    obtain ⟨⟨rfl, hg⟩, hb⟩ := hc
    split at h
    · cases h
    · rename_i ns
      rw [Bool.or_eq_true, not_or] at ns
      have n1 : starry e = false := by simpa using ns.1
      have n2 : starry b = false := by simpa using ns.2
      split at h
      · rename_i y z h1 h2
        cases h
        exact ⟨si_rng2 (s.gl hg) (s.blt TO hb) (ih c e y h1 X E s).pe (ih c b z h2 X E s).pe (nostar n1) (nostar n2), hn⟩
      · cases h
  · split at h
    · rename_i hc
      simp only [Bool.and_eq_true, beq_iff_eq] at hc
      obtain ⟨⟨rfl, hg⟩, hb⟩ := hc
      split at h
      · cases h
      · rename_i ns
        rw [Bool.or_eq_true, not_or, Bool.or_eq_true, not_or] at ns
        have n1 : starry e = false := by simpa using ns.1.1
        have n2 : starry b = false := by simpa using ns.1.2
        obtain ⟨es, n, p', rfl⟩ := tup_of (tg := tg) (by simpa using ns.2)
        split at h
        · rename_i y z h1 h2
          cases h
          exact ⟨si_zip s.xo.K (s.gl hg) (s.blt TO hb) (ih c e y h1 X E s).pe (ih c b z h2 X E s).pe (nostar n1) (nostar n2), hn⟩
        · cases h
    · exact walk_e ih s hn h
theorem trI_items (ih : IH C k cf rec) (s : SX C c k X E) {tg : Expr} {m : Str} {ap q : Pos} {o : Expr} {it : Mp.It} (h : trI (rec c) T c tg (.Call (.Attribute o m ap) [] [] q) = some it) : WalkOk C cf X E tg (.Call (.Attribute o m ap) [] [] q) it := by
  have hn : ∀ es n p', (Expr.Call (.Attribute o m ap) [] [] q) ≠ .Set es n p' := fun _ _ _ z => by cases z
  simp only [trI] at h
  split at h
  · rename_i hc
    simp only [Bool.and_eq_true] at hc
    obtain ⟨⟨⟨hm, ht⟩, hs⟩, hl⟩ := hc
    have hm : m = "items" := by simpa using hm
    subst hm
    obtain ⟨es, n, p', rfl⟩ := tup_of ht
    cases q : rec c o with
    | none => rw [q] at h; cases h
    | some x => rw [q] at h; cases h; exact ⟨si_items (ih c o x q X E s).pe (abase hs) hl, hn⟩
  · exact walk_e ih s hn h
theorem trI_ok (TO : TbOk C T) (ih : IH C k cf rec) (s : SX C c k X E) {tg e : Expr} {it : Mp.It} (h : trI (rec c) T c tg e = some it) : WalkOk C cf X E tg e it := by
  have els : ∀ {e : Expr}, (∀ es n p, e ≠ .Set es n p) → (if isPath e then (rec c e).map Mp.It.path else (rec c e).map .e) = some it → WalkOk C cf X E tg e it := fun hn h => by
    split at h
    · exact walk_p ih s hn h
    · exact walk_e ih s hn h
  have dflt : ∀ {e : Expr}, (∀ es n p, e ≠ .Set es n p) → isPath e = false → (rec c e).map Mp.It.e = some it → WalkOk C cf X E tg e it := fun hn _ h => walk_e ih s hn h
  cases e with
  | Call f es kws q =>
    cases f with
    | Name x p =>
      cases kws with
      | nil =>
        match es, h with
        | [], h => exact walk_e ih s (fun _ _ _ z => by cases z) h
        | [e], h => exact trI_call1 TO ih s h
        | [e, b], h => exact trI_call2 TO ih s h
        | _ :: _ :: _ :: _, h => exact walk_e ih s (fun _ _ _ z => by cases z) h
      | cons kw kws =>
        match es, h with
        | [], h => exact walk_e ih s (fun _ _ _ z => by cases z) h
        | [e], h => exact walk_e ih s (fun _ _ _ z => by cases z) h
        | [e, b], h => exact walk_e ih s (fun _ _ _ z => by cases z) h
        | _ :: _ :: _ :: _, h => exact walk_e ih s (fun _ _ _ z => by cases z) h
    | Attribute o m ap =>
      cases es with
      | nil =>
        cases kws with
        | nil => exact trI_items ih s h
        | cons kw kws => exact walk_e ih s (fun _ _ _ z => by cases z) h
      | cons e es => exact walk_e ih s (fun _ _ _ z => by cases z) h
    | _ => exact walk_e ih s (fun _ _ _ z => by cases z) h
  | Name x p => exact walk_p ih s (fun _ _ _ z => by cases z) h
  | Attribute o m p => exact walk_p ih s (fun _ _ _ z => by cases z) h
  | Subscript o m p => exact walk_p ih s (fun _ _ _ z => by cases z) h
  | Set es n p => simp only [trI, isPath] at h; cases h
  | _ => exact walk_e ih s (fun _ _ _ z => by cases z) h
/-! ### comprehensions -/
theorem SX.blk (s : SX C c k X E) {scope : Scope} (sh : Shared) (H : Hp) (Z : Addr) (cl : List (Str × Addr)) (fp : List Addr) : SX C (blkCtx c scope) k (X.blk sh H scope (compEnvC scope cl Z X.env) fp) (fun _ _ _ => False) := by
  refine ⟨⟨s.xo.P, s.xo.w, s.xo.K, s.xo.mg, s.xo.base, s.xo.calm, s.xo.nd⟩, s.N, ?_, fun x hx => ?_, s.room, fun pins σ H s e s' I cx => ?_, fun z => by cases z⟩
  · show relS scope X.env.scope = relS scope c.sc
    rw [s.sc]
  · have hx : (scope.names.lookup x == some .local || scope.names.lookup x == some .cell) = true := hx
    rw [Bool.or_eq_true] at hx
    rcases hx with hx | hx
    · have e : scope.names.lookup x = some .local := by simpa using hx
      have e2 : (relS scope X.env.scope).names.lookup x = some .local := lookup_relS_keep (by decide) e
      exact ⟨.inl e2, .inr e2⟩
    · have e : scope.names.lookup x = some .cell := by simpa using hx
      have e2 : (relS scope X.env.scope).names.lookup x = some .cell := lookup_relS_keep (by decide) e
      exact ⟨.inr e2, .inl hx⟩
  · obtain ⟨a, B, H', cls, d, _, _, _, _, _, _, _, f⟩ := cx
    exact f.elim
theorem trIfs_ok (ih : IH C k cf rec) (s : SX C c k X E) {es : List Expr} {xs : Mp.Exs} (h : trIfs (rec c) es = some xs) : PTs X es (tTs C (WK E) (mBs C cf xs)) := by
  match es, h with
  | [], h => simp only [trIfs] at h; cases h; exact sts_nil
  | [e], h =>
    simp only [trIfs] at h
    cases q : rec c e with
    | none => rw [q] at h; cases h
    | some x => rw [q] at h; cases h; exact sts_one (ih c e x q X E s).pt
  | _ :: _ :: _, h => simp only [trIfs] at h; cases h
/-- what is known of a clause -/
structure ClOk (C : Cf) (cf : Nat → List Mp.D → Mp.Heap → Mp.Res Mp.D) (Xi : Cx) (Ei : XK) (Xo : Cx) (Eo : XK) (g : Comprehension) (r : Cl1) : Prop where
  tg : PG Xi g.target (tG C (mT C cf r.t) r.vs)
  it : WalkOk C cf Xo Eo g.target g.iter r.it
  fs : PTs Xi g.ifs (tTs C (WK Ei) (mBs C cf r.fs))
  as : g.is_async = 0
theorem trCl_ok (TA : Tab C) (TO : TbOk C T) (ih : IH C k cf rec) {ci co : Ctx} {Xi Xo : Cx} {Ei Eo : XK} (si : SX C ci k Xi Ei) (so : SX C co k Xo Eo) {g : Comprehension} {r : Cl1} (h : trCl (rec ci) ci (rec co) co T g = some r) : ClOk C cf Xi Ei Xo Eo g r := by
  unfold trCl at h
  split at h
  · rename_i t vs it fs h1 h2 h3
    split at h
    · rename_i ha
      cases h
      exact ⟨trTg_ok TA TO ih si h1, trI_ok TO ih so h2, trIfs_ok ih si h3, by simpa using ha⟩
    · cases h
  · cases h
theorem comp1_ok (TA : Tab C) (TO : TbOk C T) (ih : IH C k cf rec) (s : SX C c k X E) {scope : Scope} {g : Comprehension} {r : Cl1} (h : comp1 rec T c scope g = some r) :
    (∀ sh H Z cl fp, ClOk C cf (X.blk sh H scope (compEnvC scope cl Z X.env) fp) (fun _ _ _ => False) X E g r) ∧ BlkOk X.N X.env.scope scope (ownOf c scope) ∧ ∀ i ∈ r.vs, i ∈ (ownOf c scope).map (·.2) := by
  unfold comp1 at h
  split at h
  · rename_i r' h1
    split at h
    · rename_i hc
      cases h
      rw [Bool.and_eq_true, List.all_eq_true] at hc
      exact ⟨fun sh H Z cl fp => trCl_ok TA TO ih (s.blk sh H Z cl fp) s h1, by rw [s.N, s.sc]; exact blkOk_by hc.1, fun i hi => by simpa using hc.2 i hi⟩
    · cases h
  · cases h
theorem comp2_ok (TA : Tab C) (TO : TbOk C T) (ih : IH C k cf rec) (s : SX C c k X E) {scope : Scope} {g : Comprehension} {r : Cl1} (h : comp2 rec T c scope g = some r) :
    (∀ sh H Z cl fp, ClOk C cf (X.blk sh H scope (compEnvC scope cl Z X.env) fp) (fun _ _ _ => False) (X.blk sh H scope (compEnvC scope cl Z X.env) fp) (fun _ _ _ => False) g r) ∧ ∀ i ∈ r.vs, i ∈ (ownOf c scope).map (·.2) := by
  unfold comp2 at h
  split at h
  · rename_i r' h1
    split at h
    · rename_i hc
      cases h
      rw [List.all_eq_true] at hc
      exact ⟨fun sh H Z cl fp => trCl_ok TA TO ih (s.blk sh H Z cl fp) (s.blk sh H Z cl fp) h1, fun i hi => by simpa using hc i hi⟩
    · cases h
  · cases h
theorem sh0 : Nonempty Shared := ⟨{}⟩
theorem lc1_ok (TA : Tab C) (TO : TbOk C T) (ih : IH C k cf rec) (s : SX C c k X E) {elt : Expr} {g : Comprehension} {scope : Scope} {p : Pos} {y : Mp.Ex} (h : (match comp1 rec T c scope g, rec (blkCtx c scope) elt with
    | some k, some x => some (Mp.Ex.comp x ((ownOf c scope).map (·.2)) k.t k.it k.fs)
    | _, _ => none) = some y) : PE X (.ListComp elt [g] scope p) (tE C (WK E) (mE C cf y)) := by
  split at h
  · rename_i r x h1 h2
    cases h
    obtain ⟨a, b, d⟩ := comp1_ok TA TO ih s h1
    obtain ⟨tg, iter, ifs, as⟩ := g
    obtain ⟨sh⟩ := sh0
    have a0 := a sh (fun _ => none) 0 [] []
    have as0 : as = 0 := a0.as
    subst as0
    exact se_comp s.xo.calm s.xo.nd a0.it.1 b d (fun sh H Z cl fp => (a sh H Z cl fp).tg) (fun sh H Z cl fp => (a sh H Z cl fp).fs) (fun sh H Z cl fp => (ih _ elt x h2 _ _ (s.blk sh H Z cl fp)).pe) (fold_plain a0.it.2 _)
  · cases h
theorem lc2_ok (TA : Tab C) (TO : TbOk C T) (ih : IH C k cf rec) (s : SX C c k X E) {elt : Expr} {g g2 : Comprehension} {scope : Scope} {p : Pos} {y : Mp.Ex} (h : (match comp1 rec T c scope g, comp2 rec T c scope g2, rec (blkCtx c scope) elt with
    | some k, some r, some x => some (Mp.Ex.comp2 x ((ownOf c scope).map (·.2)) r.vs k.t k.it k.fs r.t r.it r.fs)
    | _, _, _ => none) = some y) : PE X (.ListComp elt [g, g2] scope p) (tE C (WK E) (mE C cf y)) := by
  split at h
  · rename_i r r2 x h1 h2 h3
    cases h
    obtain ⟨a, b, d⟩ := comp1_ok TA TO ih s h1
    obtain ⟨a2, d2⟩ := comp2_ok TA TO ih s h2
    obtain ⟨tg, iter, ifs, as⟩ := g
    obtain ⟨tg2, iter2, ifs2, as2⟩ := g2
    obtain ⟨sh⟩ := sh0
    have a0 := a sh (fun _ => none) 0 [] []
    have b0 := a2 sh (fun _ => none) 0 [] []
    have as0 : as = 0 := a0.as
    have as2' : as2 = 0 := b0.as
    subst as0 as2'
    exact se_comp2 s.xo.calm s.xo.nd a0.it.1 b d (fun i hi => hi) d2 (fun sh H Z cl fp => (a sh H Z cl fp).tg) (fun sh H Z cl fp => (a sh H Z cl fp).fs) (fun sh H Z cl fp => (a2 sh H Z cl fp).it.1) (fun sh H Z cl fp => (a2 sh H Z cl fp).tg) (fun sh H Z cl fp => (a2 sh H Z cl fp).fs) (fun sh H Z cl fp => (ih _ elt x h3 _ _ (s.blk sh H Z cl fp)).pe) (fold_plain a0.it.2 _) (fun env => fold_plain b0.it.2 env)
  · cases h
theorem dc_ok (TA : Tab C) (TO : TbOk C T) (ih : IH C k cf rec) (s : SX C c k X E) {kx vx : Expr} {g : Comprehension} {scope : Scope} {p : Pos} {y : Mp.Ex} (h : (match comp1 rec T c scope g, rec (blkCtx c scope) kx, rec (blkCtx c scope) vx with
    | some k, some x, some y => some (Mp.Ex.dcomp x y ((ownOf c scope).map (·.2)) k.t k.it k.fs)
    | _, _, _ => none) = some y) : PE X (.DictComp kx vx [g] scope p) (tE C (WK E) (mE C cf y)) := by
  split at h
  · rename_i r x z h1 h2 h3
    cases h
    obtain ⟨a, b, d⟩ := comp1_ok TA TO ih s h1
    obtain ⟨tg, iter, ifs, as⟩ := g
    obtain ⟨sh⟩ := sh0
    have a0 := a sh (fun _ => none) 0 [] []
    have as0 : as = 0 := a0.as
    subst as0
    exact se_dcomp s.xo.calm s.xo.nd a0.it.1 b d (fun sh H Z cl fp => (a sh H Z cl fp).tg) (fun sh H Z cl fp => (a sh H Z cl fp).fs) (fun sh H Z cl fp => (ih _ kx x h2 _ _ (s.blk sh H Z cl fp)).pe) (fun sh H Z cl fp => (ih _ vx z h3 _ _ (s.blk sh H Z cl fp)).pe) (fold_plain a0.it.2 _)
  · cases h
end
end MpS
end
section
set_option Elab.async false
set_option linter.all false
set_option maxRecDepth 100000
set_option maxHeartbeats 4000000
namespace MpS
open PySem L2
section
variable {C : Cf} {T : Tb} {k : Nat} {cf : Nat → List Mp.D → Mp.Heap → Mp.Res Mp.D} {c : Ctx} {X : Cx} {E : XK} {rec : Tr}
/-! ### calls -/
theorem ite_or {α : Type} {b : Bool} {a v : α} {r : Option α} (h : (if b = true then some a else r) = some v) : (b = true ∧ a = v) ∨ (b = false ∧ r = some v) := by
  cases b with
  | true => rw [if_pos rfl] at h; cases h; exact .inl ⟨rfl, rfl⟩
  | false => rw [if_neg Bool.false_ne_true] at h; exact .inr ⟨rfl, h⟩
theorem biOf_ok (s : SX C c k X E) {x : Str} {n : Nat} {b : Mp.Bi} (h : biOf x n = some b) :
    ((∃ id, CallR X (.builtin id) (rF C (Mp.biop b)) ∧ bootBuiltins x = some (.builtin id)) ∨ ∃ id, CallR X (.type id) (rF C (Mp.biop b)) ∧ bootBuiltins x = some (.type id)) ∧ x ≠ "__name__" ∧ (x == ("__debug__" : Str)) = false := by
  have hK := s.xo.K
  have hc := s.xo.calm
  unfold biOf at h
  have nm : ∀ {a : Str} {m : Nat}, (x == a && n == m) = true → x = a := fun h => by
    rw [Bool.and_eq_true] at h
    simpa using h.1
  rcases ite_or h with ⟨q, rfl⟩ | ⟨_, h⟩
  · have := nm q; subst this; exact ⟨.inl ⟨_, so_abs, by decide +kernel⟩, by decide +kernel, by decide +kernel⟩
  rcases ite_or h with ⟨q, rfl⟩ | ⟨_, h⟩
  · have := nm q; subst this; exact ⟨.inr ⟨_, so_int, by decide +kernel⟩, by decide +kernel, by decide +kernel⟩
  rcases ite_or h with ⟨q, rfl⟩ | ⟨_, h⟩
  · have := nm q; subst this; exact ⟨.inl ⟨_, so_len hK, by decide +kernel⟩, by decide +kernel, by decide +kernel⟩
  rcases ite_or h with ⟨q, rfl⟩ | ⟨_, h⟩
  · have := nm q; subst this; exact ⟨.inl ⟨_, so_min2 hc, by decide +kernel⟩, by decide +kernel, by decide +kernel⟩
  rcases ite_or h with ⟨q, rfl⟩ | ⟨_, h⟩
  · have := nm q; subst this; exact ⟨.inl ⟨_, so_max2 hc, by decide +kernel⟩, by decide +kernel, by decide +kernel⟩
  rcases ite_or h with ⟨q, rfl⟩ | ⟨_, h⟩
  · have := nm q; subst this; exact ⟨.inr ⟨_, so_tuple hK, by decide +kernel⟩, by decide +kernel, by decide +kernel⟩
  rcases ite_or h with ⟨q, rfl⟩ | ⟨_, h⟩
  · have := nm q; subst this; exact ⟨.inr ⟨_, so_list hK hc, by decide +kernel⟩, by decide +kernel, by decide +kernel⟩
  rcases ite_or h with ⟨q, rfl⟩ | ⟨_, h⟩
  · have := nm q; subst this; exact ⟨.inl ⟨_, so_sum hK hc, by decide +kernel⟩, by decide +kernel, by decide +kernel⟩
  rcases ite_or h with ⟨q, rfl⟩ | ⟨_, h⟩
  · have := nm q; subst this; exact ⟨.inl ⟨_, so_sorted hK hc, by decide +kernel⟩, by decide +kernel, by decide +kernel⟩
  rcases ite_or h with ⟨q, rfl⟩ | ⟨_, h⟩
  · have := nm q; subst this; exact ⟨.inr ⟨_, so_dict hK hc, by decide +kernel⟩, by decide +kernel, by decide +kernel⟩
  rcases ite_or h with ⟨q, rfl⟩ | ⟨_, h⟩
  · have := nm q; subst this; exact ⟨.inl ⟨_, so_all1 hK hc, by decide +kernel⟩, by decide +kernel, by decide +kernel⟩
  rcases ite_or h with ⟨q, rfl⟩ | ⟨_, h⟩
  · have := nm q; subst this; exact ⟨.inl ⟨_, so_any1 hK hc, by decide +kernel⟩, by decide +kernel, by decide +kernel⟩
  rcases ite_or h with ⟨q, rfl⟩ | ⟨_, h⟩
  · have := nm q; subst this; exact ⟨.inl ⟨_, so_max1 hK hc, by decide +kernel⟩, by decide +kernel, by decide +kernel⟩
  rcases ite_or h with ⟨q, rfl⟩ | ⟨_, h⟩
  · have := nm q; subst this; exact ⟨.inl ⟨_, so_min1 hK hc, by decide +kernel⟩, by decide +kernel, by decide +kernel⟩
  cases h
theorem bi_ok (TO : TbOk C T) (ih : IH C k cf rec) (s : SX C c k X E) {x : Str} {n : Nat} {b : Mp.Bi} {e : Expr} {es : List Expr} {xs : Mp.Exs} {p q : Pos} (h : biOf x n = some b) (hs : trEs (rec c) (e :: es) = some xs) (hg : isGl c x = true) (hn : T.nb x = true) : PE X (.Call (.Name x p) (e :: es) [] q) (tE C (WK E) (mE C cf (.bi b xs))) := by
  obtain ⟨r, h1, h2⟩ := biOf_ok s h
  obtain ⟨a, ns, _⟩ := trEs_ok ih s hs
  rcases r with ⟨id, r, hv⟩ | ⟨id, r, hv⟩
  · exact se_biB r (s.gl hg) (s.blt TO hn) hv a h1 h2 (nostars ns)
  · exact se_biT r (s.gl hg) (s.blt TO hn) hv a h1 h2 (nostars ns)
theorem tyOf_ok (TO : TbOk C T) (s : SX C c k X E) {e : Expr} {t : Mp.Ty} (h : tyOf T c e = some t) : ∃ v, PE X e (tC v) ∧ ClsV v (tyV' C t) := by
  cases e with
  | Name x p =>
    simp only [tyOf] at h
    split at h
    · rename_i hg
      split at h
      · rename_i q hq
        cases h
        obtain ⟨h1, h2, _⟩ := TO.cl x q hq
        exact ⟨.ref (C.ca q), pe_glob (s.gl hg) (by rw [s.xo.mg]; exact h1) rfl h2, .own _⟩
      · split at h
        · rename_i hn
          have go : ∀ (nm : String), x = Str.ofString nm → bootBuiltins (Str.ofString nm) = some (.type nm) → (Str.ofString nm) ≠ "__name__" → ((Str.ofString nm) == ("__debug__" : Str)) = false → PE X (.Name x p) (tC (.ty nm)) := fun nm e h1 h2 h3 => by
            subst e
            exact pe_bltn (s.gl hg) (s.blt TO hn) h1 rfl h2 h3
          rcases ite_or h with ⟨q, rfl⟩ | ⟨_, h⟩
          · exact ⟨.ty "int", go "int" (by simpa using q) (by decide +kernel) (by decide +kernel) (by decide +kernel), .ty _⟩
          rcases ite_or h with ⟨q, rfl⟩ | ⟨_, h⟩
          · exact ⟨.ty "bool", go "bool" (by simpa using q) (by decide +kernel) (by decide +kernel) (by decide +kernel), .ty _⟩
          rcases ite_or h with ⟨q, rfl⟩ | ⟨_, h⟩
          · exact ⟨.ty "str", go "str" (by simpa using q) (by decide +kernel) (by decide +kernel) (by decide +kernel), .ty _⟩
          rcases ite_or h with ⟨q, rfl⟩ | ⟨_, h⟩
          · exact ⟨.ty "tuple", go "tuple" (by simpa using q) (by decide +kernel) (by decide +kernel) (by decide +kernel), .ty _⟩
          rcases ite_or h with ⟨q, rfl⟩ | ⟨_, h⟩
          · exact ⟨.ty "list", go "list" (by simpa using q) (by decide +kernel) (by decide +kernel) (by decide +kernel), .ty _⟩
          rcases ite_or h with ⟨q, rfl⟩ | ⟨_, h⟩
          · exact ⟨.ty "dict", go "dict" (by simpa using q) (by decide +kernel) (by decide +kernel) (by decide +kernel), .ty _⟩
          cases h
        · cases h
    · cases h
  | _ => simp only [tyOf] at h; cases h
theorem tyOf_star {e : Expr} {t : Mp.Ty} (h : tyOf T c e = some t) : starry e = false := by
  cases e with
  | Starred e p => simp only [tyOf] at h; cases h
  | _ => rfl
theorem tysOf_ok (TO : TbOk C T) (s : SX C c k X E) : ∀ {es : List Expr} {ts : List Mp.Ty}, tysOf T c es = some ts → ∃ vs, ClsEs C X es ts vs
  | [], ts, h => by simp only [tysOf] at h; cases h; exact ⟨[], .nil⟩
  | e :: es, ts, h => by
    simp only [tysOf] at h
    split at h
    · rename_i t ts' h1 h2
      cases h
      obtain ⟨vs, a⟩ := tysOf_ok TO s h2
      obtain ⟨v, b, d⟩ := tyOf_ok TO s h1
      exact ⟨v :: vs, .cons b d (nostar (tyOf_star h1)) a⟩
    · cases h
theorem pak_tr (ih : IH C k cf rec) (s : SX C c k X E) {es : List Expr} {kws : List Keyword} {xs ys : Mp.Exs} {ks : List Str} (h1 : trEs (rec c) es = some xs) (h2 : trKs (rec c) kws = some ys) (h3 : kwNames kws = some ks) : PAK X es kws ks (tArgs C (WK E) cf xs ys) := by
  obtain ⟨a, ns, l1⟩ := trEs_ok ih s h1
  obtain ⟨b, l2⟩ := trKs_ok ih s h2
  exact pak_of s.xo (nostars ns) h3 a b l1 l2
theorem isi_ok (TA : Tab C) (TO : TbOk C T) (ih : IH C k cf rec) (s : SX C c k X E) {a b : Expr} {p q : Pos} {y : Mp.Ex} (hg : isGl c "isinstance" = true) (hn : T.nb "isinstance" = true) (h : (if starry a || starry b then none else match b with
            | .Tuple cs _ _ => match rec c a, tysOf T c cs with
              | some y, some (t :: ts) => if decide (cs.length ≤ 1000) then some (Mp.Ex.isin y (t :: ts)) else none
              | _, _ => none
            | b => match rec c a, tyOf T c b with
              | some y, some t => some (.isin y [t])
              | _, _ => none) = some y) : PE X (.Call (.Name "isinstance" p) [a, b] [] q) (tE C (WK E) (mE C cf y)) := by
  split at h
  · cases h
  · rename_i ns
    rw [Bool.or_eq_true, not_or] at ns
    have n1 : starry a = false := by simpa using ns.1
    have n2 : starry b = false := by simpa using ns.2
    split at h
    · rename_i cs n p2
      split at h
      · rename_i z t ts h1 h2
        split at h
        · rename_i hl
          cases h
          obtain ⟨vs, w⟩ := tysOf_ok TO s h2
          exact se_isinN s.xo.K TA (ih c a z h1 X E s).pe w (by simp) (by simpa using hl) (nostar n1) (s.gl hg) (s.blt TO hn)
        · cases h
      · cases h
    · split at h
      · rename_i z t h1 h2
        cases h
        exact se_isin1 s.xo.K TA (ih c a z h1 X E s).pe (tyOf_ok TO s h2) (nostar n1) (nostar n2) (s.gl hg) (s.blt TO hn)
      · cases h
theorem rg_ok (TO : TbOk C T) (ih : IH C k cf rec) (s : SX C c k X E) {x : Str} {p q : Pos} {e : Expr} {y : Mp.Ex} (hg : isGl c x = true) (hn : T.nb x = true) (h : trRg (rec c) T c x e = some y) : PE X (.Call (.Name x p) [e] [] q) (tE C (WK E) (mE C cf y)) := by
  have two : ∀ {e : Expr} {xs : Mp.Exs}, NoStar e → RgE X C (WK E) cf e xs → (x == ("list" : Str) || x == ("tuple" : Str)) = true → PE X (.Call (.Name x p) [e] [] q) (tE C (WK E) (mE C cf (.rg (x == ("tuple" : Str)) xs))) := fun ns he hx => by
    rw [Bool.or_eq_true] at hx
    rcases hx with hx | hx
    · have hx : x = "list" := by simpa using hx
      subst hx
      exact se_rgl s.xo.calm (s.gl hg) (s.blt TO hn) he ns
    · have hx : x = "tuple" := by simpa using hx
      subst hx
      exact se_rgt s.xo.calm (s.gl hg) (s.blt TO hn) he ns
  unfold trRg at h
  split at h
  · split at h
    · rename_i hc
      simp only [Bool.and_eq_true, Bool.not_eq_true', beq_iff_eq] at hc
      obtain ⟨hx, ⟨⟨rfl, h1⟩, h2⟩, h3⟩ := hc
      obtain ⟨z, r, rfl⟩ := Option.map_eq_some_iff.mp h
      exact two (fun _ _ => rfl) (rg_one (s.gl h1) (s.blt TO h2) (ih _ _ _ r X E s).pe (nostar h3)) hx
    · cases h
  · split at h
    · rename_i hc
      simp only [Bool.and_eq_true, Bool.not_eq_true', beq_iff_eq] at hc
      obtain ⟨hx, ⟨⟨⟨rfl, h1⟩, h2⟩, h3⟩, h4⟩ := hc
      split at h
      · rename_i r1 r2
        cases h
        exact two (fun _ _ => rfl) (rg_two (s.gl h1) (s.blt TO h2) (ih _ _ _ r1 X E s).pe (ih _ _ _ r2 X E s).pe (nostar h3) (nostar h4)) hx
      · cases h
    · cases h
  · cases h
theorem trCall_ok (TA : Tab C) (TO : TbOk C T) (FA : FnAll C k cf) (ih : IH C k cf rec) (s : SX C c k X E) {x : Str} {p q : Pos} {es : List Expr} {kws : List Keyword} {y : Mp.Ex} (h : trCall (rec c) T c C.pg C.ps x es kws = some y) : PE X (.Call (.Name x p) es kws q) (tE C (WK E) (mE C cf y)) := by
  unfold trCall at h
  split at h
  · rename_i hg
    split at h
    · rename_i g hx
      obtain ⟨h1, h2⟩ := TO.fn x g hx
      split at h
      · rename_i fn xs ys ks e1 e2 e3 e4
        split at h
        · rename_i sl e5
          split at h
          · rename_i e6
            cases h
            exact se_call s.xo FA (s.room.mono (Nat.le_succ k)) s.hx e1 (s.gl hg) h1 h2 ⟨e6, e5⟩ rfl (pak_tr ih s e2 e3 e4)
          · cases h
        · cases h
      · cases h
    · split at h
      · rename_i kc hx
        obtain ⟨h1, h2, h3⟩ := TO.cl x kc hx
        split at h
        · rename_i kk xs ys ks e1 e2 e3 e4
          split at h
          · rename_i g e5
            split at h
            · rename_i fn e6
              split at h
              · rename_i sl e7
                split at h
                · rename_i e8
                  cases h
                  exact se_mk s.xo FA s.room s.hx e1 e5 e6 (h3 kk g e1 e5) (s.gl hg) h1 h2 ⟨e8, e7⟩ rfl (pak_tr ih s e2 e3 e4)
                · cases h
              · cases h
            · cases h
          · cases h
        · cases h
      · split at h
        · rename_i hb
          rw [Bool.and_eq_true] at hb
          have hk : kws = [] := by simpa using hb.2
          subst hk
          split at h
          · rename_i a b
            split at h
            · rename_i hi
              have hi : x = "isinstance" := by simpa using hi
              subst hi
              exact isi_ok TA TO ih s hg hb.1 h
            · split at h
              · rename_i o xs e1 e2
                cases h
                exact bi_ok TO ih s e1 e2 hg hb.1
              · cases h
          · rename_i a
            split at h
            · rename_i y' e1
              cases h
              exact rg_ok TO ih s hg hb.1 e1
            · split at h
              · rename_i o xs e1 e2
                cases h
                exact bi_ok TO ih s e1 e2 hg hb.1
              · cases h
          · cases h
        · cases h
  · cases h
theorem methSel_ok {pg : Mp.Pg} {ps : Nat → List Str} {ks : List Str} {np m : Nat} : ∀ {cls : List Mp.Cl} {o : Option (List Nat)}, methSel pg ps ks np m cls = some o → ∀ kk ∈ cls, ∀ g, kk.ms.lookup m = some g → ∃ s fn, o = some s ∧ pg.fns[g]? = some fn ∧ selOk (ps g) ks (np + 1) fn.dfl.length = true ∧ selOf (ps g) ks (np + 1) fn.dfl.length 0 (ps g) = some s
  | [], o, h, kk, hk, g, hg => by cases hk
  | k :: r, o, h, kk, hk, g, hg => by
    simp only [methSel] at h
    split at h
    · cases h
    · rename_i o' h1
      split at h
      · rename_i hm
        cases h
        rcases List.mem_cons.mp hk with e | e
        · subst e; rw [hm] at hg; cases hg
        · exact methSel_ok h1 kk e g hg
      · rename_i g' hm
        split at h
        · cases h
        · rename_i fn hf
          split at h
          · cases h
          · rename_i s hs
            split at h
            · rename_i hc
              cases h
              rw [Bool.and_eq_true, Bool.or_eq_true] at hc
              rcases List.mem_cons.mp hk with e | e
              · subst e
                rw [hm] at hg
                cases hg
                exact ⟨s, fn, rfl, hf, hc.1, hs⟩
              · obtain ⟨s', fn', e1, e2, e3, e4⟩ := methSel_ok h1 kk e g hg
                subst e1
                rcases hc.2 with z | z
                · simp at z
                · have : s' = s := by simpa using z
                  subst this
                  exact ⟨s', fn', rfl, e2, e3, e4⟩
            · cases h
theorem bmOf_ok {m : Str} {n : Nat} {b : Mp.Bm} (h : bmOf m n = some b) : m = bmName b ∧ n = bmMany b := by
  unfold bmOf at h
  have nm : ∀ {a : Str} {j : Nat}, (m == a && n == j) = true → m = a ∧ n = j := fun h => by
    rw [Bool.and_eq_true] at h
    exact ⟨by simpa using h.1, by simpa using h.2⟩
  rcases ite_or h with ⟨q, rfl⟩ | ⟨_, h⟩
  · exact nm q
  rcases ite_or h with ⟨q, rfl⟩ | ⟨_, h⟩
  · exact nm q
  rcases ite_or h with ⟨q, rfl⟩ | ⟨_, h⟩
  · exact nm q
  rcases ite_or h with ⟨q, rfl⟩ | ⟨_, h⟩
  · exact nm q
  rcases ite_or h with ⟨q, rfl⟩ | ⟨_, h⟩
  · exact nm q
  rcases ite_or h with ⟨q, rfl⟩ | ⟨_, h⟩
  · exact nm q
  rcases ite_or h with ⟨q, rfl⟩ | ⟨_, h⟩
  · exact nm q
  rcases ite_or h with ⟨q, rfl⟩ | ⟨_, h⟩
  · exact nm q
  rcases ite_or h with ⟨q, rfl⟩ | ⟨_, h⟩
  · exact nm q
  cases h
theorem trMeth_ok (TA : Tab C) (TO : TbOk C T) (FA : FnAll C k cf) (ih : IH C k cf rec) (s : SX C c k X E) {o : Expr} {m : Str} {ap q : Pos} {es : List Expr} {kws : List Keyword} {y : Mp.Ex} (h : trMeth (rec c) T C.pg C.ps o m ap es kws q = some y) : PE X (.Call (.Attribute o m ap) es kws q) (tE C (WK E) (mE C cf y)) := by
  unfold trMeth at h
  split at h
  · rename_i hc
    simp only [Bool.and_eq_true, decide_eq_true_eq] at hc
    obtain ⟨⟨hs, hl⟩, hf⟩ := hc
    split at h
    · rename_i b hb
      obtain ⟨rfl, hn⟩ := bmOf_ok hb
      split at h
      · rename_i hk
        have hk : kws = [] := by simpa using hk
        subst hk
        split at h
        · rename_i x xs e1 e2
          cases h
          obtain ⟨a, ns, l1⟩ := trEs_ok ih s e2
          have ho := (ih c o x e1 X E s).pe
          cases es with
          | nil =>
            have hx : xs = .nil := by cases xs with
              | nil => rfl
              | cons x xs => simp [exLen] at l1
            subst hx
            exact se_bm0 s.xo.K (fun z => bmL_of s.xo.K s.u65 b z) (fun z => bmD_of s.u65 b z) ho (abase hs) hl
          | cons e es =>
            exact se_bm s.xo.K (fun z => bmL_of s.xo.K s.u65 b z) (fun z => bmD_of s.u65 b z) ho a (abase hs) hl (nostars ns) (by simp only [List.length_nil, Nat.add_zero] at hf; exact hf)
        · cases h
      · cases h
    · split at h
      · rename_i i x xs ys ks e1 e2 e3 e4 e5
        split at h
        · rename_i sl e6
          cases h
          have := TO.am m i e1
          subst this
          obtain ⟨_, ns, _⟩ := trEs_ok ih s e3
          refine se_meth TA s.xo FA (s.room.mono (Nat.le_succ k)) s.hx (fun cc kk g h1 h2 => ?_) rfl (ih c o x e2 X E s).pe (pak_tr ih s e3 e4 e5) (meth_tree hs hl ns e5 hf)
          obtain ⟨s', fn, e7, e8, e9, e10⟩ := methSel_ok e6 kk (List.mem_of_getElem? h1) g h2
          cases e7
          exact ⟨fn, e8, ⟨e9, e10⟩⟩
        · cases h
      · cases h
  · cases h
theorem trD_ok (ih : IH C k cf rec) (s : SX C c k X E) {pos : Pos} : ∀ {keys : List (Option Expr)} {vals : List Expr} {l : List (Mp.Ex × Mp.Ex)}, trD (rec c) keys vals = some l → PPs X pos keys vals (pairTE C (WK E) cf l) ∧ keys.all (·.isSome) = true ∧ keys.length = vals.length ∧ keys.length ≤ 15 ∧ l.length = keys.length
  | [], [], l, h => by simp only [trD] at h; cases h; exact ⟨pps_nil, rfl, rfl, Nat.zero_le _, rfl⟩
  | [], _ :: _, l, h => by simp only [trD] at h; cases h
  | none :: _, [], l, h => by simp only [trD] at h; cases h
  | none :: _, _ :: _, l, h => by simp only [trD] at h; cases h
  | some _ :: _, [], l, h => by simp only [trD] at h; cases h
  | some a :: ks, v :: vs, l, h => by
    simp only [trD] at h
    split at h
    · rename_i x y r h1 h2 h3
      split at h
      · rename_i hl
        cases h
        obtain ⟨p, b, d, e, g⟩ := trD_ok ih s h3
        have hl : r.length < 15 := by simpa using hl
        exact ⟨pps_cons (ih _ _ _ h1 X E s).pe (ih _ _ _ h2 X E s).pe p, by rw [List.all_cons, b]; rfl, by simp [d], by simp only [List.length_cons]; omega, by simp [g]⟩
      · cases h
    · cases h
theorem dct_ok (ih : IH C k cf rec) (s : SX C c k X E) {keys : List (Option Expr)} {vals : List Expr} {p : Pos} {l : List (Mp.Ex × Mp.Ex)} (h : trD (rec c) keys vals = some l) : PE X (.Dict keys vals p) (tE C (WK E) (mE C cf (.dct (pairEx l)))) := by
  obtain ⟨a, b, d, e, g⟩ := trD_ok (pos := p) ih s h
  cases keys with
  | nil =>
    have hv : vals = [] := List.eq_nil_of_length_eq_zero (by simpa using d.symm)
    have hl : l = [] := List.eq_nil_of_length_eq_zero (by simpa using g)
    subst hv hl
    exact se_dnil
  | cons k ks => exact se_dct a b d (by simp) e
/-! ### one step, all steps -/
end
end MpS
end
section
set_option Elab.async false
set_option linter.all false
set_option maxRecDepth 100000
set_option maxHeartbeats 4000000
namespace MpS
open PySem L2
section
variable {C : Cf} {T : Tb} {k : Nat} {cf : Nat → List Mp.D → Mp.Heap → Mp.Res Mp.D} {c : Ctx} {X : Cx} {E : XK} {rec : Tr}
/-! ### a lambda handed to the def that catches -/
theorem kt_extN {H H1 : Hp} (e : LamX.ExtN H H1) : Kt H H1 := fun b o q s => e b o q fun ps z => by subst z; cases s
theorem kp_extN {H H1 : Hp} (e : LamX.ExtN H H1) : Kp H H1 := fun b o q s => e b o q fun ps z => by subst z; cases s
theorem RelO.extN {ρ : List Addr} {H H1 : Hp} {o : Mp.MO} {a : Addr} (r : RelO C ρ H o a) (e : LamX.ExtN H H1) : RelO C ρ H1 o a := by
  have l := Le.refl ρ
  have k := kt_extN e
  cases o with
  | lst ds => obtain ⟨vs, e1, r1⟩ := r; exact ⟨vs, e _ _ e1 (fun ps z => by cases z), RelDs.monoT l k _ _ r1⟩
  | ro ds =>
    obtain ⟨vs, e1, r1⟩ := r
    refine ⟨vs, ?_, RelDs.monoT l k _ _ r1⟩
    rcases e1 with (e1 | ⟨o, e1⟩) | e1
    · exact .inl (.inl (e _ _ e1 fun ps z => by cases z))
    · exact .inl (.inr ⟨o, e _ _ e1 fun ps z => by cases z⟩)
    · exact .inr e1
  | dct kvs =>
    obtain ⟨o, e1, r1⟩ := r
    refine ⟨o, e _ _ e1 fun ps z => ?_, r1.monoT l k⟩
    rcases r1 with ⟨ks, q, _⟩ | ⟨ks, q, _⟩ <;> (rw [q] at z; cases z)
  | fdct kvs => obtain ⟨ob, o, e1, r1⟩ := r; exact ⟨ob, o, e _ _ e1 (fun ps z => by cases z), r1.monoT l k⟩
  | ins c fs => obtain ⟨dx, vs, e1, r1, q⟩ := r; exact ⟨dx, vs, e _ _ e1 (fun ps z => by cases z), r1.monoT l k, q⟩
  | exc c fs => obtain ⟨e1, e2, e3⟩ := r; exact ⟨e _ _ e1 (fun ps z => by cases z), e2, e3⟩
theorem Sim.extN {ρ : List Addr} {h : Mp.Heap} {H H1 : Hp} (S : Sim C ρ h H) (e : LamX.ExtN H H1) (t : LamX.Tabs C.tb H1) : Sim C ρ h H1 :=
  ⟨S.len, fun i j a e1 e2 => (S.nd i j a e1 e2).imp id (Or.imp (fun r => r.monoT (fun _ q => q) (Le.refl ρ) (kt_extN e)) (fun r => r.monoT (fun _ q => q) (Le.refl ρ) (kt_extN e))), fun i a o e1 e2 => (S.ob i a o e1 e2).extN e, t⟩
theorem SX.lam (s : SX C c k X E) {scope : Scope} {A : Around} {outer : List Env} {sh : Shared} {H : Hp} {E2 : XK} {f c' : Addr} (r : Room (k + 1) (A.deeper (LamX.lamEnv X scope sh.heap.objs.size f c'))) : SX C (lamC c scope) k (LamX.lamCx X A outer sh H E2 scope f c') E2 := by
  have tk : Takes (LamX.lamCx X A outer sh H E2 scope f c') (WK E2) := takes_of (E := E2) rfl rfl rfl rfl
  refine ⟨⟨s.xo.P, s.xo.w, s.xo.K, s.xo.mg, s.xo.base, rfl, s.xo.nd⟩, s.N, rfl, fun x hx => (by cases hx), r, ?_, fun z => by cases z⟩
  have := passes_call (E := E2) tk fun cls d σ H h => h
  rw [← s.xo.P, ← s.xo.w]
  exact this
theorem se_caught (TA : Tab C) {cl : Nat} {z : Mp.Ex} {σ : L2.St} {H : Hp} {Q : VK} (w : tE C (WK E) (mE C cf (.caught cl z)) σ H Q) : LamX.tLam C.tb (TCau C.K (C.ca cl)) (fun E => tE C (WK E) (mE C cf z)) σ H Q := by
  obtain ⟨ρ, env, h0, es, S, ev⟩ := w
  refine ⟨S.tb, fun H1 eN t1 => ?_⟩
  refine ⟨ρ, env, h0, es.monoT (Le.refl ρ) (kt_extN eN), S.extN eN t1, ?_⟩
  have k0 := kp_extN eN
  simp only [mE, Mp.evE] at ev ⊢
  cases q : Mp.evE C.pg cf z env h0 with
  | stk => rw [q] at ev; exact ev.elim
  | ok d h1 =>
    rw [q] at ev
    intro ρ' H' v l k S' r
    exact ev ρ' H' .non l (k0.trans k) S' nonRel
  | err kx fs h1 =>
    rw [q] at ev
    cases fs with
    | cons a b => exact ev.elim
    | nil =>
      dsimp only at ev
      cases q1 : C.pg.cls[kx]? with
      | none => rw [q1] at ev; exact ev.elim
      | some kk =>
        rw [q1] at ev
        simp only [Option.map_some] at ev
        cases q2 : (kk.ex && kk.up.contains cl) with
        | false => rw [q2] at ev; exact ev.elim
        | true =>
          rw [q2] at ev
          rw [Bool.and_eq_true] at q2
          intro ρ' H' d l k S' er
          have ed : d = none := by
            rcases er with er | er
            · exact er.2
            · exact absurd rfl er.1
          subst ed
          refine ⟨TA.exm kx cl kk q1 q2.1 q2.2, fun a na => ?_⟩
          have kn : Kp H' (upd H' a (ExV (.ref (C.ca kx)) none a)) := Kp.new na
          have S2 : Sim C (ρ' ++ [a]) (h1 ++ [.exc kx []]) (upd H' a (ExV (.ref (C.ca kx)) none a)) := S'.new na kn (fun b hb => upd_ne hb) ⟨upd_same, rfl, kk, q1, q2.1⟩
          exact ev (ρ' ++ [a]) _ (.ref a) (l.trans (Le.snoc _ _)) ((k0.trans k).trans kn) S2 (refRel S'.ref_at)
theorem cau_ok (TA : Tab C) (TO : TbOk C T) (ih : IH C k cf rec) (s : SX C c k X E) {x : Str} {p q : Pos} {es : List Expr} {kws : List Keyword} {y : Mp.Ex} (h : trCau rec T c x es kws = some y) : PE X (.Call (.Name x p) es kws q) (tE C (WK E) (mE C cf y)) := by
  unfold trCau at h
  split at h
  · rename_i body scope lpos
    split at h
    · rename_i hc
      simp only [Bool.and_eq_true] at hc
      obtain ⟨⟨h1, h2⟩, h3⟩ := hc
      split at h
      · rename_i cl hcl
        obtain ⟨z, hz, rfl⟩ := Option.map_eq_some_iff.mp h
        obtain ⟨g, kc, pc, a, ca, ce, ex, sg, pg, dV, kV, doc, pm, cdv, ct, oc, an, od, osl, f1, f2, f3, f4, f5, f6, f7, f8, f9, f10, f11, f12, f13, f14⟩ := (TO.cg x cl hcl).at_
        obtain ⟨cd, P, l1, l2, l3, l4, l5⟩ := s.lm h1
        have hL : LamX.LamS X.env.scope scope := by rw [s.sc]; exact LamX.lamS_by h3
        have gv : LamX.GivesTo X [a, ca, ce] x sg g cdv (cauBody a ca ce ex kc pc) a (X.env.qual ++ "<lambda>") (TCau X.K (C.ca cl)) := caught_gives f8 f9 (by rw [s.xo.mg]; exact f10) f11
        refine PE.imp' (LamX.pe_lamcall (X := X) (T := C.tb) (TT := TCau X.K (C.ca cl)) (x := x) (a := a) (g := g) (c := cd) (P := P) (k := k + 1) (Ng := [a, ca, ce]) (t := fun E => tE C (WK E) (mE C cf z)) (p := p) (lpos := lpos) (pos := q) (s.gl h2) (by rw [s.xo.mg]; exact f1) (by rw [s.xo.K]; exact f2) (by rw [s.xo.K]; exact f3) (by rw [s.xo.K]; exact f4) (by rw [s.xo.K]; exact f5) f6 rfl f7 gv l2 l1 l3 l4 l5 hL rfl (fun _ _ _ _ _ => rfl) (fun A outer sh H E2 f c' hr => (ih _ _ _ hz _ _ (s.lam hr)).pe) f12 f13 f14) fun σ H Q w => ?_
        rw [s.xo.K]
        exact se_caught TA w
      · cases h
    · cases h
  · cases h
end
end MpS
end
section
set_option Elab.async false
set_option linter.all false
set_option maxRecDepth 100000
set_option maxHeartbeats 4000000
namespace MpS
open PySem L2
section
variable {C : Cf} {T : Tb} {k : Nat} {cf : Nat → List Mp.D → Mp.Heap → Mp.Res Mp.D} {c : Ctx} {X : Cx} {E : XK} {rec : Tr}
theorem step_ok (TA : Tab C) (TO : TbOk C T) (FA : FnAll C k cf) (ih : IH C k cf rec) : IH C k cf (fun c e => stepE T C.pg C.ps rec c e) := by
  intro c e y h X E s
  have h : stepE T C.pg C.ps rec c e = some y := h
  unfold stepE at h
  split at h
  · obtain ⟨d, r, rfl⟩ := Option.map_eq_some_iff.mp h
    exact .plain s rfl (const_ok s r)
  · exact .plain s rfl (name_ok TO s h)
  · split at h
    · rename_i h1 h2 h3
      cases h
      have := bop_eq h1
      subst this
      exact .plain s rfl (se_bin s.xo.K (ih _ _ _ h2 X E s).pe (ih _ _ _ h3 X E s).pe)
    · cases h
  · obtain ⟨x, r, rfl⟩ := Option.map_eq_some_iff.mp h
    exact .plain s rfl (se_neg (ih _ _ _ r X E s).pe)
  · obtain ⟨x, r, rfl⟩ := Option.map_eq_some_iff.mp h
    have q := ih _ _ _ r X E s
    exact ⟨se_not s.xo.K q.pe, st_not q.pt, fun _ _ _ z => by cases z⟩
  · exact cmp_ok ih s h
  · exact chain_ok ih s h
  · exact bool1_ok ih s h
  · exact bool2_ok ih s h
  · exact ite_ok ih s h
  · obtain ⟨x, r, rfl⟩ := Option.map_eq_some_iff.mp h
    exact .plain s rfl (se_tup (trEs_ok ih s r).1)
  · obtain ⟨x, r, rfl⟩ := Option.map_eq_some_iff.mp h
    exact .plain s rfl (se_lst (trEs_ok ih s r).1)
  · obtain ⟨l, r, rfl⟩ := Option.map_eq_some_iff.mp h
    exact .plain s rfl (dct_ok ih s r)
  · exact .plain s rfl (lc1_ok TA TO ih s h)
  · exact .plain s rfl (lc2_ok TA TO ih s h)
  · exact .plain s rfl (dc_ok TA TO ih s h)
  · split at h
    · rename_i h1 h2
      split at h
      · rename_i hs
        cases h
        have := TO.am _ _ h1
        subst this
        exact .plain s rfl (se_attr TA s.xo.K (ih _ _ _ h2 X E s).pe (abase hs) trivial)
      · cases h
    · cases h
  · split at h
    · rename_i h1 h2 h3
      cases h
      exact .plain s rfl (se_slice s.xo.K (ih _ _ _ h1 X E s).pe (part_tr ih s h2) (part_tr ih s h3))
    · cases h
  · obtain ⟨x, r, rfl⟩ := Option.map_eq_some_iff.mp h
    exact .plain s rfl (se_rev s.xo.K (ih _ _ _ r X E s).pe)
  · split at h
    · rename_i h1 h2
      split at h
      · cases h
      · rename_i hs
        cases h
        exact .plain s rfl (se_idx s.xo.K s.u1 (ih _ _ _ h1 X E s).pe (ih _ _ _ h2 X E s).pe (plain_ix (by simpa using hs)))
    · cases h
  · split at h
    · rename_i y' hy
      cases h
      exact .plain s rfl (cau_ok TA TO ih s hy)
    · exact .plain s rfl (trCall_ok TA TO FA ih s h)
  · exact .plain s rfl (trMeth_ok TA TO FA ih s h)
  · cases h
theorem trE_ok (TA : Tab C) (TO : TbOk C T) (FA : FnAll C k cf) : ∀ n, IH C k cf (trE T C.pg C.ps n)
  | 0 => fun c e x h => by simp only [trE] at h; cases h
  | n + 1 => step_ok TA TO FA (trE_ok TA TO FA n)
end
end MpS
end
section
set_option Elab.async false
set_option linter.all false
set_option maxRecDepth 100000
set_option maxHeartbeats 4000000
namespace MpS
open PySem L2
/-! ### statements: the translation -/
def notComp : Expr → Bool
  | .ListComp _ _ _ _ => false
  | .SetComp _ _ _ _ => false
  | .DictComp _ _ _ _ _ => false
  | _ => true
theorem swaps_no {e : Expr} {t : Option Expr} {n : Nat} {env : PySem.Env} (h : notComp e = true) : swapsWith e t n env = pure false := by
  cases e <;> first | rfl | cases h
/-- a target that swapsWith minds: a name -/
def isName : Expr → Bool
  | .Name _ _ => true
  | _ => false
theorem swaps_tg {e t : Expr} {n : Nat} {env : PySem.Env} (h : isName t = false) : swapsWith e (some t) n env = pure false := by
  cases e with
  | ListComp a b d p => cases t <;> first | rfl | cases h
  | SetComp a b d p => cases t <;> first | rfl | cases h
  | DictComp a b d g p => cases t <;> first | rfl | cases h
  | _ => rfl
/-- whether a, b = x, y is stored from the right -/
def isLocal (c : Ctx) (x : Str) : Bool := c.sc.names.lookup x == some .local
def isTup : Expr → Bool
  | .Tuple _ _ _ => true
  | _ => false
theorem stores_val {t e : Expr} {env : PySem.Env} (h : isTup e = false) : swappedStores [t] e env = pure none := by
  cases e with
  | Tuple es n p => cases h
  | _ => cases t <;> rfl
theorem stores_tg {t e : Expr} {env : PySem.Env} (h : isTup t = false) (h2 : ∀ es p, t ≠ .List es p) : swappedStores [t] e env = pure none := by
  cases t with
  | Tuple es n p => cases h
  | List es p => exact absurd rfl (h2 es p)
  | _ => cases e <;> rfl
theorem stores_two {t u e : Expr} {env : PySem.Env} : swappedStores [t, u] e env = pure none := by
  cases e <;> cases t <;> rfl
/-- the names that swappedStores counts -/
def swNames (kind : Str → Option NameKind) (line : Nat) (ts : List Expr) : List Str := ts.filterMap fun
    | .Name id pos => if kind id == some .local && pos.line == line then some id else none
    | _ => none
/-- what it says of two tuples; none: not followed -/
def swSay (kind : Str → Option NameKind) (ts vs : List Expr) : Option (Option (List Str)) :=
  if !(ts.length == 2 || ts.length == 3) || vs.length != ts.length then some none
  else if vs.any (fun | .Starred .. => true | _ => false) then some none
  else
    let names := swNames kind ((ts.head?.map (·.pos.line)).getD 0) ts
    if names.length != ts.length || names.eraseDups.length != names.length then some none
    else if vs.all (foldedForSure 8) then some none
    else if vs.all (constantsAlone 8) then none
    else some (some names)
def swSem (z : Sem (Option (List Str))) (kind : Str → Option NameKind) (ts vs : List Expr) : Sem (Option (List Str)) :=
  if (!(ts.length == 2 || ts.length == 3) || vs.length != ts.length) = true then pure none
  else if (vs.any (fun | .Starred .. => true | _ => false)) = true then pure none
  else if ((swNames kind ((ts.head?.map (·.pos.line)).getD 0) ts).length != ts.length || (swNames kind ((ts.head?.map (·.pos.line)).getD 0) ts).eraseDups.length != (swNames kind ((ts.head?.map (·.pos.line)).getD 0) ts).length) = true then pure none
  else if vs.all (foldedForSure 8) = true then pure none
  else if vs.all (constantsAlone 8) = true then z
  else pure (some (swNames kind ((ts.head?.map (·.pos.line)).getD 0) ts))
theorem swSem_ok {z : Sem (Option (List Str))} {kind : Str → Option NameKind} {ts vs : List Expr} {r : Option (List Str)} (h : swSay kind ts vs = some r) : swSem z kind ts vs = pure r := by
  unfold swSay at h
  unfold swSem
  by_cases c1 : (!(ts.length == 2 || ts.length == 3) || vs.length != ts.length) = true
  · rw [if_pos c1] at h ⊢; cases h; rfl
  rw [if_neg c1] at h ⊢
  by_cases c2 : (vs.any (fun | .Starred .. => true | _ => false)) = true
  · rw [if_pos c2] at h ⊢; cases h; rfl
  rw [if_neg c2] at h ⊢
  dsimp only at h
  by_cases c3 : ((swNames kind ((ts.head?.map (·.pos.line)).getD 0) ts).length != ts.length || (swNames kind ((ts.head?.map (·.pos.line)).getD 0) ts).eraseDups.length != (swNames kind ((ts.head?.map (·.pos.line)).getD 0) ts).length) = true
  · rw [if_pos c3] at h ⊢; cases h; rfl
  rw [if_neg c3] at h ⊢
  by_cases c4 : vs.all (foldedForSure 8) = true
  · rw [if_pos c4] at h ⊢; cases h; rfl
  rw [if_neg c4] at h ⊢
  by_cases c5 : vs.all (constantsAlone 8) = true
  · rw [if_pos c5] at h; cases h
  rw [if_neg c5] at h ⊢
  cases h
  rfl
theorem stores_sem {env : PySem.Env} (hb : env.blockKind = .function) {ts vs : List Expr} {k k2 : Nat} {p p2 : Pos} : ∃ z, swappedStores [.Tuple ts k p] (.Tuple vs k2 p2) env = swSem z env.kindOf ts vs := by
  have kk : (ScopeKind.function != ScopeKind.function) = false := rfl
  apply Exists.intro
  unfold swappedStores
  simp only [hb, kk, Bool.or_false]
  rfl
theorem stores_say {env : PySem.Env} (hk : env.scope.kind = .function) {ts vs : List Expr} {k k2 : Nat} {p p2 : Pos} {r : Option (List Str)} (h : swSay env.kindOf ts vs = some r) : swappedStores [.Tuple ts k p] (.Tuple vs k2 p2) env = pure r := by
  have hb : env.blockKind = .function := by unfold Env.blockKind; rw [hk]; rfl
  obtain ⟨z, e⟩ := stores_sem (ts := ts) (vs := vs) (k := k) (k2 := k2) (p := p) (p2 := p2) hb
  rw [e]
  exact swSem_ok h
/-- whether name = [..] is stored within the comprehension -/
def swB (kind : Str → Option NameKind) (y : Str) (py : Pos) (scope : Scope) (p : Pos) : Bool := (kind y == some .local) && py.line == p.line && !(scope.names.any fun q => q.1 == y && (q.2 == .local || q.2 == .cell))
theorem swB_ok {env : PySem.Env} (hk : env.scope.kind = .function) {elt : Expr} {gs : List Comprehension} {scope : Scope} {p py : Pos} {y : Str} {n : Nat} : swapsWith (.ListComp elt gs scope p) (some (.Name y py)) n env = pure (swB env.kindOf y py scope p) := by
  have hb : env.blockKind = .function := by unfold Env.blockKind; rw [hk]; rfl
  unfold swapsWith swB
  simp only [hb]
  rfl
theorem swB_okD {env : PySem.Env} (hk : env.scope.kind = .function) {kx vx : Expr} {gs : List Comprehension} {scope : Scope} {p py : Pos} {y : Str} {n : Nat} : swapsWith (.DictComp kx vx gs scope p) (some (.Name y py)) n env = pure (swB env.kindOf y py scope p) := by
  have hb : env.blockKind = .function := by unfold Env.blockKind; rw [hk]; rfl
  unfold swapsWith swB
  simp only [hb]
  rfl
/-- which assignments are followed -/
def asgOk (kind : Str → Option NameKind) (tg e : Expr) : Bool := match tg, e with
  | .Name y py, .ListComp _ gs scope p => if swB kind y py scope p then gs.length == 1 || gs.length == 2 else true
  | .Name y py, .DictComp _ _ gs scope p => if swB kind y py scope p then gs.length == 1 else true
  | .Name _ _, .SetComp _ _ _ _ => false
  | .Tuple ts _ _, .Tuple vs _ _ => match swSay kind ts vs with
    | some none => true
    | some (some names) => (match ts, vs with
      | [.Name n _, .Name m _], [_, _] => names == [n, m] && n != m && kind n == some .local && kind m == some .local
      | [.Name n _, .Name m _, .Name o _], [_, _, _] => names == [n, m, o] && n != m && n != o && m != o && kind n == some .local && kind m == some .local && kind o == some .local
      | _, _ => false)
    | none => false
  | _, _ => true
def trAsg (f : Expr → Option Mp.Ex) (T : Tb) (c : Ctx) (tg e : Expr) : Option Mp.St := match trTg f T c tg, f e with
  | some (t, _), some x => if asgOk (fun x => c.sc.names.lookup x) tg e then some (.asg t x) else none
  | _, _ => none
def trSt (f : Expr → Option Mp.Ex) (T : Tb) (c : Ctx) (rec : List Stmt → Option Mp.Sts) : Stmt → Option Mp.St
  | .Expr e _ => if notComp e then (f e).map .expr else none
  | .Return none _ => some (.ret (.c .non))
  | .Return (some e) _ => (f e).map .ret
  | .Assign [tg] e _ => trAsg f T c tg e
  | .Assign [t1, t2] e _ => match trTg f T c t1, trTg f T c t2, f e with
    | some (t, _), some (u, _), some x => if starry t1 || starry t2 then none else some (.asg2 t u x)
    | _, _, _ => none
  | .AugAssign (.Name x _) op e _ => match c.N.idxOf? x, bopOf op, f e with
    | some i, some o, some y => if c.st x then some (.aug i o y) else none
    | _, _, _ => none
  | .AugAssign (.Attribute o m _) op e _ => match T.am m, f o, bopOf op, f e with
    | some i, some x, some b, some y => some (.augAttr x i b y)
    | _, _, _, _ => none
  | .If t a b _ => match f t, rec a, rec b with
    | some x, some xs, some ys => some (.if_ x xs ys)
    | _, _, _ => none
  | .While t a [] _ => match f t, rec a with
    | some x, some xs => some (.while_ x xs)
    | _, _ => none
  | .For tg it a [] _ => match trTg f T c tg, trI f T c tg it, rec a with
    | some (t, _), some i, some xs => some (.for_ t i xs)
    | _, _, _ => none
  | .Raise (some (.Call (.Name x _) (e :: es) [] _)) none _ => match T.ex x, trEs f (e :: es) with
    | some k, some xs => if isGl c x && decide ((e :: es).length < 20) then some (.raise k xs) else some .stuck
    | _, _ => some .stuck
  | .Raise _ _ _ => some .stuck
  | .Delete [.Subscript o i _] _ => match f o, f i with
    | some x, some y => some (.del x y)
    | _, _ => none
  | .Pass _ => some .pass
  | .Break _ => some .brk
  | .Continue _ => some .cont
  | _ => none
def trSs (g : Stmt → Option Mp.St) : List Stmt → Option Mp.Sts
  | [] => some .nil
  | s :: ss => match g s, trSs g ss with
    | some x, some xs => some (.cons x xs)
    | _, _ => none
def trB (f : Expr → Option Mp.Ex) (T : Tb) (c : Ctx) : Nat → List Stmt → Option Mp.Sts
  | 0 => fun _ => none
  | n + 1 => trSs (trSt f T c (trB f T c n))
/-! ### .. and their soundness -/
structure SY (C : Cf) (c : Ctx) (k : Nat) (X : Cx) (E : XK) : Prop where
  s : SX C c k X E
  hp : PassesOwn (model X.prog X.w) X.A X.env X.xe
  tk : Takes X (WK E)
  kd : X.env.scope.kind = .function
section
variable {C : Cf} {T : Tb} {k : Nat} {cf : Nat → List Mp.D → Mp.Heap → Mp.Res Mp.D} {c : Ctx} {X : Cx} {E : XK} {rec : Tr}
theorem SY.kof (s : SY C c k X E) : X.env.kindOf = fun x => c.sc.names.lookup x := by
  funext x
  show X.env.scope.names.lookup x = _
  rw [s.s.sc]
theorem loc_of {n : Str} (h : (X.env.kindOf n == some NameKind.local) = true) : X.env.scope.names.lookup n = some .local := by
  have e : X.env.kindOf n = some .local := by simpa using h
  exact e
theorem name_tg {x : Str} {p : Pos} {t : Mp.Tg} {vs : List Nat} {f : Expr → Option Mp.Ex} (h : trT f T c (.Name x p) = some (t, vs)) : ∃ i, t = .nm i ∧ vs = [i] ∧ c.N.idxOf? x = some i := by
  simp only [trT] at h
  split at h
  · rename_i i hi
    split at h
    · cases h; exact ⟨i, rfl, rfl, hi⟩
    · cases h
  · cases h
theorem idx_ne {N : List Str} {x y : Str} {i j : Nat} (h1 : N.idxOf? x = some i) (h2 : N.idxOf? y = some j) (hn : x ≠ y) : i ≠ j := fun e => by
  subst e
  have a := idxOf_at h1
  have b := idxOf_at h2
  rw [a] at b
  cases b
  exact hn rfl
theorem sole_eq {t : Expr} {e : Expr} {n : Nat} {env : PySem.Env} : swapsWithSole [t] e n env = swapsWith e (some t) n env := rfl
theorem tgs2 {f : Expr → Option Mp.Ex} {n m : Str} {px py : Pos} {ts : Mp.Tgs} {vs : List Nat} (h : trTs f T c [.Name n px, .Name m py] = some (ts, vs)) : ∃ i j, ts = .cons (.nm i) (.cons (.nm j) .nil) ∧ c.N.idxOf? n = some i ∧ c.N.idxOf? m = some j := by
  simp only [trTs] at h
  split at h
  · rename_i h1 h2
    obtain ⟨i, rfl, rfl, hi⟩ := name_tg h1
    split at h2
    · rename_i h3 h4
      obtain ⟨j, rfl, rfl, hj⟩ := name_tg h3
      cases h4
      simp only [starry, Bool.false_eq_true, if_false] at h2 h
      cases h2
      cases h
      exact ⟨i, j, rfl, hi, hj⟩
    · cases h2
  · cases h
theorem tgs3 {f : Expr → Option Mp.Ex} {n m o : Str} {px py pz : Pos} {ts : Mp.Tgs} {vs : List Nat} (h : trTs f T c [.Name n px, .Name m py, .Name o pz] = some (ts, vs)) : ∃ i j l, ts = .cons (.nm i) (.cons (.nm j) (.cons (.nm l) .nil)) ∧ c.N.idxOf? n = some i ∧ c.N.idxOf? m = some j ∧ c.N.idxOf? o = some l := by
  rw [trTs] at h
  split at h
  · rename_i h1 h2
    obtain ⟨i, rfl, rfl, hi⟩ := name_tg h1
    obtain ⟨j, l, rfl, hj, hl⟩ := tgs2 h2
    simp only [starry, Bool.false_eq_true, if_false] at h
    cases h
    exact ⟨i, j, l, rfl, hi, hj, hl⟩
  · cases h
theorem each1 {t : Expr} {env : PySem.Env} (h : starry t = false) : (assignEach [t] env).map (·.2) = [assign t env] := by rw [nostarT h [] env]; rfl
theorem tg_star {f : Expr → Option Mp.Ex} {t : Expr} {r : Mp.Tg × List Nat} (h : trTg f T c t = some r) : starry t = false := by
  cases t with
  | Starred e p => simp only [trTg, trT] at h; cases h
  | _ => rfl
theorem asg_gen (TA : Tab C) (TO : TbOk C T) (ih : IH C k cf rec) (s : SY C c k X E) {tg e : Expr} {p : Pos} {t : Mp.Tg} {vs : List Nat} {x : Mp.Ex} (h1 : trTg (rec c) T c tg = some (t, vs)) (h2 : rec c e = some x) (hs : swapsWith e (some tg) p.line X.env = pure false) (hw : swappedStores [tg] e X.env = pure none) :
    PS X (.Assign [tg] e p) (tS C (WK E) (mS C cf (.asg t x))) :=
  ss_asg (ih c e x h2 X E s.s).pe (trTg_ok TA TO ih s.s h1) hs hw (each1 (tg_star h1))
theorem tupE_ok {n : Nat} {vs : List Expr} {q : Nat} {p : Pos} {x : Mp.Ex} (h : stepE T C.pg C.ps rec c (.Tuple vs q p) = some x) : ∃ xs, x = .tup xs ∧ trEs (rec c) vs = some xs := by
  simp only [stepE] at h
  obtain ⟨xs, h1, h2⟩ := Option.map_eq_some_iff.mp h
  exact ⟨xs, h2.symm, h1⟩
theorem asg_ok (TA : Tab C) (TO : TbOk C T) (FA : FnAll C k cf) (ih : IH C k cf rec) (s : SY C c k X E) {tg e : Expr} {p : Pos} {y : Mp.St} (h : trAsg (stepE T C.pg C.ps rec c) T c tg e = some y) : PS X (.Assign [tg] e p) (tS C (WK E) (mS C cf y)) := by
  have ih' := step_ok TA TO FA ih
  unfold trAsg at h
  split at h
  · rename_i t vs x h1 h2
    split at h
    · rename_i ok
      cases h
      rw [← s.kof] at ok
      have gen := fun hs hw => asg_gen (p := p) TA TO ih' s h1 h2 hs hw
      cases tg with
      | Name n py =>
        have hw : swappedStores [Expr.Name n py] e X.env = pure none := stores_tg rfl fun _ _ z => by cases z
        cases e with
        | ListComp elt gs scope p2 =>
          have sw := swB_ok s.kd (elt := elt) (gs := gs) (scope := scope) (p := p2) (py := py) (y := n) (n := p.line)
          cases q : swB X.env.kindOf n py scope p2 with
          | false => rw [q] at sw; exact gen sw hw
          | true =>
            rw [q] at sw
            simp only [asgOk, q, if_true] at ok
            have h1' : trT (stepE T C.pg C.ps rec c) T c (.Name n py) = some (t, vs) := h1
            obtain ⟨i, rfl, rfl, hi⟩ := name_tg h1'
            have hl : X.env.scope.names.lookup n = some .local := by
              unfold swB at q
              simp only [Bool.and_eq_true] at q
              exact loc_of q.1.1
            match gs, ok, h2, sw with
            | [g], _, h2, sw =>
              have h2 : (match comp1 rec T c scope g, rec (blkCtx c scope) elt with
                | some k, some x => some (Mp.Ex.comp x ((ownOf c scope).map (·.2)) k.t k.it k.fs)
                | _, _ => none) = some x := h2
              split at h2
              · rename_i r z h3 h4
                cases h2
                obtain ⟨a, b, d⟩ := comp1_ok TA TO ih s.s h3
                obtain ⟨tg, iter, ifs, as⟩ := g
                obtain ⟨sh⟩ := sh0
                have a0 := a sh (fun _ => none) 0 [] []
                have as0 : as = 0 := a0.as
                subst as0
                exact ss_setLc s.s.xo.calm s.s.xo.nd (by rw [s.s.N]; exact idx_at hi) hl sw a0.it.1 b d (fun sh H Z cl fp => (a sh H Z cl fp).tg) (fun sh H Z cl fp => (a sh H Z cl fp).fs) (fun sh H Z cl fp => (ih _ elt z h4 _ _ (s.s.blk sh H Z cl fp)).pe) (fold_plain a0.it.2 _)
              · cases h2
            | [g, g2], _, h2, sw =>
              have h2 : (match comp1 rec T c scope g, comp2 rec T c scope g2, rec (blkCtx c scope) elt with
                | some k, some r, some x => some (Mp.Ex.comp2 x ((ownOf c scope).map (·.2)) r.vs k.t k.it k.fs r.t r.it r.fs)
                | _, _, _ => none) = some x := h2
              split at h2
              · rename_i r r2 z h3 h4 h5
                cases h2
                obtain ⟨a, b, d⟩ := comp1_ok TA TO ih s.s h3
                obtain ⟨a2, d2⟩ := comp2_ok TA TO ih s.s h4
                obtain ⟨tg, iter, ifs, as⟩ := g
                obtain ⟨tg2, iter2, ifs2, as2⟩ := g2
                obtain ⟨sh⟩ := sh0
                have a0 := a sh (fun _ => none) 0 [] []
                have b0 := a2 sh (fun _ => none) 0 [] []
                have as0 : as = 0 := a0.as
                have as2' : as2 = 0 := b0.as
                subst as0 as2'
                exact ss_setLc2 s.s.xo.calm s.s.xo.nd (by rw [s.s.N]; exact idx_at hi) hl sw a0.it.1 b d (fun i hi => hi) d2 (fun sh H Z cl fp => (a sh H Z cl fp).tg) (fun sh H Z cl fp => (a sh H Z cl fp).fs) (fun sh H Z cl fp => (a2 sh H Z cl fp).it.1) (fun sh H Z cl fp => (a2 sh H Z cl fp).tg) (fun sh H Z cl fp => (a2 sh H Z cl fp).fs) (fun sh H Z cl fp => (ih _ elt z h5 _ _ (s.s.blk sh H Z cl fp)).pe) (fold_plain a0.it.2 _) (fun env => fold_plain b0.it.2 env)
              · cases h2
            | [], ok, _, _ => simp at ok
            | _ :: _ :: _ :: _, ok, _, _ => simp at ok
        | DictComp kx vx gs scope p2 =>
          have sw := swB_okD s.kd (kx := kx) (vx := vx) (gs := gs) (scope := scope) (p := p2) (py := py) (y := n) (n := p.line)
          cases q : swB X.env.kindOf n py scope p2 with
          | false => rw [q] at sw; exact gen sw hw
          | true =>
            rw [q] at sw
            simp only [asgOk, q, if_true] at ok
            have h1' : trT (stepE T C.pg C.ps rec c) T c (.Name n py) = some (t, vs) := h1
            obtain ⟨i, rfl, rfl, hi⟩ := name_tg h1'
            have hl : X.env.scope.names.lookup n = some .local := by
              unfold swB at q
              simp only [Bool.and_eq_true] at q
              exact loc_of q.1.1
            match gs, ok, h2, sw with
            | [g], _, h2, sw =>
              have h2 : (match comp1 rec T c scope g, rec (blkCtx c scope) kx, rec (blkCtx c scope) vx with
                | some k, some x, some y => some (Mp.Ex.dcomp x y ((ownOf c scope).map (·.2)) k.t k.it k.fs)
                | _, _, _ => none) = some x := h2
              split at h2
              · rename_i r z u h3 h4 h5
                cases h2
                obtain ⟨a, b, d⟩ := comp1_ok TA TO ih s.s h3
                obtain ⟨tg, iter, ifs, as⟩ := g
                obtain ⟨sh⟩ := sh0
                have a0 := a sh (fun _ => none) 0 [] []
                have as0 : as = 0 := a0.as
                subst as0
                exact ss_setDc s.s.xo.calm s.s.xo.nd (by rw [s.s.N]; exact idx_at hi) hl sw a0.it.1 b d (fun sh H Z cl fp => (a sh H Z cl fp).tg) (fun sh H Z cl fp => (a sh H Z cl fp).fs) (fun sh H Z cl fp => (ih _ kx z h4 _ _ (s.s.blk sh H Z cl fp)).pe) (fun sh H Z cl fp => (ih _ vx u h5 _ _ (s.s.blk sh H Z cl fp)).pe) (fold_plain a0.it.2 _)
              · cases h2
            | [], ok, _, _ => simp at ok
            | _ :: _ :: _, ok, _, _ => simp at ok
        | SetComp a b d p2 => simp only [asgOk] at ok; cases ok
        | _ => exact gen (swaps_no rfl) hw
      | Tuple ts n p2 =>
        have hs : swapsWith e (some (Expr.Tuple ts n p2)) p.line X.env = pure false := swaps_tg rfl
        cases e with
        | Tuple us q p3 =>
          simp only [asgOk] at ok
          cases sw : swSay X.env.kindOf ts us with
          | none => rw [sw] at ok; cases ok
          | some o =>
            rw [sw] at ok
            cases o with
            | none => exact gen hs (stores_say s.kd sw)
            | some names =>
              have st := stores_say s.kd sw (k := n) (k2 := q) (p := p2) (p2 := p3)
              obtain ⟨xs, rfl, hxs⟩ := tupE_ok (n := n) h2
              obtain ⟨pa, _, _⟩ := trEs_ok ih s.s hxs
              simp only [trTg] at h1
              obtain ⟨⟨tts, ws⟩, h3, h4⟩ := Option.map_eq_some_iff.mp h1
              cases h4
              dsimp only at ok
              split at ok
              · simp only [Bool.and_eq_true, bne_iff_ne, ne_eq] at ok
                obtain ⟨⟨⟨k1, k2⟩, k3⟩, k4⟩ := ok
                have k1 := eq_of_beq k1
                subst k1
                obtain ⟨i, j, rfl, hi, hj⟩ := tgs2 h3
                exact ss_par s.s.xo.calm s.s.xo.nd (by rw [s.s.N]; exact idx_at hi) (by rw [s.s.N]; exact idx_at hj) (idx_ne hi hj k2) (loc_of k3) (loc_of k4) pa st hs
              · simp only [Bool.and_eq_true, bne_iff_ne, ne_eq] at ok
                obtain ⟨⟨⟨⟨⟨⟨k1, k2⟩, k3⟩, k4⟩, k5⟩, k6⟩, k7⟩ := ok
                have k1 := eq_of_beq k1
                subst k1
                obtain ⟨i, j, l, rfl, hi, hj, hl⟩ := tgs3 h3
                exact ss_par3 s.s.xo.calm s.s.xo.nd (by rw [s.s.N]; exact idx_at hi) (by rw [s.s.N]; exact idx_at hj) (by rw [s.s.N]; exact idx_at hl) (idx_ne hi hj k2) (idx_ne hi hl k3) (idx_ne hj hl k4) (loc_of k5) (loc_of k6) (loc_of k7) pa st hs
              · cases ok
        | _ => exact gen hs (stores_val rfl)
      | Attribute o m p2 => exact gen (swaps_tg rfl) (stores_tg rfl fun _ _ z => by cases z)
      | Subscript o m p2 => exact gen (swaps_tg rfl) (stores_tg rfl fun _ _ z => by cases z)
      | _ => simp only [trTg, trT] at h1; cases h1
    · cases h
  · cases h
/-- what is never come to -/
theorem ss_stuck {st : Stmt} : PS X st (tS C (WK E) (mS C cf .stuck)) := PS.imp' ps_never fun D σ H ⟨ρ, env, h, es, S, w⟩ => by
  simp only [mS, Mp.evS] at w
  exact w.elim
/-- raise X(..) -/
theorem ss_raise (xo : XOk C X) (tk : Takes X (WK E)) {x : Str} {p q pos : Pos} {e : Expr} {es : List Expr} {xs : Mp.Exs} {i : Nat} (F : ExF C i) (hg : Gl X x) (hm : C.mg x = some (.ref (C.ca i))) (hdb : (x == ("__debug__" : Str)) = false) (ha : PA X (e :: es) (tA C (WK E) (mEs C cf xs))) (ns : ∀ y ∈ e :: es, NoStar y) (hl : exLen xs < 20) :
    PS X (.Raise (some (.Call (.Name x p) (e :: es) [] q)) none pos) (tS C (WK E) (mS C cf (.raise i xs))) := by
  have q' : PySem.W.excIn X.K (C.ca i) He.veBase "ValueError.__new__" = true := by rw [xo.K]; exact F.q
  have kp : PySem.W.keepIn X.K (.ref (C.ca i)) = true := by rw [xo.K]; exact F.kp
  have r : Raises X (.ref (C.ca i)) := raises_own (by rw [xo.K]; exact F.sub) (by rw [xo.K]; exact F.ty)
  refine PS.imp' (ps_raise xo.calm tk (pmk_ownA PySem.F.excBase_ValueError q' (by rw [xo.mg]; exact hm) kp r hg ha hdb (ns e (by simp) es _) (back_plain (es := es) (fun y hy => ns y (by simp [hy])) _ _))) fun D σ H ⟨ρ, env, h, es0, S, w⟩ => ?_
  simp only [mS, Mp.evS] at w
  have w' : tA C (WK E) (mEs C cf xs) σ H (fun vs H1 => E (.ref (C.ca i)) none H1) := by
    refine ⟨ρ, env, h, es0, S, (w.st es0 (R := RDs C)).imp fun vs H1 ⟨ds, ρ1, h1, l1, k1, es1, S1, r1, w1⟩ => ?_⟩
    exact w1 ρ1 σ H1 none (Le.refl _) (Kp.refl _) es1 S1 (.inl ⟨rfl, rfl⟩)
  obtain ⟨ρ', env', h', es', S', ev⟩ := w'.len
  exact ⟨ρ', env', h', es', S', ev.imp fun vs H1 ⟨l, q⟩ => ⟨by rw [l, sizeLine_eq]; omega, q⟩⟩
theorem st_ok (TA : Tab C) (TO : TbOk C T) (FA : FnAll C k cf) (ih : IH C k cf rec) {rs : List Stmt → Option Mp.Sts} (hr : ∀ ss xs, rs ss = some xs → ∀ X E, SY C c k X E → PSs X ss (tS C (WK E) (mSs C cf xs))) (s : SY C c k X E) {st : Stmt} {y : Mp.St} (h : trSt (stepE T C.pg C.ps rec c) T c rs st = some y) : PS X st (tS C (WK E) (mS C cf y)) := by
  have ih' := step_ok TA TO FA ih
  unfold trSt at h
  split at h
  · split at h
    · rename_i hn
      obtain ⟨x, r, rfl⟩ := Option.map_eq_some_iff.mp h
      exact ss_expr (ih' _ _ _ r X E s.s).pe (swaps_no hn)
    · cases h
  · cases h; exact ss_retN
  · obtain ⟨x, r, rfl⟩ := Option.map_eq_some_iff.mp h
    exact ss_ret (ih' _ _ _ r X E s.s).pe
  · exact asg_ok TA TO FA ih s h
  · split at h
    · rename_i h1 h2 h3
      split at h
      · cases h
      · rename_i hst
        cases h
        rw [Bool.or_eq_true, not_or] at hst
        have n1 := nostarT (e := _) (by simpa using hst.1)
        have n2 := nostarT (e := _) (by simpa using hst.2)
        refine ss_asg2 (ih' _ _ _ h3 X E s.s).pe (trTg_ok TA TO ih' s.s h1) (trTg_ok TA TO ih' s.s h2) ?_ stores_two
        rw [n1 _ X.env, n2 [] X.env]
        rfl
    · cases h
  · split at h
    · rename_i h1 h2 h3
      split at h
      · rename_i hs
        cases h
        have := bop_eq h2
        subst this
        obtain ⟨q1, q2⟩ := s.s.st _ hs
        exact ss_aug s.s.xo.nd (by rw [s.s.N]; exact idx_at h1) q1 q2 (ih' _ _ _ h3 X E s.s).pe
      · cases h
    · cases h
  · split at h
    · rename_i h1 h2 h3 h4
      cases h
      have e1 := TO.am _ _ h1
      have e2 := bop_eq h3
      subst e1 e2
      exact ss_augAttr TA s.s.xo.K (ih' _ _ _ h2 X E s.s).pe (ih' _ _ _ h4 X E s.s).pe
    · cases h
  · split at h
    · rename_i h1 h2 h3
      cases h
      exact ss_if (ih' _ _ _ h1 X E s.s).pt (hr _ _ h2 X E s) (hr _ _ h3 X E s)
    · cases h
  · split at h
    · rename_i h1 h2
      cases h
      exact ss_while s.hp (ih' _ _ _ h1 X E s.s).pt (hr _ _ h2 X E s)
    · cases h
  · split at h
    · rename_i h1 h2 h3
      cases h
      obtain ⟨w, ws⟩ := trI_ok TO ih' s.s h2
      exact ss_for s.hp s.s.xo.calm w (trTg_ok TA TO ih' s.s h1) (hr _ _ h3 X E s) (fold_plain ws _)
    · cases h
  · split at h
    · rename_i h1 h2
      split at h
      · rename_i hc
        cases h
        rw [Bool.and_eq_true, decide_eq_true_eq] at hc
        obtain ⟨e1, e2, e3⟩ := TO.ex _ _ h1
        obtain ⟨pa, ns, l⟩ := trEs_ok ih' s.s h2
        exact ss_raise s.s.xo s.tk e3 (s.s.gl hc.1) e1 e2 pa (nostars ns) (by rw [l]; exact hc.2)
      · cases h; exact ss_stuck
    · cases h; exact ss_stuck
  · cases h; exact ss_stuck
  · split at h
    · rename_i h1 h2
      cases h
      exact ss_del (ih' _ _ _ h1 X E s.s).pe (ih' _ _ _ h2 X E s.s).pe
    · cases h
  · cases h; exact ss_pass
  · cases h; exact ss_break
  · cases h; exact ss_continue
  · cases h
theorem trSs_ok {g : Stmt → Option Mp.St} (hg : ∀ st y, g st = some y → PS X st (tS C (WK E) (mS C cf y))) : ∀ {ss : List Stmt} {xs : Mp.Sts}, trSs g ss = some xs → PSs X ss (tS C (WK E) (mSs C cf xs))
  | [], xs, h => by simp only [trSs] at h; cases h; exact sss_nil
  | st :: ss, xs, h => by
    simp only [trSs] at h
    split at h
    · rename_i x ys h1 h2
      cases h
      exact sss_cons (hg st x h1) (trSs_ok hg h2)
    · cases h
theorem trB_ok (TA : Tab C) (TO : TbOk C T) (FA : FnAll C k cf) (m : Nat) : ∀ n ss xs, trB (trE T C.pg C.ps (m + 1) c) T c n ss = some xs → ∀ X E, SY C c k X E → PSs X ss (tS C (WK E) (mSs C cf xs))
  | 0, ss, xs, h => by simp only [trB] at h; cases h
  | n + 1, ss, xs, h => fun X E s => by
    simp only [trB] at h
    exact trSs_ok (fun st y hy => st_ok TA TO FA (trE_ok TA TO FA m) (trB_ok TA TO FA m n) s hy) h
end
end MpS
end
section
set_option Elab.async false
set_option linter.all false
set_option maxRecDepth 100000
set_option maxHeartbeats 4000000
namespace MpS
open PySem L2
/-! ### functions -/
def fnCtx (N : List Str) (scope : Scope) (lm : Bool) : Ctx := ⟨N, scope, fun x => scope.names.lookup x == some .local || scope.names.lookup x == some .cell, lm⟩
/-- what is known of a function of the text -/
structure FnF (C : Cf) (T : Tb) (f : Nat) (fn : Mp.Fn) (name qual : Str) (params : Arguments) (body : List Stmt) (scope : Scope) (N : List Str) (dvs : List V) (lm : Bool) (fd : FuncData) : Prop where
  D : FunD C.K name qual params body scope dvs [] (C.fa f) fd
  S : FnScope N (C.ps f) scope
  tr : ∃ m n, trB (trE T C.pg C.ps (m + 1) (fnCtx N scope lm)) T (fnCtx N scope lm) n body = some fn.body
  ns : fn.ns = N.length
  ps : fn.ps = (C.ps f).length
  po : params.posonlyargs = []
  ko : params.kwonlyargs = []
  va : params.vararg = none
  ka : params.kwarg = none
  nm : params.args.map (·.arg) = C.ps f
  nd : (C.ps f).Nodup
  dd : ∀ ρ H, RelDs C.K ρ H fn.dfl dvs
  lam : lm = true → ∃ cd P : Addr, fd.code = .ref cd ∧ LamX.TabB C.base C.mg cd P ∧ (P, qual ++ ".<locals>." ++ "<lambda>") ∈ C.tb ∧ ∀ p ∈ C.tb, p.1 = P → p.2 = qual ++ ".<locals>." ++ "<lambda>"
def FnFs (C : Cf) (T : Tb) : Prop := ∀ f fn, C.pg.fns[f]? = some fn → ∃ name qual params body scope N dvs lm fd, FnF C T f fn name qual params body scope N dvs lm fd
section
variable {C : Cf} {T : Tb} {f : Nat} {fn : Mp.Fn} {name qual : Str} {params : Arguments} {body : List Stmt} {scope : Scope} {N : List Str} {dvs : List V} {lm : Bool} {fd : FuncData}
theorem FnF.d (F : FnF C T f fn name qual params body scope N dvs lm fd) : FnD C f fn fd dvs := by
  obtain ⟨oc, od, dV, kV, doc, pm, an, cdv, ct, osl, e, lk, hcd, hD, hK⟩ := F.D.ex
  subst e
  exact ⟨⟨F.po, F.ko, F.va, F.ka, F.nm, F.nd⟩, hD, F.dd, F.D.kp, _, _, _, lk⟩
theorem sp_len {cf : Nat → List Mp.D → Mp.Heap → Mp.Res Mp.D} {vs : List V} {H : Hp} {Q : VK} {E : XK} (h : spF C cf f vs H Q E) : vs.length = (C.ps f).length := by
  obtain ⟨ρ, h, ds, S, r, l, ev⟩ := h
  rw [r.length, l]
theorem start_es {ρ : List Addr} {H : Hp} {ds : List Mp.D} {vs : List V} (r : RelDs C.K ρ H ds vs) {n : Nat} (hn : n = N.length - vs.length) (hl : vs.length ≤ N.length) : ES C.K ρ H (ds.map some ++ List.replicate n none) (L2.start N vs) := by
  subst hn
  refine ⟨?_, fun i d e => ?_⟩
  · unfold L2.start
    simp only [List.length_append, List.length_map, List.length_replicate, r.length]
  · have hi : i < ds.length := by
      by_cases hi : i < ds.length
      · exact hi
      · rw [List.getElem?_append_right (by simpa using hi), List.getElem?_replicate] at e
        split at e <;> cases e
    rw [List.getElem?_append_left (by simpa using hi), List.getElem?_map] at e
    have hd : ds[i]? = some d := by
      rw [List.getElem?_eq_getElem hi] at e ⊢
      simpa using e
    obtain ⟨v, ev, rv⟩ := r.get hd
    refine ⟨v, ?_, rv⟩
    unfold L2.start
    rw [List.getElem?_append_left (by rw [List.length_map, r.length]; exact hi), List.getElem?_map, ev]
    rfl
theorem fn_ok (TA : Tab C) (TO : TbOk C T) {k n : Nat} (FA : FnAll C k (Mp.callFn C.pg n)) (hf : C.pg.fns[f]? = some fn) (F : FnF C T f fn name qual params body scope N dvs lm fd) :
    FnOk C.P C.w C.K C.mg C.base (L2.CX C.P C.w) (k + 4) (C.fa f) fd (C.ps f) (spF C (Mp.callFn C.pg (n + 1)) f) := by
  obtain ⟨oc, od, dV, kV, doc, pm, an, cdv, ct, osl, efd, lk, hcd, hDf, hKw⟩ := F.D.ex
  subst efd
  refine fn_of lk hcd F.S (fun vs H Q E h => sp_len h) fun A outer s H vs Q E hr hsp => ?_
  obtain ⟨m, j, tr⟩ := F.tr
  refine ⟨tS C (WK E) (mSs C (Mp.callFn C.pg n) fn.body), ?_, ?_⟩
  · have tk : Takes (L2.cxOf (L2.CX C.P C.w) C.P C.w C.K C.mg C.base N qual scope (C.fa f) cdv A outer s H E) (WK E) := takes_of (E := E) rfl rfl rfl rfl
    have kd : scope.kind = .function := F.S.kind
    refine trB_ok TA TO FA m j body fn.body tr _ E ⟨⟨⟨rfl, rfl, rfl, rfl, rfl, rfl, F.S.nd⟩, rfl, rfl, fun x hx => ?_, hr.mono (by omega), ?_, fun hl => ?_⟩, passes_of (E₁ := fun e' s'' => L2.CX C.P C.w outer H s E e' s'') (K := fun e s'' => L2.CX C.P C.w outer H s E e s'') rfl, tk, kd⟩
    · have hx : (scope.names.lookup x == some .local || scope.names.lookup x == some .cell) = true := hx
      rw [Bool.or_eq_true] at hx
      refine ⟨?_, .inl rfl⟩
      rcases hx with hx | hx
      · have e : scope.names.lookup x = some .local := by simpa using hx
        exact .inl e
      · have e : scope.names.lookup x = some .cell := by simpa using hx
        exact .inr e
    · exact passes_call (W := WK E) tk fun cls d σ H h => h
    · obtain ⟨cd, P, e1, e2, e3, e4⟩ := F.lam hl
      have q3 : ∀ z : Str, z = qual ++ ".<locals>." → (P, z ++ ("<lambda>" : Str)) ∈ C.tb := fun z e => by rw [e]; exact e3
      have q4 : ∀ z : Str, z = qual ++ ".<locals>." → ∀ p ∈ C.tb, p.1 = P → p.2 = z ++ ("<lambda>" : Str) := fun z e => by rw [e]; exact e4
      have eq : (L2.cxOf (L2.CX C.P C.w) C.P C.w C.K C.mg C.base N qual scope (C.fa f) cdv A outer s H E).env.qual = qual ++ ".<locals>." := rfl
      exact ⟨cd, P, e1, e2, q3 _ eq, q4 _ eq, hr⟩
  · obtain ⟨ρ, h, ds, S, r, l, ev⟩ := hsp
    have hN : vs.length ≤ N.length := by
      have := congrArg List.length F.S.pre
      rw [List.length_take] at this
      rw [r.length, l]
      omega
    simp only [Mp.callFn, Mp.runFn, hf] at ev
    rw [if_pos (by rw [l, F.ps])] at ev
    refine ⟨ρ, _, h, start_es r (n := fn.ns - fn.ps) (by rw [F.ns, F.ps, r.length, l]) hN, S, ?_⟩
    simp only [mSs]
    cases q : Mp.evSs C.pg (Mp.callFn C.pg n) fn.body (ds.map some ++ List.replicate (fn.ns - fn.ps) none) h with
    | nx env h' => rw [q] at ev; exact fun ρ' σ' H' l k es S' => ev ρ' H' .non l k S' nonRel
    | rt d h' => rw [q] at ev; exact ev
    | bk env h' => rw [q] at ev; exact ev.elim
    | ct env h' => rw [q] at ev; exact ev.elim
    | er c fs env h' => rw [q] at ev; exact fun ρ' σ' H' d l k es S' r => ev ρ' H' d l k S' r
    | stk => rw [q] at ev; exact ev.elim
/-- all functions, at all levels -/
theorem all_ok (TA : Tab C) (TO : TbOk C T) (FF : FnFs C T) : ∀ n, FnAll C (4 * n) (Mp.callFn C.pg n)
  | 0 => fun f fn hf => by
    obtain ⟨name, qual, params, body, scope, N, dvs, lm, fd, F⟩ := FF f fn hf
    refine ⟨fd, dvs, F.d, ⟨fun vs H Q E h => sp_len h, fun A outer s H args us vs Q E hr e0 hb r hsp => ?_⟩⟩
    obtain ⟨ρ, h, ds, S, r, l, ev⟩ := hsp
    simp only [Mp.callFn] at ev
    exact ev.elim
  | n + 1 => fun f fn hf => by
    obtain ⟨name, qual, params, body, scope, N, dvs, lm, fd, F⟩ := FF f fn hf
    exact ⟨fd, dvs, F.d, fn_ok TA TO (all_ok TA TO FF n) hf F⟩
end
end MpS
end
section
set_option Elab.async false
set_option linter.all false
set_option maxRecDepth 100000
set_option maxHeartbeats 4000000
namespace MpS
open PySem L2
/-! ### a law -/
abbrev Cf.at (C : Cf) (b : PySem.Heap) : Cf := { C with base := b }
section
variable {C : Cf} {b : PySem.Heap}
theorem sim_at {ρ : List Addr} {h : Mp.Heap} {H : Hp} : Sim (C.at b) ρ h H ↔ Sim C ρ h H := ⟨fun S => ⟨S.len, S.nd, S.ob, S.tb⟩, fun S => ⟨S.len, S.nd, S.ob, S.tb⟩⟩
theorem evg_at {α β : Type} {R : Rel α β} {W : WX} {σ : St} {r : Mp.Res α} {ρ : List Addr} {H : Hp} {Q : β → Hp → Prop} (h : EvG C W σ R r ρ H Q) : EvG (C.at b) W σ R r ρ H Q := by
  cases r with
  | ok a h' => exact fun ρ' H' v l k S q => h ρ' H' v l k (sim_at.mp S) q
  | err c fs h' => exact fun ρ' H' d l k S q => h ρ' H' d l k (sim_at.mp S) q
  | stk => exact h
theorem sp_at {cf : Nat → List Mp.D → Mp.Heap → Mp.Res Mp.D} {f : Nat} {vs : List V} {H : Hp} {Q : VK} {E : XK} (h : spF C cf f vs H Q E) : spF (C.at b) cf f vs H Q E := by
  obtain ⟨ρ, h, ds, S, r, l, ev⟩ := h
  exact ⟨ρ, h, ds, sim_at.mpr S, r, l, evg_at ev⟩
end
theorem ints_rel {K : PySem.W.Frag} {ρ : List Addr} {H : Hp} : ∀ ns : List Int, RelDs K ρ H (ns.map Mp.D.int) (ns.map V.int)
  | [] => .nil
  | i :: ns => .cons (intRel_ i) (ints_rel ns)
where intRel_ (i : Int) : RelD K ρ H (.int i) (.int i) := by simp only [RelD]
/-- the script is handed in -/
theorem sp_law {C : Cf} {lev f : Nat} {H : Hp} {a : Addr} {ns : List Int} (hp : (C.ps f).length = 1) (hS : SqL C.K H a (ns.map V.int)) (hT : LamX.Tabs C.tb H) (h : ∃ h', Mp.callFn C.pg lev f [.ref 0] [.ro (ns.map .int)] = .ok (.bl true) h') : spF C (Mp.callFn C.pg lev) f [.ref a] H (fun v _ => v = .bl true) (fun _ _ _ => False) := by
  obtain ⟨h', e⟩ := h
  refine ⟨[a], [.ro (ns.map .int)], [.ref 0], ⟨rfl, fun i j b e1 e2 => ?_, fun i b o e1 e2 => ?_, hT⟩, .one (refRel rfl), by rw [hp]; rfl, ?_⟩
  · left
    cases i with
    | zero => cases j with
      | zero => rfl
      | succ j => simp at e2
    | succ i => simp at e1
  · cases i with
    | zero => simp at e1 e2; subst e1 e2; exact ⟨_, hS, ints_rel ns⟩
    | succ i => simp at e1
  · rw [e]
    intro ρ' H' v l k S r
    exact relBl r
/-- what is to be shown for a law; cs: the code objects that make lambdas, and their tables -/
structure LawF (P : Program) (w : World) (mg : Str → Option Value) (fa : Addr) (x : Str) (lev n : Nat) (C : Cf) (T : Tb) (i : Nat) (fn : Mp.Fn) (cs : List (Addr × Addr)) : Prop where
  P : C.P = P
  w : C.w = w
  mg : C.mg = mg
  fa : C.fa i = fa
  ps : C.ps i = [x]
  at_ : C.pg.fns[i]? = some fn
  dfl : fn.dfl = []
  tbl : ∀ p ∈ C.tb, ∃ q ∈ cs, q.2 = p.1
  d0 : ∃ fd dvs, FnD C i fn fd dvs
  tab : ∀ b, Tab (C.at b)
  tb : ∀ b, TbOk (C.at b) T
  fns : ∀ b, (∀ p ∈ cs, LamX.TabB b C.mg p.1 p.2) → FnFs (C.at b) T
  law : ∀ ns : List Int, ns.length ≤ n → ∃ h', Mp.callFn C.pg lev i [.ref 0] [.ro (ns.map .int)] = .ok (.bl true) h'
def CXs (P : Program) : CXT := fun outer H s E e s' => ∃ w, L2.CX P w outer H s E e s'
theorem fnok_cx {P : Program} {w : World} {K : PySem.W.Frag} {mg : Str → Option Value} {base : PySem.Heap} {k : Nat} {f : Addr} {fd : FuncData} {ps : List Str} {sp : Sp} (F : FnOk P w K mg base (L2.CX P w) k f fd ps sp) : FnOk P w K mg base (CXs P) k f fd ps sp := by
  refine ⟨F.len, fun A outer s H args us vs Q E hr e0 hb r hsp => codeAny_mono (F.run A outer s H args us vs Q E hr e0 hb r hsp) fun r s' hq => ?_⟩
  cases r with
  | ok fl => cases fl <;> exact hq
  | error e => exact ⟨w, hq⟩
theorem mp_walk {l : PySem.W.OpenLaw} {n lev : Nat} {q : Program} {loose : List Str} {XP : (Str → Option Value) → PySem.Heap → Prop} {YP : World → PySem.Heap → Prop} {d : DefRec} {x : Str}
    (hn : l.most = some n) (hn2 : n ≤ sizeLine) (hdf : d.params.defaults = []) (hr : Room (4 * lev) callerA)
    (F : ∀ (w : World) (mg : Str → Option Value) (fa : Addr) (h : PySem.Heap), YP w h → h.Ns mainGlobals mg → mg d.name = some (.ref fa) → ∃ C T i fn cs, C.K.In h ∧ LawF l.prog w mg fa x lev n C T i fn cs ∧
      (∀ p ∈ cs, h.get? p.2 = some { cls := .none, data := .fields #[] }) ∧ (∀ p ∈ cs, C.K.lookup p.2 = none) ∧ ∀ p ∈ cs, PySem.W.CodeHd h p.1 p.2) :
    PySem.W.WalkO q loose XP YP l.row.toRowW d [] (fun f vs => PySem.call f vs) := by
  refine LamX.walk_ofTsE (k := 4 * lev) (x := x) (CX := fun _ => CXs l.prog) hn hn2 hdf hr (fun w mg fa h Y G hmg => ?_) (fun w H s e s' hc => ?_)
  · obtain ⟨C, T, i, fn, cs, KX, L, t1, t2, t3⟩ := F w mg fa h Y G hmg
    obtain ⟨fd, dvs, D⟩ := L.d0
    have hd : dvs = [] := by
      have := (D.dd [] (fun _ => none)).length
      rw [L.dfl] at this
      simpa using this
    refine ⟨C.K, KX, fd, cs, spF C (Mp.callFn C.pg lev) i, t1, t2, t3, fun s u => ?_, fun H a ns hl _ hH hS => sp_law (by rw [L.ps]; rfl) hS (fun p hp => ?_) (L.law ns hl), fun base hb hg hB => ?_⟩
    · have e0 : fd.defaults = .none := by
        rcases D.dfl with ⟨_, e⟩ | ⟨ne, _⟩
        · exact e
        · exact absurd hd ne
      have pl : PlainPs fd [x] := by rw [← L.ps]; exact D.pl
      intro M A E Q hq
      refine bind_gen pl (o := none) (fun Q q => ?_) (Nat.le_refl _) (Nat.zero_le _) (fun p hp => by cases hp) (by simp) (fun p hp => by cases hp) (fun n hn => ?_) ?_
      · rw [e0]; exact wpAny_pure q
      · have : n = x := by simpa using hn
        subst this
        simp [List.lookup]
      · have : (([x] : List Str).filterMap fun n => (bound [x] [u] [] ((none : Option (Array Value)).getD #[]).toList n).map (n, ·)) = [(x, u)] := by
          simp [bound, List.lookup]
        rw [this]
        exact hq
    · obtain ⟨z, hz, e⟩ := L.tbl p hp
      exact LamX.TabS.nil (by rw [← e]; exact hH z hz)
    · obtain ⟨fd', dvs', D', F'⟩ := all_ok (L.tab base) (L.tb base) (L.fns base (by rw [L.mg]; exact hB)) lev i fn L.at_
      obtain ⟨oc, od, osl, lk⟩ := D.lk
      obtain ⟨oc', od', osl', lk'⟩ := D'.lk
      have e : some (⟨oc, od, .func fd, osl⟩ : Obj) = some ⟨oc', od', .func fd', osl'⟩ := lk.symm.trans lk'
      have e2 : fd = fd' := by
        injection e with e
        injection e with _ _ e _
        injection e
      subst e2
      have F2 : FnOk l.prog w C.K mg base (L2.CX l.prog w) (4 * lev) fa fd [x] (spF (C.at base) (Mp.callFn C.pg lev) i) := by
        rw [← L.P, ← L.w, ← L.mg, ← L.fa, ← L.ps]
        exact F'
      exact fnok_cx (F2.imp (fun vs H Q E h => by
        have := sp_at (b := base) h
        exact this))
  · obtain ⟨w, a, B, H', cls, d, _, _, _, _, _, _, _, f⟩ := hc
    exact f.elim
end MpS
end
section
set_option Elab.async false
set_option linter.all false
set_option maxRecDepth 100000
set_option maxHeartbeats 4000000
namespace MpS
open PySem L2
/-! ### the tables of a text -/
/-- a def of the text: where it stands, and its parts -/
structure DefI where
  key : Str × Option Str
  args : Arguments
  body : List Stmt
  scope : Scope
def defsIn (c : Str) : List Stmt → List DefI
  | [] => []
  | .FunctionDef n a b _ _ _ sc _ _ _ :: r => ⟨(c, some n), a, b, sc⟩ :: defsIn c r
  | _ :: r => defsIn c r
def defsOf : List Stmt → List DefI
  | [] => []
  | .FunctionDef n a b _ _ _ sc _ _ _ :: r => ⟨(n, none), a, b, sc⟩ :: defsOf r
  | .ClassDef n _ _ b _ _ _ _ _ _ _ :: r => defsIn n b ++ defsOf r
  | _ :: r => defsOf r
def clsNames : List Stmt → List (Str × List Str)
  | [] => []
  | .ClassDef n bs _ _ _ _ _ _ _ _ _ :: r => (n, bs.filterMap fun | .Name x _ => some x | _ => none) :: clsNames r
  | _ :: r => clsNames r
/-- what is told of a text: its attributes' names, each def's names, the constants of the top, the names that are free -/
structure Told where
  attrs : List Str
  names : List (List Str)
  consts : List (Str × Mp.D)
  free : List Str
  lams : List Nat
  caught : List (Str × Nat)
def DefI.ps (d : DefI) : List Str := d.args.args.map (·.arg)
def dflD (consts : List (Str × Mp.D)) : Expr → Mp.D
  | .Constant k _ _ => (constD k).getD .non
  | .Name x _ => (consts.lookup x).getD .non
  | _ => .non
structure Txt where
  defs : List DefI
  cls : List (Str × List Str)
  told : Told
/-- a class and those above it -/
def upOf (cls : List (Str × List Str)) : Nat → Str → List Nat
  | 0, _ => []
  | n + 1, x => match (cls.map (·.1)).idxOf? x with
    | some i => i :: (((cls.lookup x).getD []).map (upOf cls n)).flatten
    | none => []
def Txt.fnIx (t : Txt) (x : Str) : Option Nat := (t.defs.map (·.key)).idxOf? (x, none)
def Txt.clIx (t : Txt) (x : Str) : Option Nat := (t.cls.map (·.1)).idxOf? x
def Txt.am (t : Txt) (x : Str) : Option Nat := t.told.attrs.idxOf? x
/-- an exception class without own __init__: one of some base, none of its line has methods -/
def Txt.exIx (t : Txt) (x : Str) : Option Nat := if ((t.cls.lookup x).getD []).isEmpty then none else (if (upOf t.cls 5 x).all (fun i => t.defs.all fun d => !(some d.key.1 == (t.cls[i]?).map (·.1))) then t.clIx x else none)
def Txt.tb (t : Txt) : Tb := ⟨t.fnIx, t.clIx, t.am, fun x => t.told.consts.lookup x, fun x => t.told.free.contains x, t.exIx, fun x => t.told.caught.lookup x⟩
def Txt.ps (t : Txt) (f : Nat) : List Str := ((t.defs[f]?).map (·.ps)).getD []
def Txt.body (t : Txt) (pg : Mp.Pg) (f : Nat) : Option Mp.Sts := match t.defs[f]?, t.told.names[f]? with
  | some d, some N => trB (trE t.tb pg t.ps 40 (fnCtx N d.scope (t.told.lams.contains f))) t.tb (fnCtx N d.scope (t.told.lams.contains f)) 40 d.body
  | _, _ => none
end MpS
end
section
set_option Elab.async false
set_option linter.all false
set_option maxRecDepth 100000
set_option maxHeartbeats 4000000
namespace MpS
open PySem L2
/-! ### a text's head: what is looked at, and what follows -/
structure CauI where
  d : DefI
  cl : Nat
structure Src where
  pg : Mp.Pg
  t : Txt
  cau : List CauI
  law : Nat
namespace Src
variable (S : Src)
/-- the attributes' names; beyond them names that stand nowhere -/
def nm (i : Nat) : Str := match S.t.told.attrs[i]? with
  | some s => s
  | none => ⟨Array.replicate (i + 1000) 0⟩
def cn (c : Nat) : Str := match S.t.cls[c]? with
  | some p => p.1
  | none => ⟨#[]⟩
def key (f : Nat) : Str × Option Str := match S.t.defs[f]? with
  | some d => d.key
  | none => (⟨#[]⟩, none)
def dvOf : Mp.D → He.Dv
  | .bl b => .bl b
  | .int i => .int i
  | .str s => .str (strV s)
  | _ => .non
def scalD : Mp.D → Bool
  | .tup _ => false
  | .ref _ => false
  | _ => true
def dname (d : DefI) : Str := d.key.2.getD d.key.1
def dqual (d : DefI) : Str := match d.key.2 with
  | none => d.key.1
  | some m => d.key.1 ++ "." ++ m
def dd (d : DefI) (dfl : List Mp.D) : He.DefD := ⟨d.key, dname d, dqual d, d.args, d.body, d.scope, dfl.map dvOf, []⟩
def dfl (f : Nat) : List Mp.D := match S.pg.fns[f]? with
  | some fn => fn.dfl
  | none => []
def fnL : List He.DefD := (List.range S.t.defs.length).filterMap (fun f => (S.t.defs[f]?).map fun d => dd d (S.dfl f)) ++ S.cau.map fun c => dd c.d []
def clsFa (c : Nat) : List He.Fa := match S.pg.cls[c]? with
  | some k => if k.init.isSome then [.cls (S.cn c), .mkr (S.cn c)] ++ k.fl.map (fun f => .noat (S.cn c) (S.nm f)) ++ k.ms.map (fun p => .meth (S.cn c) (S.nm p.1)) else []
  | none => []
def faL : List He.Fa := S.t.defs.filterMap (fun d => if d.key.2.isNone then some (.glo d.key.1) else none) ++ S.cau.map (fun c => .glo c.d.key.1) ++ S.t.cls.map (fun c => .glo c.1) ++ S.t.told.free.map .free ++ (List.range S.pg.cls.length).flatMap S.clsFa ++ (S.t.cls.filter fun c => (S.t.exIx c.1).isSome).map fun c => .exc c.1
section
variable (K : PySem.W.Frag)
def ca (c : Nat) : Addr := He.ga K (S.cn c)
def fa (f : Nat) : Addr := He.fAd K (S.key f)
def knW : Mp.Kn → Value
  | .non => .type "NoneType"
  | .bool => .type "bool"
  | .int => .type "int"
  | .str => .type "str"
  | .tuple => .type "tuple"
  | .list => .type "list"
  | .dict => .type "dict"
  | .ins c => .ref (S.ca K c)
def tyW : Mp.Ty → Value
  | .int => .type "int"
  | .bool => .type "bool"
  | .str => .type "str"
  | .tuple => .type "tuple"
  | .list => .type "list"
  | .dict => .type "dict"
  | .cls c => .ref (S.ca K c)
def kns : List Mp.Kn := [.non, .bool, .int, .str, .tuple, .list, .dict] ++ (List.range S.pg.cls.length).map .ins
def tys : List Mp.Ty := [.int, .bool, .str, .tuple, .list, .dict] ++ (List.range S.pg.cls.length).map .cls
def kitB (k : Mp.Kn) (t : Mp.Ty) : Bool := match Mp.isK S.pg k t with
  | some b => decide (PySem.W.kitOne K (S.knW K k) (S.tyW K t) = some b)
  | none => true
def kitAll : Bool := S.kns.all fun k => S.tys.all fun t => S.kitB K k t
def excC (D : Addr) : Bool := He.eqO (PySem.W.findIn K (.ref D) "__getattribute__") (some (some (.builtin "BaseException.__getattribute__"))) && He.eqO (PySem.W.findIn K (.ref D) "__getattr__") (some none) && decide (PySem.W.subIn K (.ref D) (.type "BaseException") = some true) && PySem.W.hasDictIn K D
  && He.eqO (PySem.W.findIn K (.ref D) "__class__") (some (some (.builtin "object.__class__"))) && He.eqO (PySem.W.specialIn K (.builtin "object.__class__") "__get__") (some (some (.builtin "getset_descriptor.__get__"))) && decide (PySem.W.takesIn K (.builtin "object.__class__") = some true) && decide (PySem.W.mroIn K D (.type "object") = some true)
def insT (D : Addr) : Bool := He.eqO (PySem.W.findIn K (.ref D) "__class__") (some (some (.builtin "object.__class__"))) && He.eqO (PySem.W.specialIn K (.builtin "object.__class__") "__get__") (some (some (.builtin "getset_descriptor.__get__"))) && decide (PySem.W.takesIn K (.builtin "object.__class__") = some true) && decide (PySem.W.mroIn K D (.type "object") = some true)
def clsB (c : Nat) : Bool := match S.pg.cls[c]? with
  | some k => (!k.ex || (excC K (S.ca K c) && k.up.all fun d => decide (PySem.W.exmOne K (.ref (S.ca K c)) (.ref (S.ca K d)) = some true))) && (!k.init.isSome || insT K (S.ca K c)) && (k.ms.all fun p => decide (He.ma K (S.ca K c) (S.nm p.1) = S.fa K p.2)) && (match k.init with
    | some f => decide (He.ma K (S.ca K c) "__init__" = S.fa K f)
    | none => true)
  | none => true
mutual
def constB (K : PySem.W.Frag) : Mp.D → Value → Bool
  | .non, u => match u with | .none => true | _ => false
  | .bl b, u => match u with | .bool c => b == c | _ => false
  | .int i, u => match u with | .int j _ => decide (i = j) | _ => false
  | .str s, u => match u with | .str x _ => decide (strV s = x) | _ => false
  | .tup ds, u => match u with
    | .ref a => match K.lookup a with
      | some ⟨.type c, _, .seq its _, _⟩ => decide (c = "tuple") && (decide (its.size ≤ sizeLine) && constsB K ds its.toList)
      | _ => false
    | _ => false
  | .ref _, _ => false
def constsB (K : PySem.W.Frag) : List Mp.D → List Value → Bool
  | [], us => us.isEmpty
  | d :: ds, us => match us with
    | [] => false
    | u :: us => constB K d u && constsB K ds us
end
def conAll : Bool := S.t.told.consts.all fun p => !(p.1 == ("__debug__" : Str)) && (match PySem.W.nsIn K mainGlobals p.1 with
  | some (some u) => constB K p.2 u
  | _ => false)
def codeAt (p : Str × Option Str) : Option (Addr × Addr) := match K.lookup (He.fAd K p) with
  | some ⟨_, _, .func fd, _⟩ => match fd.code with
    | .ref c => match K.lookup c with
      | some ⟨_, _, .fields vs, _⟩ => match (vs[11]? : Option Value) with
        | some (Value.ref P) => some (c, P)
        | _ => none
      | _ => none
    | _ => none
  | _ => none
def lams : List (Str × Option Str) := S.t.told.lams.map S.key
def cs : List (Addr × Addr) := S.lams.filterMap (codeAt K)
def tbs : List (Addr × Str) := S.t.told.lams.filterMap fun f => match codeAt K (S.key f), S.t.defs[f]? with
  | some q, some d => some (q.2, dqual d ++ ".<locals>." ++ "<lambda>")
  | _, _ => none
def isStr : Value → Bool
  | .str _ _ => true
  | _ => false
def isInt : Value → Bool
  | .int _ _ => true
  | _ => false
def isBool : Value → Bool
  | .bool _ => true
  | _ => false
def hdB (g : Addr → Option Obj) (c P : Addr) : Bool := match g c with
  | some ⟨.type q, _, .fields vs, _⟩ => decide (q = "code") && decide (vs[11]? = some (.ref P)) && decide (vs.getD 11 .none = .ref P) && isStr (vs.getD 18 .none) && isInt (vs.getD 7 .none) && isBool (vs.getD 9 .none) && isInt (vs.getD 10 .none) && !(c == P)
  | _ => false
def emp : Option Obj → Bool
  | some ⟨.none, none, .fields vs, sl⟩ => vs.isEmpty && sl.isEmpty
  | _ => false
def lamB (g : Addr → Option Obj) (p : Str × Option Str) : Bool := match codeAt K p with
  | some q => hdB g q.1 q.2 && emp (g q.2) && (K.lookup q.2).isNone
  | none => false
def nodupT : List (Addr × Str) → Bool
  | [] => true
  | p :: r => r.all (fun q => !(q.1 == p.1)) && nodupT r
def xs (g : Addr → Option Obj) : Bool := S.kitAll K && (List.range S.pg.cls.length).all (S.clsB K) && S.conAll K && S.lams.all (lamB K g) && nodupT (S.tbs K)
end
def frag (n : Nat) (g : Addr → Option Obj) : PySem.W.Frag := He.frG g ((He.asD g n).filter fun a => !emp (g a))
abbrev Al : Type := He.AlD × Bool
def obs (n : Nat) (g : Addr → Option Obj) : Al := (He.obsD S.faL S.fnL (frag n g), S.xs (frag n g) g)
def val : Al := (He.valD S.fnL, true)
/-- what the head says -/
structure Says (h : PySem.Heap) (K : PySem.W.Frag) : Prop where
  kin : K.In h
  d : He.SaysD S.faL S.fnL K
  kit : S.kitAll K = true
  cls : (List.range S.pg.cls.length).all (S.clsB K) = true
  con : S.conAll K = true
  lam : ∀ p ∈ S.lams, ∃ c P, codeAt K p = some (c, P) ∧ PySem.W.CodeHd h c P ∧ h.get? P = some { cls := .none, data := .fields #[] } ∧ K.lookup P = none
  nd : nodupT (S.tbs K) = true
theorem emp_eq {o : Option Obj} (h : emp o = true) : o = some { cls := .none, data := .fields #[] } := by
  unfold emp at h
  split at h
  · rename_i vs sl
    rw [Bool.and_eq_true] at h
    have e1 : vs = #[] := Array.isEmpty_iff.mp h.1
    have e2 : sl = #[] := Array.isEmpty_iff.mp h.2
    subst e1 e2
    rfl
  · cases h
theorem hd_ok {h : PySem.Heap} {c P : Addr} (e : hdB h.get? c P = true) : PySem.W.CodeHd h c P := by
  unfold hdB at e
  split at e
  · rename_i q d vs sl ho
    simp only [Bool.and_eq_true, decide_eq_true_eq, Bool.not_eq_true', beq_eq_false_iff_ne] at e
    obtain ⟨⟨⟨⟨⟨⟨⟨e1, e2⟩, e3⟩, e4⟩, e5⟩, e6⟩, e7⟩, e8⟩ := e
    subst e1
    have s18 : ∃ f t, vs.getD 18 .none = .str f t := by
      cases z : vs.getD 18 .none <;> rw [z] at e4 <;> first | exact ⟨_, _, rfl⟩ | cases e4
    have s7 : ∃ f t, vs.getD 7 .none = .int f t := by
      cases z : vs.getD 7 .none <;> rw [z] at e5 <;> first | exact ⟨_, _, rfl⟩ | cases e5
    have s9 : ∃ f, vs.getD 9 .none = .bool f := by
      cases z : vs.getD 9 .none <;> rw [z] at e6 <;> first | exact ⟨_, rfl⟩ | cases e6
    have s10 : ∃ f t, vs.getD 10 .none = .int f t := by
      cases z : vs.getD 10 .none <;> rw [z] at e7 <;> first | exact ⟨_, _, rfl⟩ | cases e7
    obtain ⟨f, t, a1⟩ := s18
    obtain ⟨f2, t2, a2⟩ := s7
    obtain ⟨f3, a3⟩ := s9
    obtain ⟨f4, t4, a4⟩ := s10
    exact ⟨_, vs, f, t, f2, t2, f3, f4, t4, ho, rfl, rfl, e2, e3, a1, a2, a3, a4, e8⟩
  · cases e
theorem CodeHd_keeps {h h' : PySem.Heap} {c P : Addr} (e : PySem.W.CodeHd h c P) (k : ∀ b o, h.get? b = some o → h'.get? b = some o) : PySem.W.CodeHd h' c P := by
  obtain ⟨o, vs, a, b, c1, d, e1, f, g, h1, r⟩ := e
  exact ⟨o, vs, a, b, c1, d, e1, f, g, k _ _ h1, r⟩
def hook (n : Nat) : PySem.W.Hook where
  α := Al
  obs := fun s => S.obs n s.heap.get?
  val := fun _ => S.val
  says := fun _ h => ∃ K, S.Says h K
  of := fun w s e => by
    have e1 : He.obsD S.faL S.fnL (frag n s.heap.get?) = He.valD S.fnL := congrArg (fun z : Al => z.1) e
    have e2 : S.xs (frag n s.heap.get?) s.heap.get? = true := congrArg (fun z : Al => z.2) e
    unfold xs at e2
    simp only [Bool.and_eq_true] at e2
    obtain ⟨⟨⟨⟨a1, a2⟩, a3⟩, a4⟩, a5⟩ := e2
    refine ⟨_, He.frG_in, e1, a1, a2, a3, fun p hp => ?_, a5⟩
    have q := List.all_eq_true.mp a4 p hp
    unfold lamB at q
    split at q
    · rename_i z hz
      rw [Bool.and_eq_true, Bool.and_eq_true] at q
      obtain ⟨⟨q1, q2⟩, q3⟩ := q
      exact ⟨z.1, z.2, hz, hd_ok q1, emp_eq q2, Option.isNone_iff_eq_none.mp q3⟩
    · cases q
  keeps := fun w h h' ⟨K, s⟩ k => ⟨K, PySem.W.Frag.In.keeps s.kin k, s.d, s.kit, s.cls, s.con, fun p hp => by
    obtain ⟨c, P, h1, h2, h3, h4⟩ := s.lam p hp
    exact ⟨c, P, h1, CodeHd_keeps h2 k, k _ _ h3, h4⟩, s.nd⟩
theorem obs_eq {n : Nat} {g : Addr → Option Obj} {s : Shared} (h : ∀ a, g a = s.heap.get? a) : S.obs n g = (S.hook n).obs s := by
  have e : g = s.heap.get? := funext h
  rw [e]
  rfl
end Src
end MpS
end
section
set_option Elab.async false
set_option linter.all false
set_option maxRecDepth 100000
set_option maxHeartbeats 4000000
namespace MpS
open PySem L2
namespace Src
/-! ### what the text itself shows -/
def scB (N P : List Str) (sc : Scope) : Bool := decide (sc.kind = .function) && !sc.isCoroutine && !sc.isGenerator && decide N.Nodup && decide (N.take P.length = P) && (P.all fun x => decide (sc.names.lookup x = some .local) || decide (sc.names.lookup x = some .cell)) && sc.names.all fun y => !decide (y.2 = .free)
theorem scB_ok {N P : List Str} {sc : Scope} (h : scB N P sc = true) : FnScope N P sc := by
  unfold scB at h
  simp only [Bool.and_eq_true, Bool.or_eq_true, Bool.not_eq_true', decide_eq_true_eq, decide_eq_false_iff_not, List.all_eq_true] at h
  obtain ⟨⟨⟨⟨⟨⟨h1, h2⟩, h3⟩, h4⟩, h5⟩, h6⟩, h7⟩ := h
  exact ⟨h1, h2, h3, h4, h5, h6, h7⟩
def plainA (a : Arguments) : Bool := a.posonlyargs.isEmpty && a.kwonlyargs.isEmpty && a.vararg.isNone && a.kwarg.isNone
def cauOf : List Stmt → Option (Str × Str × Str × Str × Nat × List Pos)
  | [.Assign [.Name c q0] (.Constant .none k q1) q2, .Try [.Expr (.Call (.Name a q3) [] [] q4) q5] [.ExceptHandler (some (.Name x q6)) (some e) [.Assign [.Name c' q7] (.Name e' q8) q9] q10] [] [] q11, .Return (some (.Name c'' q12)) q13] =>
    if c' = c ∧ e' = e ∧ c'' = c then some (a, c, e, x, k, [q0, q1, q2, q3, q4, q5, q6, q7, q8, q9, q10, q11, q12, q13]) else none
  | _ => none
theorem cauOf_eq {b : List Stmt} {a c e x : Str} {k : Nat} {p : List Pos} (h : cauOf b = some (a, c, e, x, k, p)) : b = cauBody a c e x k p := by
  unfold cauOf at h
  split at h
  · split at h
    · rename_i q
      obtain ⟨rfl, rfl, rfl⟩ := q
      cases h
      rfl
    · cases h
  · cases h
variable (S : Src)
def cauB (c : CauI) : Bool := match cauOf c.d.body with
  | some (a, cc, e, x, k, p) => c.d.key.2.isNone && plainA c.d.args && decide (c.d.args.args.map (·.arg) = [a]) && scB [a, cc, e] [a] c.d.scope && decide (c.d.scope.names.lookup cc = some .local) && decide (c.d.scope.names.lookup e = some .local) && decide (c.d.scope.names.lookup a = some .local) && decide (c.d.scope.names.lookup x = some .globalImplicit)
    && ([a, cc, e, x, c.d.key.1].all fun z => !(z == ("__debug__" : Str)) && !(z == ("__classdict__" : Str))) && decide (S.t.cls[c.cl]?.map (·.1) = some x)
  | none => false
def fnB (f : Nat) : Bool := match S.pg.fns[f]?, S.t.defs[f]?, S.t.told.names[f]? with
  | some fn, some d, some N => scB N d.ps d.scope && plainA d.args && decide d.ps.Nodup && decide (fn.ns = N.length) && decide (fn.ps = d.ps.length) && fn.dfl.all scalD
  | _, _, _ => false
def stat : Bool := decide S.t.told.attrs.Nodup && (S.t.told.attrs.all fun x => decide (x.length < 1000)) && decide (S.pg.cls.length = S.t.cls.length) && ((List.range S.pg.cls.length).all fun c => match S.pg.cls[c]? with
    | some k => (k.fl.isEmpty && k.ms.isEmpty) || k.init.isSome
    | none => true)
  && ((List.range S.pg.fns.length).all S.fnB) && decide (S.pg.fns.length = S.t.defs.length) && (S.t.defs.all fun d => !(d.key.1 == ("__debug__" : Str))) && (S.t.cls.all fun d => !(d.1 == ("__debug__" : Str)))
  && (S.t.told.caught.all fun q => S.cau.any fun c => decide (c.d.key = (q.1, none)) && decide (c.cl = q.2) && S.cauB c)
abbrev cfg (P : Program) (w : World) (mg : Str → Option Value) (K : PySem.W.Frag) (b : PySem.Heap) : Cf := { P := P, w := w, K := K, mg := mg, base := b, pg := S.pg, nm := S.nm, ca := S.ca K, fa := S.fa K, ps := S.t.ps, tb := S.tbs K }
section
variable {S} {K : PySem.W.Frag} {h : PySem.Heap} {P : Program} {w : World} {mg : Str → Option Value} {b' : PySem.Heap}
theorem Says.fact (s : S.Says h K) {f : He.Fa} (hf : f ∈ S.faL) : f.ok K = true := by
  have c1 := (He.ba (show ((S.faL.all fun f => f.ok K) && S.fnL.all fun d => d.ok K) = true from congrArg (fun z : He.AlD => z.1) s.d)).1
  exact List.all_eq_true.mp c1 f hf
theorem Says.fn (s : S.Says h K) {d : He.DefD} (hd : d ∈ S.fnL) : ∃ fd, FunD K d.name d.qual d.params d.body d.scope (d.dvs K) (d.kws K) (He.fAd K d.at_) fd := by
  obtain ⟨i, hi⟩ := List.mem_iff_getElem?.mp hd
  exact s.d.def_ i hi
theorem mem1 {f : He.Fa} (h : f ∈ S.t.defs.filterMap (fun d => if d.key.2.isNone then some (.glo d.key.1) else none)) : f ∈ S.faL := by
  unfold faL; simp only [List.mem_append]; exact .inl (.inl (.inl (.inl (.inl h))))
theorem mem2 {f : He.Fa} (h : f ∈ S.cau.map (fun c => He.Fa.glo c.d.key.1)) : f ∈ S.faL := by
  unfold faL; simp only [List.mem_append]; exact .inl (.inl (.inl (.inl (.inr h))))
theorem mem3 {f : He.Fa} (h : f ∈ S.t.cls.map (fun c => He.Fa.glo c.1)) : f ∈ S.faL := by
  unfold faL; simp only [List.mem_append]; exact .inl (.inl (.inl (.inr h)))
theorem mem4 {f : He.Fa} (h : f ∈ S.t.told.free.map He.Fa.free) : f ∈ S.faL := by
  unfold faL; simp only [List.mem_append]; exact .inl (.inl (.inr h))
theorem mem5 {f : He.Fa} (h : f ∈ (List.range S.pg.cls.length).flatMap S.clsFa) : f ∈ S.faL := by
  unfold faL; simp only [List.mem_append]; exact .inl (.inr h)
theorem mem6 {f : He.Fa} (h : f ∈ (S.t.cls.filter fun c => (S.t.exIx c.1).isSome).map fun c => He.Fa.exc c.1) : f ∈ S.faL := by
  unfold faL; simp only [List.mem_append]; exact .inr h
theorem cls_lt {c : Nat} {k : Mp.Cl} (e : S.pg.cls[c]? = some k) : c < S.pg.cls.length := (List.getElem?_eq_some_iff.mp e).1
theorem Says.clsF (s : S.Says h K) {c : Nat} {k : Mp.Cl} (e : S.pg.cls[c]? = some k) : S.clsB K c = true := List.all_eq_true.mp s.cls c (List.mem_range.mpr (cls_lt e))
theorem mem_cls {c : Nat} {k : Mp.Cl} (e : S.pg.cls[c]? = some k) (hi : k.init.isSome = true) {f : He.Fa} (hf : f ∈ [.cls (S.cn c), .mkr (S.cn c)] ++ k.fl.map (fun f => He.Fa.noat (S.cn c) (S.nm f)) ++ k.ms.map (fun p => He.Fa.meth (S.cn c) (S.nm p.1))) : f ∈ S.faL := by
  refine mem5 (List.mem_flatMap.mpr ⟨c, List.mem_range.mpr (cls_lt e), ?_⟩)
  unfold clsFa
  rw [e]
  simp only [hi, if_true]
  exact hf
structure Stat (S : Src) : Prop where
  nd : S.t.told.attrs.Nodup
  short : ∀ x ∈ S.t.told.attrs, x.length < 1000
  cl : S.pg.cls.length = S.t.cls.length
  fl : ∀ (c : Nat) k, S.pg.cls[c]? = some k → (k.fl = [] ∧ k.ms = []) ∨ k.init.isSome = true
  fn : ∀ f, f < S.pg.fns.length → S.fnB f = true
  fl2 : S.pg.fns.length = S.t.defs.length
  db : ∀ d ∈ S.t.defs, (d.key.1 == ("__debug__" : Str)) = false
  dbc : ∀ d ∈ S.t.cls, (d.1 == ("__debug__" : Str)) = false
  cau : ∀ q ∈ S.t.told.caught, ∃ c ∈ S.cau, c.d.key = (q.1, none) ∧ c.cl = q.2 ∧ S.cauB c = true
theorem stat_ok (e : S.stat = true) : Stat S := by
  unfold stat at e
  simp only [Bool.and_eq_true, decide_eq_true_eq, List.all_eq_true, List.any_eq_true, List.mem_range, Bool.not_eq_true'] at e
  obtain ⟨⟨⟨⟨⟨⟨⟨⟨e1, e2⟩, e3⟩, e4⟩, e5⟩, e6⟩, e7⟩, e8⟩, e9⟩ := e
  refine ⟨e1, e2, e3, fun c k q => ?_, e5, e6, e7, e8, fun q hq => ?_⟩
  · have z := e4 c (cls_lt q)
    rw [q] at z
    simp only [Bool.or_eq_true, Bool.and_eq_true, List.isEmpty_iff] at z
    exact z
  · obtain ⟨c, h1, ⟨h2, h3⟩, h4⟩ := e9 q hq
    exact ⟨c, h1, h2, h3, h4⟩
theorem nm_inj (st : Stat S) (f g : Nat) (e : S.nm f = S.nm g) : f = g := by
  have big : ∀ (i j : Nat) s, S.t.told.attrs[i]? = some s → s ≠ (⟨Array.replicate (j + 1000) 0⟩ : Str) := fun i j s h1 h2 => by
    have l := st.short s (List.mem_of_getElem? h1)
    rw [h2] at l
    simp [Str.length] at l
    omega
  unfold nm at e
  cases h1 : S.t.told.attrs[f]? with
  | none =>
    cases h2 : S.t.told.attrs[g]? with
    | none =>
      rw [h1, h2] at e
      have e2 : (f + 1000) = (g + 1000) := by
        have := congrArg Str.length e
        simpa [Str.length] using this
      omega
    | some y => rw [h1, h2] at e; exact absurd e.symm (big g f y h2)
  | some x =>
    cases h2 : S.t.told.attrs[g]? with
    | none => rw [h1, h2] at e; exact absurd e (big f g x h1)
    | some y =>
      rw [h1, h2] at e
      have e : x = y := e
      subst e
      exact nodup_at st.nd h1 h2
theorem look_mem {α : Type} {m : Nat} {f : α} : ∀ {l : List (Nat × α)}, l.lookup m = some f → (m, f) ∈ l
  | [], h => by simp at h
  | (a, b) :: r, h => by
    rw [List.lookup] at h
    split at h
    · rename_i q
      cases h
      have : m = a := by simpa using q
      rw [this]; exact List.mem_cons_self
    · exact List.mem_cons_of_mem _ (look_mem h)
theorem Says.clsP (s : S.Says h K) {c : Nat} {k : Mp.Cl} (e : S.pg.cls[c]? = some k) : (k.ex = true → excC K (S.ca K c) = true ∧ ∀ d ∈ k.up, PySem.W.exmOne K (.ref (S.ca K c)) (.ref (S.ca K d)) = some true) ∧ (k.init.isSome = true → insT K (S.ca K c) = true) ∧ (∀ p ∈ k.ms, He.ma K (S.ca K c) (S.nm p.1) = S.fa K p.2) ∧ ∀ f, k.init = some f → He.ma K (S.ca K c) "__init__" = S.fa K f := by
  have hc := s.clsF e
  unfold clsB at hc
  rw [e] at hc
  simp only [Bool.and_eq_true, Bool.or_eq_true, Bool.not_eq_true', List.all_eq_true, decide_eq_true_eq] at hc
  obtain ⟨⟨⟨h1, h2⟩, h3⟩, h4⟩ := hc
  refine ⟨fun hx => ?_, fun hi => ?_, h3, fun f hf => ?_⟩
  · rcases h1 with z | z
    · rw [hx] at z; cases z
    · exact z
  · rcases h2 with z | z
    · rw [hi] at z; cases z
    · exact z
  · rw [hf] at h4
    exact of_decide_eq_true h4
theorem cn_ca (c : Nat) : He.ga K (S.cn c) = S.ca K c := rfl
theorem tab_ok (st : Stat S) (s : S.Says h K) : Tab (S.cfg P w mg K b') where
  inj := nm_inj st
  cls := fun c k e hi => He.cls_ok (s.fact (mem_cls e hi (by simp)))
  noat := fun c k e f hf => by
    rcases st.fl c k e with z | z
    · rw [z.1] at hf; cases hf
    · exact He.noat_ok (s.fact (mem_cls e z (by simp only [List.mem_append, List.mem_map]; exact .inl (.inr ⟨f, hf, rfl⟩))))
  meth := fun c k m f e hm => by
    have hmem := look_mem hm
    rcases st.fl c k e with z | z
    · rw [z.2] at hmem; cases hmem
    · have q := He.meth_ok (s.fact (mem_cls e z (by simp only [List.mem_append, List.mem_map]; exact .inr ⟨(m, f), hmem, rfl⟩)))
      have := (s.clsP e).2.2.1 _ hmem
      show Meth K (S.ca K c) (S.nm m) (S.fa K f)
      rw [← this]
      exact q
  kit := fun k t b e => by
    have hk : k ∈ S.kns := by
      unfold kns
      cases k with
      | ins c =>
        have : ∃ q, S.pg.cls[c]? = some q := by
          cases t with
          | cls d =>
            simp only [Mp.isK] at e
            split at e
            · cases q : S.pg.cls[c]? with
              | none => rw [show (S.cfg P w mg K b').pg.cls[c]? = S.pg.cls[c]? from rfl, q] at e; cases e
              | some x => exact ⟨x, rfl⟩
            · cases e
          | _ =>
            simp only [Mp.isK] at e
            cases q : S.pg.cls[c]? with
            | none => rw [show (S.cfg P w mg K b').pg.cls[c]? = S.pg.cls[c]? from rfl, q] at e; cases e
            | some x => exact ⟨x, rfl⟩
        obtain ⟨q, hq⟩ := this
        simp only [List.mem_append, List.mem_map, List.mem_range]
        exact .inr ⟨c, cls_lt hq, rfl⟩
      | _ => simp
    have ht : t ∈ S.tys := by
      unfold tys
      cases t with
      | cls d =>
        simp only [Mp.isK] at e
        split at e
        · rename_i hd
          simp only [List.mem_append, List.mem_map, List.mem_range]
          exact .inr ⟨d, hd, rfl⟩
        · cases e
      | _ => simp
    have q := List.all_eq_true.mp (List.all_eq_true.mp s.kit k hk) t ht
    unfold kitB at q
    rw [show Mp.isK S.pg k t = some b from e] at q
    have q := of_decide_eq_true q
    have e1 : knV (S.cfg P w mg K b') k = S.knW K k := by cases k <;> rfl
    have e2 : tyV' (S.cfg P w mg K b') t = S.tyW K t := by cases t <;> rfl
    rw [e1, e2]
    exact q
  inst := fun c k e hi => by
    have q := (s.clsP e).2.1 hi
    unfold insT at q
    simp only [Bool.and_eq_true] at q
    obtain ⟨⟨⟨h1, h2⟩, h3⟩, h4⟩ := q
    exact ⟨He.eqO_ok h1, He.eqO_ok h2, of_decide_eq_true h3, of_decide_eq_true h4⟩
  obj := fun c k e hf => by
    rcases st.fl c k e with z | z
    · exact absurd z.1 hf
    · exact z
  exc := fun c k e hx => by
    have q := ((s.clsP e).1 hx).1
    unfold excC at q
    simp only [Bool.and_eq_true] at q
    obtain ⟨⟨⟨⟨⟨⟨⟨h1, h2⟩, h3⟩, h4⟩, h5⟩, h6⟩, h7⟩, h8⟩ := q
    exact ⟨He.eqO_ok h1, He.eqO_ok h2, of_decide_eq_true h3, h4, He.eqO_ok h5, He.eqO_ok h6, of_decide_eq_true h7, of_decide_eq_true h8⟩
  exm := fun c d k e hx hu => ((s.clsP e).1 hx).2 d (by simpa using hu)
end
end Src
end MpS
end
section
set_option Elab.async false
set_option linter.all false
set_option maxRecDepth 100000
set_option maxHeartbeats 4000000
namespace MpS
open PySem L2
namespace Src
section
variable {S : Src} {K : PySem.W.Frag} {h : PySem.Heap} {P : Program} {w : World} {mg : Str → Option Value} {b' : PySem.Heap}
theorem look_memS {α : Type} {m : Str} {f : α} {l : List (Str × α)} (h : l.lookup m = some f) : (m, f) ∈ l := PySem.mem_of_lookup h
theorem idx_map {α : Type} {g : α → Str} {l : List α} {x : Str} {i : Nat} (h : (l.map g).idxOf? x = some i) : ∃ a, l[i]? = some a ∧ g a = x := by
  have := idxOf_at h
  rw [List.getElem?_map] at this
  cases q : l[i]? with
  | none => rw [q] at this; cases this
  | some a => rw [q] at this; exact ⟨a, rfl, by simpa using this⟩
theorem idx_key {l : List DefI} {x : Str × Option Str} {i : Nat} (h : (l.map (·.key)).idxOf? x = some i) : ∃ d, l[i]? = some d ∧ d.key = x := by
  have e : (l.map (·.key))[i]? = some x := by
    unfold List.idxOf? at h
    rw [List.findIdx?_eq_some_iff_getElem] at h
    obtain ⟨hl, h1, _⟩ := h
    rw [List.getElem?_eq_getElem hl]
    simpa using h1
  rw [List.getElem?_map] at e
  cases q : l[i]? with
  | none => rw [q] at e; cases e
  | some a => rw [q] at e; exact ⟨a, rfl, by simpa using e⟩
mutual
theorem constB_ok : ∀ (d : Mp.D) (u : Value), constB K d u = true → ∃ v, RelV v u ∧ ∀ ρ H, RelD K ρ H d v
  | .non, u, e => by cases u <;> first | exact ⟨.non, rfl, fun ρ H => by simp only [RelD]⟩ | cases e
  | .bl b, u, e => by
    cases u with
    | bool c =>
      have : b = c := by simpa [constB] using e
      subst this
      exact ⟨.bl b, rfl, fun ρ H => by simp only [RelD]⟩
    | _ => cases e
  | .int i, u, e => by
    cases u with
    | int j t =>
      have : i = j := by simpa [constB] using e
      subst this
      exact ⟨.int i, ⟨t, rfl⟩, fun ρ H => by simp only [RelD]⟩
    | _ => cases e
  | .str s, u, e => by
    cases u with
    | str x t =>
      have : strV s = x := by simpa [constB] using e
      subst this
      exact ⟨.str (strV s), ⟨t, rfl⟩, fun ρ H => by simp only [RelD]⟩
    | _ => cases e
  | .tup ds, u, e => by
    cases u with
    | ref a =>
      simp only [constB] at e
      split at e
      · rename_i c dd its n sl ho
        simp only [Bool.and_eq_true, decide_eq_true_eq] at e
        obtain ⟨e1, e2, e3⟩ := e
        subst e1
        obtain ⟨vs, r, g⟩ := constsB_ok ds its.toList e3
        exact ⟨.ref a, rfl, fun ρ H => by simp only [RelD]; exact ⟨a, vs, rfl, .inr ⟨_, its, n, ho, rfl, rfl, e2, r⟩, g ρ H⟩⟩
      · cases e
    | _ => cases e
  | .ref a, u, e => by simp [constB] at e
theorem constsB_ok : ∀ (ds : List Mp.D) (us : List Value), constsB K ds us = true → ∃ vs, Vals vs us ∧ ∀ ρ H, RelDs K ρ H ds vs
  | [], us, e => by
    have : us = [] := by simpa [constsB] using e
    subst this
    exact ⟨[], .nil, fun ρ H => by simp only [RelDs]⟩
  | d :: ds, us, e => by
    cases us with
    | nil => simp [constsB] at e
    | cons u us =>
      simp only [constsB, Bool.and_eq_true] at e
      obtain ⟨v, r1, g1⟩ := constB_ok d u e.1
      obtain ⟨vs, r2, g2⟩ := constsB_ok ds us e.2
      exact ⟨v :: vs, .cons r1 r2, fun ρ H => by simp only [RelDs]; exact ⟨v, vs, rfl, g1 ρ H, g2 ρ H⟩⟩
end
theorem cn_at {c : Nat} {x : Str} (h : S.t.clIx x = some c) : S.cn c = x ∧ ∃ p ∈ S.t.cls, p.1 = x := by
  obtain ⟨a, h1, h2⟩ := idx_map h
  refine ⟨?_, a, List.mem_of_getElem? h1, h2⟩
  unfold cn
  rw [h1]; exact h2
theorem plainA_ok {a : Arguments} (h : plainA a = true) : a.posonlyargs = [] ∧ a.kwonlyargs = [] ∧ a.vararg = none ∧ a.kwarg = none := by
  unfold plainA at h
  simp only [Bool.and_eq_true, List.isEmpty_iff, Option.isNone_iff_eq_none] at h
  exact ⟨h.1.1.1, h.1.1.2, h.1.2, h.2⟩
theorem tb_ok (st : Stat S) (s : S.Says h K) (G : h.Ns mainGlobals mg) : TbOk (S.cfg P w mg K b') S.t.tb where
  fn := fun x f e => by
    obtain ⟨d, h1, h2⟩ := idx_key (show (S.t.defs.map (·.key)).idxOf? (x, none) = some f from e)
    have hd := List.mem_of_getElem? h1
    have k1 : d.key.1 = x := by rw [h2]
    have k2 : d.key.2 = none := by rw [h2]
    refine ⟨?_, by rw [← k1]; exact st.db d hd⟩
    have q := He.glo_ok s.kin G (s.fact (mem1 (List.mem_filterMap.mpr ⟨d, hd, by rw [k2, k1]; rfl⟩)))
    show mg x = some (.ref (S.fa K f))
    rw [q]
    have : S.fa K f = He.ga K x := by
      unfold fa key
      rw [h1]
      show He.fAd K d.key = _
      rw [h2]; rfl
    rw [this]
  cl := fun x c e => by
    obtain ⟨h1, p, hp, h2⟩ := cn_at (show S.t.clIx x = some c from e)
    refine ⟨?_, by rw [← h2]; exact st.dbc p hp, fun kk f e1 e2 => ?_⟩
    · have q := He.glo_ok s.kin G (s.fact (mem3 (List.mem_map.mpr ⟨p, hp, by rw [h2]⟩)))
      show mg x = some (.ref (S.ca K c))
      rw [q, ← cn_ca, h1]
    · have hi : kk.init.isSome = true := by rw [e2]; rfl
      have q := He.mkr_ok (x := S.cn c) (s.fact (f := .mkr (S.cn c)) (mem_cls e1 hi (by simp)))
      have z := (s.clsP e1).2.2.2 f e2
      show Mk K (S.ca K c) (S.fa K f)
      rw [← z]
      exact q
  am := fun x i e => by
    have q := idxOf_at (show S.t.told.attrs.idxOf? x = some i from e)
    show S.nm i = x
    unfold nm
    rw [q]
  kc := fun x d e => by
    have hm := look_memS (show S.t.told.consts.lookup x = some d from e)
    have q := List.all_eq_true.mp s.con _ hm
    rw [Bool.and_eq_true] at q
    obtain ⟨q1, q2⟩ := q
    dsimp only at q1 q2
    split at q2
    · rename_i u hu
      obtain ⟨v, r, g⟩ := constB_ok d u q2
      exact ⟨by simpa using q1, v, u, PySem.W.mg_of s.kin G hu, r, g⟩
    · cases q2
  nb := fun x e => He.free_ok s.kin G (s.fact (mem4 (List.mem_map.mpr ⟨x, by simpa [Txt.tb] using e, rfl⟩)))
  ex := fun x c e => by
    have e : S.t.exIx x = some c := e
    have e' := e
    unfold Txt.exIx at e
    split at e
    · cases e
    · split at e
      · obtain ⟨h1, p, hp, h2⟩ := cn_at e
        have q := He.glo_ok s.kin G (s.fact (mem3 (List.mem_map.mpr ⟨p, hp, by rw [h2]⟩)))
        obtain ⟨x1, x2, x3, x4⟩ := He.exc_ok (s.fact (mem6 (List.mem_map.mpr ⟨p, List.mem_filter.mpr ⟨hp, by rw [h2, e']; rfl⟩, rfl⟩)))
        have ec : S.ca K c = He.ga K x := by rw [← cn_ca, h1]
        refine ⟨by show mg x = some (.ref (S.ca K c)); rw [q, ec], by rw [← h2]; exact st.dbc p hp, ?_⟩
        rw [h2, ← ec] at x1 x2 x3 x4
        exact ⟨x1, x2, x3, x4⟩
      · cases e
  cg := fun x cl e => by
    have hm := look_memS (show S.t.told.caught.lookup x = some cl from e)
    obtain ⟨c, hc, k1, k2, k3⟩ := st.cau _ hm
    dsimp only at k1 k2
    subst k2
    unfold cauB at k3
    split at k3
    · rename_i a cc e2 xx kx p hcau
      simp only [Bool.and_eq_true, decide_eq_true_eq, List.all_eq_true, Bool.not_eq_true'] at k3
      obtain ⟨⟨⟨⟨⟨⟨⟨⟨⟨z1, z2⟩, z3⟩, z4⟩, z5⟩, z6⟩, z7⟩, z8⟩, z9⟩, z10⟩ := k3
      have hb := cauOf_eq hcau
      have kx1 : c.d.key.1 = x := by rw [k1]
      obtain ⟨fd, F⟩ := s.fn (d := dd c.d []) (by unfold fnL; exact List.mem_append_right _ (List.mem_map.mpr ⟨c, hc, rfl⟩))
      have F : FunD K x x c.d.args (cauBody a cc e2 xx kx p) c.d.scope [] [] (He.ga K x) fd := by
        have F' : FunD K (dname c.d) (dqual c.d) c.d.args c.d.body c.d.scope [] [] (He.fAd K c.d.key) fd := F
        have n1 : dname c.d = x := by unfold dname; rw [k1]; rfl
        have n2 : dqual c.d = x := by unfold dqual; rw [k1]
        have n3 : He.fAd K c.d.key = He.ga K x := by rw [k1]; rfl
        rw [n1, n2, n3, hb] at F'
        exact F'
      have sc := scB_ok z4
      obtain ⟨p1, p2, p3, p4⟩ := plainA_ok z2
      have hglo := He.glo_ok s.kin G (s.fact (mem2 (List.mem_map.mpr ⟨c, hc, by rw [kx1]⟩)))
      have kp := F.kp
      obtain ⟨oc, od, dV, kV, doc, pm, an, cdv, ct, osl, rfl, lk, hcd, hD, hK⟩ := F.ex
      have hdV : dV = .none := by
        rcases hD with ⟨_, z⟩ | ⟨z, _⟩
        · exact z
        · exact absurd rfl z
      have pl : PlainPs (PySem.W.fnOf x x c.d.args (cauBody a cc e2 xx kx p) c.d.scope dV kV doc pm an cdv ct) [a] := ⟨p1, p2, p3, p4, z3, by simp⟩
      have bd : L2.Binds K (PySem.W.fnOf x x c.d.args (cauBody a cc e2 xx kx p) c.d.scope dV kV doc pm an cdv ct) [a] [] := by
        intro sh us _ hl M A E Q hq
        obtain ⟨u, rfl⟩ : ∃ u, us = [u] := by
          match us, hl with
          | [u], _ => exact ⟨u, rfl⟩
        refine bind_gen pl (o := none) (fun Q q => ?_) (Nat.le_refl _) (Nat.zero_le _) (fun p hp => by cases hp) (by simp) (fun p hp => by cases hp) (fun n hn => ?_) ?_
        · show wpAny M A (seqItems? dV) Q E sh
          rw [hdV]
          exact wpAny_pure q
        · have : n = a := by simpa using hn
          subst this
          simp [List.lookup]
        · have : (([a] : List Str).filterMap fun n => (bound [a] [u] [] ((none : Option (Array Value)).getD #[]).toList n).map (n, ·)) = [(a, u)] := by
            simp [bound, List.lookup]
          rw [this]
          exact hq
      have ecl : S.cn c.cl = xx := by
        unfold cn
        cases q : S.t.cls[c.cl]? with
        | none => rw [q] at z10; cases z10
        | some pp => rw [q] at z10; simpa using z10
      have hcls : ∃ pp ∈ S.t.cls, pp.1 = xx := by
        cases q : S.t.cls[c.cl]? with
        | none => rw [q] at z10; cases z10
        | some pp => rw [q] at z10; exact ⟨pp, List.mem_of_getElem? q, by simpa using z10⟩
      obtain ⟨pp, hpp, epp⟩ := hcls
      have hex := He.glo_ok s.kin G (s.fact (mem3 (List.mem_map.mpr ⟨pp, hpp, by rw [epp]⟩)))
      have D : ∀ z ∈ [a, cc, e2, xx, c.d.key.1], (z == ("__debug__" : Str)) = false ∧ (z == ("__classdict__" : Str)) = false := z9
      have cn : CauN [a, cc, e2] c.d.scope a cc e2 := ⟨rfl, sc.nd, z5, z6, D cc (by simp), D e2 (by simp)⟩
      refine ⟨_, kx, p, a, cc, e2, xx, c.d.scope, c.d.args, dV, kV, doc, pm, cdv, ct, oc, an, od, osl, hglo, kp, lk, hcd, bd, sc, .inl z7, cn, z8, ?_, (D xx (by simp)).1, ?_, (D a (by simp)).1, (D a (by simp)).2⟩
      · show mg xx = some (.ref (S.ca K c.cl))
        rw [hex, ← cn_ca, ecl]
      · rw [← kx1]; exact (D c.d.key.1 (by simp)).1
    · cases k3
theorem dv_rel {ρ : List Addr} {H : Hp} : ∀ {ds : List Mp.D}, ds.all scalD = true → RelDs K ρ H ds ((ds.map dvOf).map (He.Dv.v K))
  | [], _ => .nil
  | d :: ds, e => by
    rw [List.all_cons, Bool.and_eq_true] at e
    refine .cons ?_ (dv_rel e.2)
    cases d with
    | tup _ => cases e.1
    | ref _ => cases e.1
    | _ => simp only [RelD, dvOf, He.Dv.v]
theorem fn_at (st : Stat S) {f : Nat} {fn : Mp.Fn} (e : S.pg.fns[f]? = some fn) : ∃ d N, S.t.defs[f]? = some d ∧ S.t.told.names[f]? = some N ∧ FnScope N d.ps d.scope ∧ plainA d.args = true ∧ d.ps.Nodup ∧ fn.ns = N.length ∧ fn.ps = d.ps.length ∧ fn.dfl.all scalD = true := by
  have q := st.fn f (List.getElem?_eq_some_iff.mp e).1
  unfold fnB at q
  rw [e] at q
  split at q
  · rename_i fn' d N h1 h2 h3
    cases h1
    simp only [Bool.and_eq_true, decide_eq_true_eq] at q
    obtain ⟨⟨⟨⟨⟨q1, q2⟩, q3⟩, q4⟩, q5⟩, q6⟩ := q
    exact ⟨d, N, h2, h3, scB_ok q1, q2, q3, q4, q5, q6⟩
  · cases q
theorem fnd_ok (s : S.Says h K) {f : Nat} {fn : Mp.Fn} {d : DefI} (e : S.pg.fns[f]? = some fn) (hd : S.t.defs[f]? = some d) : ∃ fd, FunD K (dname d) (dqual d) d.args d.body d.scope ((fn.dfl.map dvOf).map (He.Dv.v K)) [] (S.fa K f) fd := by
  have hm : dd d fn.dfl ∈ S.fnL := by
    unfold fnL
    refine List.mem_append_left _ (List.mem_filterMap.mpr ⟨f, List.mem_range.mpr (List.getElem?_eq_some_iff.mp hd).1, ?_⟩)
    rw [hd]
    show some (dd d (S.dfl f)) = _
    unfold dfl
    rw [e]
  obtain ⟨fd, F⟩ := s.fn hm
  refine ⟨fd, ?_⟩
  have e2 : He.fAd K (dd d fn.dfl).at_ = S.fa K f := by
    unfold fa key
    rw [hd]; rfl
  rw [e2] at F
  exact F
theorem nodup_tb : ∀ {l : List (Addr × Str)}, nodupT l = true → ∀ p ∈ l, ∀ q ∈ l, p.1 = q.1 → p.2 = q.2
  | [], _, p, hp, _, _, _ => by cases hp
  | a :: l, e, p, hp, q, hq, e2 => by
    unfold nodupT at e
    simp only [Bool.and_eq_true, List.all_eq_true, Bool.not_eq_true', beq_eq_false_iff_ne] at e
    rcases List.mem_cons.mp hp with z1 | hp1
    · rcases List.mem_cons.mp hq with z2 | hq1
      · rw [z1, z2]
      · exact absurd (by rw [← z1]; exact e2.symm) (e.1 q hq1)
    · rcases List.mem_cons.mp hq with z2 | hq1
      · exact absurd (by rw [← z2]; exact e2) (e.1 p hp1)
      · exact nodup_tb e.2 p hp1 q hq1 e2
theorem codeAt_eq {p : Str × Option Str} {c T : Addr} (e : codeAt K p = some (c, T)) : ∃ oc od fd osl, K.lookup (He.fAd K p) = some ⟨oc, od, .func fd, osl⟩ ∧ fd.code = .ref c := by
  unfold codeAt at e
  split at e
  · rename_i oc od fd osl ho
    split at e
    · rename_i c' hc
      split at e
      · split at e
        · cases e
          exact ⟨oc, od, fd, osl, ho, hc⟩
        · cases e
      · cases e
    · cases e
  · cases e
theorem tbs_mem {f : Nat} {q : Addr × Addr} {d : DefI} (hf : f ∈ S.t.told.lams) (e1 : codeAt K (S.key f) = some q) (e2 : S.t.defs[f]? = some d) : (q.2, dqual d ++ ".<locals>." ++ "<lambda>") ∈ S.tbs K := by
  refine List.mem_filterMap.mpr ⟨f, hf, ?_⟩
  simp only [e1, e2]
theorem fns_ok (st : Stat S) (s : S.Says h K) (htr : ∀ f fn, S.pg.fns[f]? = some fn → S.t.body S.pg f = some fn.body) (hB : ∀ p ∈ S.cs K, LamX.TabB b' mg p.1 p.2) : FnFs (S.cfg P w mg K b') S.t.tb := by
  intro f fn e
  obtain ⟨d, N, h1, h2, h3, h4, h5, h6, h7, h8⟩ := fn_at st e
  obtain ⟨fd, F⟩ := fnd_ok s e h1
  obtain ⟨p1, p2, p3, p4⟩ := plainA_ok h4
  have eps0 : S.t.ps f = d.ps := by
    unfold Txt.ps
    rw [h1]; rfl
  have eps : (S.cfg P w mg K b').ps f = d.ps := eps0
  refine ⟨dname d, dqual d, d.args, d.body, d.scope, N, (fn.dfl.map dvOf).map (He.Dv.v K), S.t.told.lams.contains f, fd, ?_⟩
  refine ⟨F, by rw [eps]; exact h3, ⟨39, 40, ?_⟩, h6, by rw [eps]; exact h7, p1, p2, p3, p4, show d.ps = _ from eps.symm, by rw [eps]; exact h5, fun ρ H => dv_rel h8, fun hl => ?_⟩
  · have q := htr f fn e
    unfold Txt.body at q
    rw [h1, h2] at q
    exact q
  · have hf : f ∈ S.t.told.lams := by simpa using hl
    have hk : S.key f = d.key := by unfold key; rw [h1]
    obtain ⟨c, T, q1, q2, q3, q4⟩ := s.lam (S.key f) (List.mem_map.mpr ⟨f, hf, rfl⟩)
    have hcs : (c, T) ∈ S.cs K := List.mem_filterMap.mpr ⟨S.key f, List.mem_map.mpr ⟨f, hf, rfl⟩, q1⟩
    have htb : (T, dqual d ++ ".<locals>." ++ "<lambda>") ∈ S.tbs K := tbs_mem hf q1 h1
    obtain ⟨oc, od, fd', osl, lk, hc⟩ := codeAt_eq q1
    obtain ⟨oc2, od2, dV, kV, doc, pm, an, cdv, ct, osl2, efd, lk2, _⟩ := F.ex
    have e3 : fd' = fd := by
      have : S.fa K f = He.fAd K (S.key f) := rfl
      rw [this] at lk2
      rw [lk2] at lk
      injection lk with lk
      injection lk with _ _ lk _
      injection lk with lk
      exact lk.symm
    subst e3
    have gen : ∀ z : Str, (T, z) ∈ S.tbs K → ∀ p ∈ S.tbs K, p.1 = T → p.2 = z := fun z hz p hp e4 => nodup_tb s.nd p hp _ hz e4
    exact ⟨c, T, hc, hB _ hcs, htb, gen _ htb⟩
theorem law_ok (st : Stat S) (s : S.Says h K) (G : h.Ns mainGlobals mg) (htr : ∀ f fn, S.pg.fns[f]? = some fn → S.t.body S.pg f = some fn.body) {fa : Addr} {x nm : Str} {lev n : Nat} {fn : Mp.Fn} (hmg : mg nm = some (.ref fa)) (hkey : S.key S.law = (nm, none)) (hps : S.t.ps S.law = [x]) (hat : S.pg.fns[S.law]? = some fn) (hdf : fn.dfl = [])
    (law : ∀ ns : List Int, ns.length ≤ n → ∃ h', Mp.callFn S.pg lev S.law [.ref 0] [.ro (ns.map .int)] = .ok (.bl true) h') :
    ∃ C T i fn cs, C.K.In h ∧ LawF P w mg fa x lev n C T i fn cs ∧ (∀ p ∈ cs, h.get? p.2 = some { cls := .none, data := .fields #[] }) ∧ (∀ p ∈ cs, C.K.lookup p.2 = none) ∧ ∀ p ∈ cs, PySem.W.CodeHd h p.1 p.2 := by
  obtain ⟨d, N, h1, h2, h3, h4, h5, h6, h7, h8⟩ := fn_at st hat
  have hd : d.key = (nm, none) := by
    have := hkey
    unfold key at this
    rw [h1] at this
    exact this
  have hglo := He.glo_ok s.kin G (s.fact (mem1 (List.mem_filterMap.mpr ⟨d, List.mem_of_getElem? h1, by rw [hd]; rfl⟩)))
  have efa : S.fa K S.law = fa := by
    have e := hmg.symm.trans hglo
    injection e with e
    injection e with e
    unfold Src.fa
    rw [hkey]
    exact e.symm
  have csm : ∀ p ∈ S.cs K, ∃ q ∈ S.lams, codeAt K q = some p := fun p hp => by
    obtain ⟨q, hq, e⟩ := List.mem_filterMap.mp hp
    exact ⟨q, hq, e⟩
  have csl : ∀ p ∈ S.cs K, PySem.W.CodeHd h p.1 p.2 ∧ h.get? p.2 = some { cls := .none, data := .fields #[] } ∧ K.lookup p.2 = none := fun p hp => by
    obtain ⟨q, hq, e⟩ := csm p hp
    obtain ⟨c, T, e1, e2, e3, e4⟩ := s.lam q hq
    rw [e] at e1
    cases e1
    exact ⟨e2, e3, e4⟩
  obtain ⟨fd, F⟩ := fnd_ok s hat h1
  obtain ⟨p1, p2, p3, p4⟩ := plainA_ok h4
  have eps0 : S.t.ps S.law = d.ps := by
    unfold Txt.ps
    rw [h1]; rfl
  have eps : (S.cfg P w mg K h).ps S.law = d.ps := eps0
  refine ⟨S.cfg P w mg K h, S.t.tb, S.law, fn, S.cs K, s.kin, ⟨rfl, rfl, rfl, efa, hps, hat, hdf, fun p hp => ?_, ?_, fun b => tab_ok st s, fun b => tb_ok st s G, fun b hB => fns_ok st s htr hB, law⟩, fun p hp => (csl p hp).2.1, fun p hp => (csl p hp).2.2, fun p hp => (csl p hp).1⟩
  · obtain ⟨f, hf, e⟩ := List.mem_filterMap.mp hp
    split at e
    · rename_i q dq hq hdq
      cases e
      exact ⟨q, List.mem_filterMap.mpr ⟨S.key f, List.mem_map.mpr ⟨f, hf, rfl⟩, hq⟩, rfl⟩
    · cases e
  · obtain ⟨oc, od, dV, kV, doc, pm, an, cdv, ct, osl, e, lk, hcd, hD, hK⟩ := id F.ex
    subst e
    exact ⟨PySem.W.fnOf (dname d) (dqual d) d.args d.body d.scope dV kV doc pm an cdv ct, (fn.dfl.map dvOf).map (He.Dv.v K), ⟨⟨p1, p2, p3, p4, show d.ps = _ from eps.symm, by rw [eps]; exact h5⟩, hD, fun ρ H => dv_rel h8, F.kp, oc, od, osl, lk⟩⟩
end
end Src
end MpS
end
section
set_option linter.all false
set_option autoImplicit false
/-! MpW: what the interpreter does, by what is wanted of its end. Core Lean only. Raw: the rules as such; MpW: the same with a dummy behind, so that simp rewrites a result and lets be what is wanted of it (an argument on which a later one hangs is left alone). -/
namespace MpW
open Mp
abbrev XP := Nat → List (Nat × D) → Heap → Prop
abbrev noX : XP := fun _ _ _ => False
structure Ks where
  rt : D → Heap → Prop
  bk : Env → Heap → Prop := fun _ _ => False
  ct : Env → Heap → Prop := fun _ _ => False
  er : XP := fun _ _ _ => False
def itv (x : D) (h : Heap) : Option ItV := match x with
  | .tup ds => some (.snap ds)
  | .str s => some (.snap (s.map fun c => .str [c]))
  | .ref a => (seqAt a h).map fun _ => .live a
  | _ => none
def itp (x : D) (h : Heap) : Option ItV := match x with
  | .tup ds => some (.snap ds)
  | .str s => some (.snap (s.map fun c => .str [c]))
  | .ref a => match h[a]? with
    | some (.lst _) => some (.live a)
    | some (.ro _) => some (.live a)
    | some (.fdct kvs) => some (.snap (kvs.map (·.1)))
    | _ => none
  | _ => none
/-- simp stays out of what a later argument hangs on -/
@[reducible] def Dp {α β : Sort _} (_ : α) (_ : β) : Type := Unit
namespace Raw
@[irreducible] def W {α : Type} (r : Res α) (P : α → Heap → Prop) (X : XP) : Prop := match r with
  | .ok a h => P a h
  | .err c fs h => X c fs h
  | .stk => False
def Op {α : Type} (o : Option α) (P : α → Prop) : Prop := match o with
  | some a => P a
  | none => False
@[simp] theorem Op_some {α : Type} {a : α} {P : α → Prop} : Op (some a) P = P a := rfl
theorem Op_iff {α : Type} {o : Option α} {P : α → Prop} : Op o P ↔ ∃ a, o = some a ∧ P a := by with_unfolding_all cases o <;> simp [Op]
def Tb (o : Option Bool) (A B : Prop) : Prop := match o with
  | some true => A
  | some false => B
  | none => False
@[simp] theorem Tb_true {A B : Prop} : Tb (some true) A B = A := rfl
@[simp] theorem Tb_false {A B : Prop} : Tb (some false) A B = B := rfl
@[simp] theorem Tb_not {b : Bool} {A B : Prop} : Tb (some !b) A B = Tb (some b) B A := by with_unfolding_all cases b <;> rfl
theorem Tb_b {b : Bool} {A B : Prop} (h1 : b = true → A) (h2 : b = false → B) : Tb (some b) A B := by with_unfolding_all cases b with
      | true => exact h1 rfl
      | false => exact h2 rfl
theorem Tb_d {p : Prop} [Decidable p] {A B : Prop} (h1 : p → A) (h2 : ¬p → B) : Tb (some (decide p)) A B := Tb_b (fun h => h1 (of_decide_eq_true h)) (fun h => h2 (of_decide_eq_false h))
def Rf (x : D) (P : Nat → Prop) : Prop := match x with
  | .ref a => P a
  | _ => False
@[simp] theorem Rf_ref {a : Nat} {P : Nat → Prop} : Rf (.ref a) P = P a := rfl
def In (x : D) (P : Int → Prop) : Prop := match x with
  | .int a => P a
  | _ => False
@[simp] theorem In_int {a : Int} {P : Int → Prop} : In (.int a) P = P a := rfl
def Tu (x : D) (P : List D → Prop) : Prop := match x with
  | .tup a => P a
  | _ => False
@[simp] theorem Tu_tup {a : List D} {P : List D → Prop} : Tu (.tup a) P = P a := rfl
def In2 (o : MO) (P : Nat → List (Nat × D) → Prop) : Prop := match o with
  | .ins c fs => P c fs
  | _ => False
@[simp] theorem In2_ins {c : Nat} {fs : List (Nat × D)} {P : Nat → List (Nat × D) → Prop} : In2 (.ins c fs) P = P c fs := rfl
def Ls (o : MO) (P : List D → Prop) : Prop := match o with
  | .lst ds => P ds
  | _ => False
@[simp] theorem Ls_lst {ds : List D} {P : List D → Prop} : Ls (.lst ds) P = P ds := rfl
def Dc (o : MO) (P : List (D × D) → Prop) : Prop := match o with
  | .dct ds => P ds
  | _ => False
@[simp] theorem Dc_dct {ds : List (D × D)} {P : List (D × D) → Prop} : Dc (.dct ds) P = P ds := rfl
section
variable {α β : Type} {P : α → Heap → Prop} {X : XP} {h : Heap}
@[simp] theorem W_ok {a : α} : W (.ok a h) P X = P a h := by with_unfolding_all rfl
@[simp] theorem W_err {c : Nat} {fs : List (Nat × D)} : W (.err c fs h) P X = X c fs h := by with_unfolding_all rfl
theorem W_bind {r : Res β} {f : β → Heap → Res α} : W (r.bind f) P X = W r (fun a h => W (f a h) P X) X := by
  with_unfolding_all
    cases r <;> rfl
@[simp] theorem W_if {c : Prop} [Decidable c] {r : Res α} : W (if c then r else .stk) P X = (c ∧ W r P X) := by
  with_unfolding_all
    by_cases q : c <;> simp [q, W]
@[simp] theorem W_opt {o : Option α} : W (opt o h) P X = Op o (fun a => P a h) := by with_unfolding_all cases o <;> rfl
@[simp] theorem W_stk : W (.stk : Res α) P X = False := by with_unfolding_all rfl
theorem W.mono {r : Res α} {P' : α → Heap → Prop} {X' : XP} (w : W r P X) (hp : ∀ a h, P a h → P' a h) (hx : ∀ c fs h, X c fs h → X' c fs h) : W r P' X' := by
  with_unfolding_all
    cases r with
    | ok a h => exact hp _ _ w
    | err c fs h => exact hx _ _ _ w
    | stk => exact w
theorem W.ok {r : Res α} (w : W r P noX) : ∃ a h, r = .ok a h ∧ P a h := by
  with_unfolding_all
    cases r with
    | ok a h => exact ⟨a, h, rfl, w⟩
    | err c fs h => exact w.elim
    | stk => exact w.elim
end
section
variable {pg : Pg} {cf : Nat → List D → Heap → Res D} {env : Env} {h : Heap} {P : D → Heap → Prop} {X : XP}
theorem opt_bl {o : Option Bool} {f : Bool → Bool} : Op (o.map fun b => D.bl (f b)) (fun a => P a h) = Op o (fun b => P (.bl (f b)) h) := by with_unfolding_all cases o <;> rfl
@[simp] theorem w_c {d : D} : W (evE pg cf (.c d) env h) P X = P d h := by with_unfolding_all simp only [evE, W]
@[simp] theorem w_v {i : Nat} : W (evE pg cf (.v i) env h) P X = Op env[i]? (fun o => Op o fun d => P d h) := by
  with_unfolding_all
    simp only [evE]
    cases env[i]? with
    | none => rfl
    | some o => cases o <;> rfl
@[simp] theorem w_bin {o : BOp} {a b : Ex} : W (evE pg cf (.bin o a b) env h) P X = W (evE pg cf a env h) (fun x h => W (evE pg cf b env h) (fun y h => W (binop o x y h) P X) X) X := by
  with_unfolding_all
    simp only [evE, W_bind]
@[simp] theorem w_neg {a : Ex} : W (evE pg cf (.neg a) env h) P X = W (evE pg cf a env h) (fun x h => In x fun i => P (.int (-i)) h) X := by
  with_unfolding_all
    simp only [evE, W_bind]
    congr 1; funext x h
    cases x <;> rfl
@[simp] theorem w_cmp {o : COp} {a b : Ex} : W (evE pg cf (.cmp o a b) env h) P X = W (evE pg cf a env h) (fun x h => W (evE pg cf b env h) (fun y h => Op (cmpop o x y h) fun t => P (.bl t) h) X) X := by
  with_unfolding_all
    simp only [evE, W_bind]
    congr 1; funext x h
    congr 1; funext y h
    rw [W_opt]
    exact opt_bl (f := id)
@[simp] theorem w_and {a b : Ex} : W (evE pg cf (.and a b) env h) P X = W (evE pg cf a env h) (fun x h => Tb (truth h x) (W (evE pg cf b env h) P X) (P x h)) X := by
  with_unfolding_all
    simp only [evE, W_bind]
    congr 1; funext x h
    cases truth h x with
    | none => rfl
    | some b => cases b <;> rfl
@[simp] theorem w_or {a b : Ex} : W (evE pg cf (.or a b) env h) P X = W (evE pg cf a env h) (fun x h => Tb (truth h x) (P x h) (W (evE pg cf b env h) P X)) X := by
  with_unfolding_all
    simp only [evE, W_bind]
    congr 1; funext x h
    cases truth h x with
    | none => rfl
    | some b => cases b <;> rfl
@[simp] theorem w_not {a : Ex} : W (evE pg cf (.not a) env h) P X = W (evE pg cf a env h) (fun x h => Op (truth h x) fun t => P (.bl (!t)) h) X := by
  with_unfolding_all
    simp only [evE, W_bind]
    congr 1; funext x h
    rw [W_opt]
    exact opt_bl (f := fun b => !b)
@[simp] theorem w_ite {c a b : Ex} : W (evE pg cf (.ite c a b) env h) P X = W (evE pg cf c env h) (fun x h => Tb (truth h x) (W (evE pg cf a env h) P X) (W (evE pg cf b env h) P X)) X := by
  with_unfolding_all
    simp only [evE, W_bind]
    congr 1; funext x h
    cases truth h x with
    | none => rfl
    | some b => cases b <;> rfl
@[simp] theorem ws_nil {P : List D → Heap → Prop} : W (evEs pg cf .nil env h) P X = P [] h := by with_unfolding_all simp only [evEs, W]
@[simp] theorem ws_cons {P : List D → Heap → Prop} {e : Ex} {es : Exs} : W (evEs pg cf (.cons e es) env h) P X = W (evE pg cf e env h) (fun x h => W (evEs pg cf es env h) (fun xs h => P (x :: xs) h) X) X := by
  with_unfolding_all
    simp only [evEs, W_bind, W_ok]
@[simp] theorem w_tup {es : Exs} : W (evE pg cf (.tup es) env h) P X = W (evEs pg cf es env h) (fun xs h => xs.length ≤ lim ∧ P (.tup xs) h) X := by
  with_unfolding_all
    simp only [evE, W_bind]
    congr 1; funext xs h
    split
    · rename_i q; simp [W, q]
    · rename_i q; simp [W, q]
@[simp] theorem w_lst {es : Exs} : W (evE pg cf (.lst es) env h) P X = W (evEs pg cf es env h) (fun xs h => xs.length ≤ lim ∧ P (.ref h.length) (h ++ [.lst xs])) X := by
  with_unfolding_all
    simp only [evE, W_bind]
    congr 1; funext xs h
    split
    · rename_i q; simp [W, q]
    · rename_i q; simp [W, q]
@[simp] theorem w_dct {es : Exs} : W (evE pg cf (.dct es) env h) P X = W (evEs pg cf es env (h ++ [.dct []])) (fun xs h1 => h1[h.length]? = some (.dct []) ∧ xs.length ≤ 30 ∧ Op (dispOf xs) fun ps => P (.ref h.length) (h1.set h.length (.dct (merge [] ps)))) X := by
  with_unfolding_all
    simp only [evE, W_bind]
    congr 1; funext xs h1
    split
    · rename_i e
      by_cases hl : xs.length ≤ 30
      · rw [if_pos hl]
        cases dispOf xs <;> simp [W, hl, e, Op]
      · rw [if_neg hl]; simp [W, hl]
    · rename_i hno
      rw [eq_iff_iff]
      exact ⟨fun z => z.elim, fun z => hno z.1⟩
@[simp] theorem w_attr {e : Ex} {f : Nat} : W (evE pg cf (.attr e f) env h) P X = W (evE pg cf e env h) (fun x h => W (getAttr pg x f h) P X) X := by with_unfolding_all simp only [evE, W_bind]
@[simp] theorem w_idx {e i : Ex} : W (evE pg cf (.idx e i) env h) P X = W (evE pg cf e env h) (fun x h => W (evE pg cf i env h) (fun y h => W (index x y h) P X) X) X := by with_unfolding_all simp only [evE, W_bind]
@[simp] theorem w_rev {e : Ex} : W (evE pg cf (.rev e) env h) P X = W (evE pg cf e env h) (fun x h => W (reved x h) P X) X := by with_unfolding_all simp only [evE, W_bind]
theorem w_part {β : Type} {f : Option Int → Heap → Res β} {a : List D} {P : β → Heap → Prop} : W (withPart f a h) P X = Op (part a) fun o => W (f o h) P X := by
  with_unfolding_all
    unfold withPart
    cases part a <;> rfl
@[simp] theorem w_slice {e : Ex} {lo hi : Exs} : W (evE pg cf (.slice e lo hi) env h) P X = W (evE pg cf e env h) (fun x h => W (evEs pg cf lo env h) (fun a h => Op (part a) fun o => W (evEs pg cf hi env h) (fun b h => Op (part b) fun p => W (sliced x o p h) P X) X) X) X := by
  with_unfolding_all
    simp only [evE, W_bind]
    congr 1; funext x h
    congr 1; funext a h
    rw [w_part]
    congr 1; funext o
    rw [W_bind]
    congr 1; funext b h
    rw [w_part]
@[simp] theorem w_call {f : Nat} {es : Exs} {sel : List Nat} : W (evE pg cf (.call f es sel) env h) P X = W (evEs pg cf es env h) (fun xs h => Op pg.fns[f]? fun fn => Op (picked xs sel fn.dfl) fun ds => W (cf f ds h) P X) X := by
  with_unfolding_all
    simp only [evE, W_bind]
    congr 1; funext xs h
    cases pg.fns[f]? with
    | none => rfl
    | some fn =>
      show W (match picked xs sel fn.dfl with
        | some ds => cf f ds h
        | none => .stk) P X = Op (picked xs sel fn.dfl) _
      cases picked xs sel fn.dfl <;> rfl
@[simp] theorem w_mk {c : Nat} {es : Exs} {sel : List Nat} : W (evE pg cf (.mk c es sel) env h) P X = W (evEs pg cf es env h) (fun xs h => Op ((pg.cls[c]?).bind (·.init)) fun f => Op pg.fns[f]? fun fn => Op (picked (.ref h.length :: xs) sel fn.dfl) fun ds => W (cf f ds (h ++ [.ins c []])) (fun d h1 => d = .non ∧ P (.ref h.length) h1) X) X := by
  with_unfolding_all
    simp only [evE, W_bind]
    congr 1; funext xs h
    cases (pg.cls[c]?).bind (·.init) with
    | none => rfl
    | some f =>
      show W (match pg.fns[f]? with
        | some fn => match picked (.ref h.length :: xs) sel fn.dfl with
          | some ds => match cf f ds (h ++ [.ins c []]) with
            | .ok .non h1 => .ok (.ref h.length) h1
            | .ok _ _ => .stk
            | .err c fs h1 => .err c fs h1
            | .stk => .stk
          | none => .stk
        | none => .stk) P X = Op pg.fns[f]? _
      cases pg.fns[f]? with
      | none => rfl
      | some fn =>
        show W (match picked (.ref h.length :: xs) sel fn.dfl with
          | some ds => match cf f ds (h ++ [.ins c []]) with
            | .ok .non h1 => .ok (.ref h.length) h1
            | .ok _ _ => .stk
            | .err c fs h1 => .err c fs h1
            | .stk => .stk
          | none => .stk) P X = Op (picked (.ref h.length :: xs) sel fn.dfl) _
        cases picked (.ref h.length :: xs) sel fn.dfl with
        | none => rfl
        | some ds =>
          simp only [Op_some]
          cases cf f ds (h ++ [.ins c []]) with
          | ok d h1 => cases d <;> simp [W]
          | err c fs h1 => rfl
          | stk => rfl
@[simp] theorem w_bi {b : Bi} {es : Exs} : W (evE pg cf (.bi b es) env h) P X = W (evEs pg cf es env h) (fun xs h => W (biop b xs h) P X) X := by with_unfolding_all simp only [evE, W_bind]
@[simp] theorem w_isin {e : Ex} {ts : List Ty} : W (evE pg cf (.isin e ts) env h) P X = W (evE pg cf e env h) (fun x h => Op (isinTys pg h x ts) fun t => P (.bl t) h) X := by
  with_unfolding_all
    simp only [evE, W_bind]
    congr 1; funext x h
    rw [W_opt]
    exact opt_bl (f := id)
@[simp] theorem w_isnil {e : Ex} : W (evE pg cf (.isnil e) env h) P X = W (evE pg cf e env h) (fun x h => Rf x fun a => Op (seqAt a h) fun ds => P (.bl ds.isEmpty) h) X := by
  with_unfolding_all
    simp only [evE, W_bind]
    congr 1; funext x h
    cases x with
    | ref a =>
      simp only [Rf_ref, seqAt]
      cases h[a]? with
      | none => rfl
      | some o => cases o <;> rfl
    | _ => rfl
@[simp] theorem w_rg {t : Bool} {es : Exs} : W (evE pg cf (.rg t es) env h) P X = W (evEs pg cf es env h) (fun xs h => Op (rgOf xs) fun ds => if t = true then P (.tup ds) h else P (.ref h.length) (h ++ [.lst ds])) X := by
  with_unfolding_all
    simp only [evE, W_bind]
    congr 1; funext xs h
    cases rgOf xs with
    | none => rfl
    | some ds => cases t <;> rfl
@[simp] theorem w_meth {e : Ex} {m : Nat} {es : Exs} {sel : List Nat} : W (evE pg cf (.meth e m es sel) env h) P X = W (evE pg cf e env h) (fun x h => Rf x fun a => Op h[a]? fun o => In2 o fun c fs => (fget fs m).isSome = false ∧ Op ((pg.cls[c]?).bind fun k => k.ms.lookup m) fun f =>
    W (evEs pg cf es env h) (fun xs h => Op pg.fns[f]? fun fn => Op (picked (.ref a :: xs) sel fn.dfl) fun ds => W (cf f ds h) P X) X) X := by
  with_unfolding_all
    simp only [evE, W_bind]
    congr 1; funext x h
    cases x with
    | ref a =>
      simp only [Rf_ref]
      cases h[a]? with
      | none => rfl
      | some o =>
        cases o with
        | ins c fs =>
          simp only [Op_some, In2_ins]
          cases (fget fs m).isSome with
          | true => simp [W]
          | false =>
            simp only [true_and]
            cases ((pg.cls[c]?).bind fun k => k.ms.lookup m) with
            | none => rfl
            | some f =>
              simp only [Op_some, W_bind]
              congr 1; funext xs h
              cases pg.fns[f]? with
              | none => rfl
              | some fn =>
                simp only [Op_some]
                cases picked (.ref a :: xs) sel fn.dfl <;> rfl
        | _ => rfl
    | _ => rfl
@[simp] theorem w_bm {e : Ex} {b : Bm} {es : Exs} : W (evE pg cf (.bm e b es) env h) P X = W (evE pg cf e env h) (fun x h1 => served b (kindD h1 x) = true ∧ W (evEs pg cf es env h1) (fun ys h2 => kindD h1 x = kindD h2 x ∧ W (bmop b x ys h2) P X) X) X := by
  with_unfolding_all
    simp only [evE, W_bind]
    congr 1; funext x h1
    split
    · rename_i q
      simp only [q, true_and, W_bind]
      congr 1; funext ys h2
      split
      · rename_i z; simp [z]
      · rename_i z; simp [W, z]
    · rename_i q
      simp [W, q]
@[simp] theorem w_caught {c : Nat} {e : Ex} : W (evE pg cf (.caught c e) env h) P X = W (evE pg cf e env h) (fun _ h => P .non h) (fun k fs h1 => fs = [] ∧ (pg.cls[k]?).map (fun q => q.ex && q.up.contains c) = some true ∧ P (.ref h1.length) (h1 ++ [.exc k []])) := by
  with_unfolding_all
    simp only [evE]
    cases evE pg cf e env h with
    | ok d h1 => simp [W]
    | stk => simp [W]
    | err k fs h1 =>
      cases fs with
      | cons a b => simp [W]
      | nil =>
        simp only [W, true_and]
        cases (pg.cls[k]?).map (fun q => q.ex && q.up.contains c) with
        | none => simp
        | some b => cases b <;> simp
end
@[irreducible] def S (r : SR) (N : Env → Heap → Prop) (Q : Ks) : Prop := match r with
  | .nx env h => N env h
  | .rt d h => Q.rt d h
  | .bk env h => Q.bk env h
  | .ct env h => Q.ct env h
  | .er c fs _ h => Q.er c fs h
  | .stk => False
section
variable {pg : Pg} {cf : Nat → List D → Heap → Res D} {env : Env} {h : Heap} {N : Env → Heap → Prop} {Q : Ks}
theorem S_st {α : Type} {r : Res α} {f : α → Heap → SR} : S (r.st env f) N Q = W r (fun a h => S (f a h) N Q) Q.er := by with_unfolding_all cases r <;> rfl
theorem S.mono {r : SR} {N' : Env → Heap → Prop} {Q' : Ks} (s : S r N Q) (h1 : ∀ e h, N e h → N' e h) (h2 : ∀ d h, Q.rt d h → Q'.rt d h) (h3 : ∀ e h, Q.bk e h → Q'.bk e h) (h4 : ∀ e h, Q.ct e h → Q'.ct e h) (h5 : ∀ c fs h, Q.er c fs h → Q'.er c fs h) : S r N' Q' := by
  with_unfolding_all
    cases r with
    | nx e h => exact h1 _ _ s
    | rt d h => exact h2 _ _ s
    | bk e h => exact h3 _ _ s
    | ct e h => exact h4 _ _ s
    | er c fs e h => exact h5 _ _ _ s
    | stk => exact s
@[simp] theorem s_nil : S (evSs pg cf .nil env h) N Q = N env h := by with_unfolding_all simp only [evSs, S]
theorem s_cons {s : St} {ss : Sts} : S (evSs pg cf (.cons s ss) env h) N Q = S (evS pg cf s env h) (fun env h => S (evSs pg cf ss env h) N Q) Q := by
  with_unfolding_all
    simp only [evSs]
    cases evS pg cf s env h <;> simp [S]
@[simp] theorem s_expr {e : Ex} : S (evS pg cf (.expr e) env h) N Q = W (evE pg cf e env h) (fun _ h => N env h) Q.er := by with_unfolding_all simp only [evS, S_st]; rfl
@[simp] theorem s_ret {e : Ex} : S (evS pg cf (.ret e) env h) N Q = W (evE pg cf e env h) (fun d h => Q.rt d h) Q.er := by with_unfolding_all simp only [evS, S_st]; rfl
@[simp] theorem s_asg {t : Tg} {e : Ex} : S (evS pg cf (.asg t e) env h) N Q = W (evE pg cf e env h) (fun d h => W (evT pg cf t d env h) (fun env h => N env h) noX) Q.er := by
  with_unfolding_all
    simp only [evS, S_st]
    congr 1; funext d h
    cases evT pg cf t d env h <;> rfl
@[simp] theorem s_if {c : Ex} {a b : Sts} : S (evS pg cf (.if_ c a b) env h) N Q = W (evE pg cf c env h) (fun x h => Tb (truth h x) (S (evSs pg cf a env h) N Q) (S (evSs pg cf b env h) N Q)) Q.er := by
  with_unfolding_all
    simp only [evS, S_st]
    congr 1; funext x h
    cases truth h x with
    | none => rfl
    | some b => cases b <;> rfl
@[simp] theorem s_pass : S (evS pg cf .pass env h) N Q = N env h := by with_unfolding_all simp only [evS, S]
@[simp] theorem s_brk : S (evS pg cf .brk env h) N Q = Q.bk env h := by with_unfolding_all simp only [evS, S]
@[simp] theorem s_cont : S (evS pg cf .cont env h) N Q = Q.ct env h := by with_unfolding_all simp only [evS, S]
@[simp] theorem s_raise {c : Nat} {es : Exs} : S (evS pg cf (.raise c es) env h) N Q = W (evEs pg cf es env h) (fun _ h => Q.er c [] h) Q.er := by with_unfolding_all simp only [evS, S_st]; rfl
@[simp] theorem s_aug {i : Nat} {o : BOp} {e : Ex} : S (evS pg cf (.aug i o e) env h) N Q = Op env[i]? fun o' => Op o' fun x => W (evE pg cf e env h) (fun y h => W (augop o x y h) (fun z h => i < env.length ∧ N (env.set i (some z)) h) Q.er) Q.er := by
  with_unfolding_all
    simp only [evS]
    cases env[i]? with
    | none => rfl
    | some o =>
      cases o with
      | none => rfl
      | some x =>
        simp only [S_st, Op_some]
        congr 1; funext y h
        congr 1; funext z h
        split
        · rename_i q; simp [S, q]
        · rename_i q; simp [S, q]
@[simp] theorem t_nm {i : Nat} {d : D} {P : Env → Heap → Prop} : W (evT pg cf (.nm i) d env h) P noX = (i < env.length ∧ P (env.set i (some d)) h) := by
  with_unfolding_all
    simp only [evT]
    split
    · rename_i q; simp [W, q]
    · rename_i q; simp [W, q]
@[simp] theorem t_tup {ts : Tgs} {d : D} {P : Env → Heap → Prop} : W (evT pg cf (.tup ts) d env h) P noX = Tu d fun ds => W (evTgs pg cf ts ds env h) P noX := by
  with_unfolding_all
    simp only [evT]
    cases d <;> rfl
@[simp] theorem t_attr {e : Ex} {f : Nat} {d : D} {P : Env → Heap → Prop} : W (evT pg cf (.attr e f) d env h) P noX = W (evE pg cf e env h) (fun x h => W (setAttr pg x f d h) (fun _ h => P env h) noX) noX := by
  with_unfolding_all
    simp only [evT, W_bind, W_ok]
@[simp] theorem t_idx {e i : Ex} {d : D} {P : Env → Heap → Prop} : W (evT pg cf (.idx e i) d env h) P noX = W (evE pg cf e env h) (fun x h => W (evE pg cf i env h) (fun y h => W (setIndex x y d h) (fun _ h => P env h) noX) noX) noX := by
  with_unfolding_all
    simp only [evT, W_bind, W_ok]
@[simp] theorem ts_nil {P : Env → Heap → Prop} : W (evTgs pg cf .nil [] env h) P noX = P env h := by with_unfolding_all simp only [evTgs, W]
@[simp] theorem ts_cons {t : Tg} {ts : Tgs} {d : D} {ds : List D} {P : Env → Heap → Prop} : W (evTgs pg cf (.cons t ts) (d :: ds) env h) P noX = W (evT pg cf t d env h) (fun env h => W (evTgs pg cf ts ds env h) P noX) noX := by with_unfolding_all simp only [evTgs, W_bind]
end
theorem w_fn {pg : Pg} {n f : Nat} {ds : List D} {h : Heap} {fn : Fn} {P : D → Heap → Prop} {X : XP} (e : pg.fns[f]? = some fn) (l : ds.length = fn.ps) : W (callFn pg (n + 1) f ds h) P X = S (evSs pg (callFn pg n) fn.body (ds.map some ++ List.replicate (fn.ns - fn.ps) none) h) (fun _ h => P .non h) { rt := P, er := X } := by
  with_unfolding_all
    simp only [callFn, runFn, e, if_pos l]
    cases evSs pg (callFn pg n) fn.body (ds.map some ++ List.replicate (fn.ns - fn.ps) none) h <;> rfl
def Less (I : Nat → Env → Heap → Prop) (n : Nat) (env : Env) (h : Heap) : Prop := ∃ m, m < n ∧ I m env h
def At (I : Nat → Env → Heap → Prop) (n : Nat) (env : Env) (h : Heap) : Prop := I n env h
def AtH (I : Nat → Heap → Prop) (n : Nat) (h : Heap) : Prop := I n h
    
theorem s_while {pg : Pg} {cf : Nat → List D → Heap → Res D} {c : Ex} {b : Sts} {env : Env} {h : Heap} {N : Env → Heap → Prop} {Q : Ks} (I : Nat → Env → Heap → Prop) (n : Nat) (hn : n < fuel) (h0 : I n env h)
    (step : ∀ n env h, I n env h → W (evE pg cf c env h) (fun x h => Tb (truth h x) (S (evSs pg cf b env h) (Less I n) { ct := Less I n, bk := N, rt := Q.rt, er := Q.er }) (N env h)) Q.er) :
    S (evS pg cf (.while_ c b) env h) N Q := by
  with_unfolding_all
    simp only [evS]
    have go : ∀ (k n : Nat) (env : Env) (h : Heap), n < k → I n env h → S (whileN (evE pg cf c) (evSs pg cf b) k env h) N Q := by
      intro k
      induction k with
      | zero => intro n env h hk; exact absurd hk (Nat.not_lt_zero _)
      | succ k ih =>
        intro n env h hk hi
        have w := step n env h hi
        unfold whileN
        cases q : evE pg cf c env h with
        | stk => rw [q] at w; exact w.elim
        | err c fs h1 => rw [q] at w; exact w
        | ok x h1 =>
          rw [q] at w
          have w : Tb (truth h1 x) _ _ := w
          cases et : truth h1 x with
          | none => rw [et] at w; exact w.elim
          | some t =>
          rw [et] at w
          simp only [et]
          cases t with
          | false => exact w
          | true =>
            have w3 : S (evSs pg cf b env h1) (Less I n) { ct := Less I n, bk := N, rt := Q.rt, er := Q.er } := w
            simp only
            cases q2 : evSs pg cf b env h1 with
            | nx e h2 => rw [q2] at w3; obtain ⟨m, hm, hi⟩ : Less I n e h2 := w3; exact ih m e h2 (by omega) hi
            | ct e h2 => rw [q2] at w3; obtain ⟨m, hm, hi⟩ : Less I n e h2 := w3; exact ih m e h2 (by omega) hi
            | bk e h2 => rw [q2] at w3; exact w3
            | rt d h2 => rw [q2] at w3; exact w3
            | er c fs e h2 => rw [q2] at w3; exact w3
            | stk => rw [q2] at w3; exact w3.elim
    exact go fuel n env h hn h0
theorem s_forN {next : Nat → Heap → Option (Option D)} {asgn : D → Env → Heap → Res Env} {body : Env → Heap → SR} {N : Env → Heap → Prop} {Q : Ks} (xs : List D) (I : Nat → Env → Heap → Prop)
    (hn : ∀ i env h, I i env h → next i h = some xs[i]?)
    (step : ∀ i d env h, I i env h → xs[i]? = some d → W (asgn d env h) (fun env h => S (body env h) (At I (i + 1)) { ct := At I (i + 1), bk := N, rt := Q.rt, er := Q.er }) noX)
    (fin : ∀ env h, I xs.length env h → N env h) : ∀ (k i : Nat) (env : Env) (h : Heap), i + k = xs.length → I i env h → S (forN next asgn body k i env h) N Q := by
  with_unfolding_all
    intro k
    induction k with
    | zero =>
      intro i env h hk hi
      have e : xs[i]? = none := List.getElem?_eq_none_iff.mpr (by omega)
      unfold forN
      rw [hn i env h hi, e]
      have : i = xs.length := by omega
      subst this
      exact fin env h hi
    | succ k ih =>
      intro i env h hk hi
      have hl : i < xs.length := by omega
      unfold forN
      rw [hn i env h hi, List.getElem?_eq_getElem hl]
      simp only
      have w := step i xs[i] env h hi (List.getElem?_eq_getElem hl)
      cases q : asgn xs[i] env h with
      | stk => rw [q] at w; exact w.elim
      | err c fs h1 => rw [q] at w; exact w.elim
      | ok env1 h1 =>
        rw [q] at w
        have w : S (body env1 h1) (At I (i + 1)) { ct := At I (i + 1), bk := N, rt := Q.rt, er := Q.er } := w
        simp only
        cases q2 : body env1 h1 with
        | nx e h2 => rw [q2] at w; exact ih (i + 1) e h2 (by omega) w
        | ct e h2 => rw [q2] at w; exact ih (i + 1) e h2 (by omega) w
        | bk e h2 => rw [q2] at w; exact w
        | rt d h2 => rw [q2] at w; exact w
        | er c fs e h2 => rw [q2] at w; exact w
        | stk => rw [q2] at w; exact w.elim
theorem s_for {pg : Pg} {cf : Nat → List D → Heap → Res D} {t : Tg} {it : It} {b : Sts} {env : Env} {h : Heap} {N : Env → Heap → Prop} {Q : Ks} (hl : evL pg cf it env h = none) :
    S (evS pg cf (.for_ t it b) env h) N Q = W (evI pg cf it env h) (fun v h => S (forN v.next (evT pg cf t) (evSs pg cf b) (v.count h) 0 env h) N { rt := Q.rt, er := Q.er }) Q.er := by
  with_unfolding_all
    simp only [evS, hl, lockH, S_st]
    cases evI pg cf it env h with
    | stk => simp [W, mirS, S, Res.st]
    | err c fs h1 => simp [W, mirS, S, Res.st]
    | ok v h1 =>
      simp only [Res.st, W, mirS]
      cases forN v.next (evT pg cf t) (evSs pg cf b) (v.count h1) 0 env h1 <;> simp [unlock, S]

section
variable {pg : Pg} {cf : Nat → List D → Heap → Res D}
theorem c_compN {next : Nat → Heap → Option (Option D)} {asgn : D → Env → Heap → Res Env} {test : Env → Heap → Res Bool} {put : Env → Heap → Res Unit} {env : Env} {P : Unit → Heap → Prop} (xs : List D) (I : Nat → Heap → Prop)
    (hn : ∀ i h, I i h → next i h = some xs[i]?)
    (step : ∀ i d h, I i h → xs[i]? = some d → W (asgn d env h) (fun env1 h1 => W (test env1 h1) (fun b h2 => (b = true → W (put env1 h2) (fun _ h3 => AtH I (i + 1) h3) noX) ∧ (b = false → AtH I (i + 1) h2)) noX) noX)
    (fin : ∀ h, I xs.length h → P () h) : ∀ (k i : Nat) (h : Heap), i + k = xs.length → I i h → W (compN next asgn test put env k i h) P noX := by
  with_unfolding_all
    intro k
    induction k with
    | zero =>
      intro i h hk hi
      have e : xs[i]? = none := List.getElem?_eq_none_iff.mpr (by omega)
      unfold compN
      rw [hn i h hi, e]
      have : i = xs.length := by omega
      subst this
      exact fin h hi
    | succ k ih =>
      intro i h hk hi
      have hl : i < xs.length := by omega
      unfold compN
      rw [hn i h hi, List.getElem?_eq_getElem hl]
      simp only
      have w := step i xs[i] h hi (List.getElem?_eq_getElem hl)
      cases q : asgn xs[i] env h with
      | stk => rw [q] at w; exact w.elim
      | err c fs h1 => rw [q] at w; exact w.elim
      | ok env1 h1 =>
        rw [q] at w
        have w : W (test env1 h1) (fun b h2 => (b = true → W (put env1 h2) (fun _ h3 => AtH I (i + 1) h3) noX) ∧ (b = false → AtH I (i + 1) h2)) noX := w
        simp only
        cases q2 : test env1 h1 with
        | stk => rw [q2] at w; exact w.elim
        | err c fs h2 => rw [q2] at w; exact w.elim
        | ok b h2 =>
          rw [q2] at w
          obtain ⟨w1, w2⟩ : (b = true → W (put env1 h2) (fun _ h3 => AtH I (i + 1) h3) noX) ∧ (b = false → AtH I (i + 1) h2) := w
          cases b with
          | false => exact ih (i + 1) h2 (by omega) (w2 rfl)
          | true =>
            have w3 := w1 rfl
            simp only
            cases q3 : put env1 h2 with
            | stk => rw [q3] at w3; exact w3.elim
            | err c fs h3 => rw [q3] at w3; exact w3.elim
            | ok u h3 => rw [q3] at w3; exact ih (i + 1) h3 (by omega) w3
theorem w_comp {elt : Ex} {own : List Nat} {tg : Tg} {it : It} {ifs : Exs} {env : Env} {h : Heap} {P : D → Heap → Prop} {X : XP} (hl : evL pg cf it env h = none) :
    W (evE pg cf (.comp elt own tg it ifs) env h) P X = W (evI pg cf it env h) (fun t h1 => W (compN t.next (evT pg cf tg) (evTs pg cf ifs) (fun env h => putL h1.length (evE pg cf elt env h)) (wipe env own) (t.count h1) 0 (h1 ++ [.lst []])) (fun _ h2 => P (.ref h1.length) h2) noX) X := by
  with_unfolding_all
    simp only [evE, hl, lockH]
    cases evI pg cf it env h with
    | stk => rfl
    | err c fs h1 => rfl
    | ok t h1 =>
      simp only [Res.bind, W]
      cases compN t.next (evT pg cf tg) (evTs pg cf ifs) (fun env h => putL h1.length (evE pg cf elt env h)) (wipe env own) (t.count h1) 0 (h1 ++ [.lst []]) <;> simp [mirH, unlock]
theorem w_dcomp {k v : Ex} {own : List Nat} {tg : Tg} {it : It} {ifs : Exs} {env : Env} {h : Heap} {P : D → Heap → Prop} {X : XP} (hl : evL pg cf it env h = none) :
    W (evE pg cf (.dcomp k v own tg it ifs) env h) P X = W (evI pg cf it env h) (fun t h1 => W (compN t.next (evT pg cf tg) (evTs pg cf ifs) (fun env h => match evE pg cf k env h with
        | .ok x h => putD h1.length x (evE pg cf v env h)
        | _ => .stk) (wipe env own) (t.count h1) 0 (h1 ++ [.dct []])) (fun _ h2 => P (.ref h1.length) h2) noX) X := by
  with_unfolding_all
    simp only [evE, hl, lockH]
    cases evI pg cf it env h with
    | stk => rfl
    | err c fs h1 => rfl
    | ok t h1 =>
      simp only [Res.bind, W]
      cases compN t.next (evT pg cf tg) (evTs pg cf ifs) (fun env h => match evE pg cf k env h with
          | .ok x h => putD h1.length x (evE pg cf v env h)
          | _ => .stk) (wipe env own) (t.count h1) 0 (h1 ++ [.dct []]) <;> simp [mirH, unlock]
@[simp] theorem w_putL {a : Nat} {r : Res D} {P : Unit → Heap → Prop} : W (putL a r) P noX = W r (fun y h => Op h[a]? fun o => Ls o fun acc => acc.length < lim ∧ P () (h.set a (.lst (acc ++ [y])))) noX := by
  with_unfolding_all
    unfold putL
    cases r with
    | stk => rfl
    | err c fs h => rfl
    | ok y h =>
      simp only [W]
      cases h[a]? with
      | none => rfl
      | some o =>
        cases o with
        | lst acc =>
          simp only [Op_some, Ls_lst]
          by_cases z : acc.length < lim
          · rw [if_pos z]; simp [z]
          · rw [if_neg z]; simp [z]
        | _ => rfl
@[simp] theorem w_putD {a : Nat} {k : D} {r : Res D} {P : Unit → Heap → Prop} : W (putD a k r) P noX = W r (fun y h => Op h[a]? fun o => Dc o fun kvs => k.key = true ∧ kvs.length < lim ∧ P () (h.set a (.dct (dput kvs k y)))) noX := by
  with_unfolding_all
    unfold putD
    cases r with
    | stk => rfl
    | err c fs h => rfl
    | ok y h =>
      simp only [W]
      cases h[a]? with
      | none => rfl
      | some o =>
        cases o with
        | dct acc =>
          simp only [Op_some, Dc_dct]
          by_cases z : (k.key && decide (acc.length < lim)) = true
          · rw [if_pos z]
            rw [Bool.and_eq_true, decide_eq_true_eq] at z
            simp [z.1, z.2]
          · rw [if_neg z]
            rw [Bool.and_eq_true, decide_eq_true_eq] at z
            rw [eq_iff_iff]
            exact ⟨fun x => x.elim, fun x => z ⟨x.1, x.2.1⟩⟩
        | _ => rfl
@[simp] theorem wt_nil {env : Env} {h : Heap} {P : Bool → Heap → Prop} : W (evTs pg cf .nil env h) P noX = P true h := by with_unfolding_all simp only [evTs, W]
@[simp] theorem wt_cons {e : Ex} {es : Exs} {env : Env} {h : Heap} {P : Bool → Heap → Prop} : W (evTs pg cf (.cons e es) env h) P noX = W (evE pg cf e env h) (fun x h => Tb (truth h x) (W (evTs pg cf es env h) P noX) (P false h)) noX := by
  with_unfolding_all
    simp only [evTs, W_bind]
    congr 1; funext x h
    cases truth h x with
    | none => rfl
    | some b => cases b <;> rfl
end
section
variable {pg : Pg} {cf : Nat → List D → Heap → Res D} {env : Env} {h : Heap} {P : ItV → Heap → Prop} {X : XP}
@[simp] theorem el_e {e : Ex} : evL pg cf (.e e) env h = none := by with_unfolding_all simp only [evL]
@[simp] theorem el_rng {e : Ex} : evL pg cf (.rng e) env h = none := by with_unfolding_all simp only [evL]
@[simp] theorem el_rng2 {e b : Ex} : evL pg cf (.rng2 e b) env h = none := by with_unfolding_all simp only [evL]
@[simp] theorem el_enum {e : Ex} : evL pg cf (.enum e) env h = none := by with_unfolding_all simp only [evL]
@[simp] theorem el_zip {e b : Ex} : evL pg cf (.zip e b) env h = none := by with_unfolding_all simp only [evL]
@[simp] theorem i_e {e : Ex} : W (evI pg cf (.e e) env h) P X = W (evE pg cf e env h) (fun x h => Op (itv x h) fun v => P v h) X := by
  with_unfolding_all
    simp only [evI, W_bind]
    congr 1; funext x h
    cases x with
    | ref a =>
      simp only [itv, seqAt]
      cases h[a]? with
      | none => rfl
      | some o => cases o <;> rfl
    | _ => rfl
@[simp] theorem i_path {e : Ex} : W (evI pg cf (.path e) env h) P X = W (evE pg cf e env h) (fun x h => Op (itp x h) fun v => P v h) X := by
  with_unfolding_all
    simp only [evI, W_bind]
    congr 1; funext x h
    cases x with
    | ref a =>
      simp only [itp]
      cases h[a]? with
      | none => rfl
      | some o => cases o <;> rfl
    | _ => rfl
@[simp] theorem i_rng {e : Ex} : W (evI pg cf (.rng e) env h) P X = W (evE pg cf e env h) (fun x h => In x fun i => smallI i = true ∧ P (.snap (rangeL 0 i.toNat)) h) X := by
  with_unfolding_all
    simp only [evI, W_bind]
    congr 1; funext x h
    cases x with
    | int i =>
      simp only [In_int]
      by_cases q : smallI i = true
      · rw [if_pos q]; simp [q]
      · rw [if_neg q]; simp [q]
    | _ => rfl
@[simp] theorem i_zip {a b : Ex} : W (evI pg cf (.zip a b) env h) P X = W (evE pg cf a env h) (fun x h => W (evE pg cf b env h) (fun y h => match x, y with
    | .tup xs, .tup ys => P (.snap (List.zipWith (fun x y => .tup [x, y]) xs ys)) h
    | .ref a, .ref b => Op (seqAt a h) fun _ => Op (seqAt b h) fun _ => P (.zip a b) h
    | _, _ => False) X) X := by
  with_unfolding_all
    simp only [evI, W_bind]
    congr 1; funext x h
    congr 1; funext y h
    cases x <;> cases y <;> simp [W]
    rename_i a b
    cases seqAt a h <;> cases seqAt b h <;> rfl
@[simp] theorem i_enum {e : Ex} : W (evI pg cf (.enum e) env h) P X = W (evE pg cf e env h) (fun x h => Rf x fun a => Op (seqAt a h) fun _ => P (.enum a) h) X := by
  with_unfolding_all
    simp only [evI, W_bind]
    congr 1; funext x h
    cases x with
    | ref a =>
      simp only [Rf_ref, seqAt]
      cases h[a]? with
      | none => rfl
      | some o => cases o <;> rfl
    | _ => rfl
end
@[simp] theorem nx_snap {ds : List D} {i : Nat} {h : Heap} : ItV.next (.snap ds) i h = some ds[i]? := rfl
@[simp] theorem ct_snap {ds : List D} {h : Heap} : ItV.count (.snap ds) h = ds.length := rfl
theorem rangeL_len : ∀ (lo : Int) (n : Nat), (rangeL lo n).length = n
  | lo, 0 => rfl
  | lo, n + 1 => by simp [rangeL, rangeL_len]
theorem rangeL_get : ∀ (lo : Int) (n i : Nat), (rangeL lo n)[i]? = if i < n then some (.int (lo + i)) else none
  | lo, 0, i => by simp [rangeL]
  | lo, n + 1, 0 => by simp [rangeL]
  | lo, n + 1, i + 1 => by
    simp only [rangeL, List.getElem?_cons_succ, rangeL_get, Nat.add_lt_add_iff_right]
    congr 2
    simp; omega
theorem s_for_by {pg : Pg} {cf : Nat → List D → Heap → Res D} {t : Tg} {b : Sts} {env : Env} {h : Heap} {N : Env → Heap → Prop} {Q : Ks} {v : ItV} {k : Nat} (xs : List D) (I : Nat → Env → Heap → Prop) (hc : k = xs.length) (h0 : I 0 env h)
    (hn : ∀ i env h, I i env h → v.next i h = some xs[i]?)
    (step : ∀ i d env h, I i env h → xs[i]? = some d → W (evT pg cf t d env h) (fun env h => S (evSs pg cf b env h) (At I (i + 1)) { ct := At I (i + 1), bk := N, rt := Q.rt, er := Q.er }) noX)
    (fin : ∀ env h, I xs.length env h → N env h) : S (forN v.next (evT pg cf t) (evSs pg cf b) k 0 env h) N Q :=
  s_forN xs I hn step fin _ 0 env h (by rw [hc]; omega) h0
theorem c_comp_by {pg : Pg} {cf : Nat → List D → Heap → Res D} {t : Tg} {ifs : Exs} {put : Env → Heap → Res Unit} {env : Env} {h : Heap} {P : Unit → Heap → Prop} {v : ItV} {k : Nat} (xs : List D) (I : Nat → Heap → Prop) (hc : k = xs.length) (hi : I 0 h)
    (hn : ∀ i h, I i h → v.next i h = some xs[i]?)
    (step : ∀ i d h, I i h → xs[i]? = some d → W (evT pg cf t d env h) (fun env1 h1 => W (evTs pg cf ifs env1 h1) (fun b h2 => (b = true → W (put env1 h2) (fun _ h3 => AtH I (i + 1) h3) noX) ∧ (b = false → AtH I (i + 1) h2)) noX) noX)
    (fin : ∀ h, I xs.length h → P () h) : W (compN v.next (evT pg cf t) (evTs pg cf ifs) put env k 0 h) P noX :=
  c_compN xs I hn step fin _ 0 h (by rw [hc]; omega) hi
end Raw
@[irreducible] def W {α : Type} (r : Res α) (P : α → Heap → Prop) (X : XP) (_d : Dp P X := ()) : Prop := Raw.W r P X
def Op {α : Type} (o : Option α) (P : α → Prop) (_d : Dp P P := ()) : Prop := Raw.Op o P
@[simp] theorem Op_some {α : Type} {a : α} {P : α → Prop} : Op (some a) P = P a := by
  with_unfolding_all exact Raw.Op_some
theorem Op_iff {α : Type} {o : Option α} {P : α → Prop} : Op o P ↔ ∃ a, o = some a ∧ P a := by
  with_unfolding_all exact Raw.Op_iff
def Tb (o : Option Bool) (A B : Prop) (_d : Dp A B := ()) : Prop := Raw.Tb o A B
@[simp] theorem Tb_true {A B : Prop} : Tb (some true) A B = A := by
  with_unfolding_all exact Raw.Tb_true
@[simp] theorem Tb_false {A B : Prop} : Tb (some false) A B = B := by
  with_unfolding_all exact Raw.Tb_false
@[simp] theorem Tb_not {b : Bool} {A B : Prop} : Tb (some !b) A B = Tb (some b) B A := by
  with_unfolding_all exact Raw.Tb_not
theorem Tb_b {b : Bool} {A B : Prop} (h1 : b = true → A) (h2 : b = false → B) : Tb (some b) A B := by
  with_unfolding_all exact Raw.Tb_b h1 h2
theorem Tb_d {p : Prop} [Decidable p] {A B : Prop} (h1 : p → A) (h2 : ¬p → B) : Tb (some (decide p)) A B := by
  with_unfolding_all exact Raw.Tb_d h1 h2
def Rf (x : D) (P : Nat → Prop) (_d : Dp P P := ()) : Prop := Raw.Rf x P
@[simp] theorem Rf_ref {a : Nat} {P : Nat → Prop} : Rf (.ref a) P = P a := by
  with_unfolding_all exact Raw.Rf_ref
def In (x : D) (P : Int → Prop) (_d : Dp P P := ()) : Prop := Raw.In x P
@[simp] theorem In_int {a : Int} {P : Int → Prop} : In (.int a) P = P a := by
  with_unfolding_all exact Raw.In_int
def Tu (x : D) (P : List D → Prop) (_d : Dp P P := ()) : Prop := Raw.Tu x P
@[simp] theorem Tu_tup {a : List D} {P : List D → Prop} : Tu (.tup a) P = P a := by
  with_unfolding_all exact Raw.Tu_tup
def In2 (o : MO) (P : Nat → List (Nat × D) → Prop) (_d : Dp P P := ()) : Prop := Raw.In2 o P
@[simp] theorem In2_ins {c : Nat} {fs : List (Nat × D)} {P : Nat → List (Nat × D) → Prop} : In2 (.ins c fs) P = P c fs := by
  with_unfolding_all exact Raw.In2_ins
def Ls (o : MO) (P : List D → Prop) (_d : Dp P P := ()) : Prop := Raw.Ls o P
@[simp] theorem Ls_lst {ds : List D} {P : List D → Prop} : Ls (.lst ds) P = P ds := by
  with_unfolding_all exact Raw.Ls_lst
def Dc (o : MO) (P : List (D × D) → Prop) (_d : Dp P P := ()) : Prop := Raw.Dc o P
@[simp] theorem Dc_dct {ds : List (D × D)} {P : List (D × D) → Prop} : Dc (.dct ds) P = P ds := by
  with_unfolding_all exact Raw.Dc_dct
section
variable {α β : Type} {P : α → Heap → Prop} {X : XP} {h : Heap}
@[simp] theorem W_ok {a : α} : W (.ok a h) P X = P a h := by
  with_unfolding_all exact Raw.W_ok
@[simp] theorem W_err {c : Nat} {fs : List (Nat × D)} : W (.err c fs h) P X = X c fs h := by
  with_unfolding_all exact Raw.W_err
theorem W_bind {r : Res β} {f : β → Heap → Res α} : W (r.bind f) P X = W r (fun a h => W (f a h) P X) X := by
  with_unfolding_all exact Raw.W_bind
@[simp] theorem W_if {c : Prop} [Decidable c] {r : Res α} : W (if c then r else .stk) P X = (c ∧ W r P X) := by
  with_unfolding_all exact Raw.W_if
@[simp] theorem W_opt {o : Option α} : W (opt o h) P X = Op o (fun a => P a h) := by
  with_unfolding_all exact Raw.W_opt
@[simp] theorem W_stk : W (.stk : Res α) P X = False := by
  with_unfolding_all exact Raw.W_stk
theorem W.mono {r : Res α} {P' : α → Heap → Prop} {X' : XP} (w : W r P X) (hp : ∀ a h, P a h → P' a h) (hx : ∀ c fs h, X c fs h → X' c fs h) : W r P' X' := by
  with_unfolding_all exact Raw.W.mono w hp hx
theorem W.ok {r : Res α} (w : W r P noX) : ∃ a h, r = .ok a h ∧ P a h := by
  with_unfolding_all exact Raw.W.ok w
end
section
variable {pg : Pg} {cf : Nat → List D → Heap → Res D} {env : Env} {h : Heap} {P : D → Heap → Prop} {X : XP}
theorem opt_bl {o : Option Bool} {f : Bool → Bool} : Op (o.map fun b => D.bl (f b)) (fun a => P a h) = Op o (fun b => P (.bl (f b)) h) := by
  with_unfolding_all exact Raw.opt_bl
@[simp] theorem w_c {d : D} : W (evE pg cf (.c d) env h) P X = P d h := by
  with_unfolding_all exact Raw.w_c
@[simp] theorem w_v {i : Nat} : W (evE pg cf (.v i) env h) P X = Op env[i]? (fun o => Op o fun d => P d h) := by
  with_unfolding_all exact Raw.w_v
@[simp] theorem w_bin {o : BOp} {a b : Ex} : W (evE pg cf (.bin o a b) env h) P X = W (evE pg cf a env h) (fun x h => W (evE pg cf b env h) (fun y h => W (binop o x y h) P X) X) X := by
  with_unfolding_all exact Raw.w_bin
@[simp] theorem w_neg {a : Ex} : W (evE pg cf (.neg a) env h) P X = W (evE pg cf a env h) (fun x h => In x fun i => P (.int (-i)) h) X := by
  with_unfolding_all exact Raw.w_neg
@[simp] theorem w_cmp {o : COp} {a b : Ex} : W (evE pg cf (.cmp o a b) env h) P X = W (evE pg cf a env h) (fun x h => W (evE pg cf b env h) (fun y h => Op (cmpop o x y h) fun t => P (.bl t) h) X) X := by
  with_unfolding_all exact Raw.w_cmp
@[simp] theorem w_and {a b : Ex} : W (evE pg cf (.and a b) env h) P X = W (evE pg cf a env h) (fun x h => Tb (truth h x) (W (evE pg cf b env h) P X) (P x h)) X := by
  with_unfolding_all exact Raw.w_and
@[simp] theorem w_or {a b : Ex} : W (evE pg cf (.or a b) env h) P X = W (evE pg cf a env h) (fun x h => Tb (truth h x) (P x h) (W (evE pg cf b env h) P X)) X := by
  with_unfolding_all exact Raw.w_or
@[simp] theorem w_not {a : Ex} : W (evE pg cf (.not a) env h) P X = W (evE pg cf a env h) (fun x h => Op (truth h x) fun t => P (.bl (!t)) h) X := by
  with_unfolding_all exact Raw.w_not
@[simp] theorem w_ite {c a b : Ex} : W (evE pg cf (.ite c a b) env h) P X = W (evE pg cf c env h) (fun x h => Tb (truth h x) (W (evE pg cf a env h) P X) (W (evE pg cf b env h) P X)) X := by
  with_unfolding_all exact Raw.w_ite
@[simp] theorem ws_nil {P : List D → Heap → Prop} : W (evEs pg cf .nil env h) P X = P [] h := by
  with_unfolding_all exact Raw.ws_nil
@[simp] theorem ws_cons {P : List D → Heap → Prop} {e : Ex} {es : Exs} : W (evEs pg cf (.cons e es) env h) P X = W (evE pg cf e env h) (fun x h => W (evEs pg cf es env h) (fun xs h => P (x :: xs) h) X) X := by
  with_unfolding_all exact Raw.ws_cons
@[simp] theorem w_tup {es : Exs} : W (evE pg cf (.tup es) env h) P X = W (evEs pg cf es env h) (fun xs h => xs.length ≤ lim ∧ P (.tup xs) h) X := by
  with_unfolding_all exact Raw.w_tup
@[simp] theorem w_lst {es : Exs} : W (evE pg cf (.lst es) env h) P X = W (evEs pg cf es env h) (fun xs h => xs.length ≤ lim ∧ P (.ref h.length) (h ++ [.lst xs])) X := by
  with_unfolding_all exact Raw.w_lst
@[simp] theorem w_dct {es : Exs} : W (evE pg cf (.dct es) env h) P X = W (evEs pg cf es env (h ++ [.dct []])) (fun xs h1 => h1[h.length]? = some (.dct []) ∧ xs.length ≤ 30 ∧ Op (dispOf xs) fun ps => P (.ref h.length) (h1.set h.length (.dct (merge [] ps)))) X := by
  with_unfolding_all exact Raw.w_dct
@[simp] theorem w_attr {e : Ex} {f : Nat} : W (evE pg cf (.attr e f) env h) P X = W (evE pg cf e env h) (fun x h => W (getAttr pg x f h) P X) X := by
  with_unfolding_all exact Raw.w_attr
@[simp] theorem w_idx {e i : Ex} : W (evE pg cf (.idx e i) env h) P X = W (evE pg cf e env h) (fun x h => W (evE pg cf i env h) (fun y h => W (index x y h) P X) X) X := by
  with_unfolding_all exact Raw.w_idx
@[simp] theorem w_rev {e : Ex} : W (evE pg cf (.rev e) env h) P X = W (evE pg cf e env h) (fun x h => W (reved x h) P X) X := by
  with_unfolding_all exact Raw.w_rev
theorem w_part {β : Type} {f : Option Int → Heap → Res β} {a : List D} {P : β → Heap → Prop} : W (withPart f a h) P X = Op (part a) fun o => W (f o h) P X := by
  with_unfolding_all exact Raw.w_part
@[simp] theorem w_slice {e : Ex} {lo hi : Exs} : W (evE pg cf (.slice e lo hi) env h) P X = W (evE pg cf e env h) (fun x h => W (evEs pg cf lo env h) (fun a h => Op (part a) fun o => W (evEs pg cf hi env h) (fun b h => Op (part b) fun p => W (sliced x o p h) P X) X) X) X := by
  with_unfolding_all exact Raw.w_slice
@[simp] theorem w_call {f : Nat} {es : Exs} {sel : List Nat} : W (evE pg cf (.call f es sel) env h) P X = W (evEs pg cf es env h) (fun xs h => Op pg.fns[f]? fun fn => Op (picked xs sel fn.dfl) fun ds => W (cf f ds h) P X) X := by
  with_unfolding_all exact Raw.w_call
@[simp] theorem w_mk {c : Nat} {es : Exs} {sel : List Nat} : W (evE pg cf (.mk c es sel) env h) P X = W (evEs pg cf es env h) (fun xs h => Op ((pg.cls[c]?).bind (·.init)) fun f => Op pg.fns[f]? fun fn => Op (picked (.ref h.length :: xs) sel fn.dfl) fun ds => W (cf f ds (h ++ [.ins c []])) (fun d h1 => d = .non ∧ P (.ref h.length) h1) X) X := by
  with_unfolding_all exact Raw.w_mk
@[simp] theorem w_bi {b : Bi} {es : Exs} : W (evE pg cf (.bi b es) env h) P X = W (evEs pg cf es env h) (fun xs h => W (biop b xs h) P X) X := by
  with_unfolding_all exact Raw.w_bi
@[simp] theorem w_isin {e : Ex} {ts : List Ty} : W (evE pg cf (.isin e ts) env h) P X = W (evE pg cf e env h) (fun x h => Op (isinTys pg h x ts) fun t => P (.bl t) h) X := by
  with_unfolding_all exact Raw.w_isin
@[simp] theorem w_isnil {e : Ex} : W (evE pg cf (.isnil e) env h) P X = W (evE pg cf e env h) (fun x h => Rf x fun a => Op (seqAt a h) fun ds => P (.bl ds.isEmpty) h) X := by
  with_unfolding_all exact Raw.w_isnil
@[simp] theorem w_rg {t : Bool} {es : Exs} : W (evE pg cf (.rg t es) env h) P X = W (evEs pg cf es env h) (fun xs h => Op (rgOf xs) fun ds => if t = true then P (.tup ds) h else P (.ref h.length) (h ++ [.lst ds])) X := by
  with_unfolding_all exact Raw.w_rg
@[simp] theorem w_meth {e : Ex} {m : Nat} {es : Exs} {sel : List Nat} : W (evE pg cf (.meth e m es sel) env h) P X = W (evE pg cf e env h) (fun x h => Rf x fun a => Op h[a]? fun o => In2 o fun c fs => (fget fs m).isSome = false ∧ Op ((pg.cls[c]?).bind fun k => k.ms.lookup m) fun f =>
    W (evEs pg cf es env h) (fun xs h => Op pg.fns[f]? fun fn => Op (picked (.ref a :: xs) sel fn.dfl) fun ds => W (cf f ds h) P X) X) X := by
  with_unfolding_all exact Raw.w_meth
@[simp] theorem w_bm {e : Ex} {b : Bm} {es : Exs} : W (evE pg cf (.bm e b es) env h) P X = W (evE pg cf e env h) (fun x h1 => served b (kindD h1 x) = true ∧ W (evEs pg cf es env h1) (fun ys h2 => kindD h1 x = kindD h2 x ∧ W (bmop b x ys h2) P X) X) X := by
  with_unfolding_all exact Raw.w_bm
@[simp] theorem w_caught {c : Nat} {e : Ex} : W (evE pg cf (.caught c e) env h) P X = W (evE pg cf e env h) (fun _ h => P .non h) (fun k fs h1 => fs = [] ∧ (pg.cls[k]?).map (fun q => q.ex && q.up.contains c) = some true ∧ P (.ref h1.length) (h1 ++ [.exc k []])) := by
  with_unfolding_all exact Raw.w_caught
end
@[irreducible] def S (r : SR) (N : Env → Heap → Prop) (Q : Ks) (_d : Dp N Q := ()) : Prop := Raw.S r N Q
section
variable {pg : Pg} {cf : Nat → List D → Heap → Res D} {env : Env} {h : Heap} {N : Env → Heap → Prop} {Q : Ks}
theorem S_st {α : Type} {r : Res α} {f : α → Heap → SR} : S (r.st env f) N Q = W r (fun a h => S (f a h) N Q) Q.er := by
  with_unfolding_all exact Raw.S_st
theorem S.mono {r : SR} {N' : Env → Heap → Prop} {Q' : Ks} (s : S r N Q) (h1 : ∀ e h, N e h → N' e h) (h2 : ∀ d h, Q.rt d h → Q'.rt d h) (h3 : ∀ e h, Q.bk e h → Q'.bk e h) (h4 : ∀ e h, Q.ct e h → Q'.ct e h) (h5 : ∀ c fs h, Q.er c fs h → Q'.er c fs h) : S r N' Q' := by
  with_unfolding_all exact Raw.S.mono s h1 h2 h3 h4 h5
@[simp] theorem s_nil : S (evSs pg cf .nil env h) N Q = N env h := by
  with_unfolding_all exact Raw.s_nil
theorem s_cons {s : St} {ss : Sts} : S (evSs pg cf (.cons s ss) env h) N Q = S (evS pg cf s env h) (fun env h => S (evSs pg cf ss env h) N Q) Q := by
  with_unfolding_all exact Raw.s_cons
@[simp] theorem s_expr {e : Ex} : S (evS pg cf (.expr e) env h) N Q = W (evE pg cf e env h) (fun _ h => N env h) Q.er := by
  with_unfolding_all exact Raw.s_expr
@[simp] theorem s_ret {e : Ex} : S (evS pg cf (.ret e) env h) N Q = W (evE pg cf e env h) (fun d h => Q.rt d h) Q.er := by
  with_unfolding_all exact Raw.s_ret
@[simp] theorem s_asg {t : Tg} {e : Ex} : S (evS pg cf (.asg t e) env h) N Q = W (evE pg cf e env h) (fun d h => W (evT pg cf t d env h) (fun env h => N env h) noX) Q.er := by
  with_unfolding_all exact Raw.s_asg
@[simp] theorem s_if {c : Ex} {a b : Sts} : S (evS pg cf (.if_ c a b) env h) N Q = W (evE pg cf c env h) (fun x h => Tb (truth h x) (S (evSs pg cf a env h) N Q) (S (evSs pg cf b env h) N Q)) Q.er := by
  with_unfolding_all exact Raw.s_if
@[simp] theorem s_pass : S (evS pg cf .pass env h) N Q = N env h := by
  with_unfolding_all exact Raw.s_pass
@[simp] theorem s_brk : S (evS pg cf .brk env h) N Q = Q.bk env h := by
  with_unfolding_all exact Raw.s_brk
@[simp] theorem s_cont : S (evS pg cf .cont env h) N Q = Q.ct env h := by
  with_unfolding_all exact Raw.s_cont
@[simp] theorem s_raise {c : Nat} {es : Exs} : S (evS pg cf (.raise c es) env h) N Q = W (evEs pg cf es env h) (fun _ h => Q.er c [] h) Q.er := by
  with_unfolding_all exact Raw.s_raise
@[simp] theorem s_aug {i : Nat} {o : BOp} {e : Ex} : S (evS pg cf (.aug i o e) env h) N Q = Op env[i]? fun o' => Op o' fun x => W (evE pg cf e env h) (fun y h => W (augop o x y h) (fun z h => i < env.length ∧ N (env.set i (some z)) h) Q.er) Q.er := by
  with_unfolding_all exact Raw.s_aug
@[simp] theorem t_nm {i : Nat} {d : D} {P : Env → Heap → Prop} : W (evT pg cf (.nm i) d env h) P noX = (i < env.length ∧ P (env.set i (some d)) h) := by
  with_unfolding_all exact Raw.t_nm
@[simp] theorem t_tup {ts : Tgs} {d : D} {P : Env → Heap → Prop} : W (evT pg cf (.tup ts) d env h) P noX = Tu d fun ds => W (evTgs pg cf ts ds env h) P noX := by
  with_unfolding_all exact Raw.t_tup
@[simp] theorem t_attr {e : Ex} {f : Nat} {d : D} {P : Env → Heap → Prop} : W (evT pg cf (.attr e f) d env h) P noX = W (evE pg cf e env h) (fun x h => W (setAttr pg x f d h) (fun _ h => P env h) noX) noX := by
  with_unfolding_all exact Raw.t_attr
@[simp] theorem t_idx {e i : Ex} {d : D} {P : Env → Heap → Prop} : W (evT pg cf (.idx e i) d env h) P noX = W (evE pg cf e env h) (fun x h => W (evE pg cf i env h) (fun y h => W (setIndex x y d h) (fun _ h => P env h) noX) noX) noX := by
  with_unfolding_all exact Raw.t_idx
@[simp] theorem ts_nil {P : Env → Heap → Prop} : W (evTgs pg cf .nil [] env h) P noX = P env h := by
  with_unfolding_all exact Raw.ts_nil
@[simp] theorem ts_cons {t : Tg} {ts : Tgs} {d : D} {ds : List D} {P : Env → Heap → Prop} : W (evTgs pg cf (.cons t ts) (d :: ds) env h) P noX = W (evT pg cf t d env h) (fun env h => W (evTgs pg cf ts ds env h) P noX) noX := by
  with_unfolding_all exact Raw.ts_cons
end
theorem w_fn {pg : Pg} {n f : Nat} {ds : List D} {h : Heap} {fn : Fn} {P : D → Heap → Prop} {X : XP} (e : pg.fns[f]? = some fn) (l : ds.length = fn.ps) : W (callFn pg (n + 1) f ds h) P X = S (evSs pg (callFn pg n) fn.body (ds.map some ++ List.replicate (fn.ns - fn.ps) none) h) (fun _ h => P .non h) { rt := P, er := X } := by
  with_unfolding_all exact Raw.w_fn e l
def Less (I : Nat → Env → Heap → Prop) (n : Nat) (env : Env) (h : Heap) (_d : Dp I n := ()) : Prop := Raw.Less I n env h
def At (I : Nat → Env → Heap → Prop) (n : Nat) (env : Env) (h : Heap) (_d : Dp I n := ()) : Prop := Raw.At I n env h
def AtH (I : Nat → Heap → Prop) (n : Nat) (h : Heap) (_d : Dp I n := ()) : Prop := Raw.AtH I n h
theorem s_while {pg : Pg} {cf : Nat → List D → Heap → Res D} {c : Ex} {b : Sts} {env : Env} {h : Heap} {N : Env → Heap → Prop} {Q : Ks} (I : Nat → Env → Heap → Prop) (n : Nat) (hn : n < fuel) (h0 : I n env h)
    (step : ∀ n env h, I n env h → W (evE pg cf c env h) (fun x h => Tb (truth h x) (S (evSs pg cf b env h) (fun env h => Less I n env h) { ct := fun env h => Less I n env h, bk := N, rt := Q.rt, er := Q.er }) (N env h)) Q.er) :
    S (evS pg cf (.while_ c b) env h) N Q := by
  with_unfolding_all exact Raw.s_while I n hn h0 step
theorem s_forN {next : Nat → Heap → Option (Option D)} {asgn : D → Env → Heap → Res Env} {body : Env → Heap → SR} {N : Env → Heap → Prop} {Q : Ks} (xs : List D) (I : Nat → Env → Heap → Prop)
    (hn : ∀ i env h, I i env h → next i h = some xs[i]?)
    (step : ∀ i d env h, I i env h → xs[i]? = some d → W (asgn d env h) (fun env h => S (body env h) (fun env h => At I (i + 1) env h) { ct := fun env h => At I (i + 1) env h, bk := N, rt := Q.rt, er := Q.er }) noX)
    (fin : ∀ env h, I xs.length env h → N env h) : ∀ (k i : Nat) (env : Env) (h : Heap), i + k = xs.length → I i env h → S (forN next asgn body k i env h) N Q := by
  with_unfolding_all exact Raw.s_forN xs I hn step fin
theorem s_for {pg : Pg} {cf : Nat → List D → Heap → Res D} {t : Tg} {it : It} {b : Sts} {env : Env} {h : Heap} {N : Env → Heap → Prop} {Q : Ks} (hl : evL pg cf it env h = none) :
    S (evS pg cf (.for_ t it b) env h) N Q = W (evI pg cf it env h) (fun v h => S (forN v.next (evT pg cf t) (evSs pg cf b) (v.count h) 0 env h) N { rt := Q.rt, er := Q.er }) Q.er := by
  with_unfolding_all exact Raw.s_for hl
section
variable {pg : Pg} {cf : Nat → List D → Heap → Res D}
theorem c_compN {next : Nat → Heap → Option (Option D)} {asgn : D → Env → Heap → Res Env} {test : Env → Heap → Res Bool} {put : Env → Heap → Res Unit} {env : Env} {P : Unit → Heap → Prop} (xs : List D) (I : Nat → Heap → Prop)
    (hn : ∀ i h, I i h → next i h = some xs[i]?)
    (step : ∀ i d h, I i h → xs[i]? = some d → W (asgn d env h) (fun env1 h1 => W (test env1 h1) (fun b h2 => (b = true → W (put env1 h2) (fun _ h3 => AtH I (i + 1) h3) noX) ∧ (b = false → AtH I (i + 1) h2)) noX) noX)
    (fin : ∀ h, I xs.length h → P () h) : ∀ (k i : Nat) (h : Heap), i + k = xs.length → I i h → W (compN next asgn test put env k i h) P noX := by
  with_unfolding_all exact Raw.c_compN xs I hn step fin
theorem w_comp {elt : Ex} {own : List Nat} {tg : Tg} {it : It} {ifs : Exs} {env : Env} {h : Heap} {P : D → Heap → Prop} {X : XP} (hl : evL pg cf it env h = none) :
    W (evE pg cf (.comp elt own tg it ifs) env h) P X = W (evI pg cf it env h) (fun t h1 => W (compN t.next (evT pg cf tg) (evTs pg cf ifs) (fun env h => putL h1.length (evE pg cf elt env h)) (wipe env own) (t.count h1) 0 (h1 ++ [.lst []])) (fun _ h2 => P (.ref h1.length) h2) noX) X := by
  with_unfolding_all exact Raw.w_comp hl
theorem w_dcomp {k v : Ex} {own : List Nat} {tg : Tg} {it : It} {ifs : Exs} {env : Env} {h : Heap} {P : D → Heap → Prop} {X : XP} (hl : evL pg cf it env h = none) :
    W (evE pg cf (.dcomp k v own tg it ifs) env h) P X = W (evI pg cf it env h) (fun t h1 => W (compN t.next (evT pg cf tg) (evTs pg cf ifs) (fun env h => match evE pg cf k env h with
        | .ok x h => putD h1.length x (evE pg cf v env h)
        | _ => .stk) (wipe env own) (t.count h1) 0 (h1 ++ [.dct []])) (fun _ h2 => P (.ref h1.length) h2) noX) X := by
  with_unfolding_all exact Raw.w_dcomp hl
@[simp] theorem w_putL {a : Nat} {r : Res D} {P : Unit → Heap → Prop} : W (putL a r) P noX = W r (fun y h => Op h[a]? fun o => Ls o fun acc => acc.length < lim ∧ P () (h.set a (.lst (acc ++ [y])))) noX := by
  with_unfolding_all exact Raw.w_putL
@[simp] theorem w_putD {a : Nat} {k : D} {r : Res D} {P : Unit → Heap → Prop} : W (putD a k r) P noX = W r (fun y h => Op h[a]? fun o => Dc o fun kvs => k.key = true ∧ kvs.length < lim ∧ P () (h.set a (.dct (dput kvs k y)))) noX := by
  with_unfolding_all exact Raw.w_putD
@[simp] theorem wt_nil {env : Env} {h : Heap} {P : Bool → Heap → Prop} : W (evTs pg cf .nil env h) P noX = P true h := by
  with_unfolding_all exact Raw.wt_nil
@[simp] theorem wt_cons {e : Ex} {es : Exs} {env : Env} {h : Heap} {P : Bool → Heap → Prop} : W (evTs pg cf (.cons e es) env h) P noX = W (evE pg cf e env h) (fun x h => Tb (truth h x) (W (evTs pg cf es env h) P noX) (P false h)) noX := by
  with_unfolding_all exact Raw.wt_cons
end
section
variable {pg : Pg} {cf : Nat → List D → Heap → Res D} {env : Env} {h : Heap} {P : ItV → Heap → Prop} {X : XP}
@[simp] theorem el_e {e : Ex} : evL pg cf (.e e) env h = none := by
  with_unfolding_all exact Raw.el_e
@[simp] theorem el_rng {e : Ex} : evL pg cf (.rng e) env h = none := by
  with_unfolding_all exact Raw.el_rng
@[simp] theorem el_rng2 {e b : Ex} : evL pg cf (.rng2 e b) env h = none := by
  with_unfolding_all exact Raw.el_rng2
@[simp] theorem el_enum {e : Ex} : evL pg cf (.enum e) env h = none := by
  with_unfolding_all exact Raw.el_enum
@[simp] theorem el_zip {e b : Ex} : evL pg cf (.zip e b) env h = none := by
  with_unfolding_all exact Raw.el_zip
@[simp] theorem i_e {e : Ex} : W (evI pg cf (.e e) env h) P X = W (evE pg cf e env h) (fun x h => Op (itv x h) fun v => P v h) X := by
  with_unfolding_all exact Raw.i_e
@[simp] theorem i_path {e : Ex} : W (evI pg cf (.path e) env h) P X = W (evE pg cf e env h) (fun x h => Op (itp x h) fun v => P v h) X := by
  with_unfolding_all exact Raw.i_path
@[simp] theorem i_rng {e : Ex} : W (evI pg cf (.rng e) env h) P X = W (evE pg cf e env h) (fun x h => In x fun i => smallI i = true ∧ P (.snap (rangeL 0 i.toNat)) h) X := by
  with_unfolding_all exact Raw.i_rng
@[simp] theorem i_zip {a b : Ex} : W (evI pg cf (.zip a b) env h) P X = W (evE pg cf a env h) (fun x h => W (evE pg cf b env h) (fun y h => match x, y with
    | .tup xs, .tup ys => P (.snap (List.zipWith (fun x y => .tup [x, y]) xs ys)) h
    | .ref a, .ref b => Op (seqAt a h) fun _ => Op (seqAt b h) fun _ => P (.zip a b) h
    | _, _ => False) X) X := by
  with_unfolding_all exact Raw.i_zip
@[simp] theorem i_enum {e : Ex} : W (evI pg cf (.enum e) env h) P X = W (evE pg cf e env h) (fun x h => Rf x fun a => Op (seqAt a h) fun _ => P (.enum a) h) X := by
  with_unfolding_all exact Raw.i_enum
end
@[simp] theorem nx_snap {ds : List D} {i : Nat} {h : Heap} : ItV.next (.snap ds) i h = some ds[i]? := by
  with_unfolding_all exact Raw.nx_snap
@[simp] theorem ct_snap {ds : List D} {h : Heap} : ItV.count (.snap ds) h = ds.length := by
  with_unfolding_all exact Raw.ct_snap
theorem rangeL_len : ∀ (lo : Int) (n : Nat), (rangeL lo n).length = n := by
  with_unfolding_all exact Raw.rangeL_len
theorem rangeL_get : ∀ (lo : Int) (n i : Nat), (rangeL lo n)[i]? = if i < n then some (.int (lo + i)) else none := by
  with_unfolding_all exact Raw.rangeL_get
theorem s_for_by {pg : Pg} {cf : Nat → List D → Heap → Res D} {t : Tg} {b : Sts} {env : Env} {h : Heap} {N : Env → Heap → Prop} {Q : Ks} {v : ItV} {k : Nat} (xs : List D) (I : Nat → Env → Heap → Prop) (hc : k = xs.length) (h0 : I 0 env h)
    (hn : ∀ i env h, I i env h → v.next i h = some xs[i]?)
    (step : ∀ i d env h, I i env h → xs[i]? = some d → W (evT pg cf t d env h) (fun env h => S (evSs pg cf b env h) (fun env h => At I (i + 1) env h) { ct := fun env h => At I (i + 1) env h, bk := N, rt := Q.rt, er := Q.er }) noX)
    (fin : ∀ env h, I xs.length env h → N env h) : S (forN v.next (evT pg cf t) (evSs pg cf b) k 0 env h) N Q := by
  with_unfolding_all exact Raw.s_for_by xs I hc h0 hn step fin
theorem c_comp_by {pg : Pg} {cf : Nat → List D → Heap → Res D} {t : Tg} {ifs : Exs} {put : Env → Heap → Res Unit} {env : Env} {h : Heap} {P : Unit → Heap → Prop} {v : ItV} {k : Nat} (xs : List D) (I : Nat → Heap → Prop) (hc : k = xs.length) (hi : I 0 h)
    (hn : ∀ i h, I i h → v.next i h = some xs[i]?)
    (step : ∀ i d h, I i h → xs[i]? = some d → W (evT pg cf t d env h) (fun env1 h1 => W (evTs pg cf ifs env1 h1) (fun b h2 => (b = true → W (put env1 h2) (fun _ h3 => AtH I (i + 1) h3) noX) ∧ (b = false → AtH I (i + 1) h2)) noX) noX)
    (fin : ∀ h, I xs.length h → P () h) : W (compN v.next (evT pg cf t) (evTs pg cf ifs) put env k 0 h) P noX := by
  with_unfolding_all exact Raw.c_comp_by xs I hc hi hn step fin
end MpW
end
section
set_option Elab.async false
set_option linter.all false
set_option maxRecDepth 100000
set_option maxHeartbeats 0
namespace K79
section
open Mp
/- attributes: 0 __init__, 1 _use, 2 allow, 3 write, 4 read, 5 sync, 6 waiting, 7 cut, 8 cells, 9 allowed, 10 _landed, 11 _waits
classes: 0 CopyError, 1 BadCell, 2 BadContent, 3 BadLanded, 4 BadMany, 5 Fell, 6 Disk -/
/- 0 is_whole: 0 value -/
def kb0 : Sts := (.cons (.ret (.and (.isin (.v 0) [.int]) (.and (.not (.isin (.v 0) [.bool])) (.cmp .lt (.bi .abs (.cons (.v 0) .nil)) (.c (.int 1000000000000000000))))))
  .nil)
/- 1 is_number: 0 value, 1 low -/
def kb1 : Sts := (.cons (.ret (.and (.call 0 (.cons (.v 0) .nil) [0]) (.cmp .ge (.v 0) (.v 1))))
  .nil)
/- 2 is_content: 0 value, 1 left, 2 item -/
def kb2 : Sts := (.cons (.asg (.nm 1) (.lst (.cons (.v 0) .nil)))
  (.cons (.while_ (.not (.isnil (.v 1))) (.cons (.asg (.nm 2) (.bm (.v 1) .pop0 .nil))
  (.cons (.if_ (.isin (.v 2) [.tuple]) (.cons (.expr (.bm (.v 1) .extend (.cons (.v 2) .nil)))
  .nil) (.cons (.if_ (.and (.cmp .isnot (.v 2) (.c .non)) (.and (.not (.isin (.v 2) [.str])) (.not (.call 0 (.cons (.v 2) .nil) [0])))) (.cons (.ret (.c (.bl false)))
  .nil) .nil)
  .nil))
  .nil)))
  (.cons (.ret (.c (.bl true)))
  .nil)))
/- 3 need_content: 0 value -/
def kb3 : Sts := (.cons (.if_ (.not (.call 2 (.cons (.v 0) .nil) [0])) (.cons (.raise 2 (.cons (.c (.str [110, 111, 32, 99, 111, 110, 116, 101, 110, 116])) .nil))
  .nil) .nil)
  .nil)
/- 4 are_places: 0 value, 1 many, 2 item, 3 one, 4 other -/
def kb4 : Sts := (.cons (.if_ (.or (.not (.isin (.v 0) [.tuple])) (.not (.bi .all1 (.cons (.comp (.and (.call 1 (.cons (.v 2) (.cons (.c (.int 0)) .nil)) [0, 1]) (.cmp .lt (.v 2) (.v 1))) [2] (.nm 2) (.path (.v 0)) .nil) .nil)))) (.cons (.ret (.c (.bl false)))
  .nil) .nil)
  (.cons (.ret (.bi .all1 (.cons (.comp (.cmp .lt (.v 3) (.v 4)) [3, 4] (.tup (.cons (.nm 3) (.cons (.nm 4) .nil))) (.zip (.v 0) (.slice (.v 0) (.cons (.c (.int 1)) .nil) .nil)) .nil) .nil)))
  .nil))
/- 5 Disk___init__: 0 self -/
def kb5 : Sts := (.cons (.asg (.attr (.v 0) 9) (.c .non))
  (.cons (.asg (.attr (.v 0) 10) (.dct .nil))
  (.cons (.asg (.attr (.v 0) 11) (.lst .nil))
  .nil)))
/- 6 Disk__use: 0 self -/
def kb6 : Sts := (.cons (.if_ (.cmp .eq (.attr (.v 0) 9) (.c (.int 0))) (.cons (.raise 5 (.cons (.c (.str [110, 111, 32, 109, 111, 114, 101, 32, 119, 114, 105, 116, 101, 115, 32, 97, 110, 100, 32, 115, 121, 110, 99, 115])) .nil))
  .nil) .nil)
  (.cons (.if_ (.cmp .isnot (.attr (.v 0) 9) (.c .non)) (.cons (.asg (.attr (.v 0) 9) (.bin .sub (.attr (.v 0) 9) (.c (.int 1))))
  .nil) .nil)
  .nil))
/- 7 Disk_allow: 0 self, 1 many -/
def kb7 : Sts := (.cons (.if_ (.and (.cmp .isnot (.v 1) (.c .non)) (.not (.call 1 (.cons (.v 1) (.cons (.c (.int 0)) .nil)) [0, 1]))) (.cons (.raise 4 (.cons (.c (.str [110, 101, 105, 116, 104, 101, 114, 32, 78, 111, 110, 101, 32, 110, 111, 114, 32, 97, 32, 110, 117, 109, 98, 101, 114])) .nil))
  .nil) .nil)
  (.cons (.asg (.attr (.v 0) 9) (.v 1))
  .nil))
/- 8 Disk_write: 0 self, 1 cell, 2 content -/
def kb8 : Sts := (.cons (.if_ (.not (.call 1 (.cons (.v 1) (.cons (.c (.int 0)) .nil)) [0, 1])) (.cons (.raise 1 (.cons (.c (.str [110, 111, 32, 110, 117, 109, 98, 101, 114, 32, 111, 102, 32, 97, 32, 99, 101, 108, 108])) .nil))
  .nil) .nil)
  (.cons (.expr (.call 3 (.cons (.v 2) .nil) [0]))
  (.cons (.expr (.meth (.v 0) 1 .nil [0]))
  (.cons (.expr (.bm (.attr (.v 0) 11) .append (.cons (.tup (.cons (.v 1) (.cons (.v 2) .nil))) .nil)))
  .nil))))
/- 9 Disk_read: 0 self, 1 cell, 2 other, 3 content -/
def kb9 : Sts := (.cons (.if_ (.not (.call 1 (.cons (.v 1) (.cons (.c (.int 0)) .nil)) [0, 1])) (.cons (.raise 1 (.cons (.c (.str [110, 111, 32, 110, 117, 109, 98, 101, 114, 32, 111, 102, 32, 97, 32, 99, 101, 108, 108])) .nil))
  .nil) .nil)
  (.cons (.for_ (.tup (.cons (.nm 2) (.cons (.nm 3) .nil))) (.path (.rev (.attr (.v 0) 11))) (.cons (.if_ (.cmp .eq (.v 2) (.v 1)) (.cons (.ret (.v 3))
  .nil) .nil)
  .nil))
  (.cons (.ret (.bm (.attr (.v 0) 10) .get1 (.cons (.v 1) .nil)))
  .nil)))
/- 10 Disk_sync: 0 self, 1 cell, 2 content -/
def kb10 : Sts := (.cons (.expr (.meth (.v 0) 1 .nil [0]))
  (.cons (.for_ (.tup (.cons (.nm 1) (.cons (.nm 2) .nil))) (.path (.attr (.v 0) 11)) (.cons (.asg (.idx (.attr (.v 0) 10) (.v 1)) (.v 2))
  .nil))
  (.cons (.asg (.attr (.v 0) 11) (.lst .nil))
  .nil)))
/- 11 Disk_waiting: 0 self, 1 cell, 2 content -/
def kb11 : Sts := (.cons (.ret (.bi .tuple (.cons (.comp (.v 1) [1, 2] (.tup (.cons (.nm 1) (.cons (.nm 2) .nil))) (.path (.attr (.v 0) 11)) .nil) .nil)))
  .nil)
/- 12 Disk_cut: 0 self, 1 landed, 2 at, 3 cell, 4 content -/
def kb12 : Sts := (.cons (.if_ (.not (.call 4 (.cons (.v 1) (.cons (.bi .len (.cons (.attr (.v 0) 11) .nil)) .nil)) [0, 1])) (.cons (.raise 3 (.cons (.c (.str [110, 111, 32, 112, 108, 97, 99, 101, 115, 32, 111, 102, 32, 119, 97, 105, 116, 105, 110, 103, 32, 119, 114, 105, 116, 101, 115])) .nil))
  .nil) .nil)
  (.cons (.for_ (.nm 2) (.path (.v 1)) (.cons (.asg (.tup (.cons (.nm 3) (.cons (.nm 4) .nil))) (.idx (.attr (.v 0) 11) (.v 2)))
  (.cons (.asg (.idx (.attr (.v 0) 10) (.v 3)) (.v 4))
  .nil)))
  (.cons (.asg (.attr (.v 0) 11) (.lst .nil))
  (.cons (.asg (.attr (.v 0) 9) (.c .non))
  .nil))))
/- 13 Disk_cells: 0 self, 1 cell -/
def kb13 : Sts := (.cons (.ret (.dcomp (.v 1) (.idx (.attr (.v 0) 10) (.v 1)) [1] (.nm 1) (.e (.bi .sorted (.cons (.attr (.v 0) 10) .nil))) .nil))
  .nil)
/- 14 _law_begun: 0 script, 1 great, 2 cell -/
def kb14 : Sts := (.cons (.asg (.nm 1) (.comp (.bin .sub (.bi .abs (.cons (.v 2) .nil)) (.bin .pow (.c (.int 10)) (.c (.int 18)))) [2] (.nm 2) (.path (.v 0)) (.cons (.cmp .ge (.bi .abs (.cons (.v 2) .nil)) (.bin .pow (.c (.int 10)) (.c (.int 18)))) .nil)))
  (.cons (.ret (.dct (.cons (.c (.str [103, 114, 101, 97, 116])) (.cons (.v 1) (.cons (.c (.str [99, 101, 108, 108, 115])) (.cons (.comp (.bi .abs (.cons (.v 2) .nil)) [2] (.nm 2) (.path (.v 0)) .nil) (.cons (.c (.str [108, 101, 102, 116])) (.cons (.c (.int 0)) (.cons (.c (.str [116, 117, 114, 110])) (.cons (.c (.int 0)) .nil))))))))))
  .nil))
/- 15 _law_blended: 0 state, 1 turn, 2 found, 3 prime, 4 blend, 5 cell -/
def kb15 : Sts := (.cons (.asg (.tup (.cons (.nm 1) (.cons (.nm 2) .nil))) (.tup (.cons (.bin .add (.idx (.v 0) (.c (.str [116, 117, 114, 110]))) (.c (.int 1))) (.cons (.c (.int 0)) .nil))))
  (.cons (.asg (.idx (.v 0) (.c (.str [116, 117, 114, 110]))) (.v 1))
  (.cons (.for_ (.nm 3) (.e (.lst (.cons (.c (.int 2147483353)) (.cons (.c (.int 2147483323)) (.cons (.c (.int 2147483269)) .nil))))) (.cons (.asg (.nm 4) (.bin .add (.bin .mul (.c (.int 41358)) (.v 1)) (.bin .fdiv (.v 3) (.c (.int 71)))))
  (.cons (.for_ (.nm 5) (.path (.idx (.v 0) (.c (.str [99, 101, 108, 108, 115])))) (.cons (.asg (.nm 4) (.bin .mod (.bi .int (.cons (.bin .add (.bin .add (.bin .mul (.v 4) (.c (.int 69621))) (.v 5)) (.v 1)) .nil)) (.v 3)))
  .nil))
  (.cons (.asg (.nm 2) (.bin .add (.bin .mul (.v 2) (.c (.int 2147483647))) (.bin .mod (.bi .int (.cons (.bin .pow (.v 4) (.c (.int 5))) .nil)) (.v 3))))
  .nil))))
  (.cons (.ret (.v 2))
  .nil))))
/- 16 _law_draw: 0 state, 1 size_here, 2 found -/
def kb16 : Sts := (.cons (.if_ (.cmp .eq (.idx (.v 0) (.c (.str [108, 101, 102, 116]))) (.c (.int 0))) (.cons (.asg (.idx (.v 0) (.c (.str [108, 101, 102, 116]))) (.ite (.not (.isnil (.idx (.v 0) (.c (.str [103, 114, 101, 97, 116]))))) (.bm (.idx (.v 0) (.c (.str [103, 114, 101, 97, 116]))) .pop1 (.cons (.c (.int 0)) .nil)) (.call 15 (.cons (.v 0) .nil) [0])))
  .nil) .nil)
  (.cons (.asg (.nm 2) (.bin .mod (.bi .int (.cons (.idx (.v 0) (.c (.str [108, 101, 102, 116]))) .nil)) (.v 1)))
  (.cons (.asg (.idx (.v 0) (.c (.str [108, 101, 102, 116]))) (.bin .fdiv (.idx (.v 0) (.c (.str [108, 101, 102, 116]))) (.v 1)))
  (.cons (.ret (.v 2))
  .nil))))
/- 17 _law_pick: 0 state, 1 several -/
def kb17 : Sts := (.cons (.ret (.idx (.v 1) (.call 16 (.cons (.v 0) (.cons (.bi .len (.cons (.v 1) .nil)) .nil)) [0, 1])))
  .nil)
/- 18 _law_is_truth: 0 found, 1 due -/
def kb18 : Sts := (.cons (.ret (.ite (.v 1) (.cmp .is_ (.v 0) (.c (.bl true))) (.cmp .is_ (.v 0) (.c (.bl false)))))
  .nil)
/- 19 _law_is_whole: 0 item -/
def kb19 : Sts := (.cons (.ret (.and (.isin (.v 0) [.int]) (.not (.isin (.v 0) [.bool]))))
  .nil)
/- 20 _law_jo_read: 0 disk_here, 1 cell, 2 other, 3 content -/
def kb20 : Sts := (.cons (.for_ (.tup (.cons (.nm 2) (.cons (.nm 3) .nil))) (.path (.rev (.idx (.v 0) (.c (.str [119, 97, 105, 116, 115]))))) (.cons (.if_ (.cmp .eq (.v 2) (.v 1)) (.cons (.ret (.v 3))
  .nil) .nil)
  .nil))
  (.cons (.ret (.bm (.idx (.v 0) (.c (.str [108, 97, 110, 100, 101, 100]))) .get1 (.cons (.v 1) .nil)))
  .nil))
/- 21 _law_jo_sync: 0 disk_here, 1 landed, 2 cell, 3 content -/
def kb21 : Sts := (.cons (.asg (.nm 1) (.idx (.v 0) (.c (.str [108, 97, 110, 100, 101, 100]))))
  (.cons (.for_ (.tup (.cons (.nm 2) (.cons (.nm 3) .nil))) (.path (.idx (.v 0) (.c (.str [119, 97, 105, 116, 115])))) (.cons (.asg (.idx (.v 1) (.v 2)) (.v 3))
  .nil))
  (.cons (.asg (.idx (.v 0) (.c (.str [119, 97, 105, 116, 115]))) (.lst .nil))
  .nil)))
/- 22 _law_jo_cut: 0 disk_here, 1 places_here, 2 landed, 3 at, 4 cell, 5 content -/
def kb22 : Sts := (.cons (.asg (.nm 2) (.idx (.v 0) (.c (.str [108, 97, 110, 100, 101, 100]))))
  (.cons (.for_ (.nm 3) (.path (.v 1)) (.cons (.asg (.tup (.cons (.nm 4) (.cons (.nm 5) .nil))) (.idx (.idx (.v 0) (.c (.str [119, 97, 105, 116, 115]))) (.v 3)))
  (.cons (.asg (.idx (.v 2) (.v 4)) (.v 5))
  .nil)))
  (.cons (.asg (.idx (.v 0) (.c (.str [119, 97, 105, 116, 115]))) (.lst .nil))
  .nil)))
/- 23 _law_jo_content: 0 state, 1 deep, 2 way, 3 turn -/
def kb23 : Sts := (.cons (.asg (.nm 2) (.call 16 (.cons (.v 0) (.cons (.c (.int 7)) .nil)) [0, 1]))
  (.cons (.if_ (.and (.cmp .eq (.v 2) (.c (.int 0))) (.cmp .gt (.v 1) (.c (.int 0)))) (.cons (.ret (.bi .tuple (.cons (.comp (.call 23 (.cons (.v 0) (.cons (.bin .sub (.v 1) (.c (.int 1))) .nil)) [0, 1]) [3] (.nm 3) (.rng (.call 16 (.cons (.v 0) (.cons (.c (.int 4)) .nil)) [0, 1])) .nil) .nil)))
  .nil) .nil)
  (.cons (.ret (.call 17 (.cons (.v 0) (.cons (.lst (.cons (.c .non) (.cons (.c (.int 0)) (.cons (.neg (.c (.int 5))) (.cons (.bin .sub (.bin .pow (.c (.int 10)) (.c (.int 18))) (.c (.int 1))) (.cons (.c (.str [])) (.cons (.c (.str [120])) (.cons (.c (.str [99, 117, 116])) (.cons (.c (.int 3)) (.cons (.tup (.cons (.c (.str [97])) (.cons (.c (.int 1)) .nil))) (.cons (.tup .nil) .nil))))))))))) .nil)) [0, 1]))
  .nil)))
/- 24 _law_jo_places: 0 state, 1 many, 2 calm, 3 at -/
def kb24 : Sts := (.cons (.asg (.nm 2) (.call 16 (.cons (.v 0) (.cons (.c (.int 4)) .nil)) [0, 1]))
  (.cons (.ret (.bi .tuple (.cons (.comp (.v 3) [3] (.nm 3) (.rng (.v 1)) (.cons (.or (.cmp .eq (.v 2) (.c (.int 0))) (.cmp .eq (.call 16 (.cons (.v 0) (.cons (.bin .add (.c (.int 1)) (.v 2)) .nil)) [0, 1]) (.c (.int 0)))) .nil)) .nil)))
  .nil))
/- 25 _law_k79_is_content: 0 value, 1 deep, 2 item -/
def kb25 : Sts := (.cons (.if_ (.isin (.v 0) [.tuple]) (.cons (.ret (.isnil (.comp (.c (.int 1)) [2] (.nm 2) (.path (.v 0)) (.cons (.not (.call 25 (.cons (.v 2) (.cons (.bin .add (.v 1) (.c (.int 1))) .nil)) [0, 1])) .nil))))
  .nil) .nil)
  (.cons (.ret (.or (.cmp .is_ (.v 0) (.c .non)) (.or (.isin (.v 0) [.str]) (.and (.call 19 (.cons (.v 0) .nil) [0]) (.cmp .lt (.bi .abs (.cons (.v 0) .nil)) (.bin .pow (.c (.int 10)) (.c (.int 18))))))))
  .nil))
/- 26 _law_k79_refused: 0 state, 1 disk, 2 many, 3 odd, 4 bad, 5 wrong -/
def kb26 : Sts := (.cons (.asg (.nm 3) (.call 17 (.cons (.v 0) (.cons (.lst (.cons (.c .non) (.cons (.neg (.c (.int 1))) (.cons (.c (.bl true)) (.cons (.c (.str [48])) (.cons (.tup (.cons (.c (.int 0)) .nil)) (.cons (.bin .pow (.c (.int 10)) (.c (.int 18))) .nil))))))) .nil)) [0, 1]))
  (.cons (.asg (.nm 4) (.call 17 (.cons (.v 0) (.cons (.lst (.cons (.c (.bl true)) (.cons (.lst (.cons (.c (.int 1)) .nil)) (.cons (.dct .nil) (.cons (.tup (.cons (.c (.int 1)) (.cons (.lst (.cons (.c (.int 2)) .nil)) .nil))) (.cons (.tup (.cons (.c (.bl false)) .nil)) .nil)))))) .nil)) [0, 1]))
  (.cons (.if_ (.not (.isin (.caught 0 (.meth (.v 1) 3 (.cons (.v 3) (.cons (.v 4) .nil)) [0, 1, 2])) [.cls 1])) (.cons (.ret (.c (.bl false)))
  .nil) .nil)
  (.cons (.if_ (.not (.isin (.caught 0 (.meth (.v 1) 4 (.cons (.v 3) .nil) [0, 1])) [.cls 1])) (.cons (.ret (.c (.bl false)))
  .nil) .nil)
  (.cons (.if_ (.not (.isin (.caught 0 (.meth (.v 1) 3 (.cons (.c (.int 0)) (.cons (.v 4) .nil)) [0, 1, 2])) [.cls 2])) (.cons (.ret (.c (.bl false)))
  .nil) .nil)
  (.cons (.asg (.nm 5) (.call 17 (.cons (.v 0) (.cons (.lst (.cons (.tup (.cons (.v 2) .nil)) (.cons (.tup (.cons (.c (.int 0)) (.cons (.c (.int 0)) .nil))) (.cons (.lst .nil) (.cons (.c .non) (.cons (.tup (.cons (.c (.bl true)) .nil)) (.cons (.tup (.cons (.neg (.c (.int 1))) .nil)) (.cons (.tup (.cons (.c (.str [48])) .nil)) (.cons (.rg true (.cons (.bin .add (.v 2) (.c (.int 1))) .nil)) .nil))))))))) .nil)) [0, 1]))
  (.cons (.if_ (.not (.isin (.caught 0 (.meth (.v 1) 7 (.cons (.v 5) .nil) [0, 1])) [.cls 3])) (.cons (.ret (.c (.bl false)))
  .nil) .nil)
  (.cons (.asg (.nm 3) (.call 17 (.cons (.v 0) (.cons (.lst (.cons (.neg (.c (.int 1))) (.cons (.c (.bl true)) (.cons (.c (.str [49])) (.cons (.tup (.cons (.c (.int 1)) .nil)) .nil))))) .nil)) [0, 1]))
  (.cons (.ret (.isin (.caught 0 (.meth (.v 1) 2 (.cons (.v 3) .nil) [0, 1])) [.cls 4]))
  .nil)))))))))
/- 27 law: 0 script, 1 state, 2 disk, 3 here, 4 allowed, 5 turn, 6 value, 7 bad, 8 item, 9 found, 10 way, 11 cell, 12 places_here, 13 raised, 14 place, 15 content -/
def kb27 : Sts := (.cons (.asg (.nm 1) (.call 14 (.cons (.v 0) .nil) [0]))
  (.cons (.asg (.tup (.cons (.nm 2) (.cons (.nm 3) (.cons (.nm 4) .nil)))) (.tup (.cons (.mk 6 .nil [0]) (.cons (.dct (.cons (.c (.str [108, 97, 110, 100, 101, 100])) (.cons (.dct .nil) (.cons (.c (.str [119, 97, 105, 116, 115])) (.cons (.lst .nil) .nil))))) (.cons (.c .non) .nil)))))
  (.cons (.if_ (.or (.cmp .isnot (.attr (.v 2) 9) (.c .non)) (.or (.cmp .ne (.meth (.v 2) 8 .nil [0]) (.dct .nil)) (.cmp .ne (.meth (.v 2) 6 .nil [0]) (.tup .nil)))) (.cons (.ret (.c (.bl false)))
  .nil) .nil)
  (.cons (.for_ (.nm 5) (.rng (.bin .add (.c (.int 6)) (.bi .min2 (.cons (.bi .len (.cons (.v 0) .nil)) (.cons (.c (.int 8)) .nil))))) (.cons (.asg (.nm 6) (.call 23 (.cons (.v 1) (.cons (.c (.int 3)) .nil)) [0, 1]))
  (.cons (.asg (.nm 7) (.call 17 (.cons (.v 1) (.cons (.lst (.cons (.c (.bl true)) (.cons (.lst (.cons (.v 6) .nil)) (.cons (.dct .nil) (.cons (.tup (.cons (.v 6) (.cons (.lst (.cons (.c (.int 1)) .nil)) .nil))) (.cons (.tup (.cons (.c (.bl false)) .nil)) (.cons (.tup (.cons (.tup .nil) (.cons (.v 6) (.cons (.tup (.cons (.c (.bl true)) .nil)) .nil)))) (.cons (.bin .pow (.c (.int 10)) (.c (.int 18))) .nil)))))))) .nil)) [0, 1]))
  (.cons (.for_ (.nm 8) (.e (.lst (.cons (.v 6) (.cons (.v 7) .nil)))) (.cons (.if_ (.not (.call 18 (.cons (.call 2 (.cons (.v 8) .nil) [0]) (.cons (.call 25 (.cons (.v 8) (.cons (.c (.int 0)) .nil)) [0, 1]) .nil)) [0, 1])) (.cons (.ret (.c (.bl false)))
  .nil) .nil)
  .nil))
  (.cons (.asg (.tup (.cons (.nm 10) (.cons (.nm 11) .nil))) (.tup (.cons (.call 16 (.cons (.v 1) (.cons (.c (.int 6)) .nil)) [0, 1]) (.cons (.call 17 (.cons (.v 1) (.cons (.lst (.cons (.c (.int 0)) (.cons (.c (.int 1)) (.cons (.c (.int 2)) (.cons (.c (.int 7)) (.cons (.bin .pow (.c (.int 10)) (.c (.int 17))) .nil)))))) .nil)) [0, 1]) .nil))))
  (.cons (.if_ (.cmp .eq (.v 10) (.c (.int 5))) (.cons (.asg (.nm 12) (.call 24 (.cons (.v 1) (.cons (.bi .len (.cons (.idx (.v 3) (.c (.str [119, 97, 105, 116, 115]))) .nil)) .nil)) [0, 1]))
  (.cons (.expr (.meth (.v 2) 7 (.cons (.v 12) .nil) [0, 1]))
  (.cons (.expr (.call 22 (.cons (.v 3) (.cons (.v 12) .nil)) [0, 1]))
  (.cons (.asg (.nm 4) (.c .non))
  .nil)))) (.cons (.if_ (.cmp .eq (.v 10) (.c (.int 4))) (.cons (.asg (.nm 4) (.call 17 (.cons (.v 1) (.cons (.lst (.cons (.c .non) (.cons (.c (.int 0)) (.cons (.c (.int 1)) (.cons (.c (.int 2)) (.cons (.c (.int 3)) .nil)))))) .nil)) [0, 1]))
  (.cons (.expr (.meth (.v 2) 2 (.cons (.v 4) .nil) [0, 1]))
  .nil)) (.cons (.asg (.nm 13) (.caught 0 (.ite (.cmp .gt (.v 10) (.c (.int 0))) (.meth (.v 2) 3 (.cons (.v 11) (.cons (.v 6) .nil)) [0, 1, 2]) (.meth (.v 2) 5 .nil [0]))))
  (.cons (.if_ (.or (.cmp .ne (.cmp .isnot (.v 13) (.c .non)) (.cmp .eq (.v 4) (.c (.int 0)))) (.and (.cmp .isnot (.v 13) (.c .non)) (.not (.isin (.v 13) [.cls 5])))) (.cons (.ret (.c (.bl false)))
  .nil) .nil)
  (.cons (.if_ (.and (.cmp .is_ (.v 13) (.c .non)) (.cmp .eq (.v 10) (.c (.int 0)))) (.cons (.expr (.call 21 (.cons (.v 3) .nil) [0]))
  .nil) (.cons (.if_ (.cmp .is_ (.v 13) (.c .non)) (.cons (.asg (.idx (.v 3) (.c (.str [119, 97, 105, 116, 115]))) (.bin .add (.idx (.v 3) (.c (.str [119, 97, 105, 116, 115]))) (.lst (.cons (.tup (.cons (.v 11) (.cons (.v 6) .nil))) .nil))))
  .nil) .nil)
  .nil))
  (.cons (.asg (.nm 4) (.ite (.and (.cmp .isnot (.v 4) (.c .non)) (.cmp .gt (.v 4) (.c (.int 0)))) (.bin .sub (.v 4) (.c (.int 1))) (.v 4)))
  .nil)))))
  .nil))
  (.cons (.if_ (.or (.cmp .ne (.attr (.v 2) 9) (.v 4)) (.cmp .ne (.meth (.v 2) 6 .nil [0]) (.bi .tuple (.cons (.comp (.v 14) [14, 15] (.tup (.cons (.nm 14) (.cons (.nm 15) .nil))) (.path (.idx (.v 3) (.c (.str [119, 97, 105, 116, 115])))) .nil) .nil)))) (.cons (.ret (.c (.bl false)))
  .nil) .nil)
  (.cons (.asg (.nm 9) (.meth (.v 2) 8 .nil [0]))
  (.cons (.if_ (.or (.cmp .ne (.v 9) (.idx (.v 3) (.c (.str [108, 97, 110, 100, 101, 100])))) (.cmp .ne (.bi .list (.cons (.v 9) .nil)) (.bi .sorted (.cons (.idx (.v 3) (.c (.str [108, 97, 110, 100, 101, 100]))) .nil)))) (.cons (.ret (.c (.bl false)))
  .nil) .nil)
  (.cons (.if_ (.cmp .ne (.meth (.v 2) 4 (.cons (.v 11) .nil) [0, 1]) (.call 20 (.cons (.v 3) (.cons (.v 11) .nil)) [0, 1])) (.cons (.ret (.c (.bl false)))
  .nil) .nil)
  (.cons (.asg (.idx (.v 9) (.v 11)) (.c (.str [115, 112, 111, 105, 108, 116])))
  (.cons (.if_ (.not (.call 26 (.cons (.v 1) (.cons (.v 2) (.cons (.bi .len (.cons (.idx (.v 3) (.c (.str [119, 97, 105, 116, 115]))) .nil)) .nil))) [0, 1, 2])) (.cons (.ret (.c (.bl false)))
  .nil) .nil)
  .nil))))))))))))
  (.cons (.ret (.c (.bl true)))
  .nil)))))
-- defs 28, followed 28
def kpg : Pg := ⟨[⟨1, 1, [], kb0⟩,
  ⟨2, 2, [], kb1⟩,
  ⟨1, 3, [], kb2⟩,
  ⟨1, 1, [], kb3⟩,
  ⟨2, 5, [], kb4⟩,
  ⟨1, 1, [], kb5⟩,
  ⟨1, 1, [], kb6⟩,
  ⟨2, 2, [], kb7⟩,
  ⟨3, 3, [], kb8⟩,
  ⟨2, 4, [], kb9⟩,
  ⟨1, 3, [], kb10⟩,
  ⟨1, 3, [], kb11⟩,
  ⟨2, 5, [], kb12⟩,
  ⟨1, 2, [], kb13⟩,
  ⟨1, 3, [], kb14⟩,
  ⟨1, 6, [], kb15⟩,
  ⟨2, 3, [], kb16⟩,
  ⟨2, 2, [], kb17⟩,
  ⟨2, 2, [], kb18⟩,
  ⟨1, 1, [], kb19⟩,
  ⟨2, 4, [], kb20⟩,
  ⟨1, 4, [], kb21⟩,
  ⟨2, 6, [], kb22⟩,
  ⟨2, 4, [], kb23⟩,
  ⟨2, 4, [], kb24⟩,
  ⟨2, 3, [], kb25⟩,
  ⟨3, 6, [], kb26⟩,
  ⟨1, 16, [], kb27⟩],
 [⟨[], [], none, [0], true⟩,
  ⟨[], [], none, [1, 0], true⟩,
  ⟨[], [], none, [2, 0], true⟩,
  ⟨[], [], none, [3, 0], true⟩,
  ⟨[], [], none, [4, 0], true⟩,
  ⟨[], [], none, [5, 0], true⟩,
  ⟨[9, 10, 11], [(0, 5), (1, 6), (2, 7), (3, 8), (4, 9), (5, 10), (6, 11), (7, 12), (8, 13)], some 5, [6], false⟩]⟩
@[simp] theorem kf0 : kpg.fns[0]? = some ⟨1, 1, [], kb0⟩ := rfl
@[simp] theorem kf1 : kpg.fns[1]? = some ⟨2, 2, [], kb1⟩ := rfl
@[simp] theorem kf2 : kpg.fns[2]? = some ⟨1, 3, [], kb2⟩ := rfl
@[simp] theorem kf3 : kpg.fns[3]? = some ⟨1, 1, [], kb3⟩ := rfl
@[simp] theorem kf4 : kpg.fns[4]? = some ⟨2, 5, [], kb4⟩ := rfl
@[simp] theorem kf5 : kpg.fns[5]? = some ⟨1, 1, [], kb5⟩ := rfl
@[simp] theorem kf6 : kpg.fns[6]? = some ⟨1, 1, [], kb6⟩ := rfl
@[simp] theorem kf7 : kpg.fns[7]? = some ⟨2, 2, [], kb7⟩ := rfl
@[simp] theorem kf8 : kpg.fns[8]? = some ⟨3, 3, [], kb8⟩ := rfl
@[simp] theorem kf9 : kpg.fns[9]? = some ⟨2, 4, [], kb9⟩ := rfl
@[simp] theorem kf10 : kpg.fns[10]? = some ⟨1, 3, [], kb10⟩ := rfl
@[simp] theorem kf11 : kpg.fns[11]? = some ⟨1, 3, [], kb11⟩ := rfl
@[simp] theorem kf12 : kpg.fns[12]? = some ⟨2, 5, [], kb12⟩ := rfl
@[simp] theorem kf13 : kpg.fns[13]? = some ⟨1, 2, [], kb13⟩ := rfl
@[simp] theorem kf14 : kpg.fns[14]? = some ⟨1, 3, [], kb14⟩ := rfl
@[simp] theorem kf15 : kpg.fns[15]? = some ⟨1, 6, [], kb15⟩ := rfl
@[simp] theorem kf16 : kpg.fns[16]? = some ⟨2, 3, [], kb16⟩ := rfl
@[simp] theorem kf17 : kpg.fns[17]? = some ⟨2, 2, [], kb17⟩ := rfl
@[simp] theorem kf18 : kpg.fns[18]? = some ⟨2, 2, [], kb18⟩ := rfl
@[simp] theorem kf19 : kpg.fns[19]? = some ⟨1, 1, [], kb19⟩ := rfl
@[simp] theorem kf20 : kpg.fns[20]? = some ⟨2, 4, [], kb20⟩ := rfl
@[simp] theorem kf21 : kpg.fns[21]? = some ⟨1, 4, [], kb21⟩ := rfl
@[simp] theorem kf22 : kpg.fns[22]? = some ⟨2, 6, [], kb22⟩ := rfl
@[simp] theorem kf23 : kpg.fns[23]? = some ⟨2, 4, [], kb23⟩ := rfl
@[simp] theorem kf24 : kpg.fns[24]? = some ⟨2, 4, [], kb24⟩ := rfl
@[simp] theorem kf25 : kpg.fns[25]? = some ⟨2, 3, [], kb25⟩ := rfl
@[simp] theorem kf26 : kpg.fns[26]? = some ⟨3, 6, [], kb26⟩ := rfl
@[simp] theorem kf27 : kpg.fns[27]? = some ⟨1, 16, [], kb27⟩ := rfl
@[simp] theorem kc0 : kpg.cls[0]? = some ⟨[], [], none, [0], true⟩ := rfl
@[simp] theorem kc1 : kpg.cls[1]? = some ⟨[], [], none, [1, 0], true⟩ := rfl
@[simp] theorem kc2 : kpg.cls[2]? = some ⟨[], [], none, [2, 0], true⟩ := rfl
@[simp] theorem kc3 : kpg.cls[3]? = some ⟨[], [], none, [3, 0], true⟩ := rfl
@[simp] theorem kc4 : kpg.cls[4]? = some ⟨[], [], none, [4, 0], true⟩ := rfl
@[simp] theorem kc5 : kpg.cls[5]? = some ⟨[], [], none, [5, 0], true⟩ := rfl
@[simp] theorem kc6 : kpg.cls[6]? = some ⟨[9, 10, 11], [(0, 5), (1, 6), (2, 7), (3, 8), (4, 9), (5, 10), (6, 11), (7, 12), (8, 13)], some 5, [6], false⟩ := rfl

end
end K79
namespace K79
open PySem PySem.Spec PyProof.Rows L2
abbrev top : List Stmt := PySem.Challenge.pw_asifcopied_k79_contents_and_disks.main.body
def told : MpS.Told := ⟨[("__init__" : PySem.Str), ("_use" : PySem.Str), ("allow" : PySem.Str), ("write" : PySem.Str), ("read" : PySem.Str), ("sync" : PySem.Str), ("waiting" : PySem.Str), ("cut" : PySem.Str), ("cells" : PySem.Str), ("allowed" : PySem.Str), ("_landed" : PySem.Str), ("_waits" : PySem.Str)],
 [[("value" : PySem.Str)],
  [("value" : PySem.Str), ("low" : PySem.Str)],
  [("value" : PySem.Str), ("left" : PySem.Str), ("item" : PySem.Str)],
  [("value" : PySem.Str)],
  [("value" : PySem.Str), ("many" : PySem.Str), ("item" : PySem.Str), ("one" : PySem.Str), ("other" : PySem.Str)],
  [("self" : PySem.Str)],
  [("self" : PySem.Str)],
  [("self" : PySem.Str), ("many" : PySem.Str)],
  [("self" : PySem.Str), ("cell" : PySem.Str), ("content" : PySem.Str)],
  [("self" : PySem.Str), ("cell" : PySem.Str), ("other" : PySem.Str), ("content" : PySem.Str)],
  [("self" : PySem.Str), ("cell" : PySem.Str), ("content" : PySem.Str)],
  [("self" : PySem.Str), ("cell" : PySem.Str), ("content" : PySem.Str)],
  [("self" : PySem.Str), ("landed" : PySem.Str), ("at" : PySem.Str), ("cell" : PySem.Str), ("content" : PySem.Str)],
  [("self" : PySem.Str), ("cell" : PySem.Str)],
  [("script" : PySem.Str), ("great" : PySem.Str), ("cell" : PySem.Str)],
  [("state" : PySem.Str), ("turn" : PySem.Str), ("found" : PySem.Str), ("prime" : PySem.Str), ("blend" : PySem.Str), ("cell" : PySem.Str)],
  [("state" : PySem.Str), ("size_here" : PySem.Str), ("found" : PySem.Str)],
  [("state" : PySem.Str), ("several" : PySem.Str)],
  [("found" : PySem.Str), ("due" : PySem.Str)],
  [("item" : PySem.Str)],
  [("disk_here" : PySem.Str), ("cell" : PySem.Str), ("other" : PySem.Str), ("content" : PySem.Str)],
  [("disk_here" : PySem.Str), ("landed" : PySem.Str), ("cell" : PySem.Str), ("content" : PySem.Str)],
  [("disk_here" : PySem.Str), ("places_here" : PySem.Str), ("landed" : PySem.Str), ("at" : PySem.Str), ("cell" : PySem.Str), ("content" : PySem.Str)],
  [("state" : PySem.Str), ("deep" : PySem.Str), ("way" : PySem.Str), ("turn" : PySem.Str)],
  [("state" : PySem.Str), ("many" : PySem.Str), ("calm" : PySem.Str), ("at" : PySem.Str)],
  [("value" : PySem.Str), ("deep" : PySem.Str), ("item" : PySem.Str)],
  [("state" : PySem.Str), ("disk" : PySem.Str), ("many" : PySem.Str), ("odd" : PySem.Str), ("bad" : PySem.Str), ("wrong" : PySem.Str)],
  [("script" : PySem.Str), ("state" : PySem.Str), ("disk" : PySem.Str), ("here" : PySem.Str), ("allowed" : PySem.Str), ("turn" : PySem.Str), ("value" : PySem.Str), ("bad" : PySem.Str), ("item" : PySem.Str), ("found" : PySem.Str), ("way" : PySem.Str), ("cell" : PySem.Str), ("places_here" : PySem.Str), ("raised" : PySem.Str), ("place" : PySem.Str), ("content" : PySem.Str)]],
 [(("MOST_NUMBER" : PySem.Str), .int (1000000000000000000))],
 [("ValueError" : PySem.Str), ("abs" : PySem.Str), ("all" : PySem.Str), ("bool" : PySem.Str), ("int" : PySem.Str), ("isinstance" : PySem.Str), ("len" : PySem.Str), ("list" : PySem.Str), ("min" : PySem.Str), ("range" : PySem.Str), ("sorted" : PySem.Str), ("str" : PySem.Str), ("tuple" : PySem.Str), ("zip" : PySem.Str)],
 [26, 27],
 [(("_law_caught" : PySem.Str), 0)]⟩
def allDefs : List MpS.DefI := MpS.defsOf top
def isCau (d : MpS.DefI) : Bool := d.key.2.isNone && d.key.1 == ("_law_caught" : Str)
def src : MpS.Src := ⟨kpg, ⟨allDefs.filter fun d => !isCau d, MpS.clsNames top, told⟩, (allDefs.filter isCau).map fun d => ⟨d, 0⟩, 27⟩
theorem stat : src.stat = true := by kernel_rfl
theorem trAll : (List.range 28).map (src.t.body kpg) = kpg.fns.map (fun f => some f.body) := by kernel_rfl
theorem tr (f : Nat) (fn : Mp.Fn) (e : src.pg.fns[f]? = some fn) : src.t.body src.pg f = some fn.body := by
  have hl : f < 28 := (List.getElem?_eq_some_iff.mp e).1
  have h := congrArg (fun l : List (Option Mp.Sts) => l[f]?) trAll
  simp only [List.getElem?_map] at h
  rw [List.getElem?_range hl, show kpg.fns[f]? = some fn from e] at h
  have h : src.t.body kpg f = some fn.body := by simpa using h
  exact h
abbrev R : PySem.W.OpenRow := PySem.W.OpenLaw.row PySem.Challenge.rw_asifcopied_k79_contents_and_disks
abbrev hk : PySem.W.Hook := src.hook 5
def ob (s : PySem.W.SharedT) : MpS.Src.Al := src.obs 5 (HandSHeadRun.getT s)
theorem ob_eq (s : PySem.W.SharedT) : ob s = hk.obs s.abs := src.obs_eq (HandSHeadRun.getT_eq s)
abbrev loose : List Str := ["CopyError", "BadCell", "BadContent", "BadLanded", "BadMany", "Fell", "MOST_NUMBER", "is_whole", "is_number", "is_content", "need_content", "are_places", "Disk", "_law_begun", "_law_blended", "_law_draw", "_law_pick", "_law_caught", "_law_is_truth", "_law_is_whole", "_law_jo_read", "_law_jo_sync", "_law_jo_cut", "_law_jo_content", "_law_jo_places", "_law_k79_is_content", "_law_k79_refused"]
theorem run (w : World) : HandSHeadRun.RunEq R (PySem.W.view R.prog [31]) hk ob 4000 loose w := by
  intro os
  kernel_rfl
end K79
end
section
set_option linter.all false
set_option autoImplicit false
set_option maxRecDepth 10000
namespace K79
open Mp MpW
/-! ### values -/
def wholeB : D → Bool
  | .int i => decide (i.natAbs < 1000000000000000000)
  | _ => false
def numB (v : D) (low : Int) : Bool := match v with
  | .int i => decide (i.natAbs < 1000000000000000000) && decide (low ≤ i)
  | _ => false
/-- what the heap knows -/
def Kn (h : Heap) : D → Prop
  | .ref a => (∃ ds, h[a]? = some (.lst ds)) ∨ ∃ kvs, h[a]? = some (.dct kvs)
  | _ => True
@[simp] theorem tr_bl (h : Heap) (b : Bool) : truth h (.bl b) = some b := rfl
@[simp] theorem tr_int (h : Heap) (i : Int) : truth h (.int i) = some (i != 0) := rfl
@[simp] theorem tr_non (h : Heap) : truth h .non = some false := rfl
@[simp] theorem co_is_non (x : D) (h : Heap) : cmpop .is_ x .non h = some (decide (x = .non)) := rfl
@[simp] theorem co_isnot_non (x : D) (h : Heap) : cmpop .isnot x .non h = some (!decide (x = .non)) := rfl
@[simp] theorem co_lt_int (i j : Int) (h : Heap) : cmpop .lt (.int i) (.int j) h = some (decide (i < j)) := rfl
@[simp] theorem co_gt_int (i j : Int) (h : Heap) : cmpop .gt (.int i) (.int j) h = some (decide (j < i)) := rfl
@[simp] theorem co_ge_int (i j : Int) (h : Heap) : cmpop .ge (.int i) (.int j) h = some (decide (j ≤ i)) := rfl
@[simp] theorem co_le_int (i j : Int) (h : Heap) : cmpop .le (.int i) (.int j) h = some (decide (i ≤ j)) := rfl
@[simp] theorem co_eq_int (i j : Int) (h : Heap) : cmpop .eq (.int i) (.int j) h = some (decide (i = j)) := by simp [cmpop, eqD, scal]
@[simp] theorem co_ne_int (i j : Int) (h : Heap) : cmpop .ne (.int i) (.int j) h = some (!decide (i = j)) := by simp [cmpop, eqD, scal]
@[simp] theorem co_eq_bl (i j : Bool) (h : Heap) : cmpop .eq (.bl i) (.bl j) h = some (decide (i = j)) := by simp [cmpop, eqD, scal]
@[simp] theorem co_ne_bl (i j : Bool) (h : Heap) : cmpop .ne (.bl i) (.bl j) h = some (!decide (i = j)) := by simp [cmpop, eqD, scal]
@[simp] theorem co_eq_non_int (j : Int) (h : Heap) : cmpop .eq .non (.int j) h = some false := by simp [cmpop, eqD, scal]
theorem is_whole_ok {n : Nat} {h : Heap} {v : D} {P : D → Heap → Prop} {X : XP} (hk : Kn h v) (hp : P (.bl (wholeB v)) h) : W (callFn kpg (n + 1) 0 [v] h) P X := by
  rw [w_fn kf0 rfl]
  cases v with
  | int i =>
    simp [s_cons, kb0, isinTys, isinTy, kindOf, isK, biop]
    have e : decide ((if i < 0 then -i else i) < 1000000000000000000) = decide (i.natAbs < 1000000000000000000) := by
      rw [decide_eq_decide]; split <;> omega
    rw [e]
    exact hp
  | ref a =>
    rcases hk with ⟨ds, hk⟩ | ⟨ds, hk⟩ <;> (simp [s_cons, kb0, isinTys, isinTy, kindOf, isK, hk]; exact hp)
  | bl b => simp [s_cons, kb0, isinTys, isinTy, kindOf, isK]; exact hp
  | _ => simp [s_cons, kb0, isinTys, isinTy, kindOf, isK]; exact hp
theorem is_number_ok {n : Nat} {h : Heap} {v : D} {low : Int} {P : D → Heap → Prop} {X : XP} (hk : Kn h v) (hp : P (.bl (numB v low)) h) : W (callFn kpg (n + 2) 1 [v, .int low] h) P X := by
  rw [w_fn kf1 rfl]
  simp [s_cons, kb1, picked]
  refine is_whole_ok hk ?_
  cases v with
  | int i =>
    simp only [tr_bl]
    refine Tb_b (fun q => ?_) (fun q => ?_)
    · simp [numB] at hp ⊢
      simp only [wholeB] at q
      simpa [q] using hp
    · simp only [numB] at hp
      simp only [wholeB] at q ⊢
      simpa [q] using hp
  | _ => simpa [wholeB, numB] using hp
end K79
end
section
set_option linter.all false
set_option autoImplicit false
set_option maxRecDepth 10000
namespace K79
open Mp MpW
@[simp] theorem set_last {α : Type} (h : List α) (x y : α) : (h ++ [x]).set h.length y = h ++ [y] := by
  rw [List.set_append_right _ _ (Nat.le_refl _)]; simp
/-! ### contents -/
mutual
def contB : D → Bool
  | .non => true
  | .bl _ => false
  | .int i => decide (i.natAbs < 1000000000000000000)
  | .str _ => true
  | .tup ds => contsB ds
  | .ref _ => false
def contsB : List D → Bool
  | [] => true
  | d :: ds => contB d && contsB ds
end
mutual
def sz : D → Nat
  | .non => 1
  | .bl _ => 1
  | .int _ => 1
  | .str _ => 1
  | .tup ds => szs ds + 1
  | .ref _ => 1
def szs : List D → Nat
  | [] => 0
  | d :: ds => sz d + szs ds
end
mutual
/-- all that is within is known -/
def KD (h : Heap) : D → Prop
  | .non => True
  | .bl _ => True
  | .int _ => True
  | .str _ => True
  | .tup ds => KDs h ds
  | .ref a => (∃ ds, h[a]? = some (.lst ds)) ∨ ∃ kvs, h[a]? = some (.dct kvs)
def KDs (h : Heap) : List D → Prop
  | [] => True
  | d :: ds => KD h d ∧ KDs h ds
end
theorem contsB_app : ∀ a b : List D, contsB (a ++ b) = (contsB a && contsB b)
  | [], b => by simp -implicitDefEqProofs [s_cons, contsB]
  | x :: a, b => by simp -implicitDefEqProofs [s_cons, contsB, contsB_app a b, Bool.and_assoc]
theorem szs_app : ∀ a b : List D, szs (a ++ b) = szs a + szs b
  | [], b => by simp -implicitDefEqProofs [s_cons, szs]
  | x :: a, b => by simp -implicitDefEqProofs [s_cons, szs, szs_app a b, Nat.add_assoc]
theorem KDs_app {h : Heap} : ∀ a b : List D, KDs h (a ++ b) ↔ KDs h a ∧ KDs h b
  | [], b => by simp -implicitDefEqProofs [s_cons, KDs]
  | x :: a, b => by simp -implicitDefEqProofs [s_cons, KDs, KDs_app a b, and_assoc]
theorem KD.kn {h : Heap} {d : D} (k : KD h d) : Kn h d := by cases d <;> first | trivial | exact k
theorem get_app {h l : Heap} {a : Nat} {o : MO} (e : h[a]? = some o) : (h ++ l)[a]? = some o := by
  rw [List.getElem?_append_left (List.getElem?_eq_some_iff.mp e).1]; exact e
theorem Kn.app {h l : Heap} {d : D} (k : Kn h d) : Kn (h ++ l) d := by
  cases d with
  | ref a => exact k.imp (fun ⟨ds, e⟩ => ⟨ds, get_app e⟩) (fun ⟨ds, e⟩ => ⟨ds, get_app e⟩)
  | _ => trivial
theorem snoc_cases {α : Type} (l : List α) (h : l ≠ []) : ∃ l' x, l = l' ++ [x] := ⟨l.dropLast, l.getLast h, (List.dropLast_concat_getLast h).symm⟩
theorem sz_pos : ∀ d : D, 0 < sz d
  | .non => by simp -implicitDefEqProofs [s_cons, sz]
  | .bl _ => by simp -implicitDefEqProofs [s_cons, sz]
  | .int _ => by simp -implicitDefEqProofs [s_cons, sz]
  | .str _ => by simp -implicitDefEqProofs [s_cons, sz]
  | .tup ds => by simp -implicitDefEqProofs [s_cons, sz]
  | .ref _ => by simp -implicitDefEqProofs [s_cons, sz]
theorem len_szs : ∀ ds : List D, ds.length ≤ szs ds
  | [] => by simp -implicitDefEqProofs [s_cons, szs]
  | d :: ds => by have := len_szs ds; have := sz_pos d; simp -implicitDefEqProofs [s_cons, szs]; omega
theorem is_content_ok {n : Nat} {h : Heap} {v : D} {P : D → Heap → Prop} {X : XP} (hk : KD h v) (hs : sz v ≤ 100000) (hp : ∀ l, P (.bl (contB v)) (h ++ l)) : W (callFn kpg (n + 2) 2 [v] h) P X := by
  rw [w_fn kf2 rfl]
  simp -implicitDefEqProofs [s_cons, kb2]
  refine ⟨by unfold lim; omega, ?_⟩
  refine s_while (fun n env hh => ∃ stk o, env = [some v, some (.ref h.length), o] ∧ hh = h ++ [.lst stk] ∧ szs stk = n ∧ n ≤ 100000 ∧ contsB stk = contB v ∧ KDs h stk) (sz v) (by unfold fuel; omega) ⟨[v], _, rfl, rfl, by simp -implicitDefEqProofs [s_cons, szs], hs, by simp [contsB], ⟨hk, trivial⟩⟩ ?_
  rintro m env hh ⟨stk, o, rfl, rfl, hm, hl, hc, hK⟩
  simp -implicitDefEqProofs [s_cons, seqAt]
  refine Tb_b (fun q => ?_) (fun q => ?_)
  · have q : stk = [] := by simpa using q
    subst q
    simp -implicitDefEqProofs [s_cons, contsB] at hc
    simp -implicitDefEqProofs [s_cons]
    have := hp [MO.lst []]
    rw [hc] at this; exact this
  · have ne : stk ≠ [] := by simpa using q
    obtain ⟨st, x, rfl⟩ := snoc_cases stk ne
    rw [szs_app] at hm
    rw [contsB_app] at hc
    rw [KDs_app] at hK
    simp only [szs, contsB, KDs] at hm hc hK
    obtain ⟨hK1, hK2, _⟩ := hK
    simp -implicitDefEqProofs [s_cons, served, kindD, bmop, bmL, KD.kn]
    have kn := hK2.kn
    have kn' : Kn (h ++ [MO.lst st]) x := kn.app
    have rest : ∀ (b : Bool), (b = true → contB x = true) → (b = false → contB x = false) → x ≠ .tup [] → True := fun _ _ _ _ => trivial
    cases x with
    | tup ds =>
      simp -implicitDefEqProofs [s_cons, isinTys, isinTy, kindOf, isK, served, kindD, bmop, bmL, extOf]
      simp only [sz, contB, KD] at hm hc hK2
      have := len_szs st
      have := len_szs ds
      simp at hc
      exact ⟨by unfold lim; omega, szs st + szs ds, by omega, st ++ ds, _, rfl, rfl, szs_app _ _, by omega, by rw [contsB_app]; exact hc, (KDs_app _ _).mpr ⟨hK1, hK2⟩⟩
    | non =>
      simp -implicitDefEqProofs [s_cons, isinTys, isinTy, kindOf, isK]
      simp only [sz, contB] at hm hc
      exact ⟨szs st, by omega, st, _, rfl, rfl, rfl, by omega, by simpa using hc, hK1⟩
    | str z =>
      simp -implicitDefEqProofs [s_cons, isinTys, isinTy, kindOf, isK]
      simp only [sz, contB] at hm hc
      exact ⟨szs st, by omega, st, _, rfl, rfl, rfl, by omega, by simpa using hc, hK1⟩
    | int i =>
      simp -implicitDefEqProofs [s_cons, isinTys, isinTy, kindOf, isK, picked]
      refine is_whole_ok kn' ?_
      simp only [sz, contB] at hm hc
      simp -implicitDefEqProofs [s_cons, wholeB]
      refine Tb_b (fun q => ?_) (fun q => ?_)
      · simp
        simp only [q] at hc
        exact ⟨szs st, by omega, st, _, rfl, rfl, rfl, by omega, by simpa using hc, hK1⟩
      · simp only [q, Bool.false_and, Bool.and_false] at hc
        have := hp [MO.lst st]
        rw [← hc] at this
        simpa [s_cons] using this
    | bl b =>
      simp -implicitDefEqProofs [s_cons, isinTys, isinTy, kindOf, isK, picked]
      refine is_whole_ok kn' ?_
      simp only [contB, Bool.false_and, Bool.and_false] at hc
      have := hp [MO.lst st]
      rw [← hc] at this
      simpa [wholeB, s_cons] using this
    | ref a =>
      have hr : isinTys kpg (h ++ [MO.lst st]) (.ref a) [.tuple] = some false ∧ isinTys kpg (h ++ [MO.lst st]) (.ref a) [.str] = some false := by
        rcases kn' with ⟨ds, e⟩ | ⟨ds, e⟩ <;> simp -implicitDefEqProofs [s_cons, isinTys, isinTy, kindOf, isK, e]
      simp -implicitDefEqProofs [s_cons, hr, picked]
      refine is_whole_ok kn' ?_
      simp only [contB, Bool.false_and, Bool.and_false] at hc
      have := hp [MO.lst st]
      rw [← hc] at this
      simpa [wholeB, s_cons] using this
end K79
end
section
set_option linter.all false
set_option autoImplicit false
set_option maxRecDepth 100000
namespace K79
open Mp MpW
/-! ### the state of the draws: at 1 the great numbers, at 2 the dict, at 3 the cells -/
abbrev kGreat : D := .str [103, 114, 101, 97, 116]
abbrev kCells : D := .str [99, 101, 108, 108, 115]
abbrev kLeft : D := .str [108, 101, 102, 116]
abbrev kTurn : D := .str [116, 117, 114, 110]
def St (T : Nat) (h : Heap) : Prop := ∃ (gs cs : List Nat) (l t : Nat), t ≤ T ∧ h[2]? = some (.dct [(kGreat, .ref 1), (kCells, .ref 3), (kLeft, .int l), (kTurn, .int t)]) ∧ h[1]? = some (.lst (gs.map fun (n : Nat) => D.int (n : Int))) ∧ h[3]? = some (.lst (cs.map fun (n : Nat) => D.int (n : Int))) ∧ gs.length ≤ 63 ∧ cs.length ≤ 63
/-- what stands at 4 and above stays -/
def Un (h h' : Heap) : Prop := h.length ≤ h'.length ∧ ∀ a, 4 ≤ a → a < h.length → h'[a]? = h[a]?
theorem Un.refl (h : Heap) : Un h h := ⟨Nat.le_refl _, fun _ _ _ => rfl⟩
theorem Un.trans {h h1 h2 : Heap} (a : Un h h1) (b : Un h1 h2) : Un h h2 := ⟨Nat.le_trans a.1 b.1, fun x h1 h2 => (b.2 x h1 (Nat.lt_of_lt_of_le h2 a.1)).trans (a.2 x h1 h2)⟩
theorem Un.get {h h' : Heap} {a : Nat} {o : MO} (u : Un h h') (ha : 4 ≤ a) (e : h[a]? = some o) : h'[a]? = some o := (u.2 a ha (List.getElem?_eq_some_iff.mp e).1).trans e
theorem Un.app {h l : Heap} : Un h (h ++ l) := ⟨by simp, fun a _ h2 => List.getElem?_append_left h2⟩
theorem St.app {T : Nat} {h l : Heap} (s : St T h) : St T (h ++ l) := by
  obtain ⟨gs, cs, l', t, t0, a, b, c, d⟩ := s
  exact ⟨gs, cs, l', t, t0, get_app a, get_app b, get_app c, d⟩
theorem lt_of_get {h : Heap} {a : Nat} {o : MO} (e : h[a]? = some o) : a < h.length := (List.getElem?_eq_some_iff.mp e).1
/-! the mixing of a number: ints that are not negative -/
def Small (i : Int) : Prop := i.natAbs < 2 ^ 64
theorem small_n {b : Nat} (h : b < 2 ^ 63) : Small b := by unfold Small; omega
theorem small_i {i : Int} (h : i.natAbs < 2 ^ 63) : Small i := by unfold Small; omega
@[simp] theorem bo_add_int (i j : Int) (h : Heap) : binop .add (.int i) (.int j) h = .ok (.int (i + j)) h := rfl
@[simp] theorem bo_sub_int (i j : Int) (h : Heap) : binop .sub (.int i) (.int j) h = .ok (.int (i - j)) h := rfl
theorem bo_mul {i j : Int} {h : Heap} {P : D → Heap → Prop} {X : XP} (hj : Small j) (hp : P (.int (i * j)) h) : W (binop .mul (.int i) (.int j) h) P X := by
  unfold Small at hj
  have : (decide (-(2 ^ 64) < i) && decide (i < 2 ^ 64) || decide (-(2 ^ 64) < j) && decide (j < 2 ^ 64)) = true := by
    have a : decide (-(2 ^ 64) < j) = true := by simp; omega
    have b : decide (j < 2 ^ 64) = true := by simp; omega
    rw [a, b]; simp
  show W (if _ then _ else _) P X
  rw [if_pos this, W_ok]; exact hp
theorem bo_mul' {i j : Int} {h : Heap} {P : D → Heap → Prop} {X : XP} (hj : Small i) (hp : P (.int (i * j)) h) : W (binop .mul (.int i) (.int j) h) P X := by
  unfold Small at hj
  have : (decide (-(2 ^ 64) < i) && decide (i < 2 ^ 64) || decide (-(2 ^ 64) < j) && decide (j < 2 ^ 64)) = true := by
    have a : decide (-(2 ^ 64) < i) = true := by simp; omega
    have b : decide (i < 2 ^ 64) = true := by simp; omega
    rw [a, b]; simp
  show W (if _ then _ else _) P X
  rw [if_pos this, W_ok]; exact hp
theorem bo_fdiv {i j : Int} {h : Heap} {P : D → Heap → Prop} {X : XP} (hj : j ≠ 0) (hj2 : j.natAbs < 1073741824) (hp : P (.int (i.fdiv j)) h) : W (binop .fdiv (.int i) (.int j) h) P X := by
  have : (decide (j ≠ 0) && decide (j.natAbs < 1073741824)) = true := by simp [hj, hj2]
  show W (if _ then _ else _) P X
  rw [if_pos this, W_ok]; exact hp
theorem bo_mod {i j : Int} {h : Heap} {P : D → Heap → Prop} {X : XP} (hj : j ≠ 0) (hp : P (.int (i.fmod j)) h) : W (binop .mod (.int i) (.int j) h) P X := by
  show W (if j = 0 then _ else _) P X
  rw [if_neg hj, W_ok]; exact hp
theorem bo_pow {i j : Int} {h : Heap} {P : D → Heap → Prop} {X : XP} (h0 : 0 ≤ j) (h1 : j ≤ 1000000) (h2 : Small i) (hp : P (.int (i ^ j.toNat)) h) : W (binop .pow (.int i) (.int j) h) P X := by
  unfold Small at h2
  have : (decide (0 ≤ j) && decide (j ≤ 1000000) && decide (i.natAbs < 2 ^ 64)) = true := by simp [h0, h1, h2]
  show W (if _ then _ else _) P X
  rw [if_pos this, W_ok]; exact hp
@[simp] theorem bi_int {i : Int} {h : Heap} : biop .int [.int i] h = .ok (.int i) h := rfl
theorem fmod_nat {a b : Nat} (hb : 0 < b) : ∃ r : Nat, (a : Int).fmod (b : Int) = r ∧ r < b := ⟨a % b, by rw [Int.fmod_eq_emod_of_nonneg _ (by omega)]; simp, Nat.mod_lt _ hb⟩
theorem fdiv_nat {a b : Nat} : (a : Int).fdiv (b : Int) = ((a / b : Nat) : Int) := by
  rw [Int.fdiv_eq_ediv_of_nonneg _ (by omega)]; simp
theorem set_get {h : Heap} {a : Nat} {o u : MO} (e : h[a]? = some u) : (h.set a o)[a]? = some o := by
  rw [List.getElem?_set_self (lt_of_get e)]
theorem set_ne {h : Heap} {a b : Nat} {o : MO} (n : a ≠ b) : (h.set a o)[b]? = h[b]? := List.getElem?_set_ne n
theorem inner_ok {n T : Nat} {h : Heap} {t f p bl : Nat} {o5 : Option D} {cs : List Nat} {N : Env → Heap → Prop} {Q : Ks} (h2 : ∃ a b c d : D, h[2]? = some (.dct [(kGreat, a), (kCells, .ref 3), (kLeft, c), (kTurn, d)])) (h3 : h[3]? = some (.lst (cs.map fun (n : Nat) => D.int (n : Int)))) (hp : 0 < p) (hp2 : p < 2 ^ 32) (hb : bl < 2 ^ 60) (hn : ∀ (b : Nat) o, b < 2 ^ 60 → N [some (.ref 2), some (.int t), some (.int f), some (.int p), some (.int b), o] h) :
    S (evS kpg (callFn kpg n) (.for_ (.nm 5) (.path (.idx (.v 0) (.c kCells))) (.cons (.asg (.nm 4) (.bin .mod (.bi .int (.cons (.bin .add (.bin .add (.bin .mul (.v 4) (.c (.int 69621))) (.v 5)) (.v 1)) .nil)) (.v 3))) .nil))
      [some (.ref 2), some (.int t), some (.int f), some (.int p), some (.int bl), o5] h) N Q := by
  obtain ⟨a, b, c, d, h2⟩ := h2
  rw [s_for (by simp [evL, lkOf, evE, Res.bind, index, h2, D.key, dget, opt, h3])]
  simp -implicitDefEqProofs [s_cons, index, h2, D.key, dget, opt, itp, h3]
  refine s_for_by (cs.map fun (n : Nat) => D.int (n : Int)) (fun i env hh => ∃ (b : Nat) (o : Option D), b < 2 ^ 60 ∧ hh = h ∧ env = [some (.ref 2), some (.int t), some (.int f), some (.int p), some (.int b), o]) (by simp [ItV.count, seqAt, h3]) ⟨bl, o5, hb, rfl, rfl⟩ ?_ ?_ ?_
  · rintro i env hh ⟨b, o, _, rfl, rfl⟩
    simp [ItV.next, seqAt, h3]
  · rintro i dd env hh ⟨b, o, b0, rfl, rfl⟩ hd
    rw [List.getElem?_map] at hd
    cases hx : cs[i]? with
    | none => rw [hx] at hd; cases hd
    | some x =>
      rw [hx] at hd; cases hd
      simp -implicitDefEqProofs [s_cons]
      refine bo_mul' (small_n (by omega)) ?_
      simp -implicitDefEqProofs [s_cons]
      have e : ((b : Int) * 69621 + x + t) = ((b * 69621 + x + t : Nat) : Int) := by omega
      rw [e]
      refine bo_mod (by omega) ?_
      obtain ⟨r, e1, e2⟩ := fmod_nat (a := b * 69621 + x + t) hp
      rw [e1]
      simp -implicitDefEqProofs [s_cons]
      exact ⟨r, _, by omega, rfl, rfl⟩
  · rintro env hh ⟨b, o, b0, rfl, rfl⟩
    exact hn b o b0
theorem blended_ok {n T : Nat} {h : Heap} {P : D → Heap → Prop} {X : XP} (hs : St T h) (hT : T < 1000000) (hp : ∀ (r : Nat) h', St (T + 1) h' → Un h h' → P (.int r) h') : W (callFn kpg (n + 1) 15 [.ref 2] h) P X := by
  rw [w_fn kf15 rfl]
  obtain ⟨gs, cs, l, t, t0, e2, e1, e3, hg, hc⟩ := hs
  simp -implicitDefEqProofs [s_cons, kb15, index, e2, D.key, dget, opt, lim, setIndex, dput]
  rw [s_for (el_e)]
  simp -implicitDefEqProofs [s_cons, itv, seqAt]
  refine ⟨by unfold lim; omega, ?_⟩
  let H := (List.set h 2 (MO.dct [(kGreat, D.ref 1), (kCells, D.ref 3), (kLeft, D.int l), (kTurn, D.int (t + 1))])) ++ [MO.lst [D.int 2147483353, .int 2147483323, .int 2147483269]]
  have H2 : H[2]? = some (MO.dct [(kGreat, D.ref 1), (kCells, D.ref 3), (kLeft, D.int l), (kTurn, D.int (t + 1))]) := get_app (set_get e2)
  have H3 : H[3]? = some (.lst (cs.map fun (n : Nat) => D.int (n : Int))) := get_app ((set_ne (by decide)).trans e3)
  have H1 : H[1]? = some (.lst (gs.map fun (n : Nat) => D.int (n : Int))) := get_app ((set_ne (by decide)).trans e1)
  have HL : H[h.length]? = some (MO.lst [D.int 2147483353, .int 2147483323, .int 2147483269]) := by
    show (List.set h 2 _ ++ _)[h.length]? = _
    rw [List.getElem?_append_right (by simp)]; simp
  refine s_for_by [D.int 2147483353, .int 2147483323, .int 2147483269] (fun i env hh => ∃ (f : Nat) (o3 o4 o5 : Option D), hh = H ∧ env = [some (.ref 2), some (.int (t + 1 : Nat)), some (.int f), o3, o4, o5]) (by show ((seqAt h.length H).getD []).length = 3; simp [seqAt, HL]) ⟨0, none, none, none, rfl, by simp⟩ ?_ ?_ ?_
  · rintro i env hh ⟨f, o3, o4, o5, rfl, rfl⟩
    simp [ItV.next, seqAt, HL]
  · rintro i dd env hh ⟨f, o3, o4, o5, rfl, rfl⟩ hd
    have : ∃ p : Nat, dd = .int p ∧ 0 < p ∧ p < 2 ^ 31 := by
      match i, hd with
      | 0, hd => cases hd; exact ⟨2147483353, rfl, by omega, by omega⟩
      | 1, hd => cases hd; exact ⟨2147483323, rfl, by omega, by omega⟩
      | 2, hd => cases hd; exact ⟨2147483269, rfl, by omega, by omega⟩
    obtain ⟨p, rfl, p0, p1⟩ := this
    simp -implicitDefEqProofs [s_cons]
    refine bo_mul' (small_i (by decide)) ?_
    simp -implicitDefEqProofs [s_cons]
    refine bo_fdiv (by omega) (by omega) ?_
    simp -implicitDefEqProofs [s_cons]
    have e : (41358 * ((t : Int) + 1) + (p : Int).fdiv 71) = ((41358 * (t + 1) + p / 71 : Nat) : Int) := by
      have : (p : Int).fdiv 71 = ((p / 71 : Nat) : Int) := fdiv_nat (a := p) (b := 71)
      rw [this]; omega
    rw [e]
    have q : p / 71 ≤ p := Nat.div_le_self _ _
    have e' : some (D.int ((t : Int) + 1)) = some (D.int ((t + 1 : Nat) : Int)) := by rw [Int.natCast_add]; rfl
    rw [e']
    refine inner_ok (T := T) ⟨_, .non, _, _, H2⟩ H3 p0 (by omega) (by omega) fun b o b0 => ?_
    simp -implicitDefEqProofs [s_cons]
    refine bo_mul (small_i (by decide)) ?_
    simp -implicitDefEqProofs [s_cons]
    refine bo_pow (by omega) (by omega) (small_n (by omega)) ?_
    simp -implicitDefEqProofs [s_cons]
    refine bo_mod (by omega) ?_
    obtain ⟨r, r1, r2⟩ := fmod_nat (a := b ^ 5) p0
    have r1' : ((b : Int) ^ 5).fmod p = r := by rw [← r1, Int.natCast_pow]
    first
      | rw [r1']
      | rw [r1]
    simp -implicitDefEqProofs [s_cons]
    refine ⟨f * 2147483647 + r, some (.int p), some (.int b), o, rfl, ?_⟩
    have e7 : ((f * 2147483647 + r : Nat) : Int) = (f : Int) * 2147483647 + r := by omega
    rw [e7]
  · rintro env hh ⟨f, o3, o4, o5, rfl, rfl⟩
    simp -implicitDefEqProofs [s_cons]
    refine hp f H ⟨gs, cs, l, t + 1, by omega, ?_, H1, H3, hg, hc⟩ ⟨?_, fun a h1 h2 => ?_⟩
    · rw [H2]; simp
    · show h.length ≤ (List.set h 2 _ ++ _).length
      simp
    · show (List.set h 2 _ ++ _)[a]? = _
      rw [List.getElem?_append_left (by simpa using h2)]
      exact set_ne (by omega)
end K79
end
section
set_option linter.all false
set_option autoImplicit false
set_option maxRecDepth 100000
namespace K79
open Mp MpW
theorem Un.set2 {h : Heap} {o : MO} : Un h (h.set 2 o) := ⟨by simp, fun a h1 h2 => set_ne (by omega)⟩
theorem Un.set1 {h : Heap} {o : MO} : Un h (h.set 1 o) := ⟨by simp, fun a h1 h2 => set_ne (by omega)⟩
theorem draw_ok {n T : Nat} {h : Heap} {size : Nat} {P : D → Heap → Prop} {X : XP} (hs : St T h) (hT : T < 1000000) (h0 : 0 < size) (h1 : size < 1000000) (hp : ∀ (r : Nat) h', r < size → St (T + 1) h' → Un h h' → P (.int r) h') : W (callFn kpg (n + 2) 16 [.ref 2, .int size] h) P X := by
  rw [w_fn kf16 rfl]
  have tail : ∀ h', St (T + 1) h' → Un h h' → S (evSs kpg (callFn kpg (n + 1)) (Sts.cons (.asg (.nm 2) (.bin .mod (.bi .int (.cons (.idx (.v 0) (.c kLeft)) .nil)) (.v 1))) (.cons (.asg (.idx (.v 0) (.c kLeft)) (.bin .fdiv (.idx (.v 0) (.c kLeft)) (.v 1))) (.cons (.ret (.v 2)) .nil))) [some (.ref 2), some (.int size), none] h') (fun _ h => P .non h) { rt := P, er := X } := by
    intro h' hs' u
    obtain ⟨gs, cs, l, t, t0, e2, e1, e3, hg, hc⟩ := hs'
    rw [s_cons]
    simp -implicitDefEqProofs [index, e2, D.key, dget, opt]
    refine bo_mod (by omega) ?_
    obtain ⟨r, r1, r2⟩ := fmod_nat (a := l) h0
    rw [r1]
    simp -implicitDefEqProofs [s_cons, index, e2, D.key, dget, opt]
    refine bo_fdiv (by omega) (by omega) ?_
    rw [fdiv_nat]
    simp -implicitDefEqProofs [s_cons, index, e2, D.key, dget, opt, setIndex, lim, dput]
    refine hp r _ r2 ⟨gs, cs, l / size, t, t0, set_get e2, (set_ne (by decide)).trans e1, (set_ne (by decide)).trans e3, hg, hc⟩ (u.trans Un.set2)
  obtain ⟨gs, cs, l, t, t0, e2, e1, e3, hg, hc⟩ := id hs
  unfold kb16
  rw [s_cons]
  simp -implicitDefEqProofs [index, e2, D.key, dget, opt]
  refine Tb_d (fun q => ?_) (fun q => ?_)
  · rw [s_cons]
    simp -implicitDefEqProofs [index, e2, D.key, dget, opt, seqAt, e1]
    refine Tb_b (fun q2 => ?_) (fun q2 => ?_)
    · simp -implicitDefEqProofs [picked]
      refine blended_ok hs hT fun r h' hs' u => ?_
      obtain ⟨gs', cs', l', t', t0', e2', e1', e3', hg', hc'⟩ := hs'
      simp -implicitDefEqProofs [index, e2', D.key, dget, opt, setIndex, lim, dput]
      exact tail _ ⟨gs', cs', r, t', t0', set_get e2', (set_ne (by decide)).trans e1', (set_ne (by decide)).trans e3', hg', hc'⟩ (u.trans Un.set2)
    · cases gs with
      | nil => simp at q2
      | cons g gs =>
        simp -implicitDefEqProofs [index, e2, D.key, dget, opt, seqAt, e1, served, kindD, bmop, bmL, place]
        have e2' : (List.set h 1 (MO.lst (List.map (fun (n : Nat) => D.int (n : Int)) gs)))[2]? = some (MO.dct [(kGreat, D.ref 1), (kCells, D.ref 3), (kLeft, D.int l), (kTurn, D.int t)]) := (set_ne (by decide)).trans e2
        simp -implicitDefEqProofs [index, e2', D.key, dget, opt, setIndex, lim, dput]
        refine tail _ ⟨gs, cs, g, t, by omega, set_get e2', ?_, ?_, by simp at hg; omega, hc⟩ (Un.set1.trans Un.set2)
        · exact (set_ne (by decide)).trans (set_get e1)
        · exact (set_ne (by decide)).trans ((set_ne (by decide)).trans e3)
  · rw [s_nil]
    exact tail h ⟨gs, cs, l, t, by omega, e2, e1, e3, hg, hc⟩ (Un.refl h)
theorem place_nat {r n : Nat} (h : r < n) : place (r : Int) n = some r := by
  unfold place
  rw [if_pos (by omega), if_pos (by omega)]; simp
/-- one of a list's items -/
theorem pick_ok {n T : Nat} {h : Heap} {a : Nat} {xs : List D} {P : D → Heap → Prop} {X : XP} (hs : St T h) (hT : T < 1000000) (ha : 4 ≤ a) (e : h[a]? = some (.lst xs)) (h0 : xs ≠ []) (h1 : xs.length < 1000000) (hp : ∀ (r : Nat) x h', xs[r]? = some x → St (T + 1) h' → Un h h' → P x h') : W (callFn kpg (n + 3) 17 [.ref 2, .ref a] h) P X := by
  rw [w_fn kf17 rfl]
  have hl : 0 < xs.length := List.length_pos_iff.mpr h0
  simp -implicitDefEqProofs [s_cons, kb17, biop, len, e, opt, picked]
  refine draw_ok hs hT hl h1 fun r h' hr hs' u => ?_
  have e' := u.get ha e
  simp -implicitDefEqProofs [index, e', place_nat hr, opt, List.getElem?_eq_getElem hr]
  exact hp r _ h' (List.getElem?_eq_getElem hr) hs' u
end K79
end
section
set_option linter.all false
set_option autoImplicit false
set_option maxRecDepth 100000
namespace K79
open Mp MpW
@[simp] theorem pow18 {h : Heap} : binop .pow (.int 10) (.int 18) h = .ok (.int 1000000000000000000) h := by
  simp [binop]
@[simp] theorem pow17 {h : Heap} : binop .pow (.int 10) (.int 17) h = .ok (.int 100000000000000000) h := by
  simp [binop]
/-- data without addresses, of some nesting -/
def plB : Nat → D → Bool
  | _, .non => true
  | _, .bl _ => true
  | _, .int _ => true
  | _, .str s => s.all fun c => decide (c < 1114112)
  | 0, .tup _ => false
  | k + 1, .tup ds => ds.all (plB k)
  | _, .ref _ => false
theorem rd_pl : ∀ (k m : Nat) (d : D), plB k d = true → k ≤ m → ∃ p, ∀ h, rd h m d = some p := by
  have flat : ∀ (m : Nat) (d : D), (∀ ds, d ≠ .tup ds) → (∀ a, d ≠ .ref a) → ∀ h, rd h m d = rdF d := by
    intro m d h1 h2 h
    cases m with
    | zero => rfl
    | succ m => cases d <;> first | rfl | exact absurd rfl (h1 _) | exact absurd rfl (h2 _)
  intro k
  induction k with
  | zero =>
    intro m d hd hm
    cases d with
    | non => exact ⟨.non, fun h => flat m _ (by simp) (by simp) h⟩
    | bl b => exact ⟨.bl b, fun h => flat m _ (by simp) (by simp) h⟩
    | int i => exact ⟨.int i, fun h => flat m _ (by simp) (by simp) h⟩
    | str s => exact ⟨.str s, fun h => (flat m _ (by simp) (by simp) h).trans (by simp only [rdF]; rw [if_pos (by simpa [plB] using hd)])⟩
    | tup ds => simp [plB] at hd
    | ref a => simp [plB] at hd
  | succ k ih =>
    intro m d hd hm
    cases d with
    | non => exact ⟨.non, fun h => flat m _ (by simp) (by simp) h⟩
    | bl b => exact ⟨.bl b, fun h => flat m _ (by simp) (by simp) h⟩
    | int i => exact ⟨.int i, fun h => flat m _ (by simp) (by simp) h⟩
    | str s => exact ⟨.str s, fun h => (flat m _ (by simp) (by simp) h).trans (by simp only [rdF]; rw [if_pos (by simpa [plB] using hd)])⟩
    | tup ds =>
      cases m with
      | zero => omega
      | succ m =>
        simp only [plB] at hd
        have : ∀ ds : List D, ds.all (plB k) = true → ∃ ps, ∀ h, mapO (rd h m) ds = some ps := by
          intro ds
          induction ds with
          | nil => intro _; exact ⟨[], fun h => rfl⟩
          | cons a ds ih2 =>
            intro hh
            rw [List.all_cons, Bool.and_eq_true] at hh
            obtain ⟨p, e1⟩ := ih m a hh.1 (by omega)
            obtain ⟨ps, e2⟩ := ih2 hh.2
            exact ⟨p :: ps, fun h => by simp only [mapO, e1 h, e2 h]⟩
        obtain ⟨ps, e⟩ := this ds hd
        exact ⟨.tup ps, fun h => by simp only [rd, e h]; rfl⟩
    | ref a => simp [plB] at hd
theorem plB_mono : ∀ (k m : Nat) (d : D), plB k d = true → k ≤ m → plB m d = true := by
  intro k
  induction k with
  | zero =>
    intro m d hd hm
    cases d <;> cases m <;> simp_all [plB]
  | succ k ih =>
    intro m d hd hm
    cases m with
    | zero => omega
    | succ m =>
      cases d with
      | tup ds =>
        simp only [plB, List.all_eq_true] at hd ⊢
        exact fun x hx => ih m x (hd x hx) (by omega)
      | _ => simpa [plB] using hd
def gd : Nat → Nat
  | 0 => 2
  | d + 1 => 2 + 3 * gd d
def sd : Nat → Nat
  | 0 => 3
  | d + 1 => 4 + 3 * sd d
/-- a drawn content -/
structure Ct (d : Nat) (x : D) : Prop where
  c : contB x = true
  pl : plB (d + 1) x = true
  sz : sz x ≤ sd d
theorem Ct.mono {d e : Nat} {x : D} (c : Ct d x) (h : d ≤ e) : Ct e x := by
  refine ⟨c.c, plB_mono _ _ _ c.pl (by omega), Nat.le_trans c.sz ?_⟩
  clear c
  induction h with
  | refl => exact Nat.le_refl _
  | step _ ih => exact Nat.le_trans ih (by simp only [sd]; omega)
theorem Un.set_new {h hh : Heap} {L : Nat} {o : MO} (u : Un h hh) (hl : h.length ≤ L) : Un h (hh.set L o) := ⟨by simpa using u.1, fun a h1 h2 => (set_ne (by omega)).trans (u.2 a h1 h2)⟩
theorem St.set_new {T : Nat} {h : Heap} {L : Nat} {o : MO} (s : St T h) (hl : 4 ≤ L) : St T (h.set L o) := by
  obtain ⟨gs, cs, l', t, t0, a, b, c, d⟩ := s
  exact ⟨gs, cs, l', t, t0, (set_ne (by omega)).trans a, (set_ne (by omega)).trans b, (set_ne (by omega)).trans c, d⟩
theorem St.mono {T T' : Nat} {h : Heap} (s : St T h) (e : T ≤ T') : St T' h := by
  obtain ⟨gs, cs, l', t, t0, r⟩ := s
  exact ⟨gs, cs, l', t, by omega, r⟩
theorem St.four {T : Nat} {h : Heap} (s : St T h) : 4 ≤ h.length := by
  obtain ⟨gs, cs, l', t, t0, _, _, c, _⟩ := s
  have := lt_of_get c; omega
theorem contsB_iff : ∀ ds : List D, contsB ds = true ↔ ∀ x ∈ ds, contB x = true
  | [] => by simp [contsB]
  | d :: ds => by simp [contsB, contsB_iff ds]
theorem szs_le {m : Nat} : ∀ ds : List D, (∀ x ∈ ds, sz x ≤ m) → szs ds ≤ ds.length * m
  | [], _ => by simp [szs]
  | d :: ds, h => by
    have h1 := szs_le ds fun x hx => h x (by simp [hx])
    have h2 := h d (by simp)
    simp only [szs, List.length_cons, Nat.add_mul]
    omega
theorem smallI_nat {n : Nat} (h : n < 1000000000) : smallI (n : Int) = true := by
  unfold smallI
  rw [Bool.and_eq_true, decide_eq_true_eq, decide_eq_true_eq]
  constructor <;> omega
def cBase : List D := [.non, .int 0, .int (-5), .int 999999999999999999, .str [], .str [120], .str [99, 117, 116], .int 3, .tup [.str [97], .int 1], .tup []]
theorem cBase_ct : ∀ (r : Nat) x, cBase[r]? = some x → Ct 0 x := by
  intro r x hx
  have : x ∈ cBase := List.mem_of_getElem? hx
  simp only [cBase, List.mem_cons, List.not_mem_nil, or_false] at this
  rcases this with rfl | rfl | rfl | rfl | rfl | rfl | rfl | rfl | rfl | rfl <;> exact ⟨by decide, by decide, by decide⟩
theorem ret_base {n T : Nat} {h : Heap} {d : Nat} {r : Nat} {o : Option D} {N : Env → Heap → Prop} {Q : Ks} (hs : St T h) (hT : T < 1000000) (hp : ∀ x h', Ct d x → St (T + 1) h' → Un h h' → Q.rt x h') :
    S (evSs kpg (callFn kpg (n + 3)) (.cons (.ret (.call 17 (.cons (.v 0) (.cons (.lst (.cons (.c .non) (.cons (.c (.int 0)) (.cons (.neg (.c (.int 5))) (.cons (.bin .sub (.bin .pow (.c (.int 10)) (.c (.int 18))) (.c (.int 1))) (.cons (.c (.str [])) (.cons (.c (.str [120])) (.cons (.c (.str [99, 117, 116])) (.cons (.c (.int 3)) (.cons (.tup (.cons (.c (.str [97])) (.cons (.c (.int 1)) .nil))) (.cons (.tup .nil) .nil))))))))))) .nil)) [0, 1])) .nil)
      [some (.ref 2), some (.int d), some (.int r), o] h) N Q := by
  simp -implicitDefEqProofs [s_cons, lim, picked]
  refine pick_ok (a := h.length) (xs := cBase) hs.app hT hs.four (by simp [cBase]) (by decide) (by decide) fun k x h' hx s' u' => ?_
  exact hp x h' ((cBase_ct k x hx).mono (Nat.zero_le _)) s' (Un.app.trans u')
theorem content_ok : ∀ (d : Nat) {n T : Nat} {h : Heap} {P : D → Heap → Prop} {X : XP}, St T h → T + gd d < 1000000 → sd d < 1000 → (∀ x T' h', Ct d x → T' ≤ T + gd d → St T' h' → Un h h' → P x h') → W (callFn kpg (n + d + 4) 23 [.ref 2, .int d] h) P X := by
  intro d
  induction d with
  | zero =>
    intro n T h P X hs hT hsd hp
    rw [w_fn kf23 rfl]
    simp only [gd] at hT hp
    unfold kb23
    rw [s_cons]
    simp -implicitDefEqProofs [picked]
    refine draw_ok (size := 7) hs (by omega) (by omega) (by omega) fun r h1 hr s1 u1 => ?_
    simp -implicitDefEqProofs
    rw [s_cons]
    simp -implicitDefEqProofs
    refine Tb_d (fun q => ?_) (fun q => ?_)
    · simp -implicitDefEqProofs
      exact ret_base (d := 0) (Q := { rt := P, er := X }) s1 (by omega) fun x h' c s2 u2 => hp x _ h' c (Nat.le_refl _) s2 (u1.trans u2)
    · simp -implicitDefEqProofs [q]
      exact ret_base (d := 0) (Q := { rt := P, er := X }) s1 (by omega) fun x h' c s2 u2 => hp x _ h' c (Nat.le_refl _) s2 (u1.trans u2)
  | succ d ih =>
    intro n T h P X hs hT hsd hp
    rw [show n + (d + 1) + 4 = (n + d + 4) + 1 by omega, w_fn kf23 rfl]
    simp only [gd, sd] at hT hp hsd
    unfold kb23
    rw [s_cons]
    simp -implicitDefEqProofs [picked]
    refine draw_ok (size := 7) hs (by omega) (by omega) (by omega) fun r h1 hr s1 u1 => ?_
    simp -implicitDefEqProofs
    rw [s_cons]
    simp -implicitDefEqProofs
    have last : ∀ o, S (evSs kpg (callFn kpg (n + d + 4)) (.cons (.ret (.call 17 (.cons (.v 0) (.cons (.lst (.cons (.c .non) (.cons (.c (.int 0)) (.cons (.neg (.c (.int 5))) (.cons (.bin .sub (.bin .pow (.c (.int 10)) (.c (.int 18))) (.c (.int 1))) (.cons (.c (.str [])) (.cons (.c (.str [120])) (.cons (.c (.str [99, 117, 116])) (.cons (.c (.int 3)) (.cons (.tup (.cons (.c (.str [97])) (.cons (.c (.int 1)) .nil))) (.cons (.tup .nil) .nil))))))))))) .nil)) [0, 1])) .nil)
      [some (.ref 2), some (.int (d + 1 : Nat)), some (.int r), o] h1) (fun _ h => P .non h) { rt := P, er := X } := fun o =>
      ret_base (n := n + d + 1) (d := d + 1) (Q := { rt := P, er := X }) s1 (by omega) fun x h' c s2 u2 => hp x _ h' c (by omega) s2 (u1.trans u2)
    refine Tb_d (fun q => ?_) (fun q => ?_)
    · simp -implicitDefEqProofs
      · rw [s_cons]
        simp -implicitDefEqProofs [w_comp, picked]
        refine draw_ok (size := 4) s1 (by omega) (by omega) (by omega) fun r2 h2 hr2 s2 u2 => ?_
        have hsm := smallI_nat (n := r2) (by omega)
        simp -implicitDefEqProofs [hsm, wipe]
        refine c_comp_by (rangeL 0 r2) (fun i hh => ∃ acc T', hh[h2.length]? = some (.lst acc) ∧ acc.length = i ∧ (∀ x ∈ acc, Ct d x) ∧ T' ≤ T + 2 + i * gd d ∧ St T' hh ∧ Un h2 hh) (by simp) ⟨[], T + 2, by simp, rfl, by simp, by omega, s2.app, Un.app⟩ ?_ ?_ ?_
        · intro i hh _; rfl
        · rintro i dd hh ⟨acc, T', e1, e2, e3, e4, s3, u3⟩ hd
          have hi : i < r2 := by
            rw [rangeL_get] at hd
            split at hd
            · assumption
            · cases hd
          have hi3 : i * gd d + gd d ≤ 3 * gd d := by
            have : (i + 1) * gd d ≤ 3 * gd d := Nat.mul_le_mul_right _ (by omega)
            rw [Nat.add_mul] at this; omega
          simp -implicitDefEqProofs [picked]
          refine ih s3 (by omega) (by omega) fun x T2 h3 c2 t2 s4 u4 => ?_
          have e1' := u4.get s2.four e1
          simp -implicitDefEqProofs [e1', lim]
          refine ⟨by omega, acc ++ [x], T2, set_get e1', by simp [e2], fun y hy => ?_, by rw [Nat.add_mul]; omega, s4.set_new s2.four, (u3.trans u4).set_new (Nat.le_refl _)⟩
          rcases List.mem_append.mp hy with hy | hy
          · exact e3 y hy
          · rw [List.mem_singleton.mp hy]; exact c2
        · rintro hh ⟨acc, T', e1, e2, e3, e4, s3, u3⟩
          rw [rangeL_len] at e2 e4
          simp -implicitDefEqProofs [biop, itemsOf, e1, opt]
          have hr3 : r2 * gd d ≤ 3 * gd d := Nat.mul_le_mul_right _ (by omega)
          refine hp _ T' hh ⟨?_, ?_, ?_⟩ (by omega) s3 (u1.trans (u2.trans u3))
          · simp only [contB]; exact (contsB_iff acc).mpr fun x hx => (e3 x hx).c
          · simp only [plB, List.all_eq_true]; exact fun x hx => (e3 x hx).pl
          · simp only [sz, sd]
            have := szs_le acc fun x hx => (e3 x hx).sz
            rw [e2] at this
            have h3 : r2 * sd d ≤ 3 * sd d := Nat.mul_le_mul_right _ (by omega)
            omega
    · simp -implicitDefEqProofs [q]
      exact last _
end K79
end
section
set_option linter.all false
set_option autoImplicit false
set_option maxRecDepth 100000
namespace K79
open Mp MpW
/-! ### the disk: at 4 the instance, at 5 what landed, the waiting writes at w -/
def alD : Option Nat → D
  | none => .non
  | some n => .int (n : Int)
def pr (p : Nat × D) : D := .tup [.int (p.1 : Int), p.2]
def kv (L : List (Nat × D)) : List (D × D) := L.map fun p => (.int (p.1 : Int), p.2)
def lput (L : List (Nat × D)) (c : Nat) (x : D) : List (Nat × D) := if (L.any fun p => decide (p.1 = c)) = true then L.map (fun p => if p.1 = c then (p.1, x) else p) else L ++ [(c, x)]
def dins (al : Option Nat) (w : Nat) : MO := .ins 6 [(9, alD al), (10, .ref 5), (11, .ref w)]
theorem int_inj {a b : Nat} : (D.int (a : Int) = D.int (b : Int)) ↔ a = b := by
  constructor
  · intro e; injection e with e; omega
  · intro e; rw [e]
theorem dput_kv (L : List (Nat × D)) (c : Nat) (x : D) : dput (kv L) (.int (c : Int)) x = kv (lput L c x) := by
  have e1 : ((kv L).any fun p => decide (p.1 = .int (c : Int))) = L.any fun p => decide (p.1 = c) := by
    unfold kv
    rw [List.any_map]
    congr 1; funext p
    simp only [Function.comp, int_inj]
  unfold dput lput
  rw [e1]
  split
  · unfold kv
    rw [List.map_map, List.map_map]
    congr 1; funext p
    simp only [Function.comp, int_inj]
    split <;> rfl
  · simp [kv]
theorem lput_len (L : List (Nat × D)) (c : Nat) (x : D) : (lput L c x).length ≤ L.length + 1 := by
  unfold lput; split <;> simp
structure Dk (al : Option Nat) (L Wt : List (Nat × D)) (w : Nat) (h : Heap) : Prop where
  d4 : h[4]? = some (dins al w)
  d5 : h[5]? = some (.dct (kv L))
  dw : h[w]? = some (.lst (Wt.map pr))
  w6 : 6 ≤ w
@[simp] theorem ga9 {al : Option Nat} {w : Nat} {h : Heap} (e : h[4]? = some (dins al w)) : getAttr kpg (.ref 4) 9 h = .ok (alD al) h := by
  simp [getAttr, e, dins, hasF, fget, opt]
@[simp] theorem ga10 {al : Option Nat} {w : Nat} {h : Heap} (e : h[4]? = some (dins al w)) : getAttr kpg (.ref 4) 10 h = .ok (.ref 5) h := by
  simp [getAttr, e, dins, hasF, fget, opt]
@[simp] theorem ga11 {al : Option Nat} {w : Nat} {h : Heap} (e : h[4]? = some (dins al w)) : getAttr kpg (.ref 4) 11 h = .ok (.ref w) h := by
  simp [getAttr, e, dins, hasF, fget, opt]
theorem sa9 {al al' : Option Nat} {w : Nat} {h : Heap} (e : h[4]? = some (dins al w)) : setAttr kpg (.ref 4) 9 (alD al') h = .ok () (h.set 4 (dins al' w)) := by
  simp [setAttr, e, dins, hasF, fput]
theorem sa11 {al : Option Nat} {w w' : Nat} {h : Heap} (e : h[4]? = some (dins al w)) : setAttr kpg (.ref 4) 11 (.ref w') h = .ok () (h.set 4 (dins al w')) := by
  simp [setAttr, e, dins, hasF, fput]
theorem use_ok {n : Nat} {al : Option Nat} {w : Nat} {h : Heap} {P : D → Heap → Prop} {X : XP} (d : h[4]? = some (dins al w)) (h0 : al = some 0 → X 5 [] h) (hp : al ≠ some 0 → P .non (h.set 4 (dins (al.map (· - 1)) w))) : W (callFn kpg (n + 1) 6 [.ref 4] h) P X := by
  rw [w_fn kf6 rfl]
  unfold kb6
  rw [s_cons]
  simp -implicitDefEqProofs [ga9 d]
  cases al with
  | none =>
    simp -implicitDefEqProofs [alD]
    rw [s_cons]
    simp -implicitDefEqProofs [ga9 d, alD]
    have := hp (by simp)
    simp at this
    have e : h.set 4 (dins none w) = h := by
      apply List.ext_getElem?
      intro i
      by_cases hi : 4 = i
      · subst hi; rw [set_get d, d]
      · rw [set_ne hi]
    rw [e] at this
    exact this
  | some k =>
    simp -implicitDefEqProofs [alD]
    refine Tb_d (fun q => ?_) (fun q => ?_)
    · rw [s_cons]
      simp -implicitDefEqProofs
      exact h0 (by rw [q])
    · simp -implicitDefEqProofs
      rw [s_cons]
      simp -implicitDefEqProofs [ga9 d, alD]
      rw [s_cons]
      simp -implicitDefEqProofs [ga9 d, alD]
      have e : D.int ((k : Int) - 1) = alD (some (k - 1)) := by
        simp only [alD]; congr 1; omega
      rw [e]
      simp -implicitDefEqProofs [sa9 d]
      have := hp (by simpa using q)
      simpa using this
theorem need_ok {n : Nat} {h : Heap} {v : D} {P : D → Heap → Prop} {X : XP} (hk : KD h v) (hs : sz v ≤ 100000) (h0 : contB v = false → ∀ l, X 2 [] (h ++ l)) (hp : contB v = true → ∀ l, P .non (h ++ l)) : W (callFn kpg (n + 3) 3 [v] h) P X := by
  rw [w_fn kf3 rfl]
  unfold kb3
  rw [s_cons]
  simp -implicitDefEqProofs [picked]
  refine is_content_ok hk hs fun l => ?_
  simp -implicitDefEqProofs
  refine Tb_b (fun q => ?_) (fun q => ?_)
  · simp -implicitDefEqProofs
    exact hp q l
  · rw [s_cons]
    simp -implicitDefEqProofs
    exact h0 q l
end K79
end
section
set_option linter.all false
set_option autoImplicit false
set_option maxRecDepth 100000
namespace K79
open Mp MpW
/-! ### what stays -/
def Fr (p : Nat → Prop) (h h' : Heap) : Prop := h.length ≤ h'.length ∧ ∀ a, ¬ p a → a < h.length → h'[a]? = h[a]?
theorem Fr.refl (p : Nat → Prop) (h : Heap) : Fr p h h := ⟨Nat.le_refl _, fun _ _ _ => rfl⟩
theorem Fr.trans {p : Nat → Prop} {h h1 h2 : Heap} (a : Fr p h h1) (b : Fr p h1 h2) : Fr p h h2 := ⟨Nat.le_trans a.1 b.1, fun x n l => (b.2 x n (Nat.lt_of_lt_of_le l a.1)).trans (a.2 x n l)⟩
theorem Fr.app {p : Nat → Prop} {h l : Heap} : Fr p h (h ++ l) := ⟨by simp, fun a _ h2 => List.getElem?_append_left h2⟩
theorem Fr.set {p : Nat → Prop} {h : Heap} {a : Nat} {o : MO} (n : p a) : Fr p h (h.set a o) := ⟨by simp, fun b nb _ => set_ne fun e => nb (e ▸ n)⟩
theorem Fr.get {p : Nat → Prop} {h h' : Heap} {a : Nat} {o : MO} (f : Fr p h h') (n : ¬ p a) (e : h[a]? = some o) : h'[a]? = some o := (f.2 a n (lt_of_get e)).trans e
theorem Fr.mono {p q : Nat → Prop} {h h' : Heap} (f : Fr p h h') (i : ∀ a, p a → q a) : Fr q h h' := ⟨f.1, fun a n l => f.2 a (fun x => n (i a x)) l⟩
theorem Un.fr {h h' : Heap} (u : Un h h') : Fr (· < 4) h h' := ⟨u.1, fun a n l => u.2 a (by omega) l⟩
def pd (w : Nat) : Nat → Prop := fun a => a = 4 ∨ a = 5 ∨ a = w
theorem St.fr {T : Nat} {p : Nat → Prop} {h h' : Heap} (s : St T h) (f : Fr p h h') (n : ∀ a, a < 4 → ¬ p a) : St T h' := by
  obtain ⟨gs, cs, l', t, t0, a, b, c, d⟩ := s
  exact ⟨gs, cs, l', t, t0, f.get (n 2 (by omega)) a, f.get (n 1 (by omega)) b, f.get (n 3 (by omega)) c, d⟩
theorem Dk.app {al : Option Nat} {L Wt : List (Nat × D)} {w : Nat} {h l : Heap} (d : Dk al L Wt w h) : Dk al L Wt w (h ++ l) := ⟨get_app d.d4, get_app d.d5, get_app d.dw, d.w6⟩
theorem Dk.fr {al : Option Nat} {L Wt : List (Nat × D)} {w : Nat} {p : Nat → Prop} {h h' : Heap} (d : Dk al L Wt w h) (f : Fr p h h') (n4 : ¬ p 4) (n5 : ¬ p 5) (nw : ¬ p w) : Dk al L Wt w h' := ⟨f.get n4 d.d4, f.get n5 d.d5, f.get nw d.dw, d.w6⟩
theorem Dk.al {al al' : Option Nat} {L Wt : List (Nat × D)} {w : Nat} {h : Heap} (d : Dk al L Wt w h) : Dk al' L Wt w (h.set 4 (dins al' w)) := ⟨set_get d.d4, (set_ne (by decide)).trans d.d5, (set_ne (by have := d.w6; omega)).trans d.dw, d.w6⟩
def lputs (L Wt : List (Nat × D)) : List (Nat × D) := Wt.foldl (fun L p => lput L p.1 p.2) L
theorem lputs_len : ∀ (Wt L : List (Nat × D)), (lputs L Wt).length ≤ L.length + Wt.length
  | [], L => by simp [lputs]
  | p :: Wt, L => by
    have h1 := lputs_len Wt (lput L p.1 p.2)
    have h2 := lput_len L p.1 p.2
    show (lputs (lput L p.1 p.2) Wt).length ≤ _
    simp only [List.length_cons]
    omega
theorem lputs_take {L Wt : List (Nat × D)} {i : Nat} {p : Nat × D} (e : Wt[i]? = some p) : lputs L (Wt.take (i + 1)) = lput (lputs L (Wt.take i)) p.1 p.2 := by
  have hl := lt_of_getL e
  rw [List.take_succ_eq_append_getElem hl]
  have : Wt[i] = p := by
    rw [List.getElem?_eq_getElem hl] at e; injection e
  rw [this]
  simp [lputs]
where
  lt_of_getL {α : Type} {l : List α} {i : Nat} {x : α} (e : l[i]? = some x) : i < l.length := (List.getElem?_eq_some_iff.mp e).1
theorem wt_get {Wt : List (Nat × D)} {i : Nat} {d : D} (e : (Wt.map pr)[i]? = some d) : ∃ p, Wt[i]? = some p ∧ d = pr p := by
  rw [List.getElem?_map] at e
  cases q : Wt[i]? with
  | none => rw [q] at e; cases e
  | some p => rw [q] at e; cases e; exact ⟨p, rfl, rfl⟩
theorem numB_nat {c : Nat} (h : c < 1000000000000000000) : numB (.int (c : Int)) 0 = true := by
  have e1 : ¬ ((c : Int) < 0) := by omega
  have e2 : (c : Int) < 1000000000000000000 := by omega
  have e3 : (0 : Int) ≤ c := by omega
  have e4 : (c : Int).natAbs < 1000000000000000000 := by omega
  show (decide ((c : Int).natAbs < 1000000000000000000) && decide ((0 : Int) ≤ c)) = true
  rw [decide_eq_true e4, decide_eq_true e3]; rfl
/-! ### the disk's methods -/
theorem write_cell {n : Nat} {h : Heap} {v x : D} {P : D → Heap → Prop} {X : XP} (hk : Kn h v) (hn : numB v 0 = false) (hx : X 1 [] h) : W (callFn kpg (n + 3) 8 [.ref 4, v, x] h) P X := by
  rw [w_fn kf8 rfl]
  unfold kb8
  rw [s_cons]
  simp -implicitDefEqProofs [picked]
  refine is_number_ok hk ?_
  simp -implicitDefEqProofs [hn]
  rw [s_cons]
  simp -implicitDefEqProofs
  exact hx
theorem write_cont {n : Nat} {h : Heap} {v x : D} {P : D → Heap → Prop} {X : XP} (hk : Kn h v) (hn : numB v 0 = true) (kx : KD h x) (sx : sz x ≤ 100000) (cx : contB x = false) (hx : ∀ l, X 2 [] (h ++ l)) : W (callFn kpg (n + 4) 8 [.ref 4, v, x] h) P X := by
  rw [w_fn kf8 rfl]
  unfold kb8
  rw [s_cons]
  simp -implicitDefEqProofs [picked]
  refine is_number_ok hk ?_
  simp -implicitDefEqProofs [hn]
  rw [s_cons]
  simp -implicitDefEqProofs [picked]
  exact need_ok kx sx (fun _ => hx) (fun q => by rw [cx] at q; cases q)
theorem write_ok {n c : Nat} {al : Option Nat} {L Wt : List (Nat × D)} {w : Nat} {h : Heap} {x : D} {P : D → Heap → Prop} {X : XP} (d : Dk al L Wt w h) (hc : c < 1000000000000000000) (kx : KD h x) (sx : sz x ≤ 100000) (cx : contB x = true) (hl : Wt.length < 1000)
    (h0 : al = some 0 → ∀ h', Dk al L Wt w h' → Fr (pd w) h h' → X 5 [] h') (hp : al ≠ some 0 → ∀ h', Dk (al.map (· - 1)) L (Wt ++ [(c, x)]) w h' → Fr (pd w) h h' → P .non h') : W (callFn kpg (n + 4) 8 [.ref 4, .int (c : Int), x] h) P X := by
  rw [w_fn kf8 rfl]
  unfold kb8
  rw [s_cons]
  simp -implicitDefEqProofs [picked]
  refine is_number_ok trivial ?_
  simp -implicitDefEqProofs [numB_nat hc]
  rw [s_cons]
  simp -implicitDefEqProofs [picked]
  refine need_ok kx sx (fun q => by rw [cx] at q; cases q) fun _ l => ?_
  rw [s_cons]
  have d1 : Dk al L Wt w (h ++ l) := d.app
  simp -implicitDefEqProofs [picked, d1.d4, dins, fget, List.lookup]
  refine use_ok d1.d4 (fun q => ?_) fun q => ?_
  · exact h0 q _ d1 Fr.app
  · have d2 := d1.al (al' := al.map (· - 1))
    rw [s_cons]
    simp -implicitDefEqProofs [ga11 d2.d4, kindD, d2.dw, served, lim, bmop, bmL]
    refine ⟨by omega, hp q _ ⟨?_, ?_, ?_, d.w6⟩ ?_⟩
    · exact (set_ne (by have := d.w6; omega)).trans d2.d4
    · exact (set_ne (by have := d.w6; omega)).trans d2.d5
    · rw [set_get d2.dw]; simp [pr]
    · exact (Fr.app.trans (Fr.set (Or.inl rfl))).trans (Fr.set (Or.inr (Or.inr rfl)))
theorem allow_ok {n : Nat} {al al' : Option Nat} {w : Nat} {h : Heap} {P : D → Heap → Prop} {X : XP} (d : h[4]? = some (dins al w)) (hs : ∀ k, al' = some k → k < 1000) (hp : P .non (h.set 4 (dins al' w))) : W (callFn kpg (n + 3) 7 [.ref 4, alD al'] h) P X := by
  rw [w_fn kf7 rfl]
  unfold kb7
  rw [s_cons]
  simp -implicitDefEqProofs [picked]
  cases al' with
  | none =>
    simp -implicitDefEqProofs [alD]
    rw [s_cons]
    have := sa9 (al' := none) d
    simp only [alD] at this
    simp -implicitDefEqProofs [this]
    exact hp
  | some k =>
    simp -implicitDefEqProofs [alD, picked]
    refine is_number_ok trivial ?_
    have := hs k rfl
    simp -implicitDefEqProofs [numB_nat (c := k) (Nat.lt_of_lt_of_le this (by decide))]
    rw [s_cons]
    have s9 := sa9 (al' := some k) d
    simp only [alD] at s9
    simp -implicitDefEqProofs [alD, s9]
    exact hp
theorem allow_bad {n : Nat} {v : D} {h : Heap} {P : D → Heap → Prop} {X : XP} (hk : Kn h v) (h1 : v ≠ .non) (h2 : numB v 0 = false) (hx : X 4 [] h) : W (callFn kpg (n + 3) 7 [.ref 4, v] h) P X := by
  rw [w_fn kf7 rfl]
  unfold kb7
  rw [s_cons]
  simp -implicitDefEqProofs [picked, h1]
  refine is_number_ok hk ?_
  simp -implicitDefEqProofs [h2]
  rw [s_cons]
  simp -implicitDefEqProofs
  exact hx
theorem sync_ok {n : Nat} {al : Option Nat} {L Wt : List (Nat × D)} {w : Nat} {h : Heap} {P : D → Heap → Prop} {X : XP} (d : Dk al L Wt w h) (hl : L.length + Wt.length < 1000)
    (h0 : al = some 0 → X 5 [] h) (hp : al ≠ some 0 → ∀ h' w', h.length ≤ w' → Dk (al.map (· - 1)) (lputs L Wt) [] w' h' → Fr (pd w) h h' → P .non h') : W (callFn kpg (n + 2) 10 [.ref 4] h) P X := by
  rw [w_fn kf10 rfl]
  unfold kb10
  rw [s_cons]
  simp -implicitDefEqProofs [picked, d.d4, dins, fget, List.lookup]
  refine use_ok d.d4 h0 fun q => ?_
  have d2 := d.al (al' := al.map (· - 1))
  have f2 : Fr (pd w) h (h.set 4 (dins (al.map (· - 1)) w)) := Fr.set (Or.inl rfl)
  have l2 : (h.set 4 (dins (al.map (· - 1)) w)).length = h.length := by simp
  generalize h.set 4 (dins (al.map (· - 1)) w) = h1 at d2 f2 l2
  rw [s_cons, s_for (by simp [evL, lkOf, evE, Res.bind, ga11 d2.d4, d2.dw])]
  simp -implicitDefEqProofs [ga11 d2.d4, itp, d2.dw]
  have w6 := d.w6
  refine s_for_by (Wt.map pr) (fun i env hh => ∃ (o1 o2 : Option D), env = [some (.ref 4), o1, o2] ∧ hh = h1.set 5 (.dct (kv (lputs L (Wt.take i))))) (by simp [ItV.count, seqAt, d2.dw]) ⟨none, none, rfl, ?_⟩ ?_ ?_ ?_
  · simp only [List.take_zero, lputs, List.foldl_nil]
    apply List.ext_getElem?
    intro i
    by_cases hi : 5 = i
    · subst hi; rw [set_get d2.d5, d2.d5]
    · rw [set_ne hi]
  · rintro i env hh ⟨o1, o2, rfl, rfl⟩
    have e : (h1.set 5 (.dct (kv (lputs L (Wt.take i)))))[w]? = some (.lst (Wt.map pr)) := (set_ne (by omega)).trans d2.dw
    simp [ItV.next, seqAt, e]
  · rintro i dd env hh ⟨o1, o2, rfl, rfl⟩ hd
    obtain ⟨p, hp1, rfl⟩ := wt_get hd
    have e4 : (h1.set 5 (.dct (kv (lputs L (Wt.take i)))))[4]? = some (dins (al.map (· - 1)) w) := (set_ne (by omega)).trans d2.d4
    have e5 : (h1.set 5 (.dct (kv (lputs L (Wt.take i)))))[5]? = some (.dct (kv (lputs L (Wt.take i)))) := set_get d2.d5
    have hlen : (kv (lputs L (Wt.take i))).length < 100000 := by
      have := lputs_len (Wt.take i) L
      have h3 : (Wt.take i).length ≤ Wt.length := by simp [List.length_take]; omega
      simp only [kv, List.length_map]; omega
    simp -implicitDefEqProofs [pr, s_cons, ga10 e4, setIndex, e5, D.key, lim]
    refine ⟨decide_eq_true (by omega), ?_⟩
    refine ⟨_, _, rfl, ?_⟩
    rw [dput_kv, lputs_take hp1]
  · rintro env hh ⟨o1, o2, rfl, rfl⟩
    rw [List.length_map, List.take_length]
    have d3 : Dk (al.map (· - 1)) (lputs L Wt) Wt w (h1.set 5 (.dct (kv (lputs L Wt)))) := ⟨(set_ne (by omega)).trans d2.d4, set_get d2.d5, (set_ne (by omega)).trans d2.dw, w6⟩
    have f3 : Fr (pd w) h1 (h1.set 5 (.dct (kv (lputs L Wt)))) := Fr.set (Or.inr (Or.inl rfl))
    have l3 : (h1.set 5 (.dct (kv (lputs L Wt)))).length = h.length := by simpa using l2
    generalize h1.set 5 (.dct (kv (lputs L Wt))) = h3 at d3 f3 l3
    have d4 : (h3 ++ [MO.lst []])[4]? = some (dins (al.map (· - 1)) w) := get_app d3.d4
    rw [s_cons]
    simp -implicitDefEqProofs [lim, sa11 d4]
    have hw4 := lt_of_get d3.dw
    refine hp q _ h3.length (by omega) ⟨set_get d4, (set_ne (by decide)).trans (get_app d3.d5), (set_ne (by omega)).trans (by simp), by omega⟩ ?_
    exact ((f2.trans f3).trans Fr.app).trans (Fr.set (Or.inl rfl))
theorem waiting_ok {n : Nat} {al : Option Nat} {L Wt : List (Nat × D)} {w : Nat} {h : Heap} {P : D → Heap → Prop} {X : XP} (d : Dk al L Wt w h) (hl : Wt.length < 1000) (hp : ∀ l, P (.tup (Wt.map fun p => .int (p.1 : Int))) (h ++ l)) : W (callFn kpg (n + 1) 11 [.ref 4] h) P X := by
  rw [w_fn kf11 rfl]
  unfold kb11
  rw [s_cons]
  simp -implicitDefEqProofs
  rw [w_comp (by simp [evL, lkOf, evE, Res.bind, ga11 d.d4, d.dw])]
  simp -implicitDefEqProofs [ga11 d.d4, itp, d.dw, wipe]
  refine c_comp_by (Wt.map pr) (fun i hh => hh = h ++ [.lst ((Wt.take i).map fun p => .int (p.1 : Int))]) (by simp [ItV.count, seqAt, d.dw]) (by simp) ?_ ?_ ?_
  · rintro i hh rfl
    simp [ItV.next, seqAt, get_app d.dw]
  · rintro i dd hh rfl hd
    obtain ⟨p, hp1, rfl⟩ := wt_get hd
    simp -implicitDefEqProofs [pr, lim]
    refine ⟨by omega, ?_⟩
    show _ = _
    have hi := (List.getElem?_eq_some_iff.mp hp1)
    rw [List.take_succ_eq_append_getElem hi.1, hi.2]
    simp
  · rintro hh rfl
    rw [List.length_map, List.take_length]
    simp -implicitDefEqProofs [biop, itemsOf, opt]
    exact hp _
end K79
end
section
set_option linter.all false
set_option autoImplicit false
set_option maxRecDepth 100000
namespace K79
open Mp MpW
/-! ### places -/
def plc1 (m : Nat) (v : D) : Bool := numB v 0 && (match v with | .int i => decide (i < (m : Int)) | _ => false)
def ltI : D → D → Bool
  | .int i, .int j => decide (i < j)
  | _, _ => false
def ascB (ds : List D) : Bool := (List.zipWith ltI ds ds.tail).all id
def placesB (v : D) (m : Nat) : Bool := match v with
  | .tup ds => ds.all (plc1 m) && ascB ds
  | _ => false
def noRef (v : D) : Prop := ∀ a, v ≠ .ref a
theorem noRef.kn {v : D} {h : Heap} (n : noRef v) : Kn h v := by
  cases v with
  | ref a => exact absurd rfl (n a)
  | _ => trivial
theorem allB_map {α : Type} (f : α → Bool) : ∀ l : List α, allB (l.map fun x => D.bl (f x)) = some (l.all f)
  | [] => rfl
  | x :: l => by simp [allB, allB_map f l]
theorem cut1 (ds : List D) : cut ds (some 1) none = ds.tail := by
  cases ds with
  | nil => rfl
  | cons a ds =>
    unfold cut cutAt clamp
    simp
def plK (h : Heap) (v : D) : Prop := match v with
  | .tup ds => ds.length < 1000 ∧ ∀ x ∈ ds, noRef x
  | v => Kn h v
theorem are_places_ok {n m : Nat} {h : Heap} {v : D} {P : D → Heap → Prop} {X : XP} (hk : plK h v) (hp : ∀ l, P (.bl (placesB v m)) (h ++ l)) : W (callFn kpg (n + 3) 4 [v, .int (m : Int)] h) P X := by
  rw [w_fn kf4 rfl]
  unfold kb4
  rw [s_cons]
  have nil := hp []
  rw [List.append_nil] at nil
  cases v with
  | tup ds =>
    obtain ⟨hl, hk⟩ := hk
    simp -implicitDefEqProofs [isinTys, isinTy, kindOf, isK]
    rw [w_comp (by simp [evL, lkOf, evE])]
    simp -implicitDefEqProofs [itp, wipe]
    refine c_comp_by ds (fun i hh => hh = h ++ [.lst ((ds.take i).map fun x => .bl (plc1 m x))]) (by simp) (by simp) ?_ ?_ ?_
    · rintro i hh rfl; rfl
    · rintro i dd hh rfl hd
      have hi := (List.getElem?_eq_some_iff.mp hd)
      have hm : dd ∈ ds := List.mem_of_getElem? hd
      simp -implicitDefEqProofs [picked]
      refine is_number_ok (hk dd hm).kn ?_
      simp -implicitDefEqProofs
      refine Tb_b (fun q => ?_) (fun q => ?_)
      · cases dd with
        | int j =>
          simp -implicitDefEqProofs [lim]
          refine ⟨by omega, ?_⟩
          show _ = _
          rw [List.take_succ_eq_append_getElem hi.1, hi.2]
          simp [plc1, q]
        | _ => simp [numB] at q
      · simp -implicitDefEqProofs [lim]
        refine ⟨by omega, ?_⟩
        show _ = _
        rw [List.take_succ_eq_append_getElem hi.1, hi.2]
        simp [plc1, q]
    · rintro hh rfl
      rw [List.take_length]
      simp -implicitDefEqProofs [biop, itemsOf, opt, allB_map]
      refine Tb_b (fun q => ?_) (fun q => ?_)
      · simp -implicitDefEqProofs
        rw [s_cons]
        simp -implicitDefEqProofs
        rw [w_comp el_zip]
        simp -implicitDefEqProofs [part, sliced, cut1, wipe]
        have hint : ∀ x ∈ ds, ∃ j, x = .int j := by
          intro x hx
          have := List.all_eq_true.mp q x hx
          cases x with
          | int j => exact ⟨j, rfl⟩
          | _ => simp [plc1, numB] at this
        generalize hA : MO.lst (ds.map fun x => .bl (plc1 m x)) = A
        obtain ⟨B, hB⟩ : ∃ B, B = List.zipWith ltI ds ds.tail := ⟨_, rfl⟩
        refine c_comp_by (List.zipWith (fun x y => D.tup [x, y]) ds ds.tail) (fun i hh => hh = h ++ [A, .lst ((B.take i).map .bl)]) (by simp) (by simp) ?_ ?_ ?_
        · rintro i hh rfl; rfl
        · rintro i dd hh rfl hd
          rw [List.getElem?_zipWith] at hd
          cases e1 : ds[i]? with
          | none => rw [e1] at hd; simp at hd
          | some x =>
            cases e2 : ds.tail[i]? with
            | none => rw [e1, e2] at hd; simp at hd
            | some y =>
              rw [e1, e2] at hd
              simp at hd
              subst hd
              obtain ⟨j1, rfl⟩ := hint x (List.mem_of_getElem? e1)
              obtain ⟨j2, rfl⟩ := hint y (List.mem_of_mem_tail (List.mem_of_getElem? e2))
              have e3 : B[i]? = some (decide (j1 < j2)) := by
                rw [hB, List.getElem?_zipWith, e1, e2]; rfl
              have hi := (List.getElem?_eq_some_iff.mp e3)
              have hi1 := hi.1
              have hBl : B.length ≤ ds.length := by rw [hB]; simp
              simp -implicitDefEqProofs [lim]
              refine ⟨by omega, ?_⟩
              show _ = _
              rw [List.take_succ_eq_append_getElem hi.1, hi.2]
              simp
        · rintro hh rfl
          have : (List.zipWith (fun x y => D.tup [x, y]) ds ds.tail).length = B.length := by rw [hB]; simp
          rw [this, List.take_length]
          have eB' : allB (List.map D.bl B) = some (ascB ds) := by
            have := allB_map id B
            simp only [id] at this
            rw [this, hB]; rfl
          simp -implicitDefEqProofs [biop, itemsOf, opt, eB']
          have := hp (l := [A, MO.lst (B.map .bl)])
          simp only [placesB, q, Bool.true_and] at this
          exact this
      · rw [s_cons]
        simp -implicitDefEqProofs
        have := hp (l := [MO.lst (ds.map fun x => .bl (plc1 m x))])
        simp only [placesB, q, Bool.false_and] at this
        exact this
  | ref a =>
    rcases hk with ⟨ds, hk⟩ | ⟨ds, hk⟩ <;> (simp -implicitDefEqProofs [isinTys, isinTy, kindOf, isK, hk]; rw [s_cons]; simp -implicitDefEqProofs; exact nil)
  | _ => simp -implicitDefEqProofs [isinTys, isinTy, kindOf, isK]; rw [s_cons]; simp -implicitDefEqProofs; exact nil
/-! ### what was written last -/
def rdv (L Wt : List (Nat × D)) (c : Nat) : D := ((Wt.reverse.lookup c).orElse fun _ => L.lookup c).getD .non
theorem dget_kv (L : List (Nat × D)) (c : Nat) : dget (kv L) (.int (c : Int)) = L.lookup c := by
  induction L with
  | nil => rfl
  | cons p L ih =>
    obtain ⟨a, b⟩ := p
    show (if D.int (a : Int) = .int (c : Int) then some b else dget (kv L) (.int (c : Int))) = _
    rw [ih]
    by_cases q : a = c
    · subst q; simp [List.lookup]
    · rw [if_neg (fun e => q (int_inj.mp e))]
      have : (c == a) = false := by simpa using fun e => q e.symm
      simp [List.lookup, this]
theorem lookup_none {Wt : List (Nat × D)} {c : Nat} (h : ∀ p ∈ Wt, p.1 ≠ c) : Wt.lookup c = none := by
  induction Wt with
  | nil => rfl
  | cons p Wt ih =>
    have h1 : (c == p.1) = false := by simpa using fun e => h p (by simp) e.symm
    simp [List.lookup, h1, ih fun q hq => h q (by simp [hq])]
theorem lookup_at {Wt : List (Nat × D)} {c i : Nat} {p : Nat × D} (e : Wt[i]? = some p) (hc : p.1 = c) (h : ∀ q ∈ Wt.take i, q.1 ≠ c) : Wt.lookup c = some p.2 := by
  induction Wt generalizing i with
  | nil => simp at e
  | cons a Wt ih =>
    cases i with
    | zero =>
      simp at e; subst e
      simp [List.lookup, hc]
    | succ i =>
      have h1 : (c == a.1) = false := by simpa using fun e => h a (by simp) e.symm
      simp only [List.lookup, h1]
      exact ih (by simpa using e) fun q hq => h q (by simp [hq])
theorem read_bad {n : Nat} {h : Heap} {v : D} {P : D → Heap → Prop} {X : XP} (hk : Kn h v) (hn : numB v 0 = false) (hx : X 1 [] h) : W (callFn kpg (n + 3) 9 [.ref 4, v] h) P X := by
  rw [w_fn kf9 rfl]
  unfold kb9
  rw [s_cons]
  simp -implicitDefEqProofs [picked]
  refine is_number_ok hk ?_
  simp -implicitDefEqProofs [hn]
  rw [s_cons]
  simp -implicitDefEqProofs
  exact hx
theorem read_ok {n c : Nat} {al : Option Nat} {L Wt : List (Nat × D)} {w : Nat} {h : Heap} {P : D → Heap → Prop} {X : XP} (d : Dk al L Wt w h) (hc : c < 1000000000000000000) (hp : ∀ l, P (rdv L Wt c) (h ++ l)) : W (callFn kpg (n + 3) 9 [.ref 4, .int (c : Int)] h) P X := by
  rw [w_fn kf9 rfl]
  unfold kb9
  rw [s_cons]
  simp -implicitDefEqProofs [picked]
  refine is_number_ok trivial ?_
  simp -implicitDefEqProofs [numB_nat hc]
  rw [s_cons, s_for (by simp [evL, lkOf, evE, Res.bind, ga11 d.d4, reved, d.dw])]
  simp -implicitDefEqProofs [ga11 d.d4, reved, d.dw, itp]
  refine s_for_by (Wt.map pr).reverse (fun i env hh => ∃ (o1 o2 : Option D), env = [some (.ref 4), some (.int (c : Int)), o1, o2] ∧ hh = h ++ [.lst (Wt.map pr).reverse] ∧ ∀ p ∈ Wt.reverse.take i, p.1 ≠ c) (by simp [ItV.count, seqAt]) ⟨none, none, rfl, by simp, by simp⟩ ?_ ?_ ?_
  · rintro i env hh ⟨o1, o2, rfl, rfl, hq⟩
    simp [ItV.next, seqAt]
  · rintro i dd env hh ⟨o1, o2, rfl, rfl, hq⟩ hd
    rw [← List.map_reverse] at hd
    obtain ⟨p, hp1, rfl⟩ := wt_get hd
    simp -implicitDefEqProofs [pr, s_cons]
    refine Tb_d (fun q => ?_) (fun q => ?_)
    · rw [s_cons]
      simp -implicitDefEqProofs
      have e := lookup_at hp1 (by omega) hq
      have := hp [MO.lst (Wt.map pr).reverse]
      simp only [rdv, e] at this
      simpa using this
    · simp -implicitDefEqProofs
      refine ⟨_, _, rfl, by simp, fun p' hp' => ?_⟩
      have hi := (List.getElem?_eq_some_iff.mp hp1)
      rw [List.take_succ_eq_append_getElem hi.1, hi.2] at hp'
      rcases List.mem_append.mp hp' with z | z
      · exact hq p' z
      · rw [List.mem_singleton.mp z]; omega
  · rintro env hh ⟨o1, o2, rfl, rfl, hq⟩
    have e : Wt.reverse.take (Wt.map pr).reverse.length = Wt.reverse := by
      rw [List.take_of_length_le (by simp)]
    rw [e] at hq
    have e4 : (h ++ [MO.lst (Wt.map pr).reverse])[4]? = some (dins al w) := get_app d.d4
    have e5 : (h ++ [MO.lst (Wt.map pr).reverse])[5]? = some (.dct (kv L)) := get_app d.d5
    rw [s_cons]
    simp -implicitDefEqProofs [ga10 e4, e5, kindD, served, bmop, bmD, D.key, dget_kv]
    have := hp [MO.lst (Wt.map pr).reverse]
    simp only [rdv, lookup_none hq] at this
    simpa using this
end K79
end
section
set_option linter.all false
set_option autoImplicit false
set_option maxRecDepth 100000
namespace K79
open Mp MpW
def pls (ps : List Nat) : D := .tup (ps.map fun (i : Nat) => D.int (i : Int))
def pks (Wt : List (Nat × D)) (ps : List Nat) : List (Nat × D) := ps.filterMap fun i => Wt[i]?
theorem pks_take {L Wt : List (Nat × D)} {ps : List Nat} {i k : Nat} {p : Nat × D} (e : ps[i]? = some k) (e2 : Wt[k]? = some p) : lputs L (pks Wt (ps.take (i + 1))) = lput (lputs L (pks Wt (ps.take i))) p.1 p.2 := by
  have hi := List.getElem?_eq_some_iff.mp e
  rw [List.take_succ_eq_append_getElem hi.1, hi.2]
  simp [pks, lputs, e2]
theorem pks_len (Wt : List (Nat × D)) (ps : List Nat) : (pks Wt ps).length ≤ ps.length := List.length_filterMap_le _ _
theorem cut_bad {n : Nat} {al : Option Nat} {L Wt : List (Nat × D)} {w : Nat} {h : Heap} {v : D} {P : D → Heap → Prop} {X : XP} (d : Dk al L Wt w h) (hk : plK h v) (hn : placesB v Wt.length = false) (hx : ∀ l, X 3 [] (h ++ l)) : W (callFn kpg (n + 4) 12 [.ref 4, v] h) P X := by
  rw [w_fn kf12 rfl]
  unfold kb12
  rw [s_cons]
  simp -implicitDefEqProofs [ga11 d.d4, biop, len, d.dw, opt, picked]
  refine are_places_ok hk fun l => ?_
  simp -implicitDefEqProofs [hn]
  rw [s_cons]
  simp -implicitDefEqProofs
  exact hx l
theorem cut_ok {n : Nat} {al : Option Nat} {L Wt : List (Nat × D)} {w : Nat} {h : Heap} {ps : List Nat} {P : D → Heap → Prop} {X : XP} (d : Dk al L Wt w h) (hps : ∀ i ∈ ps, i < Wt.length) (hl : L.length + Wt.length < 500) (hpl : ps.length ≤ Wt.length) (hn : placesB (pls ps) Wt.length = true)
    (hp : ∀ h' w', h.length ≤ w' → Dk none (lputs L (pks Wt ps)) [] w' h' → Fr (pd w) h h' → P .non h') : W (callFn kpg (n + 4) 12 [.ref 4, pls ps] h) P X := by
  rw [w_fn kf12 rfl]
  unfold kb12
  rw [s_cons]
  have hk : plK h (pls ps) := by
    refine ⟨by simp; omega, fun x hx => ?_⟩
    obtain ⟨i, _, rfl⟩ := List.mem_map.mp hx
    intro a q; cases q
  simp -implicitDefEqProofs [ga11 d.d4, biop, len, d.dw, opt, picked]
  refine are_places_ok hk fun l => ?_
  simp -implicitDefEqProofs [hn]
  have d2 : Dk al L Wt w (h ++ l) := d.app
  have f2 : Fr (pd w) h (h ++ l) := Fr.app
  generalize h ++ l = h1 at d2 f2
  rw [s_cons, s_for (by simp [evL, lkOf, evE, pls])]
  simp -implicitDefEqProofs [itp, pls]
  have w6 := d.w6
  refine s_for_by (ps.map fun (i : Nat) => D.int (i : Int)) (fun i env hh => ∃ (o0 o1 o2 : Option D), env = [some (.ref 4), some (pls ps), o0, o1, o2] ∧ hh = h1.set 5 (.dct (kv (lputs L (pks Wt (ps.take i)))))) (by simp) ⟨none, none, none, rfl, ?_⟩ ?_ ?_ ?_
  · simp only [List.take_zero, lputs, pks, List.filterMap_nil, List.foldl_nil]
    apply List.ext_getElem?
    intro i
    by_cases hi : 5 = i
    · subst hi; rw [set_get d2.d5, d2.d5]
    · rw [set_ne hi]
  · rintro i env hh ⟨o0, o1, o2, rfl, rfl⟩; rfl
  · rintro i dd env hh ⟨o0, o1, o2, rfl, rfl⟩ hd
    rw [List.getElem?_map] at hd
    cases e : ps[i]? with
    | none => rw [e] at hd; cases hd
    | some k =>
      rw [e] at hd; cases hd
      have hk1 := hps k (List.mem_of_getElem? e)
      obtain ⟨p, e2⟩ : ∃ p, Wt[k]? = some p := ⟨_, List.getElem?_eq_getElem hk1⟩
      have e2' : (Wt.map pr)[k]? = some (pr p) := by rw [List.getElem?_map, e2]; rfl
      have e4 : (h1.set 5 (.dct (kv (lputs L (pks Wt (ps.take i))))))[4]? = some (dins al w) := (set_ne (by omega)).trans d2.d4
      have e5 : (h1.set 5 (.dct (kv (lputs L (pks Wt (ps.take i))))))[5]? = some (.dct (kv (lputs L (pks Wt (ps.take i))))) := set_get d2.d5
      have ew : (h1.set 5 (.dct (kv (lputs L (pks Wt (ps.take i))))))[w]? = some (.lst (Wt.map pr)) := (set_ne (by omega)).trans d2.dw
      have hlen : (kv (lputs L (pks Wt (ps.take i)))).length < 100000 := by
        have := lputs_len (pks Wt (ps.take i)) L
        have h4 := pks_len Wt (ps.take i)
        have h3 : (ps.take i).length ≤ ps.length := by simp [List.length_take]; omega
        simp only [kv, List.length_map]; omega
      have epl : place (k : Int) (Wt.map pr).length = some k := place_nat (by simpa using hk1)
      rw [List.length_map] at epl
      simp -implicitDefEqProofs [pls, s_cons, ga11 e4, index, ew, epl, e2, opt, pr, ga10 e4, setIndex, e5, D.key, lim]
      refine ⟨decide_eq_true (by omega), ?_⟩
      refine ⟨_, _, _, rfl, ?_⟩
      rw [dput_kv, pks_take e e2]
  · rintro env hh ⟨o0, o1, o2, rfl, rfl⟩
    rw [List.length_map, List.take_length]
    have d3 : Dk al (lputs L (pks Wt ps)) Wt w (h1.set 5 (.dct (kv (lputs L (pks Wt ps))))) := ⟨(set_ne (by omega)).trans d2.d4, set_get d2.d5, (set_ne (by omega)).trans d2.dw, w6⟩
    have f3 : Fr (pd w) h1 (h1.set 5 (.dct (kv (lputs L (pks Wt ps))))) := Fr.set (Or.inr (Or.inl rfl))
    have f4 := f2.trans f3
    generalize h1.set 5 (.dct (kv (lputs L (pks Wt ps)))) = h3 at d3 f3 f4
    have d4 : (h3 ++ [MO.lst []])[4]? = some (dins al w) := get_app d3.d4
    have hw4 := lt_of_get d3.dw
    have l3 := f4.1
    have dw : ((h3 ++ [MO.lst []]).set 4 (dins al h3.length))[h3.length]? = some (.lst []) := (set_ne (by omega)).trans (by simp)
    have e5 : ((h3 ++ [MO.lst []]).set 4 (dins al h3.length))[5]? = some (.dct (kv (lputs L (pks Wt ps)))) := (set_ne (by decide)).trans (get_app d3.d5)
    have f5 : Fr (pd w) h ((h3 ++ [MO.lst []]).set 4 (dins al h3.length)) := (f4.trans Fr.app).trans (Fr.set (Or.inl rfl))
    have d5 := set_get (o := dins al h3.length) d4
    rw [s_cons]
    simp -implicitDefEqProofs [lim, sa11 d4]
    rw [s_cons]
    generalize (h3 ++ [MO.lst []]).set 4 (dins al h3.length) = h5 at dw e5 f5 d5
    have s9 := sa9 (al' := none) d5
    simp only [alD] at s9
    simp -implicitDefEqProofs [s9]
    exact hp _ h3.length (by omega) ⟨set_get d5, (set_ne (by decide)).trans e5, (set_ne (by omega)).trans dw, by omega⟩ (f5.trans (Fr.set (Or.inl rfl)))
/-! ### cells -/
theorem intsOf_int (l : List Int) : intsOf (l.map .int) = some l := by
  induction l with
  | nil => rfl
  | cons a l ih => simp [intsOf, ih]
def kys (L : List (Nat × D)) : List Int := L.map fun p => (p.1 : Int)
theorem kv_keys (L : List (Nat × D)) : (kv L).map (·.1) = (kys L).map .int := by simp [kv, kys]
theorem insI_mem (x y : Int) : ∀ l : List Int, y ∈ insI x l ↔ y = x ∨ y ∈ l
  | [] => by simp [insI]
  | a :: l => by
    unfold insI
    split
    · simp
    · simp [insI_mem x y l]
      constructor
      · rintro (h | h | h) <;> simp [h]
      · rintro (h | h | h) <;> simp [h]
theorem sortI_mem (y : Int) : ∀ l : List Int, y ∈ sortI l ↔ y ∈ l
  | [] => by simp [sortI]
  | a :: l => by simp [sortI, insI_mem, sortI_mem y l]
theorem insI_len (x : Int) : ∀ l : List Int, (insI x l).length = l.length + 1
  | [] => rfl
  | a :: l => by unfold insI; split <;> simp [insI_len x l]
theorem sortI_len : ∀ l : List Int, (sortI l).length = l.length
  | [] => rfl
  | a :: l => by simp [sortI, insI_len, sortI_len l]
theorem insI_nodup (x : Int) : ∀ l : List Int, l.Nodup → x ∉ l → (insI x l).Nodup
  | [], _, _ => by simp [insI]
  | a :: l, h, hx => by
    unfold insI
    split
    · exact List.nodup_cons.mpr ⟨hx, h⟩
    · have h1 := List.nodup_cons.mp h
      refine List.nodup_cons.mpr ⟨fun q => ?_, insI_nodup x l h1.2 fun q => hx (by simp [q])⟩
      rcases (insI_mem x a l).mp q with q | q
      · exact hx (by simp [q])
      · exact h1.1 q
theorem sortI_nodup : ∀ l : List Int, l.Nodup → (sortI l).Nodup
  | [], _ => by simp [sortI]
  | a :: l, h => by
    have h1 := List.nodup_cons.mp h
    exact insI_nodup a _ (sortI_nodup l h1.2) fun q => h1.1 ((sortI_mem a l).mp q)
/-- the dict that cells gives -/
def valI (L : List (Nat × D)) (i : Int) : D := (dget (kv L) (.int i)).getD .non
def skv (L : List (Nat × D)) (l : List Int) : List (D × D) := l.map fun i => (D.int i, valI L i)
theorem dget_mem {L : List (Nat × D)} {i : Int} (h : i ∈ kys L) : ∃ x, dget (kv L) (.int i) = some x := by
  obtain ⟨p, hp, rfl⟩ := List.mem_map.mp h
  clear h
  rw [dget_kv]
  induction L with
  | nil => cases hp
  | cons a L ih =>
    by_cases q : p.1 = a.1
    · exact ⟨a.2, by simp [List.lookup, q]⟩
    · rcases List.mem_cons.mp hp with r | r
      · exact absurd (congrArg Prod.fst r) q
      · obtain ⟨x, hx⟩ := ih r
        have h1 : (p.1 == a.1) = false := by simpa using q
        exact ⟨x, by simp only [List.lookup, h1]; exact hx⟩
theorem dput_new {l : List (D × D)} {k v : D} (h : ∀ p ∈ l, p.1 ≠ k) : dput l k v = l ++ [(k, v)] := by
  unfold dput
  rw [if_neg]
  intro q
  obtain ⟨p, h1, h2⟩ := List.any_eq_true.mp q
  exact h p h1 (of_decide_eq_true h2)
theorem cells_ok {n : Nat} {al : Option Nat} {L Wt : List (Nat × D)} {w : Nat} {h : Heap} {P : D → Heap → Prop} {X : XP} (d : Dk al L Wt w h) (hl : L.length < 64) (hn : (kys L).Nodup) (hp : ∀ l a, h.length ≤ a → (h ++ l)[a]? = some (.dct (skv L (sortI (kys L)))) → P (.ref a) (h ++ l)) : W (callFn kpg (n + 1) 13 [.ref 4] h) P X := by
  rw [w_fn kf13 rfl]
  unfold kb13
  rw [s_cons]
  simp -implicitDefEqProofs
  rw [w_dcomp el_e]
  have hl2 : (kys L).length < 64 := by simpa [kys] using hl
  simp -implicitDefEqProofs [ga10 d.d4, biop, d.d5, kv_keys, intsOf_int, hl2, itv, seqAt, wipe]
  have hs := sortI_len (kys L)
  refine c_comp_by ((sortI (kys L)).map .int) (fun i hh => hh = h ++ [.lst ((sortI (kys L)).map .int), .dct (skv L ((sortI (kys L)).take i))]) (by simp [ItV.count, seqAt]) (by simp [skv]) ?_ ?_ ?_
  · rintro i hh rfl
    simp [ItV.next, seqAt]
  · rintro i dd hh rfl hd
    rw [List.getElem?_map] at hd
    cases e : (sortI (kys L))[i]? with
    | none => rw [e] at hd; cases hd
    | some k =>
      rw [e] at hd; cases hd
      have hi := List.getElem?_eq_some_iff.mp e
      have hi1 := hi.1
      have hm : k ∈ kys L := (sortI_mem k _).mp (List.mem_of_getElem? e)
      obtain ⟨x, hx⟩ := dget_mem hm
      have e4 : (h ++ [MO.lst ((sortI (kys L)).map .int), .dct (skv L ((sortI (kys L)).take i))])[4]? = some (dins al w) := get_app d.d4
      have e5 : (h ++ [MO.lst ((sortI (kys L)).map .int), .dct (skv L ((sortI (kys L)).take i))])[5]? = some (.dct (kv L)) := get_app d.d5
      have e6 : (h ++ [MO.lst ((sortI (kys L)).map .int), .dct (skv L ((sortI (kys L)).take i))])[h.length + 1]? = some (.dct (skv L ((sortI (kys L)).take i))) := by simp
      have nw : dput (skv L ((sortI (kys L)).take i)) (.int k) x = skv L ((sortI (kys L)).take (i + 1)) := by
        rw [dput_new]
        · rw [List.take_succ_eq_append_getElem hi.1, hi.2]
          simp [skv, valI, hx]
        · intro p hp1 q
          obtain ⟨j, hj, rfl⟩ := List.mem_map.mp hp1
          have q : j = k := by injection q
          subst q
          have nd := sortI_nodup _ hn
          rw [← List.take_append_drop i (sortI (kys L))] at nd
          have := (List.nodup_append.mp nd).2.2 j hj j (by rw [List.drop_eq_getElem_cons hi.1, hi.2]; simp)
          exact this rfl
      have hlen : (skv L ((sortI (kys L)).take i)).length < lim := by
        simp [skv, lim]; omega
      have e7 : (h ++ [MO.lst ((sortI (kys L)).map .int), .dct (skv L ((sortI (kys L)).take i))]).set (h.length + 1) (.dct (skv L ((sortI (kys L)).take (i + 1)))) = h ++ [MO.lst ((sortI (kys L)).map .int), .dct (skv L ((sortI (kys L)).take (i + 1)))] := by simp
      generalize h ++ [MO.lst ((sortI (kys L)).map .int), .dct (skv L ((sortI (kys L)).take i))] = H at e4 e5 e6 e7
      simp -implicitDefEqProofs
      have ev : evE kpg (callFn kpg n) (.v 1) [some (.ref 4), some (.int k)] H = .ok (.int k) H := by simp [evE]
      rw [ev]
      simp -implicitDefEqProofs [ga10 e4, index, e5, D.key, hx, opt, e6, hlen, nw]
      show _ = _
      exact e7
  · rintro hh rfl
    rw [List.length_map, List.take_length]
    refine hp _ _ (by simp) ?_
    simp
end K79
end
section
set_option linter.all false
set_option autoImplicit false
set_option maxRecDepth 100000
namespace K79
open Mp MpW
/-! ### the law's own cells: at 7 the dict, at 8 what landed, the waiting ones at v -/
abbrev kLd : D := .str [108, 97, 110, 100, 101, 100]
abbrev kWt : D := .str [119, 97, 105, 116, 115]
structure Hr (L Wt : List (Nat × D)) (v : Nat) (h : Heap) : Prop where
  e7 : h[7]? = some (.dct [(kLd, .ref 8), (kWt, .ref v)])
  e8 : h[8]? = some (.dct (kv L))
  ev : h[v]? = some (.lst (Wt.map pr))
  v9 : 9 ≤ v
def ph (v : Nat) : Nat → Prop := fun a => a = 7 ∨ a = 8 ∨ a = v
theorem Hr.app {L Wt : List (Nat × D)} {v : Nat} {h l : Heap} (d : Hr L Wt v h) : Hr L Wt v (h ++ l) := ⟨get_app d.e7, get_app d.e8, get_app d.ev, d.v9⟩
theorem Hr.fr {L Wt : List (Nat × D)} {v : Nat} {p : Nat → Prop} {h h' : Heap} (d : Hr L Wt v h) (f : Fr p h h') (n7 : ¬ p 7) (n8 : ¬ p 8) (nv : ¬ p v) : Hr L Wt v h' := ⟨f.get n7 d.e7, f.get n8 d.e8, f.get nv d.ev, d.v9⟩
@[simp] theorem ix_ld {L Wt : List (Nat × D)} {v : Nat} {h : Heap} (d : Hr L Wt v h) : index (.ref 7) kLd h = .ok (.ref 8) h := by
  simp [index, d.e7, D.key, dget, opt]
@[simp] theorem ix_wt {L Wt : List (Nat × D)} {v : Nat} {h : Heap} (d : Hr L Wt v h) : index (.ref 7) kWt h = .ok (.ref v) h := by
  simp [index, d.e7, D.key, dget, opt]
theorem si_wt {L Wt Wt' : List (Nat × D)} {v v' : Nat} {h : Heap} (d : Hr L Wt v h) (e : h[v']? = some (.lst (Wt'.map pr))) (n : 9 ≤ v') : ∃ h', setIndex (.ref 7) kWt (.ref v') h = .ok () h' ∧ Hr L Wt' v' h' ∧ Fr (ph v) h h' := by
  refine ⟨h.set 7 (.dct [(kLd, .ref 8), (kWt, .ref v')]), by simp [setIndex, d.e7, D.key, dput, lim], ⟨set_get d.e7, (set_ne (by decide)).trans d.e8, (set_ne (by omega)).trans e, n⟩, Fr.set (Or.inl rfl)⟩
theorem joread_ok {n c : Nat} {L Wt : List (Nat × D)} {v : Nat} {h : Heap} {P : D → Heap → Prop} {X : XP} (d : Hr L Wt v h) (hp : ∀ l, P (rdv L Wt c) (h ++ l)) : W (callFn kpg (n + 1) 20 [.ref 7, .int (c : Int)] h) P X := by
  rw [w_fn kf20 rfl]
  unfold kb20
  rw [s_cons, s_for (by simp [evL, lkOf, evE, Res.bind, ix_wt d, reved, d.ev])]
  simp -implicitDefEqProofs [ix_wt d, reved, d.ev, itp]
  refine s_for_by (Wt.map pr).reverse (fun i env hh => ∃ (o1 o2 : Option D), env = [some (.ref 7), some (.int (c : Int)), o1, o2] ∧ hh = h ++ [.lst (Wt.map pr).reverse] ∧ ∀ p ∈ Wt.reverse.take i, p.1 ≠ c) (by simp [ItV.count, seqAt]) ⟨none, none, rfl, by simp, by simp⟩ ?_ ?_ ?_
  · rintro i env hh ⟨o1, o2, rfl, rfl, hq⟩
    simp [ItV.next, seqAt]
  · rintro i dd env hh ⟨o1, o2, rfl, rfl, hq⟩ hd
    rw [← List.map_reverse] at hd
    obtain ⟨p, hp1, rfl⟩ := wt_get hd
    simp -implicitDefEqProofs [pr, s_cons]
    refine Tb_d (fun q => ?_) (fun q => ?_)
    · rw [s_cons]
      simp -implicitDefEqProofs
      have e := lookup_at hp1 (by omega) hq
      have := hp [MO.lst (Wt.map pr).reverse]
      simp only [rdv, e] at this
      simpa using this
    · simp -implicitDefEqProofs
      refine ⟨_, _, rfl, by simp, fun p' hp' => ?_⟩
      have hi := (List.getElem?_eq_some_iff.mp hp1)
      rw [List.take_succ_eq_append_getElem hi.1, hi.2] at hp'
      rcases List.mem_append.mp hp' with z | z
      · exact hq p' z
      · rw [List.mem_singleton.mp z]; omega
  · rintro env hh ⟨o1, o2, rfl, rfl, hq⟩
    have e : Wt.reverse.take (Wt.map pr).reverse.length = Wt.reverse := by
      rw [List.take_of_length_le (by simp)]
    rw [e] at hq
    have d1 : Hr L Wt v (h ++ [MO.lst (Wt.map pr).reverse]) := d.app
    have := hp [MO.lst (Wt.map pr).reverse]
    simp only [rdv, lookup_none hq] at this
    generalize h ++ [MO.lst (Wt.map pr).reverse] = H at d1 this
    rw [s_cons]
    simp -implicitDefEqProofs [ix_ld d1, d1.e8, kindD, served, bmop, bmD, D.key, dget_kv]
    simpa using this
theorem josync_ok {n : Nat} {L Wt : List (Nat × D)} {v : Nat} {h : Heap} {P : D → Heap → Prop} {X : XP} (d : Hr L Wt v h) (hl : L.length + Wt.length < 1000)
    (hp : ∀ h' v', h.length ≤ v' → Hr (lputs L Wt) [] v' h' → Fr (ph v) h h' → P .non h') : W (callFn kpg (n + 1) 21 [.ref 7] h) P X := by
  rw [w_fn kf21 rfl]
  unfold kb21
  rw [s_cons]
  have v9 := d.v9
  simp -implicitDefEqProofs [ix_ld d]
  rw [s_cons, s_for (by simp [evL, lkOf, evE, Res.bind, ix_wt d, d.ev])]
  simp -implicitDefEqProofs [ix_wt d, itp, d.ev]
  refine s_for_by (Wt.map pr) (fun i env hh => ∃ (o1 o2 : Option D), env = [some (.ref 7), some (.ref 8), o1, o2] ∧ hh = h.set 8 (.dct (kv (lputs L (Wt.take i))))) (by simp [ItV.count, seqAt, d.ev]) ⟨none, none, rfl, ?_⟩ ?_ ?_ ?_
  · simp only [List.take_zero, lputs, List.foldl_nil]
    apply List.ext_getElem?
    intro i
    by_cases hi : 8 = i
    · subst hi; rw [set_get d.e8, d.e8]
    · rw [set_ne hi]
  · rintro i env hh ⟨o1, o2, rfl, rfl⟩
    have e : (h.set 8 (.dct (kv (lputs L (Wt.take i)))))[v]? = some (.lst (Wt.map pr)) := (set_ne (by omega)).trans d.ev
    simp [ItV.next, seqAt, e]
  · rintro i dd env hh ⟨o1, o2, rfl, rfl⟩ hd
    obtain ⟨p, hp1, rfl⟩ := wt_get hd
    have e5 : (h.set 8 (.dct (kv (lputs L (Wt.take i)))))[8]? = some (.dct (kv (lputs L (Wt.take i)))) := set_get d.e8
    have hlen : (kv (lputs L (Wt.take i))).length < 100000 := by
      have := lputs_len (Wt.take i) L
      have h3 : (Wt.take i).length ≤ Wt.length := by simp [List.length_take]; omega
      simp only [kv, List.length_map]; omega
    simp -implicitDefEqProofs [pr, s_cons, setIndex, e5, D.key, lim]
    refine ⟨decide_eq_true (by omega), ?_⟩
    refine ⟨_, _, rfl, ?_⟩
    rw [dput_kv, lputs_take hp1]
  · rintro env hh ⟨o1, o2, rfl, rfl⟩
    rw [List.length_map, List.take_length]
    have d3 : Hr (lputs L Wt) Wt v (h.set 8 (.dct (kv (lputs L Wt)))) := ⟨(set_ne (by omega)).trans d.e7, set_get d.e8, (set_ne (by omega)).trans d.ev, v9⟩
    have f3 : Fr (ph v) h (h.set 8 (.dct (kv (lputs L Wt)))) := Fr.set (Or.inr (Or.inl rfl))
    generalize h.set 8 (.dct (kv (lputs L Wt))) = h3 at d3 f3
    have d4 : Hr (lputs L Wt) Wt v (h3 ++ [MO.lst []]) := d3.app
    have hv := lt_of_get d3.ev
    have l3 := f3.1
    obtain ⟨h5, s5, d5, f5⟩ := si_wt (Wt' := []) (v' := h3.length) d4 (by simp) (by omega)
    rw [s_cons]
    simp -implicitDefEqProofs [lim, s5]
    exact hp h5 h3.length l3 d5 ((f3.trans Fr.app).trans f5)
theorem jocut_ok {n : Nat} {L Wt : List (Nat × D)} {v : Nat} {h : Heap} {ps : List Nat} {P : D → Heap → Prop} {X : XP} (d : Hr L Wt v h) (hps : ∀ i ∈ ps, i < Wt.length) (hl : L.length + Wt.length < 500) (hpl : ps.length ≤ Wt.length)
    (hp : ∀ h' v', h.length ≤ v' → Hr (lputs L (pks Wt ps)) [] v' h' → Fr (ph v) h h' → P .non h') : W (callFn kpg (n + 1) 22 [.ref 7, pls ps] h) P X := by
  rw [w_fn kf22 rfl]
  unfold kb22
  rw [s_cons]
  have v9 := d.v9
  simp -implicitDefEqProofs [ix_ld d]
  rw [s_cons, s_for (by simp [evL, lkOf, evE, pls])]
  simp -implicitDefEqProofs [itp, pls]
  refine s_for_by (ps.map fun (i : Nat) => D.int (i : Int)) (fun i env hh => ∃ (o0 o1 o2 : Option D), env = [some (.ref 7), some (pls ps), some (.ref 8), o0, o1, o2] ∧ hh = h.set 8 (.dct (kv (lputs L (pks Wt (ps.take i)))))) (by simp) ⟨none, none, none, rfl, ?_⟩ ?_ ?_ ?_
  · simp only [List.take_zero, lputs, pks, List.filterMap_nil, List.foldl_nil]
    apply List.ext_getElem?
    intro i
    by_cases hi : 8 = i
    · subst hi; rw [set_get d.e8, d.e8]
    · rw [set_ne hi]
  · rintro i env hh ⟨o0, o1, o2, rfl, rfl⟩; rfl
  · rintro i dd env hh ⟨o0, o1, o2, rfl, rfl⟩ hd
    rw [List.getElem?_map] at hd
    cases e : ps[i]? with
    | none => rw [e] at hd; cases hd
    | some k =>
      rw [e] at hd; cases hd
      have hk1 := hps k (List.mem_of_getElem? e)
      obtain ⟨p, e2⟩ : ∃ p, Wt[k]? = some p := ⟨_, List.getElem?_eq_getElem hk1⟩
      have d3 : Hr (lputs L (pks Wt (ps.take i))) Wt v (h.set 8 (.dct (kv (lputs L (pks Wt (ps.take i)))))) := ⟨(set_ne (by omega)).trans d.e7, set_get d.e8, (set_ne (by omega)).trans d.ev, v9⟩
      have hlen : (kv (lputs L (pks Wt (ps.take i)))).length < 100000 := by
        have := lputs_len (pks Wt (ps.take i)) L
        have h4 := pks_len Wt (ps.take i)
        have h3 : (ps.take i).length ≤ ps.length := by simp [List.length_take]; omega
        simp only [kv, List.length_map]; omega
      have epl : place (k : Int) Wt.length = some k := place_nat hk1
      have eix : index (.ref v) (.int (k : Int)) (h.set 8 (.dct (kv (lputs L (pks Wt (ps.take i)))))) = .ok (pr p) (h.set 8 (.dct (kv (lputs L (pks Wt (ps.take i)))))) := by
        simp [index, d3.ev, epl, e2, opt]
      have e8 := d3.e8
      simp -implicitDefEqProofs [pls, s_cons, ix_wt d3, eix, pr, setIndex, e8, D.key, lim]
      refine ⟨decide_eq_true (by omega), ?_⟩
      refine ⟨_, _, _, rfl, ?_⟩
      rw [dput_kv, pks_take e e2]
  · rintro env hh ⟨o0, o1, o2, rfl, rfl⟩
    rw [List.length_map, List.take_length]
    have d3 : Hr (lputs L (pks Wt ps)) Wt v (h.set 8 (.dct (kv (lputs L (pks Wt ps))))) := ⟨(set_ne (by omega)).trans d.e7, set_get d.e8, (set_ne (by omega)).trans d.ev, v9⟩
    have f3 : Fr (ph v) h (h.set 8 (.dct (kv (lputs L (pks Wt ps))))) := Fr.set (Or.inr (Or.inl rfl))
    generalize h.set 8 (.dct (kv (lputs L (pks Wt ps)))) = h3 at d3 f3
    have d4 : Hr (lputs L (pks Wt ps)) Wt v (h3 ++ [MO.lst []]) := d3.app
    have hv := lt_of_get d3.ev
    have l3 := f3.1
    obtain ⟨h5, s5, d5, f5⟩ := si_wt (Wt' := []) (v' := h3.length) d4 (by simp) (by omega)
    rw [s_cons]
    simp -implicitDefEqProofs [lim, s5]
    exact hp h5 h3.length l3 d5 ((f3.trans Fr.app).trans f5)
/-! ### small functions -/
theorem is_truth_ok {n : Nat} {h : Heap} {a b : Bool} {P : D → Heap → Prop} {X : XP} (hp : P (.bl (a == b)) h) : W (callFn kpg (n + 1) 18 [.bl a, .bl b] h) P X := by
  rw [w_fn kf18 rfl]
  cases a <;> cases b <;> (simp -implicitDefEqProofs [kb18, s_cons, cmpop, isD]; exact hp)
theorem law_whole_ok {n : Nat} {h : Heap} {v : D} {P : D → Heap → Prop} {X : XP} (hk : Kn h v) (hp : P (.bl (match v with | .int _ => true | _ => false)) h) : W (callFn kpg (n + 1) 19 [v] h) P X := by
  rw [w_fn kf19 rfl]
  cases v with
  | ref a =>
    rcases hk with ⟨ds, hk⟩ | ⟨ds, hk⟩ <;> (simp -implicitDefEqProofs [s_cons, kb19, isinTys, isinTy, kindOf, isK, hk]; exact hp)
  | _ => simp -implicitDefEqProofs [s_cons, kb19, isinTys, isinTy, kindOf, isK]; exact hp
end K79
end
section
set_option linter.all false
set_option autoImplicit false
set_option maxRecDepth 100000
namespace K79
open Mp MpW
/-! ### drawn places -/
theorem pls_ok {ps : List Nat} {m : Nat} (h1 : ∀ i ∈ ps, i < m) (h2 : ps.Pairwise (· < ·)) (hm : m < 1000) : placesB (pls ps) m = true := by
  simp only [pls, placesB, Bool.and_eq_true]
  constructor
  · rw [List.all_eq_true]
    intro x hx
    obtain ⟨i, hi, rfl⟩ := List.mem_map.mp hx
    have := h1 i hi
    have e : numB (.int (i : Int)) 0 = true := numB_nat (Nat.lt_of_lt_of_le (Nat.lt_trans this hm) (by decide))
    simp [plc1, e, this]
  · clear h1
    induction ps with
    | nil => rfl
    | cons a ps ih =>
      have h3 := List.pairwise_cons.mp h2
      have ih := ih h3.2
      cases ps with
      | nil => rfl
      | cons b ps =>
        have := h3.1 b (by simp)
        simp only [ascB, List.map_cons, List.tail_cons, List.zipWith_cons_cons, List.all_cons, Bool.and_eq_true] at ih ⊢
        exact ⟨by simp [ltI, this], ih⟩
theorem jplaces_ok {n m T : Nat} {h : Heap} {P : D → Heap → Prop} {X : XP} (s : St T h) (hT : T + m < 900000) (hm : m < 1000) (hp : ∀ (ps : List Nat) T' h', (∀ i ∈ ps, i < m) → ps.Pairwise (· < ·) → ps.length ≤ m → T' ≤ T + 1 + m → St T' h' → Un h h' → P (pls ps) h') : W (callFn kpg (n + 3) 24 [.ref 2, .int (m : Int)] h) P X := by
  rw [w_fn kf24 rfl]
  unfold kb24
  rw [s_cons]
  simp -implicitDefEqProofs [picked]
  refine draw_ok (size := 4) s (by omega) (by omega) (by omega) fun r h1 hr s1 u1 => ?_
  simp -implicitDefEqProofs
  rw [s_cons]
  have hsm := smallI_nat (n := m) (by omega)
  simp -implicitDefEqProofs [w_comp, hsm, wipe]
  refine c_comp_by (rangeL 0 m) (fun i hh => ∃ (ps : List Nat) (T' : Nat), hh[h1.length]? = some (.lst (ps.map fun (i : Nat) => D.int (i : Int))) ∧ (∀ j ∈ ps, j < i) ∧ ps.Pairwise (· < ·) ∧ ps.length ≤ i ∧ T' ≤ T + 1 + i ∧ St T' hh ∧ Un h1 hh) (by simp) ⟨[], T + 1, by simp, by simp, by simp, by simp, by omega, s1.app, Un.app⟩ ?_ ?_ ?_
  · intro i hh _; rfl
  · rintro i dd hh ⟨ps, T', e1, e2, e3, e4, e5, s3, u3⟩ hd
    rw [rangeL_get] at hd
    split at hd
    case isFalse => cases hd
    rename_i hi
    have hd : dd = .int (i : Int) := by rw [← Option.some.inj hd, Int.zero_add]
    subst hd
    have step : ∀ T2 h2, T2 ≤ T' + 1 → St T2 h2 → Un hh h2 → Op (h2[h1.length]?) fun o => Ls o fun acc => acc.length < lim ∧ AtH (fun i hh => ∃ (ps : List Nat) (T' : Nat), hh[h1.length]? = some (.lst (ps.map fun (i : Nat) => D.int (i : Int))) ∧ (∀ j ∈ ps, j < i) ∧ ps.Pairwise (· < ·) ∧ ps.length ≤ i ∧ T' ≤ T + 1 + i ∧ St T' hh ∧ Un h1 hh) (i + 1) (h2.set h1.length (.lst (acc ++ [.int (i : Int)]))) := by
      intro T2 h2 t2 s4 u4
      have e1' := u4.get s1.four e1
      rw [e1']
      simp only [Op_some, Ls_lst]
      refine ⟨by simp [lim]; omega, ps ++ [i], T2, ?_, ?_, ?_, ?_, by omega, s4.set_new s1.four, (u3.trans u4).set_new (Nat.le_refl _)⟩
      · rw [set_get e1']; simp
      · intro j hj
        rcases List.mem_append.mp hj with z | z
        · have := e2 j z; omega
        · rw [List.mem_singleton.mp z]; omega
      · refine List.pairwise_append.mpr ⟨e3, by simp, fun a ha b hb => ?_⟩
        rw [List.mem_singleton.mp hb]; exact e2 a ha
      · simp; omega
    have skip : ∀ T2 h2, T2 ≤ T' + 1 → St T2 h2 → Un hh h2 → AtH (fun i hh => ∃ (ps : List Nat) (T' : Nat), hh[h1.length]? = some (.lst (ps.map fun (i : Nat) => D.int (i : Int))) ∧ (∀ j ∈ ps, j < i) ∧ ps.Pairwise (· < ·) ∧ ps.length ≤ i ∧ T' ≤ T + 1 + i ∧ St T' hh ∧ Un h1 hh) (i + 1) h2 := by
      intro T2 h2 t2 s4 u4
      exact ⟨ps, T2, u4.get s1.four e1, fun j hj => by have := e2 j hj; omega, e3, by omega, by omega, s4, u3.trans u4⟩
    simp -implicitDefEqProofs [picked]
    refine Tb_d (fun q => ?_) (fun q => ?_)
    · simp -implicitDefEqProofs [q]
      exact step T' hh (by omega) s3 (Un.refl _)
    · have ez : (1 : Int) + r = ((1 + r : Nat) : Int) := by omega
      simp -implicitDefEqProofs [picked]
      rw [ez]
      refine draw_ok (size := 1 + r) s3 (by omega) (by omega) (by omega) fun r2 h2 hr2 s4 u4 => ?_
      simp -implicitDefEqProofs
      refine Tb_d (fun q2 => ?_) (fun q2 => ?_)
      · simp -implicitDefEqProofs
        exact step (T' + 1) h2 (by omega) s4 u4
      · simp -implicitDefEqProofs
        exact skip (T' + 1) h2 (by omega) s4 u4
  · rintro hh ⟨ps, T', e1, e2, e3, e4, e5, s3, u3⟩
    rw [rangeL_len] at e2 e4 e5
    simp -implicitDefEqProofs [biop, itemsOf, e1, opt]
    exact hp ps T' hh e2 e3 e4 (by omega) s3 (u1.trans u3)
/-! ### contents, told by the law -/
mutual
theorem KD.app {h l : Heap} : ∀ d : D, KD h d → KD (h ++ l) d
  | .non, _ => trivial
  | .bl _, _ => trivial
  | .int _, _ => trivial
  | .str _, _ => trivial
  | .ref a, k => by
    simp only [KD] at k ⊢
    exact k.imp (fun ⟨ds, e⟩ => ⟨ds, get_app e⟩) (fun ⟨ds, e⟩ => ⟨ds, get_app e⟩)
  | .tup ds, k => by
    simp only [KD] at k ⊢
    exact KDs.app ds k
theorem KDs.app {h l : Heap} : ∀ ds : List D, KDs h ds → KDs (h ++ l) ds
  | [], _ => trivial
  | d :: ds, k => ⟨KD.app d k.1, KDs.app ds k.2⟩
end
theorem KDs.mem {h : Heap} : ∀ {ds : List D}, KDs h ds → ∀ x ∈ ds, KD h x
  | d :: ds, k, x, hx => by
    rcases List.mem_cons.mp hx with rfl | hx
    · exact k.1
    · exact KDs.mem k.2 x hx
def dB : Nat → D → Bool
  | 0, .tup _ => false
  | k + 1, .tup ds => ds.all (dB k)
  | _, _ => true
theorem lawcont_ok : ∀ (k : Nat) {n : Nat} {h : Heap} {v : D} {i : Int} {P : D → Heap → Prop} {X : XP}, dB k v = true → KD h v → sz v ≤ 100000 → (∀ l, P (.bl (contB v)) (h ++ l)) → W (callFn kpg (n + k + 2) 25 [v, .int i] h) P X := by
  intro k
  have leaf : ∀ {k n : Nat} {h : Heap} {v : D} {i : Int} {P : D → Heap → Prop} {X : XP}, (∀ ds, v ≠ .tup ds) → KD h v → (∀ l, P (.bl (contB v)) (h ++ l)) → W (callFn kpg (n + 2) 25 [v, .int i] h) P X := by
    intro k n h v i P X hv hk hp
    have hp := hp []
    rw [List.append_nil] at hp
    rw [w_fn kf25 rfl]
    unfold kb25
    rw [s_cons]
    cases v with
    | tup ds => exact absurd rfl (hv ds)
    | ref a =>
      have hk' := hk.kn
      rcases hk with ⟨ds, hk⟩ | ⟨ds, hk⟩ <;>
      · simp -implicitDefEqProofs [isinTys, isinTy, kindOf, isK, hk]
        rw [s_cons]
        simp -implicitDefEqProofs [isinTys, isinTy, kindOf, isK, hk, picked]
        refine law_whole_ok hk' ?_
        simp -implicitDefEqProofs
        exact hp
    | int j =>
      simp -implicitDefEqProofs [isinTys, isinTy, kindOf, isK]
      rw [s_cons]
      simp -implicitDefEqProofs [isinTys, isinTy, kindOf, isK, picked]
      refine law_whole_ok trivial ?_
      have e : decide ((if j < 0 then -j else j) < 1000000000000000000) = contB (.int j) := by
        simp only [contB]
        rw [decide_eq_decide]; split <;> omega
      simp -implicitDefEqProofs [biop, e]
      exact hp
    | bl j =>
      simp -implicitDefEqProofs [isinTys, isinTy, kindOf, isK]
      rw [s_cons]
      simp -implicitDefEqProofs [isinTys, isinTy, kindOf, isK, picked]
      refine law_whole_ok trivial ?_
      simp -implicitDefEqProofs
      exact hp
    | _ =>
      simp -implicitDefEqProofs [isinTys, isinTy, kindOf, isK]
      rw [s_cons]
      simp -implicitDefEqProofs [isinTys, isinTy, kindOf, isK, picked]
      exact hp
  induction k with
  | zero =>
    intro n h v i P X hd hk hs hp
    exact leaf (k := 0) (fun ds q => by subst q; simp [dB] at hd) hk hp
  | succ k ih =>
    intro n h v i P X hd hk hs hp
    by_cases hv : ∃ ds, v = .tup ds
    · obtain ⟨ds, rfl⟩ := hv
      simp only [dB, List.all_eq_true] at hd
      simp only [KD] at hk
      simp only [sz] at hs
      have hlen := len_szs ds
      rw [show n + (k + 1) + 2 = (n + k + 2) + 1 by omega, w_fn kf25 rfl]
      unfold kb25
      rw [s_cons]
      simp -implicitDefEqProofs [isinTys, isinTy, kindOf, isK]
      rw [s_cons]
      simp -implicitDefEqProofs
      rw [w_comp (by simp [evL, lkOf, evE])]
      simp -implicitDefEqProofs [itp, wipe]
      refine c_comp_by ds (fun j hh => ∃ (acc : List D) (l : Heap), hh = h ++ (.lst acc :: l) ∧ acc.isEmpty = contsB (ds.take j) ∧ acc.length ≤ j) (by simp) ⟨[], [], by simp, by simp [contsB], by simp⟩ ?_ ?_ ?_
      · intro j hh _; rfl
      · rintro j dd hh ⟨acc, l, rfl, e2, e3⟩ hx
        have hm := List.mem_of_getElem? hx
        have hi := List.getElem?_eq_some_iff.mp hx
        have hi1 := hi.1
        have hsz : sz dd ≤ 100000 := by
          have : ∀ (ds : List D), dd ∈ ds → sz dd ≤ szs ds := by
            intro ds
            induction ds with
            | nil => intro z; cases z
            | cons a ds ih2 =>
              intro z
              simp only [szs]
              rcases List.mem_cons.mp z with rfl | z
              · omega
              · have := ih2 z; omega
          have := this ds hm; omega
        have ecs : contsB (ds.take (j + 1)) = (contsB (ds.take j) && contB dd) := by
          rw [List.take_succ_eq_append_getElem hi.1, hi.2, contsB_app]
          simp [contsB]
        simp -implicitDefEqProofs [picked]
        refine ih (hd dd hm) ((hk.mem dd hm).app) hsz fun l2 => ?_
        simp -implicitDefEqProofs
        refine Tb_b (fun q => ?_) (fun q => ?_)
        · exact ⟨fun z => (by cases z), fun _ => ⟨acc, l ++ l2, by simp, by rw [ecs, q, e2]; simp, by omega⟩⟩
        · have e4 : (h ++ (MO.lst acc :: (l ++ l2)))[h.length]? = some (.lst acc) := by simp
          simp -implicitDefEqProofs [lim]
          refine ⟨by omega, acc ++ [.int 1], l ++ l2, by simp, by rw [ecs, q]; simp, by simp; omega⟩
      · rintro hh ⟨acc, l, rfl, e2, e3⟩
        rw [List.take_length] at e2
        have := hp (MO.lst acc :: l)
        simp only [contB] at this
        rw [← e2] at this
        simp -implicitDefEqProofs [seqAt]
        simpa using this
    · rw [show n + (k + 1) + 2 = (n + k + 1) + 2 by omega]
      exact leaf (k := 0) (fun ds q => hv ⟨ds, q⟩) hk hp
end K79
end
section
set_option linter.all false
set_option autoImplicit false
set_option maxRecDepth 100000
namespace K79
open Mp MpW
/-! ### equal things -/
mutual
theorem eqv_refl : ∀ p : PD, eqv p p = true
  | .non => rfl
  | .bl b => by simp [eqv]
  | .int i => by simp [eqv]
  | .str s => by simp [eqv]
  | .lst xs => by simp only [eqv]; exact eqvs_refl xs
  | .tup xs => by simp only [eqv]; exact eqvs_refl xs
theorem eqvs_refl : ∀ p : List PD, eqvs p p = true
  | [] => rfl
  | p :: ps => by simp only [eqvs, eqv_refl p, eqvs_refl ps, Bool.and_self]
end
theorem ne_pl {k : Nat} {x : D} {h : Heap} (p : plB k x = true) (hk : k ≤ 60) : cmpop .ne x x h = some false := by
  obtain ⟨q, e⟩ := rd_pl k 60 x p hk
  have hd : dcts h x x = none := by
    cases x with
    | ref a => simp [plB] at p
    | _ => rfl
  show (eqD h x x).map (!·) = some false
  unfold eqD
  by_cases hs : scal x x = true
  · rw [if_pos hs]; simp
  · rw [if_neg hs, hd, e h]; simp [eqv_refl]
theorem rd_lst {h : Heap} {k a : Nat} {ds : List D} (e : h[a]? = some (.lst ds)) : rd h (k + 1) (.ref a) = (mapO (rd h k) ds).map .lst := by
  simp only [rd, e]
theorem rd_int {h : Heap} {i : Int} : ∀ k, rd h k (.int i) = some (.int i)
  | 0 => rfl
  | k + 1 => rfl
theorem ne_lst {h : Heap} {a b : Nat} {l : List Int} (ea : h[a]? = some (.lst (l.map .int))) (eb : h[b]? = some (.lst (l.map .int))) : cmpop .ne (.ref a) (.ref b) h = some false := by
  have hm : ∀ (l : List Int), mapO (rd h 59) (l.map .int) = some (l.map .int) := by
    intro l
    induction l with
    | nil => rfl
    | cons i l ih => simp only [List.map_cons, mapO, rd_int, ih]
  have ra : rd h 60 (.ref a) = some (.lst (l.map .int)) := by
    rw [rd_lst (k := 59) ea, hm]; rfl
  have rb : rd h 60 (.ref b) = some (.lst (l.map .int)) := by
    rw [rd_lst (k := 59) eb, hm]; rfl
  have hd : dcts h (.ref a) (.ref b) = none := by simp only [dcts, ea]
  show (eqD h _ _).map (!·) = some false
  unfold eqD
  rw [if_neg (by simp [scal]), hd, ra, rb]
  simp [eqv_refl]
theorem dHits_ok {h : Heap} {kb : List (D × D)} : ∀ (l : List (D × D)), (∀ p ∈ l, dget kb p.1 = some p.2 ∧ ∃ q, rd h 60 p.2 = some q) → dHits h kb l = some true
  | [], _ => rfl
  | (k, v) :: l, hl => by
    obtain ⟨h1, q, h2⟩ := hl (k, v) (by simp)
    simp only at h1 h2
    simp only [dHits, h1, h2, dHits_ok l fun p hp => hl p (by simp [hp]), eqv_refl, Bool.and_self]
def PL (L : List (Nat × D)) : Prop := ∀ p ∈ L, Ct 3 p.2
theorem PL.get {L : List (Nat × D)} (hp : PL L) {i : Int} {x : D} (e : dget (kv L) (.int i) = some x) : Ct 3 x := by
  induction L with
  | nil => cases e
  | cons a L ih =>
    have e : (if D.int (a.1 : Int) = .int i then some a.2 else dget (kv L) (.int i)) = some x := e
    split at e
    · injection e with e; rw [← e]; exact hp a (by simp)
    · exact ih (fun p q => hp p (by simp [q])) e
theorem ne_dct {h : Heap} {a b : Nat} {L : List (Nat × D)} (hp : PL L) (ea : h[a]? = some (.dct (skv L (sortI (kys L))))) (eb : h[b]? = some (.dct (kv L))) : cmpop .ne (.ref a) (.ref b) h = some false := by
  have hd : dcts h (.ref a) (.ref b) = some (skv L (sortI (kys L)), kv L) := by simp only [dcts, ea, eb]
  have hl : (skv L (sortI (kys L))).length = (kv L).length := by simp [skv, sortI_len, kys, kv]
  show (eqD h _ _).map (!·) = some false
  unfold eqD
  rw [if_neg (by simp [scal]), hd]
  simp only [dEq, if_pos hl]
  rw [dHits_ok]
  · rfl
  · intro p hp1
    obtain ⟨i, hi, rfl⟩ := List.mem_map.mp hp1
    obtain ⟨x, hx⟩ := dget_mem ((sortI_mem i _).mp hi)
    have c := hp.get hx
    have : valI L i = x := by simp [valI, hx]
    obtain ⟨q, hq⟩ := rd_pl 4 60 x c.pl (by omega)
    exact ⟨by rw [this]; exact hx, q, by rw [this]; exact hq h⟩
/-! ### the beginning -/
theorem abs_nat (i : Int) : (if i < 0 then -i else i) = (i.natAbs : Int) := by split <;> omega
theorem begun_ok {n : Nat} {ns : List Int} {P : D → Heap → Prop} {X : XP} (hl : ns.length ≤ 63) (hp : ∀ h, h.length = 4 → h[0]? = some (.ro (ns.map .int)) → St 0 h → P (.ref 2) h) : W (callFn kpg (n + 1) 14 [.ref 0] [.ro (ns.map .int)]) P X := by
  rw [w_fn kf14 rfl]
  unfold kb14
  rw [s_cons]
  simp -implicitDefEqProofs
  rw [w_comp (by simp [evL, lkOf, evE])]
  simp -implicitDefEqProofs [itp, wipe]
  refine c_comp_by (ns.map .int) (fun i hh => ∃ gs : List Nat, hh = [.ro (ns.map .int), .lst (gs.map fun (n : Nat) => D.int (n : Int))] ∧ gs.length ≤ i) (by simp [ItV.count, seqAt]) ⟨[], by simp, by simp⟩ ?_ ?_ ?_
  · rintro i hh ⟨gs, rfl, hg⟩
    simp [ItV.next, seqAt]
  · rintro i dd hh ⟨gs, rfl, hg⟩ hd
    rw [List.getElem?_map] at hd
    cases e : ns[i]? with
    | none => rw [e] at hd; cases hd
    | some j =>
      rw [e] at hd; cases hd
      have hi := (List.getElem?_eq_some_iff.mp e).1
      simp -implicitDefEqProofs [biop, abs_nat]
      refine Tb_d (fun q => ?_) (fun q => ?_)
      · simp -implicitDefEqProofs [biop, abs_nat, lim]
        refine ⟨by omega, gs ++ [j.natAbs - 1000000000000000000], ?_, by simp; omega⟩
        have : ((j.natAbs - 1000000000000000000 : Nat) : Int) = (j.natAbs : Int) - 1000000000000000000 := by omega
        simp [this]
      · exact ⟨fun z => (by cases z), fun _ => ⟨gs, rfl, by omega⟩⟩
  · rintro hh ⟨gs, rfl, hg⟩
    rw [List.length_map] at hg
    simp -implicitDefEqProofs
    rw [s_cons]
    simp -implicitDefEqProofs
    rw [w_comp (by simp [evL, lkOf, evE])]
    simp -implicitDefEqProofs [itp, wipe]
    refine c_comp_by (ns.map .int) (fun i hh => hh = [.ro (ns.map .int), .lst (gs.map fun (n : Nat) => D.int (n : Int)), .dct [], .lst (((ns.take i).map Int.natAbs).map fun (n : Nat) => D.int (n : Int))]) (by simp [ItV.count, seqAt]) (by simp) ?_ ?_ ?_
    · rintro i hh rfl
      simp [ItV.next, seqAt]
    · rintro i dd hh rfl hd
      rw [List.getElem?_map] at hd
      cases e : ns[i]? with
      | none => rw [e] at hd; cases hd
      | some j =>
        rw [e] at hd; cases hd
        have hi := List.getElem?_eq_some_iff.mp e
        have hi1 := hi.1
        simp -implicitDefEqProofs [biop, abs_nat, lim]
        refine ⟨by omega, ?_⟩
        show _ = _
        rw [List.take_succ_eq_append_getElem hi.1, hi.2]
        simp
    · rintro hh rfl
      rw [List.length_map, List.take_length]
      simp -implicitDefEqProofs [dispOf, D.key, merge, dput]
      refine hp _ rfl rfl ⟨gs, ns.map Int.natAbs, 0, 0, by omega, ?_, by simp, by simp, by omega, by simpa using hl⟩
      simp
theorem init_ok {n : Nat} {h : Heap} {P : D → Heap → Prop} {X : XP} (hl : h.length = 4) (hp : ∀ h', h'.length = 7 → Dk none [] [] 6 h' → Fr (fun _ => False) h h' → P .non h') : W (callFn kpg (n + 1) 5 [.ref 4] (h ++ [.ins 6 []])) P X := by
  rw [w_fn kf5 rfl]
  unfold kb5
  obtain ⟨h0, h1, h2, h3, rfl⟩ : ∃ a b c d, h = [a, b, c, d] := by
    match h, hl with
    | [a, b, c, d], _ => exact ⟨a, b, c, d, rfl⟩
  rw [s_cons]
  simp -implicitDefEqProofs [setAttr, hasF, fput]
  rw [s_cons]
  simp -implicitDefEqProofs [setAttr, hasF, fput, dispOf, merge]
  rw [s_cons]
  simp -implicitDefEqProofs [setAttr, hasF, fput, lim]
  refine hp _ rfl ⟨rfl, rfl, rfl, by omega⟩ ⟨by simp, fun a _ ha => ?_⟩
  match a, ha with
  | 0, _ => rfl
  | 1, _ => rfl
  | 2, _ => rfl
  | 3, _ => rfl
  | a + 4, ha => simp at ha; omega
end K79
end
section
set_option linter.all false
set_option autoImplicit false
set_option maxRecDepth 100000
namespace K79
open Mp MpW
/-! ### the refusals -/
theorem Dk.un {al : Option Nat} {L Wt : List (Nat × D)} {w : Nat} {h h' : Heap} (d : Dk al L Wt w h) (u : Un h h') : Dk al L Wt w h' := d.fr u.fr (by omega) (by omega) (by have := d.w6; omega)
theorem Hr.un {L Wt : List (Nat × D)} {v : Nat} {h h' : Heap} (d : Hr L Wt v h) (u : Un h h') : Hr L Wt v h' := d.fr u.fr (by omega) (by omega) (by have := d.v9; omega)
theorem plc1_m {m : Nat} : plc1 m (.int (m : Int)) = false := by simp [plc1]
theorem places_all {ds : List D} {m : Nat} {x : D} (hx : x ∈ ds) (h : plc1 m x = false) : placesB (.tup ds) m = false := by
  simp only [placesB]
  have : ds.all (plc1 m) = false := by
    rw [Bool.eq_false_iff]
    intro q
    have := List.all_eq_true.mp q x hx
    rw [h] at this; cases this
  rw [this]; rfl
theorem refused_ok {n T : Nat} {al : Option Nat} {L Wt : List (Nat × D)} {w : Nat} {h : Heap} {P : D → Heap → Prop} {X : XP} (s : St T h) (d : Dk al L Wt w h) (hT : T < 900000) (hm : Wt.length < 900) (hp : ∀ h', St (T + 4) h' → Un h h' → P (.bl true) h') : W (callFn kpg (n + 5) 26 [.ref 2, .ref 4, .int (Wt.length : Int)] h) P X := by
  rw [w_fn kf26 rfl]
  unfold kb26
  have hfo := s.four
  have hw6 := d.w6
  have hwl := lt_of_get d.dw
  -- a cell that is none
  rw [s_cons]
  simp -implicitDefEqProofs [picked, lim]
  refine pick_ok (a := h.length) (xs := [.non, .int (-1), .bl true, .str [48], .tup [.int 0], .int 1000000000000000000]) s.app (by omega) hfo (by simp) (by simp) (by simp) fun r odd h1 hr s1 u1 => ?_
  have ho : (∀ h, Kn h odd) ∧ numB odd 0 = false := by
    have : odd ∈ [D.non, .int (-1), .bl true, .str [48], .tup [.int 0], .int 1000000000000000000] := List.mem_of_getElem? hr
    simp only [List.mem_cons, List.not_mem_nil, or_false] at this
    rcases this with rfl | rfl | rfl | rfl | rfl | rfl <;> exact ⟨fun _ => trivial, by decide⟩
  clear hr
  have U1 : Un h h1 := Un.app.trans u1
  simp -implicitDefEqProofs
  -- a content that is none
  rw [s_cons]
  simp -implicitDefEqProofs [picked, lim, dispOf, merge]
  refine pick_ok (a := h1.length + 3) (xs := [.bl true, .ref h1.length, .ref (h1.length + 1), .tup [.int 1, .ref (h1.length + 2)], .tup [.bl false]]) s1.app (by omega) (by have := s1.four; omega) (by simp) (by simp) (by simp) fun r2 bad h2 hr2 s2 u2 => ?_
  have l1 := s1.four
  have hb : KD h2 bad ∧ sz bad ≤ 100000 ∧ contB bad = false := by
    have a1 : h2[h1.length]? = some (.lst [.int 1]) := u2.get (by omega) (by simp)
    have a2 : h2[h1.length + 1]? = some (.dct []) := u2.get (by omega) (by simp)
    have a3 : h2[h1.length + 2]? = some (.lst [.int 2]) := u2.get (by omega) (by simp)
    have : bad ∈ [D.bl true, .ref h1.length, .ref (h1.length + 1), .tup [.int 1, .ref (h1.length + 2)], .tup [.bl false]] := List.mem_of_getElem? hr2
    simp only [List.mem_cons, List.not_mem_nil, or_false] at this
    rcases this with rfl | rfl | rfl | rfl | rfl
    · exact ⟨trivial, by decide, by decide⟩
    · exact ⟨Or.inl ⟨_, a1⟩, by simp [sz], by simp [contB]⟩
    · exact ⟨Or.inr ⟨_, a2⟩, by simp [sz], by simp [contB]⟩
    · exact ⟨⟨trivial, Or.inl ⟨_, a3⟩, trivial⟩, by simp [sz, szs], by simp [contB, contsB]⟩
    · exact ⟨⟨trivial, trivial⟩, by decide, by decide⟩
  clear hr2
  have U2 : Un h h2 := (U1.trans Un.app).trans u2
  have d2 := d.un U2
  simp -implicitDefEqProofs
  -- written
  rw [s_cons]
  simp -implicitDefEqProofs [d2.d4, dins, fget, List.lookup, picked]
  refine write_cell (ho.1 _) ho.2 ?_
  simp -implicitDefEqProofs [isinTys, isinTy, kindOf, isK, kpg]
  -- read
  have d3 : Dk al L Wt w (h2 ++ [MO.exc 1 []]) := d2.app
  have s3 : St (T + 2) (h2 ++ [MO.exc 1 []]) := s2.app
  have U3 : Un h (h2 ++ [MO.exc 1 []]) := U2.trans Un.app
  have k3 : KD (h2 ++ [MO.exc 1 []]) bad := hb.1.app

  generalize h2 ++ [MO.exc 1 []] = h3 at d3 s3 U3 k3
  rw [s_cons]
  simp -implicitDefEqProofs [d3.d4, dins, fget, List.lookup, picked]
  refine read_bad (ho.1 _) ho.2 ?_
  simp -implicitDefEqProofs [isinTys, isinTy, kindOf, isK, kpg]
  have d4 : Dk al L Wt w (h3 ++ [MO.exc 1 []]) := d3.app
  have s4 : St (T + 2) (h3 ++ [MO.exc 1 []]) := s3.app
  have U4 : Un h (h3 ++ [MO.exc 1 []]) := U3.trans Un.app
  have k4 : KD (h3 ++ [MO.exc 1 []]) bad := k3.app
  generalize h3 ++ [MO.exc 1 []] = hd at d4 s4 U4 k4
  rw [s_cons]
  simp -implicitDefEqProofs [d4.d4, dins, fget, List.lookup, picked]
  refine write_cont trivial (by decide) k4 hb.2.1 hb.2.2 fun l => ?_
  simp -implicitDefEqProofs [isinTys, isinTy, kindOf, isK, kpg]
  have d5 : Dk al L Wt w (hd ++ (l ++ [MO.exc 2 []])) := d4.app
  have s5 : St (T + 2) (hd ++ (l ++ [MO.exc 2 []])) := s4.app
  have U5 : Un h (hd ++ (l ++ [MO.exc 2 []])) := U4.trans Un.app
  generalize hd ++ (l ++ [MO.exc 2 []]) = h5 at d5 s5 U5
  clear k3 k4
  -- places
  rw [s_cons]
  have hsm := smallI_nat (n := Wt.length + 1) (by omega)
  have ezm : ((Wt.length : Int) + 1) = ((Wt.length + 1 : Nat) : Int) := by omega
  have ert : rgOf [.int ((Wt.length : Int) + 1)] = some (rangeL 0 (Wt.length + 1)) := by
    rw [ezm]
    simp only [rgOf, hsm, Bool.true_and]
    rw [if_pos (decide_eq_true (by simp [lim]; omega))]
    congr 1
  simp -implicitDefEqProofs [picked, lim, ert]
  refine pick_ok (a := h5.length + 1) (xs := [.tup [.int (Wt.length : Int)], .tup [.int 0, .int 0], .ref h5.length, .non, .tup [.bl true], .tup [.int (-1)], .tup [.str [48]], .tup (rangeL 0 (Wt.length + 1))]) s5.app (by omega) (by have := s5.four; omega) (by simp) (by simp) (by simp) fun r3 wr h6 hr3 s6 u6 => ?_
  have l5 := s5.four
  have hwr : plK h6 wr ∧ placesB wr Wt.length = false := by
    have a1 : h6[h5.length]? = some (.lst []) := u6.get (by omega) (by simp)
    have : wr ∈ [D.tup [.int (Wt.length : Int)], .tup [.int 0, .int 0], .ref h5.length, .non, .tup [.bl true], .tup [.int (-1)], .tup [.str [48]], .tup (rangeL 0 (Wt.length + 1))] := List.mem_of_getElem? hr3
    simp only [List.mem_cons, List.not_mem_nil, or_false] at this
    have one : ∀ x, noRef x → plK h6 (.tup [x]) := fun x nx => ⟨by simp, fun y hy => by rw [List.mem_singleton.mp hy]; exact nx⟩
    rcases this with rfl | rfl | rfl | rfl | rfl | rfl | rfl | rfl
    · exact ⟨one _ (fun a q => by cases q), places_all (x := .int (Wt.length : Int)) (by simp) plc1_m⟩
    · refine ⟨⟨by simp, fun y hy => ?_⟩, ?_⟩
      · intro a q
        subst q
        simp at hy
      · show ([D.int 0, .int 0].all (plc1 Wt.length) && false) = false
        rw [Bool.and_false]
    · exact ⟨Or.inl ⟨_, a1⟩, rfl⟩
    · exact ⟨trivial, rfl⟩
    · exact ⟨one _ (fun a q => by cases q), places_all (x := .bl true) (by simp) rfl⟩
    · exact ⟨one _ (fun a q => by cases q), places_all (x := .int (-1)) (by simp) (by simp [plc1, numB])⟩
    · exact ⟨one _ (fun a q => by cases q), places_all (x := .str [48]) (by simp) rfl⟩
    · refine ⟨⟨by rw [rangeL_len]; omega, fun y hy => ?_⟩, places_all (x := .int (Wt.length : Int)) ?_ plc1_m⟩
      · obtain ⟨i, hi, e⟩ := List.mem_iff_getElem.mp hy
        have := rangeL_get 0 (Wt.length + 1) i
        rw [List.getElem?_eq_getElem hi, e] at this
        split at this
        · intro a q; subst q; cases this
        · cases this
      · have := rangeL_get 0 (Wt.length + 1) Wt.length
        rw [if_pos (by omega)] at this
        have := List.mem_of_getElem? this
        simpa using this
  clear hr3
  have U6 : Un h h6 := (U5.trans Un.app).trans u6
  have d6 := d.un U6
  simp -implicitDefEqProofs
  rw [s_cons]
  simp -implicitDefEqProofs [d6.d4, dins, fget, List.lookup, picked]
  refine cut_bad d6 hwr.1 hwr.2 fun l2 => ?_
  simp -implicitDefEqProofs [isinTys, isinTy, kindOf, isK, kpg]
  have d7 : Dk al L Wt w (h6 ++ (l2 ++ [MO.exc 3 []])) := d6.app
  have s7 : St (T + 3) (h6 ++ (l2 ++ [MO.exc 3 []])) := s6.app
  have U7 : Un h (h6 ++ (l2 ++ [MO.exc 3 []])) := U6.trans Un.app
  generalize h6 ++ (l2 ++ [MO.exc 3 []]) = h7 at d7 s7 U7
  -- so many
  rw [s_cons]
  simp -implicitDefEqProofs [picked, lim]
  refine pick_ok (a := h7.length) (xs := [.int (-1), .bl true, .str [49], .tup [.int 1]]) s7.app (by omega) s7.four (by simp) (by simp) (by simp) fun r4 od h8 hr4 s8 u8 => ?_
  have ho2 : (∀ h, Kn h od) ∧ od ≠ .non ∧ numB od 0 = false := by
    have : od ∈ [D.int (-1), .bl true, .str [49], .tup [.int 1]] := List.mem_of_getElem? hr4
    simp only [List.mem_cons, List.not_mem_nil, or_false] at this
    rcases this with rfl | rfl | rfl | rfl <;> exact ⟨fun _ => trivial, by simp, by decide⟩
  clear hr4
  have U8 : Un h h8 := (U7.trans Un.app).trans u8
  have d8 := d.un U8
  simp -implicitDefEqProofs
  rw [s_cons]
  simp -implicitDefEqProofs [d8.d4, dins, fget, List.lookup, picked]
  refine allow_bad (ho2.1 _) ho2.2.1 ho2.2.2 ?_
  simp -implicitDefEqProofs [isinTys, isinTy, kindOf, isK, kpg]
  exact hp _ s8.app (U8.trans Un.app)
end K79
end
section
set_option linter.all false
set_option autoImplicit false
set_option maxRecDepth 100000
namespace K79
open Mp MpW
def kcut : Sts := (.cons (.asg (.nm 12) (.call 24 (.cons (.v 1) (.cons (.bi .len (.cons (.idx (.v 3) (.c (.str [119, 97, 105, 116, 115]))) .nil)) .nil)) [0, 1]))
  (.cons (.expr (.meth (.v 2) 7 (.cons (.v 12) .nil) [0, 1]))
  (.cons (.expr (.call 22 (.cons (.v 3) (.cons (.v 12) .nil)) [0, 1]))
  (.cons (.asg (.nm 4) (.c .non))
  .nil))))
def kalw : Sts := (.cons (.asg (.nm 4) (.call 17 (.cons (.v 1) (.cons (.lst (.cons (.c .non) (.cons (.c (.int 0)) (.cons (.c (.int 1)) (.cons (.c (.int 2)) (.cons (.c (.int 3)) .nil)))))) .nil)) [0, 1]))
  (.cons (.expr (.meth (.v 2) 2 (.cons (.v 4) .nil) [0, 1]))
  .nil))
def kel2 : Sts := (.cons (.if_ (.or (.cmp .ne (.cmp .isnot (.v 13) (.c .non)) (.cmp .eq (.v 4) (.c (.int 0)))) (.and (.cmp .isnot (.v 13) (.c .non)) (.not (.isin (.v 13) [.cls 5])))) (.cons (.ret (.c (.bl false)))
  .nil) .nil)
  (.cons (.if_ (.and (.cmp .is_ (.v 13) (.c .non)) (.cmp .eq (.v 10) (.c (.int 0)))) (.cons (.expr (.call 21 (.cons (.v 3) .nil) [0]))
  .nil) (.cons (.if_ (.cmp .is_ (.v 13) (.c .non)) (.cons (.asg (.idx (.v 3) (.c (.str [119, 97, 105, 116, 115]))) (.bin .add (.idx (.v 3) (.c (.str [119, 97, 105, 116, 115]))) (.lst (.cons (.tup (.cons (.v 11) (.cons (.v 6) .nil))) .nil))))
  .nil) .nil)
  .nil))
  (.cons (.asg (.nm 4) (.ite (.and (.cmp .isnot (.v 4) (.c .non)) (.cmp .gt (.v 4) (.c (.int 0)))) (.bin .sub (.v 4) (.c (.int 1))) (.v 4)))
  .nil)))
def kels : Sts := (.cons (.asg (.nm 13) (.caught 0 (.ite (.cmp .gt (.v 10) (.c (.int 0))) (.meth (.v 2) 3 (.cons (.v 11) (.cons (.v 6) .nil)) [0, 1, 2]) (.meth (.v 2) 5 .nil [0]))))
  (.cons (.if_ (.or (.cmp .ne (.cmp .isnot (.v 13) (.c .non)) (.cmp .eq (.v 4) (.c (.int 0)))) (.and (.cmp .isnot (.v 13) (.c .non)) (.not (.isin (.v 13) [.cls 5])))) (.cons (.ret (.c (.bl false)))
  .nil) .nil)
  (.cons (.if_ (.and (.cmp .is_ (.v 13) (.c .non)) (.cmp .eq (.v 10) (.c (.int 0)))) (.cons (.expr (.call 21 (.cons (.v 3) .nil) [0]))
  .nil) (.cons (.if_ (.cmp .is_ (.v 13) (.c .non)) (.cons (.asg (.idx (.v 3) (.c (.str [119, 97, 105, 116, 115]))) (.bin .add (.idx (.v 3) (.c (.str [119, 97, 105, 116, 115]))) (.lst (.cons (.tup (.cons (.v 11) (.cons (.v 6) .nil))) .nil))))
  .nil) .nil)
  .nil))
  (.cons (.asg (.nm 4) (.ite (.and (.cmp .isnot (.v 4) (.c .non)) (.cmp .gt (.v 4) (.c (.int 0)))) (.bin .sub (.v 4) (.c (.int 1))) (.v 4)))
  .nil))))
def kop : Mp.St := (.if_ (.cmp .eq (.v 10) (.c (.int 5))) (.cons (.asg (.nm 12) (.call 24 (.cons (.v 1) (.cons (.bi .len (.cons (.idx (.v 3) (.c (.str [119, 97, 105, 116, 115]))) .nil)) .nil)) [0, 1]))
  (.cons (.expr (.meth (.v 2) 7 (.cons (.v 12) .nil) [0, 1]))
  (.cons (.expr (.call 22 (.cons (.v 3) (.cons (.v 12) .nil)) [0, 1]))
  (.cons (.asg (.nm 4) (.c .non))
  .nil)))) (.cons (.if_ (.cmp .eq (.v 10) (.c (.int 4))) (.cons (.asg (.nm 4) (.call 17 (.cons (.v 1) (.cons (.lst (.cons (.c .non) (.cons (.c (.int 0)) (.cons (.c (.int 1)) (.cons (.c (.int 2)) (.cons (.c (.int 3)) .nil)))))) .nil)) [0, 1]))
  (.cons (.expr (.meth (.v 2) 2 (.cons (.v 4) .nil) [0, 1]))
  .nil)) (.cons (.asg (.nm 13) (.caught 0 (.ite (.cmp .gt (.v 10) (.c (.int 0))) (.meth (.v 2) 3 (.cons (.v 11) (.cons (.v 6) .nil)) [0, 1, 2]) (.meth (.v 2) 5 .nil [0]))))
  (.cons (.if_ (.or (.cmp .ne (.cmp .isnot (.v 13) (.c .non)) (.cmp .eq (.v 4) (.c (.int 0)))) (.and (.cmp .isnot (.v 13) (.c .non)) (.not (.isin (.v 13) [.cls 5])))) (.cons (.ret (.c (.bl false)))
  .nil) .nil)
  (.cons (.if_ (.and (.cmp .is_ (.v 13) (.c .non)) (.cmp .eq (.v 10) (.c (.int 0)))) (.cons (.expr (.call 21 (.cons (.v 3) .nil) [0]))
  .nil) (.cons (.if_ (.cmp .is_ (.v 13) (.c .non)) (.cons (.asg (.idx (.v 3) (.c (.str [119, 97, 105, 116, 115]))) (.bin .add (.idx (.v 3) (.c (.str [119, 97, 105, 116, 115]))) (.lst (.cons (.tup (.cons (.v 11) (.cons (.v 6) .nil))) .nil))))
  .nil) .nil)
  .nil))
  (.cons (.asg (.nm 4) (.ite (.and (.cmp .isnot (.v 4) (.c .non)) (.cmp .gt (.v 4) (.c (.int 0)))) (.bin .sub (.v 4) (.c (.int 1))) (.v 4)))
  .nil)))))
  .nil))
def krest : Sts := (.cons (.if_ (.or (.cmp .ne (.attr (.v 2) 9) (.v 4)) (.cmp .ne (.meth (.v 2) 6 .nil [0]) (.bi .tuple (.cons (.comp (.v 14) [14, 15] (.tup (.cons (.nm 14) (.cons (.nm 15) .nil))) (.path (.idx (.v 3) (.c (.str [119, 97, 105, 116, 115])))) .nil) .nil)))) (.cons (.ret (.c (.bl false)))
  .nil) .nil)
  (.cons (.asg (.nm 9) (.meth (.v 2) 8 .nil [0]))
  (.cons (.if_ (.or (.cmp .ne (.v 9) (.idx (.v 3) (.c (.str [108, 97, 110, 100, 101, 100])))) (.cmp .ne (.bi .list (.cons (.v 9) .nil)) (.bi .sorted (.cons (.idx (.v 3) (.c (.str [108, 97, 110, 100, 101, 100]))) .nil)))) (.cons (.ret (.c (.bl false)))
  .nil) .nil)
  (.cons (.if_ (.cmp .ne (.meth (.v 2) 4 (.cons (.v 11) .nil) [0, 1]) (.call 20 (.cons (.v 3) (.cons (.v 11) .nil)) [0, 1])) (.cons (.ret (.c (.bl false)))
  .nil) .nil)
  (.cons (.asg (.idx (.v 9) (.v 11)) (.c (.str [115, 112, 111, 105, 108, 116])))
  (.cons (.if_ (.not (.call 26 (.cons (.v 1) (.cons (.v 2) (.cons (.bi .len (.cons (.idx (.v 3) (.c (.str [119, 97, 105, 116, 115]))) .nil)) .nil))) [0, 1, 2])) (.cons (.ret (.c (.bl false)))
  .nil) .nil)
  .nil))))))
/-! ### a turn's work -/
structure J (T : Nat) (al : Option Nat) (L Wt : List (Nat × D)) (w v : Nat) (h : Heap) : Prop where
  st : St T h
  dk : Dk al L Wt w h
  hr : Hr L Wt v h
  wv : w ≠ v
  w7 : w ≠ 7
  w8 : w ≠ 8
structure Dt (t : Nat) (L Wt : List (Nat × D)) : Prop where
  pl : PL L
  pw : PL Wt
  nd : (kys L).Nodup
  ln : L.length + Wt.length ≤ t
theorem J.un {T T' : Nat} {al : Option Nat} {L Wt : List (Nat × D)} {w v : Nat} {h h' : Heap} (j : J T al L Wt w v h) (s : St T' h') (u : Un h h') : J T' al L Wt w v h' := ⟨s, j.dk.un u, j.hr.un u, j.wv, j.w7, j.w8⟩
theorem J.app {T : Nat} {al : Option Nat} {L Wt : List (Nat × D)} {w v : Nat} {h l : Heap} (j : J T al L Wt w v h) : J T al L Wt w v (h ++ l) := ⟨j.st.app, j.dk.app, j.hr.app, j.wv, j.w7, j.w8⟩
theorem J.mono {T T' : Nat} {al : Option Nat} {L Wt : List (Nat × D)} {w v : Nat} {h : Heap} (j : J T al L Wt w v h) (e : T ≤ T') : J T' al L Wt w v h := ⟨j.st.mono e, j.dk, j.hr, j.wv, j.w7, j.w8⟩
theorem J.st_d {T : Nat} {al : Option Nat} {L Wt : List (Nat × D)} {w v : Nat} {h h' : Heap} (j : J T al L Wt w v h) (f : Fr (pd w) h h') : St T h' := j.st.fr f fun a ha q => by
  have := j.dk.w6
  rcases q with q | q | q <;> omega
theorem J.hr_d {T : Nat} {al : Option Nat} {L Wt : List (Nat × D)} {w v : Nat} {h h' : Heap} (j : J T al L Wt w v h) (f : Fr (pd w) h h') : Hr L Wt v h' := by
  have h1 := j.wv; have h2 := j.w7; have h3 := j.w8; have h4 := j.hr.v9; have h5 := j.dk.w6
  exact j.hr.fr f (by rintro (q | q | q) <;> omega) (by rintro (q | q | q) <;> omega) (by rintro (q | q | q) <;> omega)
theorem lput_pl {L : List (Nat × D)} {c : Nat} {x : D} (p : PL L) (cx : Ct 3 x) : PL (lput L c x) := by
  unfold lput
  split
  · intro q hq
    obtain ⟨r, hr, rfl⟩ := List.mem_map.mp hq
    split
    · exact cx
    · exact p r hr
  · intro q hq
    rcases List.mem_append.mp hq with z | z
    · exact p q z
    · rw [List.mem_singleton.mp z]; exact cx
theorem lputs_pl : ∀ {Wt L : List (Nat × D)}, PL L → PL Wt → PL (lputs L Wt)
  | [], L, p, _ => p
  | a :: Wt, L, p, q => lputs_pl (Wt := Wt) (L := lput L a.1 a.2) (lput_pl p (q a (by simp))) fun r hr => q r (by simp [hr])
theorem lput_nd {L : List (Nat × D)} {c : Nat} {x : D} (p : (kys L).Nodup) : (kys (lput L c x)).Nodup := by
  unfold lput
  split
  · have : kys (L.map fun p => if p.1 = c then (p.1, x) else p) = kys L := by
      unfold kys
      rw [List.map_map]
      congr 1; funext p
      simp only [Function.comp]
      split <;> rfl
    rw [this]; exact p
  · rename_i q
    unfold kys at *
    rw [List.map_append, List.nodup_append]
    refine ⟨p, by simp, fun a ha b hb e => q ?_⟩
    simp only [List.map_cons, List.map_nil, List.mem_singleton] at hb
    obtain ⟨r, hr, rfl⟩ := List.mem_map.mp ha
    rw [List.any_eq_true]
    exact ⟨r, hr, decide_eq_true (by omega)⟩
theorem lputs_nd : ∀ {Wt L : List (Nat × D)}, (kys L).Nodup → (kys (lputs L Wt)).Nodup
  | [], L, p => p
  | a :: Wt, L, p => lputs_nd (Wt := Wt) (L := lput L a.1 a.2) (lput_nd p)
theorem Dt.flush {t : Nat} {L Wt Vt : List (Nat × D)} (d : Dt t L Wt) (hv : ∀ p ∈ Vt, p ∈ Wt) (hl : Vt.length ≤ Wt.length) : Dt (t + 1) (lputs L Vt) [] := by
  refine ⟨lputs_pl d.pl fun p hp => d.pw p (hv p hp), fun p hp => (by cases hp), lputs_nd d.nd, ?_⟩
  have := lputs_len Vt L
  have := d.ln
  simp; omega
theorem plB_kd {h : Heap} : ∀ (k : Nat) (x : D), plB k x = true → KD h x := by
  intro k
  induction k with
  | zero => intro x hx; cases x <;> first | trivial | (simp [plB] at hx)
  | succ k ih =>
    intro x hx
    cases x with
    | tup ds =>
      simp only [plB, List.all_eq_true] at hx
      simp only [KD]

      induction ds with
      | nil => trivial
      | cons a ds ih2 => exact ⟨ih a (hx a (by simp)), ih2 fun x q => hx x (by simp [q])⟩
    | ref a => simp [plB] at hx
    | _ => trivial
theorem Ct.kd {x : D} {d : Nat} {h : Heap} (c : Ct d x) : KD h x := plB_kd _ _ c.pl
theorem Ct.sz3 {x : D} (c : Ct 3 x) : K79.sz x ≤ 133 := by
  have := c.sz
  simpa [sd] using this
abbrev E (al : Option Nat) (o5 : Option D) (x : D) (o7 o8 o9 : Option D) (way c : Nat) (o12 o13 : Option D) : Env := [some (.ref 0), some (.ref 2), some (.ref 4), some (.ref 7), some (alD al), o5, some x, o7, o8, o9, some (.int (way : Int)), some (.int (c : Int)), o12, o13, none, none]
theorem cut_part {n T t way c : Nat} {al : Option Nat} {L Wt : List (Nat × D)} {w v : Nat} {h : Heap} {x : D} {o5 o7 o8 o9 o12 o13 : Option D} {N : Env → Heap → Prop} {Q : Ks} (j : J T al L Wt w v h) (dt : Dt t L Wt) (ht : t ≤ 20) (hT : T < 800000)
    (hn : ∀ T' al' L' Wt' w' v' h' o12' o13', T' ≤ T + 30 → J T' al' L' Wt' w' v' h' → Dt (t + 1) L' Wt' → N (E al' o5 x o7 o8 o9 way c o12' o13') h') :
    S (evSs kpg (callFn kpg (n + 5)) kcut (E al o5 x o7 o8 o9 way c o12 o13) h) N Q := by
  have hln := dt.ln
  unfold kcut
  rw [s_cons]
  simp -implicitDefEqProofs [ix_wt j.hr, biop, len, j.hr.ev, opt, picked]
  refine jplaces_ok (m := Wt.length) j.st (by omega) (by omega) fun ps T1 h1 p1 p2 p3 t1 s1 u1 => ?_
  have j1 := j.un s1 u1
  simp -implicitDefEqProofs
  rw [s_cons]
  simp -implicitDefEqProofs [j1.dk.d4, dins, fget, List.lookup, picked]
  refine cut_ok j1.dk p1 (by omega) p3 (pls_ok p1 p2 (by omega)) fun h2 w2 lw d2 f2 => ?_
  have s2 := j1.st_d f2
  have r2 := j1.hr_d f2
  rw [s_cons]
  simp -implicitDefEqProofs [picked]
  refine jocut_ok r2 p1 (by omega) p3 fun h3 v3 lv r3 f3 => ?_
  rw [s_cons]
  simp -implicitDefEqProofs
  have v9 := j1.hr.v9
  have hv := lt_of_get j1.hr.ev
  have w2l := lt_of_get d2.dw
  have n1 : ∀ a, (a < 7 ∨ a = w2) → ¬ ph v a := by
    rintro a ha (q | q | q) <;> omega
  have hpk : ∀ p ∈ pks Wt ps, p ∈ Wt := fun p hp => by
    obtain ⟨i, _, e⟩ := List.mem_filterMap.mp hp
    exact List.mem_of_getElem? e
  have lp := pks_len Wt ps
  exact hn T1 none _ [] w2 v3 h3 _ o13 (by omega) ⟨s2.fr f3 fun a ha => n1 a (by omega), d2.fr f3 (n1 4 (by omega)) (n1 5 (by omega)) (n1 w2 (by omega)), r3, by omega, by omega, by omega⟩ (dt.flush hpk (by omega))
theorem alw_part {n T t way c : Nat} {al : Option Nat} {L Wt : List (Nat × D)} {w v : Nat} {h : Heap} {x : D} {o5 o7 o8 o9 o12 o13 : Option D} {N : Env → Heap → Prop} {Q : Ks} (j : J T al L Wt w v h) (dt : Dt t L Wt) (ht : t ≤ 20) (hT : T < 800000)
    (hn : ∀ T' al' L' Wt' w' v' h' o12' o13', T' ≤ T + 30 → J T' al' L' Wt' w' v' h' → Dt (t + 1) L' Wt' → N (E al' o5 x o7 o8 o9 way c o12' o13') h') :
    S (evSs kpg (callFn kpg (n + 5)) kalw (E al o5 x o7 o8 o9 way c o12 o13) h) N Q := by
  unfold kalw
  rw [s_cons]
  simp -implicitDefEqProofs [picked, lim]
  refine pick_ok (a := h.length) (xs := [.non, .int 0, .int 1, .int 2, .int 3]) j.st.app (by omega) j.st.four (by simp) (by simp) (by simp) fun r a h1 hr s1 u1 => ?_
  have j1 := j.un s1 (Un.app.trans u1)
  have : ∃ al' : Option Nat, a = alD al' ∧ ∀ k, al' = some k → k < 1000 := by
    have : a ∈ [D.non, .int 0, .int 1, .int 2, .int 3] := List.mem_of_getElem? hr
    simp only [List.mem_cons, List.not_mem_nil, or_false] at this
    rcases this with rfl | rfl | rfl | rfl | rfl
    · exact ⟨none, rfl, fun k q => by cases q⟩
    · exact ⟨some 0, rfl, fun k q => by cases q; omega⟩
    · exact ⟨some 1, rfl, fun k q => by cases q; omega⟩
    · exact ⟨some 2, rfl, fun k q => by cases q; omega⟩
    · exact ⟨some 3, rfl, fun k q => by cases q; omega⟩
  obtain ⟨al', rfl, ha⟩ := this
  clear hr
  simp -implicitDefEqProofs
  rw [s_cons]
  simp -implicitDefEqProofs [j1.dk.d4, dins, fget, List.lookup, picked]
  refine allow_ok j1.dk.d4 ha ?_
  have d2 := j1.dk.al (al' := al')
  have f2 : Fr (pd w) h1 (h1.set 4 (dins al' w)) := Fr.set (Or.inl rfl)
  simp -implicitDefEqProofs
  exact hn (T + 1) al' L Wt w v _ o12 o13 (by omega) ⟨j1.st_d f2, d2, j1.hr_d f2, j1.wv, j1.w7, j1.w8⟩ ⟨dt.pl, dt.pw, dt.nd, by have := dt.ln; omega⟩

theorem upd {n : Nat} {al : Option Nat} {L : List D} {e1 e2 e3 e4 : D} {r : List (Option D)} {h : Heap} {N : Env → Heap → Prop} {Q : Ks} (hn : N (some e1 :: some e2 :: some e3 :: some e4 :: some (alD (al.map (· - 1))) :: r) h) :
    S (evSs kpg (callFn kpg n) (.cons (.asg (.nm 4) (.ite (.and (.cmp .isnot (.v 4) (.c .non)) (.cmp .gt (.v 4) (.c (.int 0)))) (.bin .sub (.v 4) (.c (.int 1))) (.v 4))) .nil) (some e1 :: some e2 :: some e3 :: some e4 :: some (alD al) :: r) h) N Q := by
  rw [s_cons]
  cases al with
  | none =>
    simp -implicitDefEqProofs [alD]
    simpa [alD] using hn
  | some k =>
    simp -implicitDefEqProofs [alD]
    refine Tb_d (fun q => ?_) (fun q => ?_)
    · simp -implicitDefEqProofs [alD]
      have e : D.int ((k : Int) - 1) = alD (some (k - 1)) := by
        simp only [alD]; congr 1; omega
      rw [e]; exact hn
    · have : k = 0 := by omega
      subst this
      simp -implicitDefEqProofs [alD]
      exact hn
theorem els_exc {n way c a : Nat} {h : Heap} {x : D} {o5 o7 o8 o9 o12 : Option D} {N : Env → Heap → Prop} {Q : Ks} (e : h[a]? = some (.exc 5 []))
    (hn : N (E (some 0) o5 x o7 o8 o9 way c o12 (some (.ref a))) h) :
    S (evSs kpg (callFn kpg (n + 5)) kel2 (E (some 0) o5 x o7 o8 o9 way c o12 (some (.ref a))) h) N Q := by
  unfold kel2
  rw [s_cons]
  simp -implicitDefEqProofs [alD, isinTys, isinTy, kindOf, isK, e, kpg]
  rw [s_cons]
  simp -implicitDefEqProofs
  rw [s_cons]
  simp -implicitDefEqProofs
  exact upd (L := []) (al := some 0) hn
theorem els_none {n T way c : Nat} {al al0 : Option Nat} {L Wt : List (Nat × D)} {w v : Nat} {h : Heap} {x : D} {o5 o7 o8 o9 o12 : Option D} {N : Env → Heap → Prop} {Q : Ks} (a0 : al0 ≠ some 0) (st : St T h) (ln : L.length + Wt.length ≤ 20)
    (d : if way = 0 then Dk al (lputs L Wt) [] w h else Dk al L (Wt ++ [(c, x)]) w h) (r : Hr L Wt v h) (w7 : w ≠ 7) (w8 : w ≠ 8) (wv : w ≠ v)
    (hn0 : way = 0 → ∀ v' h', J T al (lputs L Wt) [] w v' h' → N (E (al0.map (· - 1)) o5 x o7 o8 o9 way c o12 (some .non)) h')
    (hn1 : way ≠ 0 → ∀ v' h', J T al L (Wt ++ [(c, x)]) w v' h' → N (E (al0.map (· - 1)) o5 x o7 o8 o9 way c o12 (some .non)) h') :
    S (evSs kpg (callFn kpg (n + 5)) kel2 (E al0 o5 x o7 o8 o9 way c o12 (some .non)) h) N Q := by
  have v9 := r.v9
  have hv := lt_of_get r.ev
  unfold kel2
  rw [s_cons]
  have eal : cmpop .eq (alD al0) (.int 0) h = some false := by
    cases al0 with
    | none => rfl
    | some k =>
      simp -implicitDefEqProofs [alD]
      intro q; exact a0 (by rw [q])
  simp -implicitDefEqProofs [eal]
  rw [s_cons]
  simp -implicitDefEqProofs
  rw [s_cons]
  try simp -implicitDefEqProofs
  refine Tb_d (fun q => ?_) (fun q => ?_)
  · rw [if_pos q] at d
    have w6 := d.w6
    have wl := lt_of_get d.dw
    simp -implicitDefEqProofs [picked]
    refine josync_ok r (by omega) fun h3 v3 lv r3 f3 => ?_
    simp -implicitDefEqProofs
    have n1 : ∀ a, (a < 7 ∨ a = w) → ¬ ph v a := by
      rintro a ha (q | q | q) <;> omega
    exact upd (L := []) (hn0 q v3 h3 ⟨st.fr f3 fun a ha => n1 a (by omega), d.fr f3 (n1 4 (by omega)) (n1 5 (by omega)) (n1 w (by omega)), r3, by omega, by omega, by omega⟩)
  · rw [if_neg q] at d
    have w6 := d.w6
    have wl := lt_of_get d.dw
    rw [s_cons]
    generalize hA : MO.lst [D.tup [.int (c : Int), x]] = A
    generalize hB : MO.lst ((Wt ++ [(c, x)]).map pr) = B
    have r1 : Hr L Wt v (h ++ [A]) := r.app
    have e1 : (h ++ [A])[h.length]? = some (.lst [.tup [.int (c : Int), x]]) := by simp [hA]
    have ea : binop .add (.ref v) (.ref h.length) (h ++ [A]) = .ok (.ref (h.length + 1)) (h ++ [A, B]) := by
      simp only [binop, r1.ev, e1]
      rw [if_pos (by simp [lim]; omega)]
      simp [pr, ← hB]
    have r2 : Hr L Wt v (h ++ [A, B]) := r.app
    have f1 : Fr (ph v) h (h ++ [A, B]) := Fr.app
    obtain ⟨h3, s3, r3, f3⟩ := si_wt (Wt' := Wt ++ [(c, x)]) (v' := h.length + 1) r2 (by simp [← hB]) (by omega)
    simp -implicitDefEqProofs
    rw [s_cons]
    simp -implicitDefEqProofs [ix_wt r, lim, hA, ea, s3]
    have f4 := f1.trans f3
    have n1 : ∀ a, (a < 7 ∨ a = w) → ¬ ph v a := by
      rintro a ha (q | q | q) <;> omega
    exact upd (L := []) (hn1 q (h.length + 1) h3 ⟨st.fr f4 fun a ha => n1 a (by omega), d.fr f4 (n1 4 (by omega)) (n1 5 (by omega)) (n1 w (by omega)), r3, by omega, by omega, by omega⟩)
theorem els_part {n T t way c : Nat} {al : Option Nat} {L Wt : List (Nat × D)} {w v : Nat} {h : Heap} {x : D} {o5 o7 o8 o9 o12 o13 : Option D} {N : Env → Heap → Prop} {Q : Ks} (j : J T al L Wt w v h) (dt : Dt t L Wt) (ht : t ≤ 19) (hT : T < 800000) (hc : c < 1000000000000000000) (cx : Ct 3 x)
    (hn : ∀ T' al' L' Wt' w' v' h' o12' o13', T' ≤ T + 30 → J T' al' L' Wt' w' v' h' → Dt (t + 1) L' Wt' → N (E al' o5 x o7 o8 o9 way c o12' o13') h') :
    S (evSs kpg (callFn kpg (n + 5)) kels (E al o5 x o7 o8 o9 way c o12 o13) h) N Q := by
  have hln := dt.ln
  have hx := cx.sz3
  have hvl := lt_of_get j.hr.ev
  have dt1 : Dt (t + 1) L Wt := ⟨dt.pl, dt.pw, dt.nd, by omega⟩
  unfold kels
  rw [s_cons]
  simp -implicitDefEqProofs
  refine Tb_d (fun q => ?_) (fun q => ?_)
  · simp -implicitDefEqProofs [j.dk.d4, dins, fget, List.lookup, picked]
    refine write_ok j.dk hc cx.kd (by omega) cx.c (by omega) (fun a0 h1 d1 f1 => ?_) fun a0 h1 d1 f1 => ?_
    · subst a0
      have j1 : J T (some 0) L Wt w v h1 := ⟨j.st_d f1, d1, j.hr_d f1, j.wv, j.w7, j.w8⟩
      simp -implicitDefEqProofs [kpg]
      exact els_exc (a := h1.length) (by simp) (hn T (some 0) L Wt w v _ o12 _ (by omega) j1.app dt1)
    · simp -implicitDefEqProofs
      refine els_none (al := al.map (· - 1)) (T := T) a0 (j.st_d f1) (by omega) (by rw [if_neg (by omega)]; exact d1) (j.hr_d f1) j.w7 j.w8 j.wv (fun z => by omega) fun _ v' h' j' => ?_
      exact hn T _ L _ w v' h' o12 _ (by omega) j' ⟨dt.pl, fun p hp => (List.mem_append.mp hp).elim (dt.pw p) (fun z => by rw [List.mem_singleton.mp z]; exact cx), dt.nd, by simp; omega⟩
  · have w0 : way = 0 := by omega
    simp -implicitDefEqProofs [j.dk.d4, dins, fget, List.lookup, picked]
    refine sync_ok j.dk (by omega) (fun a0 => ?_) fun a0 h1 w1 lw d1 f1 => ?_
    · subst a0
      simp -implicitDefEqProofs [kpg]
      exact els_exc (a := h.length) (by simp) (hn T (some 0) L Wt w v _ o12 _ (by omega) j.app dt1)
    · simp -implicitDefEqProofs
      have w6 := d1.w6
      have v9 := j.hr.v9
      refine els_none (al := al.map (· - 1)) (T := T) a0 (j.st_d f1) (by omega) (by rw [if_pos w0]; exact d1) (j.hr_d f1) (by omega) (by omega) (by omega) (fun _ v' h' j' => ?_) fun z => absurd w0 z
      exact hn T _ _ [] w1 v' h' o12 _ (by omega) j' (dt.flush (fun p hp => hp) (Nat.le_refl _))
theorem op_ok {n T t way c : Nat} {al : Option Nat} {L Wt : List (Nat × D)} {w v : Nat} {h : Heap} {x : D} {o5 o7 o8 o9 o12 o13 : Option D} {N : Env → Heap → Prop} {Q : Ks} (j : J T al L Wt w v h) (dt : Dt t L Wt) (ht : t ≤ 19) (hT : T < 800000) (hc : c < 1000000000000000000) (cx : Ct 3 x)
    (hn : ∀ T' al' L' Wt' w' v' h' o12' o13', T' ≤ T + 30 → J T' al' L' Wt' w' v' h' → Dt (t + 1) L' Wt' → N (E al' o5 x o7 o8 o9 way c o12' o13') h') :
    S (evS kpg (callFn kpg (n + 5)) kop (E al o5 x o7 o8 o9 way c o12 o13) h) N Q := by
  unfold kop
  simp -implicitDefEqProofs
  refine Tb_d (fun q => ?_) (fun q => ?_)
  · exact cut_part j dt (by omega) hT hn
  · rw [s_cons]
    simp -implicitDefEqProofs
    refine Tb_d (fun q => ?_) (fun q => ?_)
    · exact alw_part j dt (by omega) hT (fun T' al' L' Wt' w' v' h' a b h1 h2 h3 => by rw [s_nil]; exact hn T' al' L' Wt' w' v' h' a b h1 h2 h3)
    · exact els_part j dt ht hT hc cx (fun T' al' L' Wt' w' v' h' a b h1 h2 h3 => by rw [s_nil]; exact hn T' al' L' Wt' w' v' h' a b h1 h2 h3)
end K79
end
section
set_option linter.all false
set_option autoImplicit false
set_option maxRecDepth 100000
namespace K79
open Mp MpW
theorem ne_al {al : Option Nat} {h : Heap} : cmpop .ne (alD al) (alD al) h = some false := by
  cases al with
  | none => rfl
  | some k => simp [alD]
theorem lookup_pl {L : List (Nat × D)} {c : Nat} {x : D} (p : PL L) (e : L.lookup c = some x) : Ct 3 x := by
  induction L with
  | nil => cases e
  | cons a L ih =>
    simp only [List.lookup] at e
    split at e
    · injection e with e; rw [← e]; exact p a (by simp)
    · exact ih (fun q hq => p q (by simp [hq])) e
theorem rdv_pl {L Wt : List (Nat × D)} {c : Nat} (p : PL L) (q : PL Wt) : plB 4 (rdv L Wt c) = true := by
  unfold rdv
  cases e : Wt.reverse.lookup c with
  | some x => exact (lookup_pl (fun r hr => q r (List.mem_reverse.mp hr)) e).pl
  | none =>
    cases e2 : L.lookup c with
    | some x => exact (lookup_pl p e2).pl
    | none => rfl
theorem ints_pl (Wt : List (Nat × D)) : plB 4 (.tup (Wt.map fun p => D.int (p.1 : Int))) = true := by
  simp only [plB, List.all_eq_true]
  intro x hx
  obtain ⟨p, _, rfl⟩ := List.mem_map.mp hx
  rfl
theorem rest_ok {n T t way c : Nat} {al : Option Nat} {L Wt : List (Nat × D)} {w v : Nat} {h : Heap} {x : D} {o5 o7 o8 o9 o12 o13 : Option D} {N : Env → Heap → Prop} {Q : Ks} (j : J T al L Wt w v h) (dt : Dt t L Wt) (ht : t ≤ 20) (hT : T < 800000) (hc : c < 1000000000000000000)
    (hn : ∀ a h', J (T + 4) al L Wt w v h' → N (E al o5 x o7 o8 (some (.ref a)) way c o12 o13) h') :
    S (evSs kpg (callFn kpg (n + 6)) krest (E al o5 x o7 o8 o9 way c o12 o13) h) N Q := by
  have hln := dt.ln
  unfold krest
  rw [s_cons]
  simp -implicitDefEqProofs [ga9 j.dk.d4, ne_al]
  simp -implicitDefEqProofs [j.dk.d4, dins, fget, List.lookup, picked]
  refine waiting_ok j.dk (by omega) fun l => ?_
  have j1 : J T al L Wt w v (h ++ l) := j.app
  have u1 : Un h (h ++ l) := Un.app
  generalize h ++ l = h1 at j1 u1
  simp -implicitDefEqProofs
  rw [w_comp (by simp [evL, lkOf, evE, Res.bind, ix_wt j1.hr, j1.hr.ev])]
  simp -implicitDefEqProofs [ix_wt j1.hr, itp, j1.hr.ev, wipe]
  refine c_comp_by (Wt.map pr) (fun i hh => hh = h1 ++ [.lst ((Wt.take i).map fun p => .int (p.1 : Int))]) (by simp [ItV.count, seqAt, j1.hr.ev]) (by simp) ?_ ?_ ?_
  · rintro i hh rfl
    simp [ItV.next, seqAt, get_app j1.hr.ev]
  · rintro i dd hh rfl hd
    obtain ⟨p, hp1, rfl⟩ := wt_get hd
    simp -implicitDefEqProofs [pr, lim]
    refine ⟨by omega, ?_⟩
    show _ = _
    have hi := (List.getElem?_eq_some_iff.mp hp1)
    rw [List.take_succ_eq_append_getElem hi.1, hi.2]
    simp
  · rintro hh rfl
    rw [List.length_map, List.take_length]
    simp -implicitDefEqProofs [biop, itemsOf, opt, ne_pl (ints_pl Wt) (by omega)]
    have j2 : J T al L Wt w v (h1 ++ [MO.lst (Wt.map fun p => .int (p.1 : Int))]) := j1.app
    generalize h1 ++ [MO.lst (Wt.map fun p => .int (p.1 : Int))] = h2 at j2
    rw [s_cons]
    simp -implicitDefEqProofs [j2.dk.d4, dins, fget, List.lookup, picked]
    refine cells_ok j2.dk (by omega) dt.nd fun l3 a la ea => ?_
    have j3 : J T al L Wt w v (h2 ++ l3) := j2.app
    have u3 : Un h2 (h2 ++ l3) := Un.app
    generalize h2 ++ l3 = h3 at j3 u3 ea
    simp -implicitDefEqProofs
    rw [s_cons]
    have el : biop .list [.ref a] h3 = .ok (.ref h3.length) (h3 ++ [.lst ((sortI (kys L)).map .int)]) := by
      simp only [biop, itemsOf, ea]
      simp [skv]
    have j4 : J T al L Wt w v (h3 ++ [.lst ((sortI (kys L)).map .int)]) := j3.app
    have es : biop .sorted [.ref 8] (h3 ++ [.lst ((sortI (kys L)).map .int)]) = .ok (.ref (h3.length + 1)) (h3 ++ [.lst ((sortI (kys L)).map .int), .lst ((sortI (kys L)).map .int)]) := by
      have : (kys L).length < 64 := by simp [kys]; omega
      simp only [biop, j4.hr.e8, kv_keys, intsOf_int]
      rw [if_pos this]
      simp
    have en : cmpop .ne (.ref h3.length) (.ref (h3.length + 1)) (h3 ++ [.lst ((sortI (kys L)).map .int), .lst ((sortI (kys L)).map .int)]) = some false := ne_lst (l := sortI (kys L)) (by simp) (by simp)
    simp -implicitDefEqProofs [ix_ld j3.hr, ne_dct dt.pl ea j3.hr.e8]
    simp -implicitDefEqProofs [el]
    simp -implicitDefEqProofs [ix_ld j4.hr]
    simp -implicitDefEqProofs [es]
    simp -implicitDefEqProofs [en]
    have j5 : J T al L Wt w v (h3 ++ [.lst ((sortI (kys L)).map .int), .lst ((sortI (kys L)).map .int)]) := j3.app
    have e5 : (h3 ++ [MO.lst ((sortI (kys L)).map .int), .lst ((sortI (kys L)).map .int)])[a]? = some (.dct (skv L (sortI (kys L)))) := get_app ea
    have u5 : Un h2 (h3 ++ [MO.lst ((sortI (kys L)).map .int), .lst ((sortI (kys L)).map .int)]) := u3.trans Un.app
    generalize h3 ++ [MO.lst ((sortI (kys L)).map .int), .lst ((sortI (kys L)).map .int)] = h5 at j5 e5 u5
    rw [s_cons]
    simp -implicitDefEqProofs [j5.dk.d4, dins, fget, List.lookup, picked]
    refine read_ok j5.dk hc fun l6 => ?_
    have j6 : J T al L Wt w v (h5 ++ l6) := j5.app
    have e6 : (h5 ++ l6)[a]? = some (.dct (skv L (sortI (kys L)))) := get_app e5
    have u6 : Un h2 (h5 ++ l6) := u5.trans Un.app
    generalize h5 ++ l6 = h6 at j6 e6 u6
    simp -implicitDefEqProofs [picked]
    refine joread_ok j6.hr fun l7 => ?_
    have j7 : J T al L Wt w v (h6 ++ l7) := j6.app
    have e7 : (h6 ++ l7)[a]? = some (.dct (skv L (sortI (kys L)))) := get_app e6
    have u7 : Un h2 (h6 ++ l7) := u6.trans Un.app
    generalize h6 ++ l7 = h7 at j7 e7 u7
    simp -implicitDefEqProofs [ne_pl (rdv_pl dt.pl dt.pw) (by omega)]
    rw [s_cons]
    have hsl : (skv L (sortI (kys L))).length < 100000 := by
      simp [skv, sortI_len, kys]; omega
    have esi : ∀ y, setIndex (.ref a) (.int (c : Int)) y h7 = .ok () (h7.set a (.dct (dput (skv L (sortI (kys L))) (.int (c : Int)) y))) := by
      intro y
      simp only [setIndex, e7, D.key, Bool.true_and]
      rw [if_pos (decide_eq_true (by unfold lim; omega))]
    simp -implicitDefEqProofs [esi]
    have h24 := j2.st.four
    have u8 := fun (o : MO) => u7.set_new (o := o) la
    have j8 := fun (o : MO) => j2.un (j7.st.set_new (o := o) (L := a) (by omega)) (u8 o)
    generalize (MO.dct (dput (skv L (sortI (kys L))) (.int (c : Int)) (.str [115, 112, 111, 105, 108, 116]))) = o
    have j8 := j8 o
    generalize h7.set a o = h8 at j8
    rw [s_cons]
    simp -implicitDefEqProofs [ix_wt j8.hr, biop, len, j8.hr.ev, opt, picked]
    refine refused_ok j8.st j8.dk (by omega) (by omega) fun h9 s9 u9 => ?_
    simp -implicitDefEqProofs
    exact hn a h9 (j8.un s9 u9)
end K79
end
section
set_option linter.all false
set_option autoImplicit false
set_option maxRecDepth 100000
namespace K79
open Mp MpW
abbrev B (al : Option Nat) (o5 o6 o7 o8 o9 o10 o11 o12 o13 : Option D) : Env := [some (.ref 0), some (.ref 2), some (.ref 4), some (.ref 7), some (alD al), o5, o6, o7, o8, o9, o10, o11, o12, o13, none, none]
theorem ne_empty {h : Heap} {a b : Nat} (ea : h[a]? = some (.dct [])) (eb : h[b]? = some (.dct [])) : cmpop .ne (.ref a) (.ref b) h = some false := by
  simp [cmpop, eqD, scal, dcts, dEq, dHits, ea, eb]
mutual
theorem KD.mono {h h' : Heap} (f : ∀ (a : Nat) (o : MO), h[a]? = some o → h'[a]? = some o) : ∀ d : D, KD h d → KD h' d
  | .non, _ => trivial
  | .bl _, _ => trivial
  | .int _, _ => trivial
  | .str _, _ => trivial
  | .ref a, k => by
    simp only [KD] at k ⊢
    exact k.imp (fun ⟨ds, e⟩ => ⟨ds, f _ _ e⟩) (fun ⟨ds, e⟩ => ⟨ds, f _ _ e⟩)
  | .tup ds, k => by
    simp only [KD] at k ⊢
    exact KDs.mono f ds k
theorem KDs.mono {h h' : Heap} (f : ∀ (a : Nat) (o : MO), h[a]? = some o → h'[a]? = some o) : ∀ ds : List D, KDs h ds → KDs h' ds
  | [], _ => trivial
  | d :: ds, k => ⟨KD.mono f d k.1, KDs.mono f ds k.2⟩
end
theorem plB_dB : ∀ (k : Nat) (x : D), plB k x = true → dB k x = true := by
  intro k
  induction k with
  | zero => intro x hx; cases x <;> first | rfl | (simp [plB] at hx)
  | succ k ih =>
    intro x hx
    cases x with
    | tup ds =>
      simp only [plB, dB, List.all_eq_true] at hx ⊢
      exact fun y hy => ih y (hx y hy)
    | _ => rfl
theorem dB_mono : ∀ (k m : Nat) (d : D), dB k d = true → k ≤ m → dB m d = true := by
  intro k
  induction k with
  | zero =>
    intro m d hd hm
    cases d <;> cases m <;> simp_all [dB]
  | succ k ih =>
    intro m d hd hm
    cases m with
    | zero => omega
    | succ m =>
      cases d with
      | tup ds =>
        simp only [dB, List.all_eq_true] at hd ⊢
        exact fun x hx => ih m x (hd x hx) (by omega)
      | _ => rfl
structure Itm (h : Heap) (x : D) : Prop where
  kd : KD h x
  sz : sz x ≤ 100000
  dB : dB 5 x = true
theorem chk_ok {n : Nat} {h : Heap} {x y : D} {al : Option Nat} {o5 o8 o9 o10 o11 o12 o13 : Option D} {N : Env → Heap → Prop} {Q : Ks} {b : Sts} (hb : b = (.cons (.if_ (.not (.call 18 (.cons (.call 2 (.cons (.v 8) .nil) [0]) (.cons (.call 25 (.cons (.v 8) (.cons (.c (.int 0)) .nil)) [0, 1]) .nil)) [0, 1])) (.cons (.ret (.c (.bl false))) .nil) .nil) .nil)) (hx : Itm h x) (hy : Itm h y)
    (hn : ∀ o8 l, N (B al o5 (some x) (some y) o8 o9 o10 o11 o12 o13) (h ++ l)) :
    S (evS kpg (callFn kpg (n + 8)) (.for_ (.nm 8) (.e (.lst (.cons (.v 6) (.cons (.v 7) .nil)))) b) (B al o5 (some x) (some y) o8 o9 o10 o11 o12 o13) h) N Q := by
  subst hb
  rw [s_for el_e]
  simp -implicitDefEqProofs [lim, itv, seqAt]
  refine s_for_by [x, y] (fun i env hh => ∃ (o8 : Option D) (l : Heap), env = B al o5 (some x) (some y) o8 o9 o10 o11 o12 o13 ∧ hh = h ++ (.lst [x, y] :: l)) (by simp [ItV.count, seqAt]) ⟨o8, [], rfl, by simp⟩ ?_ ?_ ?_
  · rintro i env hh ⟨o8, l, rfl, rfl⟩
    simp [ItV.next, seqAt]
  · rintro i d env hh ⟨o8, l, rfl, rfl⟩ hd
    have hit : Itm h d := by
      have : d ∈ [x, y] := List.mem_of_getElem? hd
      simp only [List.mem_cons, List.not_mem_nil, or_false] at this
      rcases this with rfl | rfl
      · exact hx
      · exact hy
    simp -implicitDefEqProofs
    rw [s_cons]
    simp -implicitDefEqProofs [picked]
    refine is_content_ok hit.kd.app hit.sz fun l2 => ?_
    simp -implicitDefEqProofs [picked]
    refine lawcont_ok 5 (n := n + 1) hit.dB hit.kd.app hit.sz fun l3 => ?_
    simp -implicitDefEqProofs [picked]
    refine is_truth_ok ?_
    simp -implicitDefEqProofs
    exact ⟨_, l ++ (l2 ++ l3), rfl, by simp⟩
  · rintro env hh ⟨o8, l, rfl, rfl⟩
    exact hn o8 _
end K79
end
section
set_option linter.all false
set_option autoImplicit false
set_option maxRecDepth 100000
namespace K79
open Mp MpW
def kbody : Sts := (.cons (.asg (.nm 6) (.call 23 (.cons (.v 1) (.cons (.c (.int 3)) .nil)) [0, 1]))
  (.cons (.asg (.nm 7) (.call 17 (.cons (.v 1) (.cons (.lst (.cons (.c (.bl true)) (.cons (.lst (.cons (.v 6) .nil)) (.cons (.dct .nil) (.cons (.tup (.cons (.v 6) (.cons (.lst (.cons (.c (.int 1)) .nil)) .nil))) (.cons (.tup (.cons (.c (.bl false)) .nil)) (.cons (.tup (.cons (.tup .nil) (.cons (.v 6) (.cons (.tup (.cons (.c (.bl true)) .nil)) .nil)))) (.cons (.bin .pow (.c (.int 10)) (.c (.int 18))) .nil)))))))) .nil)) [0, 1]))
  (.cons (.for_ (.nm 8) (.e (.lst (.cons (.v 6) (.cons (.v 7) .nil)))) (.cons (.if_ (.not (.call 18 (.cons (.call 2 (.cons (.v 8) .nil) [0]) (.cons (.call 25 (.cons (.v 8) (.cons (.c (.int 0)) .nil)) [0, 1]) .nil)) [0, 1])) (.cons (.ret (.c (.bl false)))
  .nil) .nil)
  .nil))
  (.cons (.asg (.tup (.cons (.nm 10) (.cons (.nm 11) .nil))) (.tup (.cons (.call 16 (.cons (.v 1) (.cons (.c (.int 6)) .nil)) [0, 1]) (.cons (.call 17 (.cons (.v 1) (.cons (.lst (.cons (.c (.int 0)) (.cons (.c (.int 1)) (.cons (.c (.int 2)) (.cons (.c (.int 7)) (.cons (.bin .pow (.c (.int 10)) (.c (.int 17))) .nil)))))) .nil)) [0, 1]) .nil))))
  (.cons (.if_ (.cmp .eq (.v 10) (.c (.int 5))) (.cons (.asg (.nm 12) (.call 24 (.cons (.v 1) (.cons (.bi .len (.cons (.idx (.v 3) (.c (.str [119, 97, 105, 116, 115]))) .nil)) .nil)) [0, 1]))
  (.cons (.expr (.meth (.v 2) 7 (.cons (.v 12) .nil) [0, 1]))
  (.cons (.expr (.call 22 (.cons (.v 3) (.cons (.v 12) .nil)) [0, 1]))
  (.cons (.asg (.nm 4) (.c .non))
  .nil)))) (.cons (.if_ (.cmp .eq (.v 10) (.c (.int 4))) (.cons (.asg (.nm 4) (.call 17 (.cons (.v 1) (.cons (.lst (.cons (.c .non) (.cons (.c (.int 0)) (.cons (.c (.int 1)) (.cons (.c (.int 2)) (.cons (.c (.int 3)) .nil)))))) .nil)) [0, 1]))
  (.cons (.expr (.meth (.v 2) 2 (.cons (.v 4) .nil) [0, 1]))
  .nil)) (.cons (.asg (.nm 13) (.caught 0 (.ite (.cmp .gt (.v 10) (.c (.int 0))) (.meth (.v 2) 3 (.cons (.v 11) (.cons (.v 6) .nil)) [0, 1, 2]) (.meth (.v 2) 5 .nil [0]))))
  (.cons (.if_ (.or (.cmp .ne (.cmp .isnot (.v 13) (.c .non)) (.cmp .eq (.v 4) (.c (.int 0)))) (.and (.cmp .isnot (.v 13) (.c .non)) (.not (.isin (.v 13) [.cls 5])))) (.cons (.ret (.c (.bl false)))
  .nil) .nil)
  (.cons (.if_ (.and (.cmp .is_ (.v 13) (.c .non)) (.cmp .eq (.v 10) (.c (.int 0)))) (.cons (.expr (.call 21 (.cons (.v 3) .nil) [0]))
  .nil) (.cons (.if_ (.cmp .is_ (.v 13) (.c .non)) (.cons (.asg (.idx (.v 3) (.c (.str [119, 97, 105, 116, 115]))) (.bin .add (.idx (.v 3) (.c (.str [119, 97, 105, 116, 115]))) (.lst (.cons (.tup (.cons (.v 11) (.cons (.v 6) .nil))) .nil))))
  .nil) .nil)
  .nil))
  (.cons (.asg (.nm 4) (.ite (.and (.cmp .isnot (.v 4) (.c .non)) (.cmp .gt (.v 4) (.c (.int 0)))) (.bin .sub (.v 4) (.c (.int 1))) (.v 4)))
  .nil)))))
  .nil))
  (.cons (.if_ (.or (.cmp .ne (.attr (.v 2) 9) (.v 4)) (.cmp .ne (.meth (.v 2) 6 .nil [0]) (.bi .tuple (.cons (.comp (.v 14) [14, 15] (.tup (.cons (.nm 14) (.cons (.nm 15) .nil))) (.path (.idx (.v 3) (.c (.str [119, 97, 105, 116, 115])))) .nil) .nil)))) (.cons (.ret (.c (.bl false)))
  .nil) .nil)
  (.cons (.asg (.nm 9) (.meth (.v 2) 8 .nil [0]))
  (.cons (.if_ (.or (.cmp .ne (.v 9) (.idx (.v 3) (.c (.str [108, 97, 110, 100, 101, 100])))) (.cmp .ne (.bi .list (.cons (.v 9) .nil)) (.bi .sorted (.cons (.idx (.v 3) (.c (.str [108, 97, 110, 100, 101, 100]))) .nil)))) (.cons (.ret (.c (.bl false)))
  .nil) .nil)
  (.cons (.if_ (.cmp .ne (.meth (.v 2) 4 (.cons (.v 11) .nil) [0, 1]) (.call 20 (.cons (.v 3) (.cons (.v 11) .nil)) [0, 1])) (.cons (.ret (.c (.bl false)))
  .nil) .nil)
  (.cons (.asg (.idx (.v 9) (.v 11)) (.c (.str [115, 112, 111, 105, 108, 116])))
  (.cons (.if_ (.not (.call 26 (.cons (.v 1) (.cons (.v 2) (.cons (.bi .len (.cons (.idx (.v 3) (.c (.str [119, 97, 105, 116, 115]))) .nil)) .nil))) [0, 1, 2])) (.cons (.ret (.c (.bl false)))
  .nil) .nil)
  .nil)))))))))))
theorem body_ok {n T t : Nat} {al : Option Nat} {L Wt : List (Nat × D)} {w v : Nat} {h : Heap} {o5 o6 o7 o8 o9 o10 o11 o12 o13 : Option D} {N : Env → Heap → Prop} {Q : Ks} (j : J T al L Wt w v h) (dt : Dt t L Wt) (ht : t ≤ 19) (hT : T < 700000)
    (hn : ∀ T' al' L' Wt' w' v' h' o6' o7' o8' o9' o10' o11' o12' o13', T' ≤ T + 200 → J T' al' L' Wt' w' v' h' → Dt (t + 1) L' Wt' → N (B al' o5 o6' o7' o8' o9' o10' o11' o12' o13') h') :
    S (evSs kpg (callFn kpg (n + 8)) kbody (B al o5 o6 o7 o8 o9 o10 o11 o12 o13) h) N Q := by
  unfold kbody
  rw [s_cons]
  simp -implicitDefEqProofs [picked]
  refine content_ok 3 (n := n + 1) j.st (by simp [gd]; omega) (by simp [sd]) fun x T1 h1 cx t1 s1 u1 => ?_
  have t1 : T1 ≤ T + 80 := by simpa [gd] using t1
  have j1 := j.un s1 u1
  simp -implicitDefEqProofs
  rw [s_cons]
  simp -implicitDefEqProofs [picked, lim, dispOf, merge]
  refine pick_ok (a := h1.length + 3) (xs := [.bl true, .ref h1.length, .ref (h1.length + 1), .tup [x, .ref (h1.length + 2)], .tup [.bl false], .tup [.tup [], x, .tup [.bl true]], .int 1000000000000000000]) s1.app (by omega) (by have := s1.four; omega) (by simp) (by simp) (by simp) fun r bad h2 hr2 s2 u2 => ?_
  have l1 := s1.four
  have hx := cx.sz3
  have xd := plB_dB _ _ cx.pl
  have ix : Itm h2 x := ⟨cx.kd, by omega, dB_mono _ _ _ xd (by omega)⟩
  have hb : Itm h2 bad := by
    have a1 : h2[h1.length]? = some (.lst [x]) := u2.get (by omega) (by simp)
    have a2 : h2[h1.length + 1]? = some (.dct []) := u2.get (by omega) (by simp)
    have a3 : h2[h1.length + 2]? = some (.lst [.int 1]) := u2.get (by omega) (by simp)
    have : bad ∈ [D.bl true, .ref h1.length, .ref (h1.length + 1), .tup [x, .ref (h1.length + 2)], .tup [.bl false], .tup [.tup [], x, .tup [.bl true]], .int 1000000000000000000] := List.mem_of_getElem? hr2
    simp only [List.mem_cons, List.not_mem_nil, or_false] at this
    have xd' : K79.dB 4 x = true := xd
    rcases this with rfl | rfl | rfl | rfl | rfl | rfl | rfl
    · exact ⟨trivial, by decide, by decide⟩
    · exact ⟨Or.inl ⟨_, a1⟩, by simp [K79.sz], rfl⟩
    · exact ⟨Or.inr ⟨_, a2⟩, by simp [K79.sz], rfl⟩
    · exact ⟨⟨ix.kd, Or.inl ⟨_, a3⟩, trivial⟩, by simp [K79.sz, szs]; omega, by simp [K79.dB, xd']⟩
    · exact ⟨⟨trivial, trivial⟩, by decide, by decide⟩
    · exact ⟨⟨trivial, ix.kd, ⟨trivial, trivial⟩, trivial⟩, by simp [K79.sz, szs]; omega, by simp [K79.dB, xd']⟩
    · exact ⟨trivial, by decide, by decide⟩
  clear hr2
  have j2 := j1.un s2 (Un.app.trans u2)
  simp -implicitDefEqProofs
  rw [s_cons]
  refine chk_ok rfl ix hb fun o8' l => ?_
  have j3 : J (T1 + 1) al L Wt w v (h2 ++ l) := j2.app
  generalize h2 ++ l = h3 at j3
  rw [s_cons]
  simp -implicitDefEqProofs [picked]
  refine draw_ok (size := 6) j3.st (by omega) (by omega) (by omega) fun way h4 hw s4 u4 => ?_
  have j4 := j3.un s4 u4
  simp -implicitDefEqProofs [picked, lim]
  refine pick_ok (a := h4.length) (xs := [.int 0, .int 1, .int 2, .int 7, .int 100000000000000000]) s4.app (by omega) s4.four (by simp) (by simp) (by simp) fun r2 cc h5 hr5 s5 u5 => ?_
  have j5 := j4.un s5 (Un.app.trans u5)
  have : ∃ c : Nat, cc = .int (c : Int) ∧ c < 1000000000000000000 := by
    have : cc ∈ [D.int 0, .int 1, .int 2, .int 7, .int 100000000000000000] := List.mem_of_getElem? hr5
    simp only [List.mem_cons, List.not_mem_nil, or_false] at this
    rcases this with rfl | rfl | rfl | rfl | rfl
    · exact ⟨0, rfl, by decide⟩
    · exact ⟨1, rfl, by decide⟩
    · exact ⟨2, rfl, by decide⟩
    · exact ⟨7, rfl, by decide⟩
    · exact ⟨100000000000000000, rfl, by decide⟩
  obtain ⟨c, rfl, hc⟩ := this
  clear hr5
  simp -implicitDefEqProofs
  rw [s_cons]
  refine op_ok (n := n + 3) j5 dt ht (by omega) hc cx fun T6 al6 L6 W6 w6 v6 h6 o12' o13' t6 j6 dt6 => ?_
  refine rest_ok (n := n + 2) j6 dt6 (by omega) (by omega) hc fun a h7 j7 => ?_
  exact hn (T6 + 4) al6 L6 W6 w6 v6 h7 _ _ _ _ _ _ _ _ (by omega) j7 dt6
theorem law_ok {n : Nat} {ns : List Int} (hl : ns.length ≤ 63) : W (callFn kpg (n + 9) 27 [.ref 0] [.ro (ns.map .int)]) (fun d _ => d = .bl true) noX := by
  rw [w_fn kf27 rfl]
  unfold kb27
  rw [s_cons]
  simp -implicitDefEqProofs [picked]
  refine begun_ok hl fun h0 l0 e0 s0 => ?_
  simp -implicitDefEqProofs
  rw [s_cons]
  simp -implicitDefEqProofs [picked, l0]
  refine init_ok l0 fun h1 l1 d1 f1 => ?_
  have s1 : St 0 h1 := s0.fr f1 fun a ha q => q
  have e1 : h1[0]? = some (.ro (ns.map .int)) := f1.get (fun q => q) e0
  simp -implicitDefEqProofs [l1, lim, dispOf, D.key, merge, dput]
  rw [l0]
  have j : J 0 none [] [] 6 9 (h1 ++ [MO.dct [(kLd, D.ref 8), (kWt, D.ref 9)], MO.dct [], MO.lst []]) := ⟨s1.app, d1.app, ⟨by rw [← l1]; simp, by rw [List.getElem?_append_right (by omega), l1]; rfl, by rw [List.getElem?_append_right (by omega), l1]; rfl, by omega⟩, by omega, by omega, by omega⟩
  have e2 : (h1 ++ [MO.dct [(kLd, D.ref 8), (kWt, D.ref 9)], MO.dct [], MO.lst []])[0]? = some (.ro (ns.map .int)) := get_app e1
  generalize (h1 ++ [MO.dct [(kLd, D.ref 8), (kWt, D.ref 9)], MO.dct [], MO.lst []]) = H at j e2
  rw [s_cons]
  simp -implicitDefEqProofs [ga9 j.dk.d4, alD]
  simp -implicitDefEqProofs [j.dk.d4, dins, fget, List.lookup, picked]
  refine cells_ok j.dk (by simp) (by simp [kys]) fun l a la ea => ?_
  have ea : (H ++ l)[a]? = some (.dct []) := ea
  have j1 : J 0 none [] [] 6 9 (H ++ l) := j.app
  have e3 : (H ++ l)[0]? = some (.ro (ns.map .int)) := get_app e2
  generalize H ++ l = H1 at j1 e3 ea
  have j2 : J 0 none [] [] 6 9 (H1 ++ [MO.dct []]) := j1.app
  have e4 : (H1 ++ [MO.dct []])[0]? = some (.ro (ns.map .int)) := get_app e3
  have en : cmpop .ne (.ref a) (.ref H1.length) (H1 ++ [MO.dct []]) = some false := ne_empty (get_app ea) (by simp)
  simp -implicitDefEqProofs [dispOf, merge, en]
  generalize H1 ++ [MO.dct []] = H2 at j2 e4
  simp -implicitDefEqProofs [j2.dk.d4, dins, fget, List.lookup, picked]
  refine waiting_ok j2.dk (by simp) fun l2 => ?_
  have j3 : J 0 none [] [] 6 9 (H2 ++ l2) := j2.app
  have e5 : (H2 ++ l2)[0]? = some (.ro (ns.map .int)) := get_app e4
  generalize H2 ++ l2 = H3 at j3 e5
  have en2 : cmpop .ne (.tup []) (.tup []) H3 = some false := ne_pl (k := 1) rfl (by omega)
  simp -implicitDefEqProofs [lim, en2]
  rw [s_cons]
  rw [s_for el_rng]
  obtain ⟨m, hm, hm2⟩ : ∃ m : Nat, (6 : Int) + (if (8 : Int) < (ns.length : Int) then 8 else (ns.length : Int)) = m ∧ m ≤ 14 := by
    split
    · exact ⟨14, rfl, by omega⟩
    · exact ⟨6 + ns.length, by omega, by omega⟩
  have hsm := smallI_nat (n := m) (by omega)
  simp -implicitDefEqProofs [biop, len, e5, opt, hm, hsm]
  refine s_for_by (rangeL 0 m) (fun i env hh => ∃ (T : Nat) (al : Option Nat) (L Wt : List (Nat × D)) (w v : Nat) (o5 o6 o7 o8 o9 o10 o11 o12 o13 : Option D), env = B al o5 o6 o7 o8 o9 o10 o11 o12 o13 ∧ T ≤ 200 * i ∧ J T al L Wt w v hh ∧ Dt i L Wt) (by simp) ⟨0, none, [], [], 6, 9, none, none, none, none, none, none, none, none, none, rfl, by omega, j3, ⟨fun p hp => (by cases hp), fun p hp => (by cases hp), by simp [kys], by simp⟩⟩ ?_ ?_ ?_
  · intro i env hh _; rfl
  · rintro i d env hh ⟨T, al, L, Wt, w, v, o5, o6, o7, o8, o9, o10, o11, o12, o13, rfl, hT, j, dt⟩ hd
    have hi : i < m := by
      rw [rangeL_get] at hd
      split at hd
      · assumption
      · cases hd
    simp -implicitDefEqProofs
    refine body_ok j dt (by omega) (by omega) fun T' al' L' Wt' w' v' h' o6' o7' o8' o9' o10' o11' o12' o13' hT' j' dt' => ?_
    exact ⟨T', al', L', Wt', w', v', _, o6', o7', o8', o9', o10', o11', o12', o13', rfl, by omega, j', dt'⟩
  · rintro env hh ⟨T, al, L, Wt, w, v, o5, o6, o7, o8, o9, o10, o11, o12, o13, rfl, hT, j, dt⟩
    rw [s_cons]
    simp -implicitDefEqProofs
theorem law_true (ns : List Int) (hl : ns.length ≤ 63) : ∃ h', callFn kpg 20 27 [.ref 0] [.ro (ns.map .int)] = .ok (.bl true) h' := by
  obtain ⟨d, h, e, rfl⟩ := (law_ok (n := 11) hl).ok
  exact ⟨h, e⟩
end K79
end
open PySem PySem.W PySem.Calls PyProof.Rows
theorem PySem.Challenge.cw_asifcopied_k79_contents_and_disks_holds : PySem.Challenge.rw_asifcopied_k79_contents_and_disks.Holds := by
  w_on; o_law
  refine HandSHeadRun.head_any (r := OpenLaw.row PySem.Challenge.rw_asifcopied_k79_contents_and_disks) (q := view (OpenLaw.row PySem.Challenge.rw_asifcopied_k79_contents_and_disks).prog [31]) (H := K79.hk) (ob := K79.ob) (M := 4000) (loose := K79.loose) (d := HandSHeadRun.topDef (OpenLaw.row PySem.Challenge.rw_asifcopied_k79_contents_and_disks).prog 31) (kwd := []) K79.ob_eq
    (by kernel_rfl) (fun s => by kernel_rfl) K79.run (by kernel_rfl) (by kernel_rfl) (by kernel_rfl) (by rfl) (by first | assumption | decide +kernel) (by decide +kernel) ⟨rfl, rfl, rfl, rfl, rfl, by decide +kernel⟩ ?hw ?hc
  case hw => w_witness2
  case hc =>
    refine MpS.mp_walk (l := PySem.Challenge.rw_asifcopied_k79_contents_and_disks) (n := 63) (lev := 20) (x := "script") rfl (by decide) (by kernel_rfl) ⟨rfl, by decide, by decide⟩ ?F
    intro w mg fa h Y G hmg0
    obtain ⟨Kx, Y⟩ := Y
    have hmg : mg ("law" : PySem.Str) = some (.ref fa) := by
      have e : (HandSHeadRun.topDef (OpenLaw.row PySem.Challenge.rw_asifcopied_k79_contents_and_disks).prog 31).name = ("law" : PySem.Str) := by kernel_rfl
      rw [← e]
      exact hmg0
    exact MpS.Src.law_ok (S := K79.src) (nm := "law") (MpS.Src.stat_ok K79.stat) Y G K79.tr hmg (by kernel_rfl) (by kernel_rfl) K79.kf27 rfl K79.law_true
