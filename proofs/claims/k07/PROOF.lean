import PyProof.Rows.All
import Wide.All
import OpenK.AllK
import Wide.FinOn
import HandS.ForMost
import HandS.Evl
import HandS.Wide
import HandS.TupAny
import HandS.TupMul
import HandS.IsInst
import HandS.Zip
import HandS.Flow
import HandS.HeadHook1
import HandS.Exc
import HandS.CallSlots
import PyProof.StrOps2
import PyProof.EqKinds
import PyProof.NeKinds
import HandS.RaiseMore
import HandS.SortInts
import HandS.Dict
import HandS.SetKeys
import Wide.Txt2
import PyProof.ReprReads
import PyProof.ReprRoads
import KE.GoesNew
import HandS.Small
import HandS.Words
import HandS.WordsExc
import HandS.CallRecv
import HandS.Strs
import HandS.Style
import HandS.Defaults
import HandS.HeadWalk
import HandS.Property
import HandS.ClsMeth
import HandS.Star
import KE.RegKCallOwn
import HandS.NoneIn
import HandS.FStr
import HandS.Deep
import HandS.Head0
import HandS.Head1
import HandS.Head2
import HandS.HeadEnd
import HandS.HeadHook2
import PyProof.FitsInt
import PyProof.StrLawsRepr
import PyProof.P3Eq
import PySem.Challenge.RW_mostkept_k07_sums_and_differences
set_option Elab.async false
set_option linter.all false
set_option maxRecDepth 100000
set_option maxHeartbeats 4000000
set_option exponentiation.threshold 20000
namespace Qv
open PySem L2

/-- plain data, as deep as it goes; box: a child that only its container knows -/
inductive D where
  | non | bl (b : Bool) | int (i : Int) | str (s : Str) | tup (l : List D) | lst (l : List D) | dct (l : List (D × D)) | scr (l : List Int) | ins (c : Str) (fs : List (Str × D)) | ty (c : Str) | box (d : D)
deriving Inhabited
mutual
def D.eqb : D → D → Bool
  | .non, .non => true
  | .bl a, .bl b => a == b
  | .int a, .int b => decide (a = b)
  | .str a, .str b => decide (a = b)
  | .tup a, .tup b => eqbL a b
  | .lst a, .lst b => eqbL a b
  | .dct a, .dct b => eqbK a b
  | .scr a, .scr b => decide (a = b)
  | .ins c a, .ins d b => decide (c = d) && eqbF a b
  | .ty a, .ty b => decide (a = b)
  | .box a, .box b => D.eqb a b
  | _, _ => false
def eqbL : List D → List D → Bool
  | [], [] => true
  | a :: r, b :: s => D.eqb a b && eqbL r s
  | _, _ => false
def eqbK : List (D × D) → List (D × D) → Bool
  | [], [] => true
  | (a, x) :: r, (b, y) :: s => (D.eqb a b && D.eqb x y) && eqbK r s
  | _, _ => false
def eqbF : List (Str × D) → List (Str × D) → Bool
  | [], [] => true
  | (a, x) :: r, (b, y) :: s => (decide (a = b) && D.eqb x y) && eqbF r s
  | _, _ => false
end
mutual
theorem D.eqb_iff : ∀ a b : D, D.eqb a b = true ↔ a = b
  | .non, b => by cases b <;> simp [D.eqb]
  | .bl a, b => by cases b <;> simp [D.eqb]
  | .int a, b => by cases b <;> simp [D.eqb]
  | .str a, b => by cases b <;> simp [D.eqb]
  | .tup a, b => by cases b <;> simp [D.eqb, eqbL_iff a]
  | .lst a, b => by cases b <;> simp [D.eqb, eqbL_iff a]
  | .dct a, b => by cases b <;> simp [D.eqb, eqbK_iff a]
  | .scr a, b => by cases b <;> simp [D.eqb]
  | .ins c a, b => by cases b <;> simp [D.eqb, eqbF_iff a]
  | .ty a, b => by cases b <;> simp [D.eqb]
  | .box a, b => by cases b <;> simp [D.eqb, D.eqb_iff a]
theorem eqbL_iff : ∀ a b : List D, eqbL a b = true ↔ a = b
  | [], b => by cases b <;> simp [eqbL]
  | x :: r, b => by cases b <;> simp [eqbL, D.eqb_iff x, eqbL_iff r]
theorem eqbK_iff : ∀ a b : List (D × D), eqbK a b = true ↔ a = b
  | [], b => by cases b <;> simp [eqbK]
  | (x, y) :: r, b => by
    cases b with
    | nil => simp [eqbK]
    | cons p s => obtain ⟨u, v⟩ := p; simp [eqbK, D.eqb_iff x, D.eqb_iff y, eqbK_iff r]
theorem eqbF_iff : ∀ a b : List (Str × D), eqbF a b = true ↔ a = b
  | [], b => by cases b <;> simp [eqbF]
  | (x, y) :: r, b => by
    cases b with
    | nil => simp [eqbF]
    | cons p s => obtain ⟨u, v⟩ := p; simp [eqbF, D.eqb_iff y, eqbF_iff r]
end
instance : DecidableEq D := fun a b => decidable_of_iff _ (D.eqb_iff a b)

mutual
def D.py : D → PyData
  | .non => .none | .bl b => .bool b | .int i => .int i | .str s => .str s
  | .tup l => .tuple (pyL l) | .lst l => .list (pyL l) | .dct l => .dict (pyK l)
  | .scr l => .list (l.map .int) | .ins _ _ => .none | .ty _ => .none | .box _ => .none
def pyL : List D → List PyData
  | [] => [] | d :: r => D.py d :: pyL r
def pyK : List (D × D) → List (PyData × PyData)
  | [] => [] | (k, v) :: r => (D.py k, D.py v) :: pyK r
end
mutual
/-- no instance, no class, no box in it -/
def D.pl : D → Bool
  | .tup l | .lst l => plL l
  | .dct l => plK l
  | .ins _ _ | .ty _ | .box _ => false
  | _ => true
def plL : List D → Bool
  | [] => true | d :: r => D.pl d && plL r
def plK : List (D × D) → Bool
  | [] => true | (k, v) :: r => D.pl k && (D.pl v && plK r)
end
mutual
/-- no list, no instance in it; dicts have texts and ints for keys -/
def D.nl : D → Bool
  | .tup l => nlL l
  | .dct l => nlK l
  | .non | .bl _ | .int _ | .str _ => true
  | _ => false
def nlL : List D → Bool
  | [] => true | d :: r => D.nl d && nlL r
def nlK : List (D × D) → Bool
  | [] => true | (k, v) :: r => (match k with | .int _ => true | .str _ => true | _ => false) && (D.nl v && nlK r)
end
def D.isBox : D → Bool
  | .box _ => true
  | _ => false
/-- no child is a box -/
def D.flat : D → Bool
  | .lst l => l.all fun d => !d.isBox
  | .dct l => l.all fun p => !p.2.isBox
  | .ins _ fs => fs.all fun p => !p.2.isBox
  | .box _ => false
  | _ => true
/-- a step to a child -/
inductive Pt where
  | ix (n : Nat) | fd (f : Str) | dx
deriving DecidableEq
def kvGet (l : List (D × D)) (x : D) : Option D := (l.find? fun q => decide (q.1 = x)).map (·.2)
def kvSet (l : List (D × D)) (x y : D) : List (D × D) := if (l.any fun q => decide (q.1 = x)) = true then l.map (fun q => if q.1 = x then (q.1, y) else q) else l ++ [(x, y)]
def kvDel (l : List (D × D)) (x : D) : List (D × D) := l.filter fun q => decide (q.1 ≠ x)
def fsGet : List (Str × D) → Str → Option D
  | [], _ => none
  | (k, v) :: r, x => if k = x then some v else fsGet r x
def fsSet : List (Str × D) → Str → D → List (Str × D)
  | [], x, y => [(x, y)]
  | (k, v) :: r, x, y => if k = x then (k, y) :: r else (k, v) :: fsSet r x y
/-- where a key stands -/
def kvIdx (l : List (D × D)) (x : D) : Option Nat := l.findIdx? fun q => decide (q.1 = x)
/-- keys: ints and texts; tuples of them -/
def keyS : D → Option Key
  | .int i => some (.inl i)
  | .str x => some (.inr x)
  | _ => none
def keyL : List D → Option (List Key)
  | [] => some []
  | d :: r => match keyS d, keyL r with
    | some k, some ks => some (k :: ks)
    | _, _ => none
def keyT : D → Option (List Key)
  | .tup l => keyL l
  | _ => none
/-- a key of the dict's own kind -/
def keyFits (l : List (D × D)) (k : D) : Bool := ((keyS k).isSome && (match l with | [] => true | q :: _ => (keyS q.1).isSome)) || ((keyT k).isSome && (match l with | [] => true | q :: _ => (keyT q.1).isSome))
def D.kid : D → Pt → Option D
  | .lst l, .ix n => l[n]?
  | .dct l, .ix n => (l[n]?).map Prod.snd
  | .ins _ fs, .fd f => fsGet fs f
  | _, _ => none
def D.kidSet : D → Pt → D → D
  | .lst l, .ix n, x => .lst (l.set n x)
  | .dct l, .ix n, x => match l[n]? with
    | some q => .dct (l.set n (q.1, x))
    | none => .dct l
  | .ins c fs, .fd f, x => .ins c (fsSet fs f x)
  | d, _, _ => d
/-- the node at a path, through boxes -/
def D.at : D → List Pt → Option D
  | d, [] => some d
  | d, p :: r => match d.kid p with
    | some (.box c) => c.at r
    | _ => none
def D.put : D → List Pt → D → D
  | _, [], x => x
  | d, p :: r, x => match d.kid p with
    | some (.box c) => d.kidSet p (.box (c.put r x))
    | _ => d
mutual
/-- without boxes -/
def D.fz : D → D
  | .lst l => .lst (fzL l)
  | .dct l => .dct (fzK l)
  | .ins c fs => .ins c (fzF fs)
  | .box d => d.fz
  | d => d
def fzL : List D → List D
  | [] => []
  | .box d :: r => d.fz :: fzL r
  | d :: r => d :: fzL r
def fzK : List (D × D) → List (D × D)
  | [] => []
  | (k, .box d) :: r => (k, d.fz) :: fzK r
  | (k, d) :: r => (k, d) :: fzK r
def fzF : List (Str × D) → List (Str × D)
  | [] => []
  | (k, .box d) :: r => (k, d.fz) :: fzF r
  | (k, d) :: r => (k, d) :: fzF r
end

/-- an exception: its class, its fields -/
structure Xn where
  cls : Str
  fs : List (Str × D)
/-- what an expression hands back: a shared thing, a new thing of nobody's, the thing owned at a slot; a new thing with boxes, a node of a slot with boxes -/
inductive Val where
  | sh (d : D) | fr (d : D) | ow (i : Nat) | fn (d : D) | np (i : Nat) (p : List Pt)
/-- a slot: empty, a shared thing, a thing owned here (io: the caller's, passed by reference), one with boxes -/
inductive Slot where
  | em | sh (d : D) | ow (io : Bool) (d : D) | nt (io : Bool) (d : D)
abbrev En := List Slot
inductive Out (α : Type) where
  | ok (a : α) | ex (x : Xn) (e : En) | err
abbrev M (α : Type) := En → Out (α × En)
def ret {α : Type} (a : α) : M α := fun e => .ok (a, e)
def fail {α : Type} : M α := fun _ => .err
def bnd {α β : Type} (m : M α) (f : α → M β) : M β := fun e => match m e with
  | .ok (a, e') => f a e'
  | .ex x e' => .ex x e'
  | .err => .err
/-- a pending operand is shared -/
def opd : Val → Val
  | .fr d => .sh d
  | v => v
/-- .. and stays what it is while others are asked -/
def pend : Val → M Val
  | .fr d => ret (.sh d)
  | .sh d => ret (.sh d)
  | .ow i => ret (.ow i)
  | .np i [] => ret (.np i [])
  | .fn d => ret (.sh d.fz)
  | _ => fail
def opt {α : Type} : Option α → M α
  | some a => ret a
  | none => fail
/-- read -/
def der : Val → M D
  | .sh d => ret d
  | .fr d => ret d
  | .ow i => fun e => match e[i]? with
    | some (.ow _ d) => .ok (d, e)
    | _ => .err
  | .fn _ => fail
  | .np i π => fun e => match e[i]? with
    | some (.nt _ d) => match d.at π with
      | some c => if c.flat then .ok (c, e) else .err
      | none => .err
    | _ => .err
/-- shared from here on -/
def shr : Val → M D
  | .sh d => ret d
  | .fr d => ret d
  | .ow i => fun e => match e[i]? with
    | some (.ow false d) => .ok (d, e.set i (.sh d))
    | _ => .err
  | .fn d => ret d.fz
  | .np i [] => fun e => match e[i]? with
    | some (.nt false d) => .ok (d.fz, e.set i (.sh d.fz))
    | _ => .err
  | .np i (_ :: _) => fail

/-! ### operations on data -/
def lenLim : Nat := 16777216
def addD : D → D → Option Val
  | .int i, .int j => some (.sh (.int (i + j)))
  | .str a, .str b => if a.length + b.length ≤ lenLim then some (.sh (.str (a ++ b))) else none
  | .lst a, .lst b => if a.length + b.length ≤ lenLim then some (.fr (.lst (a ++ b))) else none
  | .tup a, .tup b => if a.length + b.length ≤ lenLim then some (.sh (.tup (a ++ b))) else none
  | _, _ => none
def subD : D → D → Option Val
  | .int i, .int j => some (.sh (.int (i - j)))
  | _, _ => none
/-- a text, again and again -/
def repS (a : Str) (n : Nat) : Str := ⟨(List.replicate n a.cps).foldl (· ++ ·) #[]⟩
def mulD : D → D → Option Val
  | .int i, .int j => if i.natAbs.log2 + j.natAbs.log2 < 1000000 then some (.sh (.int (i * j))) else none
  | .lst a, .int k => if a.length * k.toNat ≤ lenLim ∧ -(2 ^ 63) ≤ k ∧ k < 2 ^ 63 then some (.fr (.lst (List.replicate k.toNat a).flatten)) else none
  | .tup a, .int k => if a ≠ [] ∧ 0 ≤ k ∧ k ≤ 1000 ∧ a.length ≤ 1000 then some (.sh (.tup (List.replicate k.toNat a).flatten)) else none
  | .str a, .int k => if 2 ≤ k ∧ k ≤ 1000 ∧ a.length ≤ 1000 ∧ a.length ≠ 0 then some (.sh (.str (repS a k.toNat))) else none
  | _, _ => none
def fdivD : D → D → Option Val
  | .int i, .int j => if 0 < j ∧ j.natAbs.log2 < 9000 then some (.sh (.int (i / j))) else none
  | _, _ => none
def modD : D → D → Option Val
  | .int i, .int j => if 0 < j then some (.sh (.int (i % j))) else none
  | _, _ => none
def powD : D → D → Option Val
  | .int i, .int j => if 0 ≤ j ∧ (Builtin.Int.intBits i : Int) * j ≤ 2 ^ 27 then some (.sh (.int (i ^ j.toNat))) else none
  | _, _ => none
def binOf : Operator → D → D → Option Val
  | .Add => addD | .Sub => subD | .Mult => mulD | .FloorDiv => fdivD | .Mod => modD | .Pow => powD
  | _ => fun _ _ => none

def eqOk (d : D) : Bool := d.pl && SeqAt.shaped d.py
/-- lists of different lengths -/
def difLen : D → D → Bool
  | .lst l, .lst m => decide (l.length ≠ m.length)
  | _, _ => false
def eqD : D → D → Option Val
  | .str a, .str b => some (.sh (.bl (decide (a = b))))
  | a, b => if eqOk a && eqOk b then some (.sh (.bl (PyData.eqv a.py b.py))) else if difLen a b then some (.sh (.bl false)) else none
def neD : D → D → Option Val
  | .str a, .str b => some (.sh (.bl (!decide (a = b))))
  | a, b => if eqOk a && eqOk b then some (.sh (.bl (!PyData.eqv a.py b.py))) else if difLen a b then some (.sh (.bl true)) else none
def intsOf : List D → Option (List Int)
  | [] => some []
  | .int b :: r => (intsOf r).map (b :: ·)
  | _ => none
def ltD : D → D → Option Val
  | .int i, .int j => some (.sh (.bl (decide (i < j))))
  | .str a, .str b => some (.sh (.bl (decide (a.cps.toList < b.cps.toList))))
  | .tup a, .tup b => match intsOf a, intsOf b with
    | some x, some y => some (.sh (.bl (HT.lexLt x y)))
    | _, _ => none
  | _, _ => none
def leD : D → D → Option Val
  | .int i, .int j => some (.sh (.bl (decide (i ≤ j))))
  | .str a, .str b => some (.sh (.bl (!decide (b.cps.toList < a.cps.toList))))
  | _, _ => none
def gtD : D → D → Option Val
  | .int i, .int j => some (.sh (.bl (decide (j < i))))
  | .str a, .str b => some (.sh (.bl (decide (b.cps.toList < a.cps.toList))))
  | _, _ => none
def geD : D → D → Option Val
  | .int i, .int j => some (.sh (.bl (decide (j ≤ i))))
  | .str a, .str b => some (.sh (.bl (!decide (a.cps.toList < b.cps.toList))))
  | _, _ => none
def flatD : D → Option V
  | .non => some .non | .bl b => some (.bl b) | .int i => some (.int i) | .str s => some (.str s)
  | _ => none
def flatL : List D → Option (List V)
  | [] => some []
  | d :: r => match flatD d, flatL r with
    | some v, some vs => some (v :: vs)
    | _, _ => none
def pyOf : D → List PyData
  | .lst l => pyL l
  | .tup l => pyL l
  | _ => []
/-- among data as deep as they go -/
def inDp (neg : Bool) (x c : D) : Option Val := if eqOk x && eqOk c then some (.sh (.bl (if neg then !(pyOf c).any fun z => PyData.eqv z x.py else (pyOf c).any fun z => PyData.eqv z x.py))) else none
def inD (neg : Bool) : D → D → Option Val
  | .str a, .str z => match a.cps.toList with
    | [c] => some (.sh (.bl (if neg then !decide (c ∈ z.cps.toList) else decide (c ∈ z.cps.toList))))
    | _ => none
  | x, .tup l => match flatD x, flatL l with
    | some v, some vs => some (.sh (.bl (if neg then !inV v vs else inV v vs)))
    | _, _ => inDp neg x (.tup l)
  | x, .lst l => match flatD x, flatL l with
    | some v, some vs => some (.sh (.bl (if neg then !inV v vs else inV v vs)))
    | _, _ => inDp neg x (.lst l)
  | _, _ => none
def isND (neg : Bool) (x : D) : D → Option Val
  | .non => some (.sh (.bl (match x with | .non => !neg | _ => neg)))
  | _ => none
def cmpOf : CmpOp → D → D → Option Val
  | .Eq => eqD | .NotEq => neD | .Lt => ltD | .LtE => leD | .Gt => gtD | .GtE => geD
  | .In => inD false | .NotIn => inD true | .Is => isND false | .IsNot => isND true
def truD : D → Option Bool
  | .non => some false | .bl b => some b | .int i => some (i != 0)
  | .str s => if s.length ≤ lenLim then some ((s.length : Int) != 0) else none
  | .tup l => some (!l.isEmpty) | .lst l => some (!l.isEmpty)
  | _ => none
def ixD : D → D → Option D
  | .lst l, .int i => atI l i
  | .tup l, .int i => atI l i
  | .scr l, .int i => (atI l i).map .int
  | .str z, .int i => if z.length ≤ lenLim then (atI z.cps.toList i).map fun c => .str ⟨#[c]⟩ else none
  | _, _ => none
def cutD (l : List D) (lo hi : Option Int) : List D := (l.drop (HT.sIx l.length 0 lo)).take (HT.sIx l.length l.length hi - HT.sIx l.length 0 lo)
def slD : D → Option Int → Option Int → Option Val
  | .lst l, lo, hi => some (.fr (.lst (cutD l lo hi)))
  | .tup l, lo, hi => some (.sh (.tup (cutD l lo hi)))
  | .str z, lo, hi => if z.length ≤ lenLim then some (.sh (.str (cutS z lo hi))) else none
  | _, _, _ => none
end Qv
namespace Qv
open PySem L2
open Evl (Ex)

/-! ### how data lies in the abstract heap -/
def keyD : Key → D
  | .inl i => .int i
  | .inr x => .str x
mutual
inductive Rep (K : PySem.W.Frag) (H : Hp) : V → D → Prop
  | non : Rep K H .non .non
  | bl (b : Bool) : Rep K H (.bl b) (.bl b)
  | int (i : Int) : Rep K H (.int i) (.int i)
  | str (x : Str) : Rep K H (.str x) (.str x)
  | lst {a : Addr} {xs : List V} {ds : List D} : H a = some (.lst xs) → RepL K H xs ds → Rep K H (.ref a) (.lst ds)
  | tup {a : Addr} {xs : List V} {ds : List D} : H a = some (.tup xs) → RepL K H xs ds → Rep K H (.ref a) (.tup ds)
  | dct {a : Addr} {kvs : List (Key × V)} {es : List (D × D)} : H a = some (.dK kvs) → RepK K H kvs es → Rep K H (.ref a) (.dct es)
  | dcT {a : Addr} {kvs : List (List Key × V)} {es : List (D × D)} : H a = some (.dT kvs) → RepT K H kvs es → Rep K H (.ref a) (.dct es)
  | scr {a : Addr} {ns : List Int} : SqL K H a (ns.map V.int) → Rep K H (.ref a) (.scr ns)
  | ins {a dx : Addr} {c : Str} {vs : List (Str × V)} {fs : List (Str × D)} : H a = some (.ins (He.ga K c) dx vs) → H dx = some (.own a) → (∀ f, (vs.lookup f).isSome = (fsGet fs f).isSome) → (∀ f v d, vs.lookup f = some v → fsGet fs f = some d → Rep K H v d) → Rep K H (.ref a) (.ins c fs)
  | ty (c : Str) : Rep K H (.ref (He.ga K c)) (.ty c)
inductive RepL (K : PySem.W.Frag) (H : Hp) : List V → List D → Prop
  | nil : RepL K H [] []
  | cons {v : V} {vs : List V} {d : D} {ds : List D} : Rep K H v d → RepL K H vs ds → RepL K H (v :: vs) (d :: ds)
inductive RepK (K : PySem.W.Frag) (H : Hp) : List (Key × V) → List (D × D) → Prop
  | nil : RepK K H [] []
  | cons {k : Key} {v : V} {kvs : List (Key × V)} {d : D} {es : List (D × D)} : Rep K H v d → RepK K H kvs es → RepK K H ((k, v) :: kvs) ((keyD k, d) :: es)
inductive RepT (K : PySem.W.Frag) (H : Hp) : List (List Key × V) → List (D × D) → Prop
  | nil : RepT K H [] []
  | cons {k : List Key} {v : V} {kvs : List (List Key × V)} {d : D} {es : List (D × D)} : Rep K H v d → RepT K H kvs es → RepT K H ((k, v) :: kvs) ((.tup (k.map keyD), d) :: es)
end
section
variable {K : PySem.W.Frag} {G H H' R : Hp}
mutual
theorem Rep.mono (e : Ex H H') : ∀ {v : V} {d : D}, Rep K H v d → Rep K H' v d
  | _, _, .non => .non
  | _, _, .bl b => .bl b
  | _, _, .int i => .int i
  | _, _, .str x => .str x
  | _, _, .lst h r => .lst (e _ _ h) (RepL.mono e r)
  | _, _, .tup h r => .tup (e _ _ h) (RepL.mono e r)
  | _, _, .dct h r => .dct (e _ _ h) (RepK.mono e r)
  | _, _, .dcT h r => .dcT (e _ _ h) (RepT.mono e r)
  | _, _, .scr h => .scr (Evl.ex_l e h)
  | _, _, .ins h1 h2 h3 h4 => .ins (e _ _ h1) (e _ _ h2) h3 fun f v d a b => Rep.mono e (h4 f v d a b)
  | _, _, .ty c => .ty c
theorem RepL.mono (e : Ex H H') : ∀ {vs : List V} {ds : List D}, RepL K H vs ds → RepL K H' vs ds
  | _, _, .nil => .nil
  | _, _, .cons h r => .cons (Rep.mono e h) (RepL.mono e r)
theorem RepK.mono (e : Ex H H') : ∀ {vs : List (Key × V)} {ds : List (D × D)}, RepK K H vs ds → RepK K H' vs ds
  | _, _, .nil => .nil
  | _, _, .cons h r => .cons (Rep.mono e h) (RepK.mono e r)
theorem RepT.mono (e : Ex H H') : ∀ {vs : List (List Key × V)} {ds : List (D × D)}, RepT K H vs ds → RepT K H' vs ds
  | _, _, .nil => .nil
  | _, _, .cons h r => .cons (Rep.mono e h) (RepT.mono e r)
end
theorem RepL.length : ∀ {vs : List V} {ds : List D}, RepL K H vs ds → vs.length = ds.length
  | _, _, .nil => rfl
  | _, _, .cons _ r => congrArg Nat.succ (RepL.length r)
theorem RepL.get : ∀ {vs : List V} {ds : List D} {i : Nat} {d : D}, RepL K H vs ds → ds[i]? = some d → ∃ v, vs[i]? = some v ∧ Rep K H v d
  | _, _, _, _, .nil, e => by simp at e
  | _, _, 0, _, .cons h _, e => by simp at e; subst e; exact ⟨_, rfl, h⟩
  | _, _, i + 1, _, .cons _ r, e => by
    obtain ⟨v, a, b⟩ := RepL.get (i := i) r (by simpa using e)
    exact ⟨v, by simpa using a, b⟩
theorem RepL.getV : ∀ {vs : List V} {ds : List D} {i : Nat} {v : V}, RepL K H vs ds → vs[i]? = some v → ∃ d, ds[i]? = some d ∧ Rep K H v d
  | _, _, _, _, .nil, e => by simp at e
  | _, _, 0, _, .cons h _, e => by simp at e; subst e; exact ⟨_, rfl, h⟩
  | _, _, i + 1, _, .cons _ r, e => by
    obtain ⟨v, a, b⟩ := RepL.getV (i := i) r (by simpa using e)
    exact ⟨v, by simpa using a, b⟩
theorem RepL.append : ∀ {vs ws : List V} {ds es : List D}, RepL K H vs ds → RepL K H ws es → RepL K H (vs ++ ws) (ds ++ es)
  | _, _, _, _, .nil, s => s
  | _, _, _, _, .cons h r, s => .cons h (RepL.append r s)
theorem RepL.take : ∀ {vs : List V} {ds : List D} (n : Nat), RepL K H vs ds → RepL K H (vs.take n) (ds.take n)
  | _, _, 0, _ => .nil
  | _, _, _ + 1, .nil => .nil
  | _, _, n + 1, .cons h r => .cons h (RepL.take n r)
theorem RepL.drop : ∀ {vs : List V} {ds : List D} (n : Nat), RepL K H vs ds → RepL K H (vs.drop n) (ds.drop n)
  | _, _, 0, r => r
  | _, _, _ + 1, .nil => .nil
  | _, _, n + 1, .cons _ r => RepL.drop n r
theorem RepL.set {v : V} {d : D} (h : Rep K H v d) : ∀ {vs : List V} {ds : List D} (i : Nat), RepL K H vs ds → RepL K H (vs.set i v) (ds.set i d)
  | _, _, _, .nil => .nil
  | _, _, 0, .cons _ r => .cons h r
  | _, _, i + 1, .cons h' r => .cons h' (RepL.set h i r)
theorem RepL.rep {vs : List V} {ds : List D} (h : RepL K H vs ds) : ∀ k : Nat, RepL K H (List.replicate k vs).flatten (List.replicate k ds).flatten
  | 0 => .nil
  | k + 1 => by
    simp only [List.replicate_succ, List.flatten_cons]
    exact h.append (RepL.rep h k)
theorem RepL.rev : ∀ {vs : List V} {ds : List D}, RepL K H vs ds → RepL K H vs.reverse ds.reverse
  | _, _, .nil => .nil
  | _, _, .cons h r => by
    simp only [List.reverse_cons]
    exact (RepL.rev r).append (.cons h .nil)
theorem RepL.ints : ∀ (ns : List Int), RepL K H (ns.map V.int) (ns.map D.int)
  | [] => .nil
  | _ :: r => .cons (.int _) (RepL.ints r)
theorem RepL.of : ∀ {vs : List V} {ds : List D}, vs.length = ds.length → (∀ (n : Nat) v d, vs[n]? = some v → ds[n]? = some d → Rep K H v d) → RepL K H vs ds
  | [], [], _, _ => .nil
  | v :: vs, d :: ds, l, h => .cons (h 0 v d rfl rfl) (RepL.of (by simpa using l) fun n v d a b => h (n + 1) v d (by simpa using a) (by simpa using b))
theorem RepK.keys : ∀ {vs : List (Key × V)} {ds : List (D × D)}, RepK K H vs ds → ds.map Prod.fst = vs.map fun q => keyD q.1
  | _, _, .nil => rfl
  | _, _, .cons _ r => by rw [List.map_cons, List.map_cons, RepK.keys r]
theorem RepT.keys : ∀ {vs : List (List Key × V)} {ds : List (D × D)}, RepT K H vs ds → ds.map Prod.fst = vs.map fun q => .tup (q.1.map keyD)
  | _, _, .nil => rfl
  | _, _, .cons _ r => by rw [List.map_cons, List.map_cons, RepT.keys r]
theorem RepK.of : ∀ {vs : List (Key × V)} {ds : List (D × D)}, (ds.map Prod.fst = vs.map fun q => keyD q.1) → (∀ (n : Nat) k v kd d, vs[n]? = some (k, v) → ds[n]? = some (kd, d) → Rep K H v d) → RepK K H vs ds
  | [], [], _, _ => .nil
  | (k, v) :: vs, (kd, d) :: ds, l, h => by
    simp only [List.map_cons, List.cons.injEq] at l
    obtain ⟨rfl, l⟩ := l
    exact .cons (h 0 k v _ d rfl rfl) (RepK.of l fun n k v kd d a b => h (n + 1) k v kd d (by simpa using a) (by simpa using b))
  | [], _ :: _, l, _ => by simp at l
  | _ :: _, [], l, _ => by simp at l
theorem RepT.of : ∀ {vs : List (List Key × V)} {ds : List (D × D)}, (ds.map Prod.fst = vs.map fun q => D.tup (q.1.map keyD)) → (∀ (n : Nat) k v kd d, vs[n]? = some (k, v) → ds[n]? = some (kd, d) → Rep K H v d) → RepT K H vs ds
  | [], [], _, _ => .nil
  | (k, v) :: vs, (kd, d) :: ds, l, h => by
    simp only [List.map_cons, List.cons.injEq] at l
    obtain ⟨rfl, l⟩ := l
    exact .cons (h 0 k v _ d rfl rfl) (RepT.of l fun n k v kd d a b => h (n + 1) k v kd d (by simpa using a) (by simpa using b))
  | [], _ :: _, l, _ => by simp at l
  | _ :: _, [], l, _ => by simp at l

/-! ### the value read: its own object by H, what lies in it by G -/
def RdV (K : PySem.W.Frag) (G H : Hp) (v : V) : D → Prop
  | .lst ds => ∃ a xs, v = .ref a ∧ H a = some (.lst xs) ∧ RepL K G xs ds
  | .dct es => ∃ a, v = .ref a ∧ ((∃ kvs, H a = some (.dK kvs) ∧ RepK K G kvs es) ∨ ∃ kvs, H a = some (.dT kvs) ∧ RepT K G kvs es)
  | .ins c fs => ∃ a dx vs, v = .ref a ∧ H a = some (.ins (He.ga K c) dx vs) ∧ H dx = some (.own a) ∧ (∀ f, (vs.lookup f).isSome = (fsGet fs f).isSome) ∧ (∀ f v d, vs.lookup f = some v → fsGet fs f = some d → Rep K G v d)
  | d => Rep K G v d
theorem RdV.of {v : V} {d : D} (e : Ex G H) (h : Rep K G v d) : RdV K G H v d := by
  cases h with
  | lst h r => exact ⟨_, _, rfl, e _ _ h, r⟩
  | dct h r => exact ⟨_, rfl, .inl ⟨_, e _ _ h, r⟩⟩
  | dcT h r => exact ⟨_, rfl, .inr ⟨_, e _ _ h, r⟩⟩
  | ins h1 h2 h3 h4 => exact ⟨_, _, _, rfl, e _ _ h1, e _ _ h2, h3, h4⟩
  | non => exact .non
  | bl b => exact .bl b
  | int i => exact .int i
  | str x => exact .str x
  | tup h r => exact .tup h r
  | scr h => exact .scr h
  | ty c => exact .ty c
theorem RdV.rep {v : V} {d : D} (e : Ex G H) (h : RdV K G H v d) : Rep K H v d := by
  cases d with
  | lst ds => obtain ⟨a, xs, rfl, h, r⟩ := h; exact .lst h (r.mono e)
  | dct es =>
    obtain ⟨a, rfl, h⟩ := h
    rcases h with ⟨kvs, h, r⟩ | ⟨kvs, h, r⟩
    · exact .dct h (r.mono e)
    · exact .dcT h (r.mono e)
  | ins c fs => obtain ⟨a, dx, vs, rfl, h1, h2, h3, h4⟩ := h; exact .ins h1 h2 h3 fun f v d p q => (h4 f v d p q).mono e
  | non => exact Rep.mono e h
  | bl b => exact Rep.mono e h
  | int i => exact Rep.mono e h
  | str x => exact Rep.mono e h
  | tup l => exact Rep.mono e h
  | scr l => exact Rep.mono e h
  | ty c => exact Rep.mono e h
  | box c => exact Rep.mono e h
theorem RdV.monoG {G' : Hp} {v : V} {d : D} (x : Ex G G') (h : RdV K G H v d) : RdV K G' H v d := by
  cases d with
  | lst ds => obtain ⟨a, xs, e, h, r⟩ := h; exact ⟨a, xs, e, h, r.mono x⟩
  | dct es =>
    obtain ⟨a, e, h⟩ := h
    rcases h with ⟨kvs, h, r⟩ | ⟨kvs, h, r⟩
    · exact ⟨a, e, .inl ⟨kvs, h, r.mono x⟩⟩
    · exact ⟨a, e, .inr ⟨kvs, h, r.mono x⟩⟩
  | ins c fs => obtain ⟨a, dx, vs, e, h1, h2, h3, h4⟩ := h; exact ⟨a, dx, vs, e, h1, h2, h3, fun f v d p q => (h4 f v d p q).mono x⟩
  | non => exact Rep.mono x h
  | bl b => exact Rep.mono x h
  | int i => exact Rep.mono x h
  | str y => exact Rep.mono x h
  | tup l => exact Rep.mono x h
  | scr l => exact Rep.mono x h
  | ty c => exact Rep.mono x h
  | box c => exact Rep.mono x h
end

/-! ### owned trees -/
abbrev Lb := List Pt → Option Addr
def Lb.sub (A : Lb) (s : Pt) : Lb := fun τ => A (s :: τ)
inductive Tr (K : PySem.W.Frag) (G H : Hp) : Lb → V → D → Prop
  | lst {A : Lb} {p : Addr} {xs : List V} {ds : List D} : A [] = some p → H p = some (.lst xs) → xs.length = ds.length →
      (∀ (n : Nat) x d, xs[n]? = some x → ds[n]? = some d → d.isBox = false → Rep K G x d) → (∀ (n : Nat) x d, xs[n]? = some x → ds[n]? = some (.box d) → Tr K G H (A.sub (.ix n)) x d) → Tr K G H A (.ref p) (.lst ds)
  | dct {A : Lb} {p : Addr} {kvs : List (Key × V)} {es : List (D × D)} : A [] = some p → H p = some (.dK kvs) → (es.map Prod.fst = kvs.map fun q => keyD q.1) →
      (∀ (n : Nat) k x kd d, kvs[n]? = some (k, x) → es[n]? = some (kd, d) → d.isBox = false → Rep K G x d) → (∀ (n : Nat) k x kd d, kvs[n]? = some (k, x) → es[n]? = some (kd, .box d) → Tr K G H (A.sub (.ix n)) x d) → Tr K G H A (.ref p) (.dct es)
  | dcT {A : Lb} {p : Addr} {kvs : List (List Key × V)} {es : List (D × D)} : A [] = some p → H p = some (.dT kvs) → (es.map Prod.fst = kvs.map fun q => D.tup (q.1.map keyD)) →
      (∀ (n : Nat) k x kd d, kvs[n]? = some (k, x) → es[n]? = some (kd, d) → d.isBox = false → Rep K G x d) → (∀ (n : Nat) k x kd d, kvs[n]? = some (k, x) → es[n]? = some (kd, .box d) → Tr K G H (A.sub (.ix n)) x d) → Tr K G H A (.ref p) (.dct es)
  | ins {A : Lb} {p dx : Addr} {c : Str} {vs : List (Str × V)} {fs : List (Str × D)} : A [] = some p → A [.dx] = some dx → H p = some (.ins (He.ga K c) dx vs) → H dx = some (.own p) → ((∀ f, (vs.lookup f).isSome = (fsGet fs f).isSome) ∧ vs.length = fs.length) →
      (∀ f x d, vs.lookup f = some x → fsGet fs f = some d → d.isBox = false → Rep K G x d) → (∀ f x d, vs.lookup f = some x → fsGet fs f = some (.box d) → Tr K G H (A.sub (.fd f)) x d) → Tr K G H A (.ref p) (.ins c fs)
section
variable {K : PySem.W.Frag} {G G' H H' R : Hp}
theorem Tr.root {A : Lb} {v : V} {d : D} (h : Tr K G H A v d) : ∃ p, v = .ref p ∧ A [] = some p ∧ ∃ o, H p = some o := by
  cases h with
  | lst a b => exact ⟨_, rfl, a, _, b⟩
  | dct a b => exact ⟨_, rfl, a, _, b⟩
  | dcT a b => exact ⟨_, rfl, a, _, b⟩
  | ins a _ b => exact ⟨_, rfl, a, _, b⟩
theorem Tr.monoG (x : Ex G G') {A : Lb} {v : V} {d : D} (h : Tr K G H A v d) : Tr K G' H A v d := by
  induction h with
  | lst a b c d e ih => exact .lst a b c (fun n y d' p q r => (d n y d' p q r).mono x) fun n y d' p q => ih n y d' p q
  | dct a b c d e ih => exact .dct a b c (fun n k y kd d' p q r => (d n k y kd d' p q r).mono x) fun n k y kd d' p q => ih n k y kd d' p q
  | dcT a b c d e ih => exact .dcT a b c (fun n k y kd d' p q r => (d n k y kd d' p q r).mono x) fun n k y kd d' p q => ih n k y kd d' p q
  | ins a a2 b b2 c d e ih => exact .ins a a2 b b2 c (fun f y d' p q r => (d f y d' p q r).mono x) fun f y d' p q => ih f y d' p q
/-- its objects stand, its labels stand -/
theorem Tr.frame {A A' : Lb} {v : V} {d : D} (h : Tr K G H A v d) (k : ∀ τ a, A τ = some a → H' a = H a ∧ A' τ = some a) : Tr K G H' A' v d := by
  induction h generalizing A' with
  | lst a b c d e ih => exact .lst (k _ _ a).2 ((k _ _ a).1.trans b) c d fun n y d' p q => ih n y d' p q fun τ a' h => k (_ :: τ) a' h
  | dct a b c d e ih => exact .dct (k _ _ a).2 ((k _ _ a).1.trans b) c d fun n kk y kd d' p q => ih n kk y kd d' p q fun τ a' h => k (_ :: τ) a' h
  | dcT a b c d e ih => exact .dcT (k _ _ a).2 ((k _ _ a).1.trans b) c d fun n kk y kd d' p q => ih n kk y kd d' p q fun τ a' h => k (_ :: τ) a' h
  | ins a a2 b b2 c d e ih => exact .ins (k _ _ a).2 (k _ _ a2).2 ((k _ _ a).1.trans b) ((k _ _ a2).1.trans b2) c d fun f y d' p q => ih f y d' p q fun τ a' h => k (_ :: τ) a' h
theorem fzL_len : ∀ l : List D, (fzL l).length = l.length
  | [] => rfl
  | d :: r => by cases d <;> simp [fzL, fzL_len r]
theorem fzL_get : ∀ (l : List D) (n : Nat), (fzL l)[n]? = (l[n]?).map fun d => match d with | .box c => c.fz | d => d
  | [], n => by simp [fzL]
  | d :: r, 0 => by cases d <;> simp [fzL]
  | d :: r, n + 1 => by cases d <;> simp [fzL, fzL_get r n]
theorem fzK_get : ∀ (l : List (D × D)) (n : Nat), (fzK l)[n]? = (l[n]?).map fun q => (q.1, match q.2 with | .box c => c.fz | d => d)
  | [], n => by simp [fzK]
  | (k, d) :: r, 0 => by cases d <;> simp [fzK]
  | (k, d) :: r, n + 1 => by cases d <;> simp [fzK, fzK_get r n]
theorem fzK_keys : ∀ l : List (D × D), (fzK l).map Prod.fst = l.map Prod.fst
  | [] => rfl
  | (k, d) :: r => by cases d <;> simp [fzK, fzK_keys r]
theorem fzF_get : ∀ (l : List (Str × D)) (f : Str), fsGet (fzF l) f = (fsGet l f).map fun d => match d with | .box c => c.fz | d => d
  | [], f => rfl
  | (k, d) :: r, f => by
    have ih := fzF_get r f
    cases d <;> (simp only [fzF, fsGet]; split <;> first | rfl | exact ih)
theorem len_fsSet {f : Str} {x : D} : ∀ {fs : List (Str × D)} {d : D}, fsGet fs f = some d → (fsSet fs f x).length = fs.length
  | [], d, h => by cases h
  | (k, y) :: r, d, h => by
    unfold fsGet at h
    unfold fsSet
    split
    · rfl
    · rename_i hk
      rw [if_neg hk] at h
      rw [List.length_cons, List.length_cons, len_fsSet h]
/-- it is frozen: all its objects are known from here on -/
theorem Tr.fz {A : Lb} {v : V} {d : D} (h : Tr K G H A v d) (x : Ex G G') (k : ∀ τ a o, A τ = some a → H a = some o → G' a = some o) : Rep K G' v d.fz := by
  induction h with
  | @lst A p xs ds a b c d e ih =>
    refine .lst (k _ _ _ a b) (RepL.of (by rw [fzL_len]; exact c) fun n y d' p q => ?_)
    rw [fzL_get] at q
    obtain ⟨d0, h0, rfl⟩ := Option.map_eq_some_iff.mp q
    cases hd : d0.isBox with
    | false =>
      have z := (d n y d0 p h0 hd).mono x
      cases d0 <;> first | exact z | cases hd
    | true =>
      cases d0 <;> first | exact ih n y _ p h0 fun τ a' o h => k (_ :: τ) a' o h | cases hd
  | @dct A p xs ds a b c d e ih =>
    refine .dct (k _ _ _ a b) (RepK.of (by rw [fzK_keys]; exact c) fun n kk y kd d' p q => ?_)
    rw [fzK_get] at q
    obtain ⟨⟨k0, d0⟩, h0, q0⟩ := Option.map_eq_some_iff.mp q
    simp only [Prod.mk.injEq] at q0
    obtain ⟨rfl, rfl⟩ := q0
    cases hd : d0.isBox with
    | false =>
      have z := (d n kk y k0 d0 p h0 hd).mono x
      cases d0 <;> first | exact z | cases hd
    | true =>
      cases d0 <;> first | exact ih n kk y k0 _ p h0 fun τ a' o h => k (_ :: τ) a' o h | cases hd
  | @dcT A p xs ds a b c d e ih =>
    refine .dcT (k _ _ _ a b) (RepT.of (by rw [fzK_keys]; exact c) fun n kk y kd d' p q => ?_)
    rw [fzK_get] at q
    obtain ⟨⟨k0, d0⟩, h0, q0⟩ := Option.map_eq_some_iff.mp q
    simp only [Prod.mk.injEq] at q0
    obtain ⟨rfl, rfl⟩ := q0
    cases hd : d0.isBox with
    | false =>
      have z := (d n kk y k0 d0 p h0 hd).mono x
      cases d0 <;> first | exact z | cases hd
    | true =>
      cases d0 <;> first | exact ih n kk y k0 _ p h0 fun τ a' o h => k (_ :: τ) a' o h | cases hd
  | @ins A p dx c vs fs a a2 b b2 c d e ih =>
    refine .ins (k _ _ _ a b) (k _ _ _ a2 b2) (fun f => ?_) fun f y d' p q => ?_
    · rw [fzF_get, Option.isSome_map]; exact c.1 f
    · rw [fzF_get] at q
      obtain ⟨d0, h0, rfl⟩ := Option.map_eq_some_iff.mp q
      cases hd : d0.isBox with
      | false =>
        have z := (d f y d0 p h0 hd).mono x
        cases d0 <;> first | exact z | cases hd
      | true =>
        cases d0 <;> first | exact ih f y _ p h0 fun τ a' o h => k (_ :: τ) a' o h | cases hd
/-- a flat one is read -/
theorem Tr.rd {A : Lb} {v : V} {d : D} (h : Tr K G H A v d) (f : d.flat = true) : RdV K G H v d := by
  cases h with
  | lst a b c d e =>
    refine ⟨_, _, rfl, b, RepL.of c fun n y d' p q => d n y d' p q ?_⟩
    have := List.all_eq_true.mp f d' (List.mem_of_getElem? q)
    simpa using this
  | dct a b c d e =>
    refine ⟨_, rfl, .inl ⟨_, b, RepK.of c fun n kk y kd d' p q => d n kk y kd d' p q ?_⟩⟩
    have := List.all_eq_true.mp f _ (List.mem_of_getElem? q)
    simpa using this
  | dcT a b c d e =>
    refine ⟨_, rfl, .inr ⟨_, b, RepT.of c fun n kk y kd d' p q => d n kk y kd d' p q ?_⟩⟩
    have := List.all_eq_true.mp f _ (List.mem_of_getElem? q)
    simpa using this
  | ins a a2 b b2 c d e =>
    refine ⟨_, _, _, rfl, b, b2, c.1, fun g y d' p q => d g y d' p q ?_⟩
    have key : ∀ l : List (Str × D), (l.all fun p => !p.2.isBox) = true → fsGet l g = some d' → d'.isBox = false := by
      intro l
      induction l with
      | nil => intro _ h; cases h
      | cons z r ih =>
        obtain ⟨k, y⟩ := z
        intro h1 h2
        rw [List.all_cons, Bool.and_eq_true] at h1
        unfold fsGet at h2
        split at h2
        · cases h2; simpa using h1.1
        · exact ih h1.2 h2
    exact key _ f q
/-- the node at a path -/
theorem Tr.node {A : Lb} {v : V} {d c : D} {π : List Pt} (h : Tr K G H A v d) (q : d.at π = some c) : ∃ p, A π = some p ∧ Tr K G H (fun τ => A (π ++ τ)) (.ref p) c := by
  induction π generalizing A v d with
  | nil =>
    cases q
    obtain ⟨p, rfl, a, _⟩ := h.root
    exact ⟨p, a, h⟩
  | cons s π ih =>
    unfold D.at at q
    split at q
    · rename_i d1 hk
      have go : ∀ x, Tr K G H (A.sub s) x d1 → ∃ p, A (s :: π) = some p ∧ Tr K G H (fun τ => A (s :: π ++ τ)) (.ref p) c := fun x t => ih t q
      cases h with
      | @lst _ p xs ds a b l e f =>
        cases s with
        | ix n =>
          have hk' : ds[n]? = some (.box d1) := hk
          have hn : n < xs.length := by rw [l]; exact (List.getElem?_eq_some_iff.mp hk').1
          exact go _ (f n xs[n] d1 (by simp [hn]) hk')
        | fd f => cases hk
        | dx => cases hk
      | @dct _ p xs ds a b l e f =>
        cases s with
        | ix n =>
          have hk' : (ds[n]?).map Prod.snd = some (.box d1) := hk
          obtain ⟨⟨kd, y⟩, h1, h2⟩ := Option.map_eq_some_iff.mp hk'
          simp only at h2
          subst h2
          have hlen : ds.length = xs.length := by simpa using congrArg List.length l
          have hn : n < xs.length := by rw [← hlen]; exact (List.getElem?_eq_some_iff.mp h1).1
          exact go _ (f n xs[n].1 xs[n].2 kd d1 (by simp [hn]) h1)
        | fd f => cases hk
        | dx => cases hk
      | @dcT _ p xs ds a b l e f =>
        cases s with
        | ix n =>
          have hk' : (ds[n]?).map Prod.snd = some (.box d1) := hk
          obtain ⟨⟨kd, y⟩, h1, h2⟩ := Option.map_eq_some_iff.mp hk'
          simp only at h2
          subst h2
          have hlen : ds.length = xs.length := by simpa using congrArg List.length l
          have hn : n < xs.length := by rw [← hlen]; exact (List.getElem?_eq_some_iff.mp h1).1
          exact go _ (f n xs[n].1 xs[n].2 kd d1 (by simp [hn]) h1)
        | fd f => cases hk
        | dx => cases hk
      | @ins _ p dx c0 vs fs a a2 b b2 l e f =>
        cases s with
        | ix n => cases hk
        | fd g =>
          have hk' : fsGet fs g = some (.box d1) := hk
          have hv := l.1 g
          rw [hk'] at hv
          obtain ⟨y, hy⟩ := Option.isSome_iff_exists.mp hv
          exact go _ (f g y d1 hy hk')
        | dx => cases hk
    · cases q
theorem fsGet_set {l : List (Str × D)} {f g : Str} {x : D} : fsGet (fsSet l f x) g = if f = g then some x else fsGet l g := by
  induction l with
  | nil => rfl
  | cons p r ih =>
    obtain ⟨k, v⟩ := p
    unfold fsSet
    split
    · rename_i h
      subst h
      unfold fsGet
      split
      · rfl
      · rfl
    · rename_i h
      unfold fsGet
      rw [ih]
      split
      · rename_i h2
        subst h2
        rw [if_neg (Ne.symm h)]
      · rfl
/-- the node at a path is exchanged -/
theorem Tr.put {A A' : Lb} {v : V} {d c c' : D} {π : List Pt} (h : Tr K G H A v d) (q : d.at π = some c) (hn : ∀ p, A π = some p → Tr K G H' (fun τ => A' (π ++ τ)) (.ref p) c')
    (ho : ∀ τ a, ¬ π <+: τ → A τ = some a → H' a = H a ∧ A' τ = some a) : Tr K G H' A' v (d.put π c') := by
  induction π generalizing A A' v d with
  | nil =>
    obtain ⟨p, rfl, a, _⟩ := h.root
    exact hn p a
  | cons s π ih =>
    have q' := q
    unfold D.at at q
    split at q
    · rename_i d1 hk
      have put_eq : d.put (s :: π) c' = d.kidSet s (.box (d1.put π c')) := by
        show (match d.kid s with
          | some (.box c) => d.kidSet s (.box (c.put π c'))
          | _ => d) = _
        rw [hk]
      rw [put_eq]
      have go : ∀ x, Tr K G H (A.sub s) x d1 → Tr K G H' (A'.sub s) x (d1.put π c') := fun x t => ih t q (fun p hp => hn p hp) fun τ a hτ ha => ho (s :: τ) a (fun z => hτ (by simpa using z)) ha
      have r0 : ∀ a, A [] = some a → H' a = H a ∧ A' [] = some a := fun a ha => ho [] a (by simp) ha
      have other : ∀ s' x d2, s' ≠ s → Tr K G H (A.sub s') x d2 → Tr K G H' (A'.sub s') x d2 := fun s' x d2 hne t => t.frame fun τ a ha => ho (s' :: τ) a (fun z => hne (by simpa using (List.cons_prefix_cons.mp z).1.symm)) ha
      cases h with
      | @lst _ p xs ds a b l e f =>
        cases s with
        | ix n =>
          have hk' : ds[n]? = some (.box d1) := hk
          have hn' : n < ds.length := (List.getElem?_eq_some_iff.mp hk').1
          refine .lst (r0 p a).2 ((r0 p a).1.trans b) (by simpa using l) (fun m x d2 hx hd hb => ?_) fun m x d2 hx hd => ?_
          · by_cases hm : m = n
            · subst hm; rw [List.getElem?_set_self hn'] at hd; cases hd; cases hb
            · rw [List.getElem?_set_ne (Ne.symm hm)] at hd; exact e m x d2 hx hd hb
          · by_cases hm : m = n
            · subst hm; rw [List.getElem?_set_self hn'] at hd; cases hd; exact go x (f m x d1 hx hk')
            · rw [List.getElem?_set_ne (Ne.symm hm)] at hd; exact other _ _ _ (fun z => hm (by cases z; rfl)) (f m x d2 hx hd)
        | fd f => cases hk
        | dx => cases hk
      | @dct _ p xs ds a b l e f =>
        cases s with
        | ix n =>
          have hk' : (ds[n]?).map Prod.snd = some (.box d1) := hk
          obtain ⟨⟨kd, y⟩, h1, h2⟩ := Option.map_eq_some_iff.mp hk'
          simp only at h2
          subst h2
          have hn' : n < ds.length := (List.getElem?_eq_some_iff.mp h1).1
          have se : D.kidSet (.dct ds) (.ix n) (.box (d1.put π c')) = .dct (ds.set n (kd, .box (d1.put π c'))) := by unfold D.kidSet; simp only [h1]
          rw [se]
          refine .dct (r0 p a).2 ((r0 p a).1.trans b) ?_ (fun m k x kd2 d2 hx hd hb => ?_) fun m k x kd2 d2 hx hd => ?_
          · rw [← l, List.map_set]
            apply List.ext_getElem?
            intro m
            by_cases hm : m = n
            · subst hm; rw [List.getElem?_set_self (by simpa using hn'), List.getElem?_map, h1]; rfl
            · rw [List.getElem?_set_ne (Ne.symm hm)]
          · by_cases hm : m = n
            · subst hm; rw [List.getElem?_set_self hn'] at hd; cases hd; cases hb
            · rw [List.getElem?_set_ne (Ne.symm hm)] at hd; exact e m k x kd2 d2 hx hd hb
          · by_cases hm : m = n
            · subst hm; rw [List.getElem?_set_self hn'] at hd; cases hd; exact go x (f m k x _ d1 hx h1)
            · rw [List.getElem?_set_ne (Ne.symm hm)] at hd; exact other _ _ _ (fun z => hm (by cases z; rfl)) (f m k x kd2 d2 hx hd)
        | fd f => cases hk
        | dx => cases hk
      | @dcT _ p xs ds a b l e f =>
        cases s with
        | ix n =>
          have hk' : (ds[n]?).map Prod.snd = some (.box d1) := hk
          obtain ⟨⟨kd, y⟩, h1, h2⟩ := Option.map_eq_some_iff.mp hk'
          simp only at h2
          subst h2
          have hn' : n < ds.length := (List.getElem?_eq_some_iff.mp h1).1
          have se : D.kidSet (.dct ds) (.ix n) (.box (d1.put π c')) = .dct (ds.set n (kd, .box (d1.put π c'))) := by unfold D.kidSet; simp only [h1]
          rw [se]
          refine .dcT (r0 p a).2 ((r0 p a).1.trans b) ?_ (fun m k x kd2 d2 hx hd hb => ?_) fun m k x kd2 d2 hx hd => ?_
          · rw [← l, List.map_set]
            apply List.ext_getElem?
            intro m
            by_cases hm : m = n
            · subst hm; rw [List.getElem?_set_self (by simpa using hn'), List.getElem?_map, h1]; rfl
            · rw [List.getElem?_set_ne (Ne.symm hm)]
          · by_cases hm : m = n
            · subst hm; rw [List.getElem?_set_self hn'] at hd; cases hd; cases hb
            · rw [List.getElem?_set_ne (Ne.symm hm)] at hd; exact e m k x kd2 d2 hx hd hb
          · by_cases hm : m = n
            · subst hm; rw [List.getElem?_set_self hn'] at hd; cases hd; exact go x (f m k x _ d1 hx h1)
            · rw [List.getElem?_set_ne (Ne.symm hm)] at hd; exact other _ _ _ (fun z => hm (by cases z; rfl)) (f m k x kd2 d2 hx hd)
        | fd f => cases hk
        | dx => cases hk
      | @ins _ p dx c0 vs fs a a2 b b2 l e f =>
        cases s with
        | ix n => cases hk
        | fd g =>
          have hk' : fsGet fs g = some (.box d1) := hk
          have rx := ho [.dx] dx (fun z => by simp at z) a2
          refine .ins (r0 p a).2 rx.2 ((r0 p a).1.trans b) (rx.1.trans b2) ⟨fun g' => ?_, by rw [len_fsSet hk']; exact l.2⟩ (fun g' x d2 hx hd hb => ?_) fun g' x d2 hx hd => ?_
          · rw [fsGet_set]
            split
            · rename_i h; subst h; rw [l.1 g, hk']; rfl
            · exact l.1 g'
          · rw [fsGet_set] at hd
            split at hd
            · cases hd; cases hb
            · exact e g' x d2 hx hd hb
          · rw [fsGet_set] at hd
            split at hd
            · rename_i h; subst h; cases hd; exact go x (f g x d1 hx hk')
            · rename_i h; exact other _ _ _ (fun z => h (by cases z; rfl)) (f g' x d2 hx hd)
        | dx => cases hk
    · cases q
end
end Qv
namespace Qv
open PySem L2
open Evl (Ex)

/-! ### the state -/
abbrev Pn := List (Nat × Addr)
abbrev LA := Nat → Lb
def Owd (A : LA) (a : Addr) : Prop := ∃ i τ, A i τ = some a
def Slot.io : Slot → Bool
  | .ow true _ => true
  | .nt true _ => true
  | _ => false
/-- an owned flat object's content -/
def OwnR (K : PySem.W.Frag) (G H : Hp) (p : Addr) : D → Prop
  | .lst ds => ∃ xs, H p = some (.lst xs) ∧ RepL K G xs ds
  | .dct es => (∃ kvs, H p = some (.dK kvs) ∧ RepK K G kvs es) ∨ ∃ kvs, H p = some (.dT kvs) ∧ RepT K G kvs es
  | _ => False
def SlR (K : PySem.W.Frag) (G H : Hp) (L : Lb) : Slot → Option (Option V) → Prop
  | .em, _ => True
  | .sh d, o => ∃ v, o = some (some v) ∧ Rep K G v d
  | .ow _ d, o => ∃ p, o = some (some (.ref p)) ∧ L [] = some p ∧ OwnR K G H p d
  | .nt _ d, o => ∃ v, o = some (some v) ∧ Tr K G H L v d
structure RelG (K : PySem.W.Frag) (pn : Pn) (A : LA) (e : En) (σ : L2.St) (G R H : Hp) : Prop where
  gh : Ex G H
  rh : Ex R H
  dj : ∀ a, R a ≠ none → G a = none
  len : e.length = σ.length
  own : ∀ i τ a, A i τ = some a → G a = none ∧ R a = none ∧ H a ≠ none
  inj : ∀ i τ j π a, A i τ = some a → A j π = some a → i = j ∧ τ = π
  sl : ∀ (i : Nat) (s : Slot), e[i]? = some s → SlR K G H (A i) s σ[i]?
  pin : ∀ q ∈ pn, σ[q.1]? = some (some (.ref q.2)) ∧ ∃ s, e[q.1]? = some s ∧ s.io = true
def LInj (B : Lb) : Prop := ∀ τ π a, B τ = some a → B π = some a → τ = π
def one (p : Addr) : Lb
  | [] => some p
  | _ :: _ => none
theorem one_eq {p a : Addr} : ∀ {τ : List Pt}, one p τ = some a → τ = [] ∧ a = p
  | [], h => by cases h; exact ⟨rfl, rfl⟩
  | _ :: _, h => by cases h
/-- a fresh tree -/
def FrT (K : PySem.W.Frag) (A : LA) (G R H : Hp) (B : Lb) (v : V) (d : D) : Prop := Tr K G H B v d ∧ LInj B ∧ ∀ τ a, B τ = some a → G a = none ∧ R a = none ∧ H a ≠ none ∧ ¬ Owd A a
def RepVal (K : PySem.W.Frag) (A : LA) (G R H : Hp) (e : En) (σ : L2.St) (v : V) : Val → Prop
  | .sh d => Rep K G v d
  | .fr d => ∃ p, v = .ref p ∧ G p = none ∧ R p = none ∧ ¬ Owd A p ∧ OwnR K G H p d
  | .ow i => σ[i]? = some (some v) ∧ ∃ (b : Bool) (d : D), e[i]? = some (.ow b d)
  | .fn d => ∃ B, FrT K A G R H B v d
  | .np i π => ∃ b d c p, e[i]? = some (.nt b d) ∧ d.at π = some c ∧ v = .ref p ∧ A i π = some p
section
variable {K : PySem.W.Frag} {pn : Pn} {A : LA} {e : En} {σ : L2.St} {G G' R H H' : Hp} {v : V} {val : Val}
theorem OwnR.isS {p : Addr} {d : D} (h : OwnR K G H p d) : ∃ o, H p = some o := by
  cases d with
  | lst ds => obtain ⟨xs, h, _⟩ := h; exact ⟨_, h⟩
  | dct es => rcases h with ⟨xs, h, _⟩ | ⟨xs, h, _⟩ <;> exact ⟨_, h⟩
  | _ => exact h.elim
theorem OwnR.rdv {p : Addr} {d : D} (h : OwnR K G H p d) : RdV K G H (.ref p) d := by
  cases d with
  | lst ds => obtain ⟨xs, h, r⟩ := h; exact ⟨_, _, rfl, h, r⟩
  | dct es => exact ⟨_, rfl, h⟩
  | _ => exact h.elim
theorem OwnR.monoG {p : Addr} {d : D} (x : Ex G G') (h : OwnR K G H p d) : OwnR K G' H p d := by
  cases d with
  | lst ds => obtain ⟨xs, h, r⟩ := h; exact ⟨xs, h, r.mono x⟩
  | dct es =>
    rcases h with ⟨xs, h, r⟩ | ⟨xs, h, r⟩
    · exact .inl ⟨xs, h, r.mono x⟩
    · exact .inr ⟨xs, h, r.mono x⟩
  | _ => exact h.elim
theorem OwnR.at {p : Addr} {d : D} (x : H' p = H p) (h : OwnR K G H p d) : OwnR K G H' p d := by
  cases d with
  | lst ds => obtain ⟨xs, h, r⟩ := h; exact ⟨xs, x.trans h, r⟩
  | dct es =>
    rcases h with ⟨xs, h, r⟩ | ⟨xs, h, r⟩
    · exact .inl ⟨xs, x.trans h, r⟩
    · exact .inr ⟨xs, x.trans h, r⟩
  | _ => exact h.elim
theorem RepL.nobox : ∀ {vs : List V} {ds : List D}, RepL K H vs ds → ∀ (n : Nat) d, ds[n]? ≠ some (.box d)
  | _, _, .nil, n, d => by simp
  | _, _, .cons h r, 0, d => fun z => by simp at z; subst z; cases h
  | _, _, .cons h r, n + 1, d => fun z => RepL.nobox r n d (by simpa using z)
theorem RepK.nobox : ∀ {vs : List (Key × V)} {ds : List (D × D)}, RepK K H vs ds → ∀ (n : Nat) k d, ds[n]? ≠ some (k, .box d)
  | _, _, .nil, n, k, d => by simp
  | _, _, .cons h r, 0, k, d => fun z => by simp at z; obtain ⟨_, rfl⟩ := z; cases h
  | _, _, .cons h r, n + 1, k, d => fun z => RepK.nobox r n k d (by simpa using z)
theorem RepT.nobox : ∀ {vs : List (List Key × V)} {ds : List (D × D)}, RepT K H vs ds → ∀ (n : Nat) k d, ds[n]? ≠ some (k, .box d)
  | _, _, .nil, n, k, d => by simp
  | _, _, .cons h r, 0, k, d => fun z => by simp at z; obtain ⟨_, rfl⟩ := z; cases h
  | _, _, .cons h r, n + 1, k, d => fun z => RepT.nobox r n k d (by simpa using z)
theorem RepK.get : ∀ {vs : List (Key × V)} {ds : List (D × D)}, RepK K H vs ds → ∀ (n : Nat) k v kd d, vs[n]? = some (k, v) → ds[n]? = some (kd, d) → Rep K H v d
  | _, _, .nil, n, k, v, kd, d, a, b => by simp at a
  | _, _, .cons h r, 0, k, v, kd, d, a, b => by simp at a b; obtain ⟨_, rfl⟩ := a; obtain ⟨_, rfl⟩ := b; exact h
  | _, _, .cons h r, n + 1, k, v, kd, d, a, b => RepK.get r n k v kd d (by simpa using a) (by simpa using b)
theorem RepT.get : ∀ {vs : List (List Key × V)} {ds : List (D × D)}, RepT K H vs ds → ∀ (n : Nat) k v kd d, vs[n]? = some (k, v) → ds[n]? = some (kd, d) → Rep K H v d
  | _, _, .nil, n, k, v, kd, d, a, b => by simp at a
  | _, _, .cons h r, 0, k, v, kd, d, a, b => by simp at a b; obtain ⟨_, rfl⟩ := a; obtain ⟨_, rfl⟩ := b; exact h
  | _, _, .cons h r, n + 1, k, v, kd, d, a, b => RepT.get r n k v kd d (by simpa using a) (by simpa using b)
/-- a flat one is a tree of one node -/
theorem OwnR.tr {p : Addr} {d : D} {L : Lb} (h : OwnR K G H p d) (l : L [] = some p) : Tr K G H L (.ref p) d := by
  cases d with
  | lst ds =>
    obtain ⟨xs, h, r⟩ := h
    refine .lst l h r.length (fun n x d a b _ => ?_) fun n x d a b => absurd b (r.nobox n d)
    obtain ⟨v, c1, c2⟩ := r.get b
    rw [a] at c1; cases c1; exact c2
  | dct es =>
    rcases h with ⟨xs, h, r⟩ | ⟨xs, h, r⟩
    · exact .dct l h r.keys (fun n k x kd d a b _ => r.get n k x kd d a b) fun n k x kd d a b => absurd b (r.nobox n kd d)
    · exact .dcT l h r.keys (fun n k x kd d a b _ => r.get n k x kd d a b) fun n k x kd d a b => absurd b (r.nobox n kd d)
  | _ => exact h.elim
theorem fzL_id : ∀ {l : List D}, (∀ (n : Nat) d, l[n]? ≠ some (.box d)) → fzL l = l
  | [], _ => rfl
  | d :: r, h => by
    have ih := fzL_id (l := r) fun n d z => h (n + 1) d (by simpa using z)
    cases d <;> first
      | (exact absurd rfl (h 0 _))
      | (unfold fzL; rw [ih])
theorem fzK_id : ∀ {l : List (D × D)}, (∀ (n : Nat) k d, l[n]? ≠ some (k, .box d)) → fzK l = l
  | [], _ => rfl
  | (k, d) :: r, h => by
    have ih := fzK_id (l := r) fun n k d z => h (n + 1) k d (by simpa using z)
    cases d <;> first
      | (exact absurd rfl (h 0 _ _))
      | (unfold fzK; rw [ih])
theorem OwnR.fz {p : Addr} {d : D} (h : OwnR K G H p d) : d.fz = d := by
  cases d with
  | lst ds => obtain ⟨xs, h, r⟩ := h; show D.lst (fzL ds) = _; rw [fzL_id r.nobox]
  | dct es =>
    rcases h with ⟨xs, h, r⟩ | ⟨xs, h, r⟩
    · show D.dct (fzK es) = _; rw [fzK_id r.nobox]
    · show D.dct (fzK es) = _; rw [fzK_id r.nobox]
  | _ => exact h.elim
theorem OwnR.of_flat {p : Addr} {d : D} (h : RdV K G H (.ref p) d) (m : ∃ l, d = .lst l ∨ ∃ l, d = .dct l) : OwnR K G H p d := by
  obtain ⟨l, rfl | ⟨l, rfl⟩⟩ := m
  · obtain ⟨a, xs, e, h, r⟩ := h; cases e; exact ⟨xs, h, r⟩
  · obtain ⟨a, e, h⟩ := h; cases e; exact h
theorem SlR.monoG {L : Lb} {s : Slot} {o : Option (Option V)} (x : Ex G G') (h : SlR K G H L s o) : SlR K G' H L s o := by
  cases s with
  | em => exact trivial
  | sh d => obtain ⟨v, a, b⟩ := h; exact ⟨v, a, b.mono x⟩
  | ow b d => obtain ⟨p, a, l, c⟩ := h; exact ⟨p, a, l, c.monoG x⟩
  | nt b d => obtain ⟨v, a, c⟩ := h; exact ⟨v, a, c.monoG x⟩
theorem SlR.frame {L L' : Lb} {s : Slot} {o : Option (Option V)} (h : SlR K G H L s o) (k : ∀ τ a, L τ = some a → H' a = H a ∧ L' τ = some a) : SlR K G H' L' s o := by
  cases s with
  | em => exact trivial
  | sh d => exact h
  | ow b d => obtain ⟨p, a, l, c⟩ := h; exact ⟨p, a, (k _ _ l).2, c.at (k _ _ l).1⟩
  | nt b d => obtain ⟨v, a, c⟩ := h; exact ⟨v, a, c.frame k⟩
/-- what an owning slot holds is a tree -/
theorem RelG.tree {i : Nat} {b : Bool} {d : D} (g : RelG K pn A e σ G R H) (h : e[i]? = some (.ow b d) ∨ e[i]? = some (.nt b d)) : ∃ p, σ[i]? = some (some (.ref p)) ∧ A i [] = some p ∧ Tr K G H (A i) (.ref p) d := by
  rcases h with h | h
  · obtain ⟨p, a, l, c⟩ := g.sl i _ h
    exact ⟨p, a, l, c.tr l⟩
  · obtain ⟨v, a, c⟩ := g.sl i _ h
    obtain ⟨p, rfl, l, _⟩ := c.root
    exact ⟨p, a, l, c⟩
theorem RelG.own_ow {i : Nat} {b : Bool} {d : D} (g : RelG K pn A e σ G R H) (h : e[i]? = some (.ow b d)) : ∃ p, σ[i]? = some (some (.ref p)) ∧ A i [] = some p ∧ G p = none ∧ R p = none ∧ OwnR K G H p d := by
  obtain ⟨p, a, l, c⟩ := g.sl i _ h
  exact ⟨p, a, l, (g.own _ _ _ l).1, (g.own _ _ _ l).2.1, c⟩
/-- a value is read -/
theorem RelG.rd {d : D} {e' : En} (g : RelG K pn A e σ G R H) (r : RepVal K A G R H e σ v val) (h : der val e = .ok (d, e')) : e' = e ∧ RdV K G H v d := by
  cases val with
  | sh d' => cases h; exact ⟨rfl, RdV.of g.gh r⟩
  | fr d' =>
    cases h
    obtain ⟨p, rfl, _, _, _, h⟩ := r
    exact ⟨rfl, h.rdv⟩
  | ow i =>
    obtain ⟨h1, b, d', h2⟩ := r
    unfold der at h
    simp only [h2] at h
    cases h
    obtain ⟨p, h3, _, _, _, h4⟩ := g.own_ow h2
    rw [h1] at h3
    cases h3
    exact ⟨rfl, h4.rdv⟩
  | fn d' => cases h
  | np i π =>
    obtain ⟨b, d', c, p, h1, h2, rfl, h3⟩ := r
    unfold der at h
    simp only [h1, h2] at h
    split at h
    · rename_i hf
      cases h
      obtain ⟨q, _, _, t⟩ := g.tree (.inr h1)
      obtain ⟨p', k1, k2⟩ := t.node h2
      rw [h3] at k1
      cases k1
      exact ⟨rfl, k2.rd hf⟩
    · cases h
/-- more is known -/
theorem RelG.grow (x : Ex G G') (gh : Ex G' H) (dj : ∀ a, R a ≠ none → G' a = none) (hn : ∀ a, Owd A a → G' a = none) (g : RelG K pn A e σ G R H) : RelG K pn A e σ G' R H where
  gh := gh
  rh := g.rh
  dj := dj
  len := g.len
  own := fun i τ a h => ⟨hn a ⟨i, τ, h⟩, (g.own i τ a h).2⟩
  inj := g.inj
  sl := fun i s h => (g.sl i s h).monoG x
  pin := g.pin
open Classical in
/-- G and all that B names -/
noncomputable def upB (G H : Hp) (B : Lb) : Hp := fun a => if ∃ τ, B τ = some a then H a else G a
theorem upB_ex {B : Lb} (h : ∀ τ a, B τ = some a → G a = none) : Ex G (upB G H B) := fun a u q => by
  unfold upB
  rw [if_neg]
  · exact q
  · rintro ⟨τ, z⟩; rw [h τ a z] at q; cases q
theorem upB_in {B : Lb} {τ : List Pt} {a : Addr} (h : B τ = some a) : upB G H B a = H a := by
  unfold upB; rw [if_pos ⟨τ, h⟩]
theorem upB_out {B : Lb} {a : Addr} (h : ∀ τ, B τ ≠ some a) : upB G H B a = G a := by
  unfold upB; rw [if_neg fun ⟨τ, z⟩ => h τ z]
theorem upB_gh {B : Lb} (gh : Ex G H) : Ex (upB G H B) H := fun a u q => by
  unfold upB at q
  split at q
  · exact q
  · exact gh _ _ q
/-- a fresh tree is shared -/
theorem RelG.shareN {d : D} {B : Lb} (g : RelG K pn A e σ G R H) (r : FrT K A G R H B v d) : ∃ G', Ex G G' ∧ RelG K pn A e σ G' R H ∧ Rep K G' v d.fz := by
  obtain ⟨t, ij, nw⟩ := r
  have x : Ex G (upB G H B) := upB_ex fun τ a h => (nw τ a h).1
  refine ⟨_, x, g.grow x (upB_gh g.gh) (fun a ha => ?_) (fun a ha => ?_), t.fz x fun τ a o h q => by rw [upB_in h]; exact q⟩
  · rw [upB_out fun τ z => ha (nw τ a z).2.1]; exact g.dj a ha
  · rw [upB_out fun τ z => (nw τ a z).2.2.2 ha]; obtain ⟨i, τ, h⟩ := ha; exact (g.own i τ a h).1
theorem RepVal.frT {d : D} (g : RelG K pn A e σ G R H) (r : RepVal K A G R H e σ v (.fr d)) : ∃ B, FrT K A G R H B v d := by
  obtain ⟨p, rfl, h1, h2, h3, h4⟩ := r
  refine ⟨one p, h4.tr rfl, fun τ π a h h' => by rw [(one_eq h).1, (one_eq h').1], fun τ a h => ?_⟩
  obtain ⟨_, rfl⟩ := one_eq h
  obtain ⟨o, ho⟩ := h4.isS
  exact ⟨h1, h2, by rw [ho]; simp, h3⟩
theorem OwnR.of_fr {d : D} {p : Addr} (r : RepVal K A G R H e σ (.ref p) (.fr d)) : OwnR K G H p d := by
  obtain ⟨p', e1, _, _, _, h⟩ := r
  cases e1
  exact h
/-- a new object of nobody's is shared -/
theorem RelG.share {d : D} (g : RelG K pn A e σ G R H) (r : RepVal K A G R H e σ v (.fr d)) : ∃ G', Ex G G' ∧ RelG K pn A e σ G' R H ∧ Rep K G' v d := by
  obtain ⟨B, fr⟩ := r.frT g
  obtain ⟨G', x, g', r'⟩ := g.shareN fr
  obtain ⟨p, _, _, _, _, o⟩ := r
  rw [o.fz] at r'
  exact ⟨G', x, g', r'⟩
theorem getElem?_setB {α : Type} {l : List α} {i : Nat} {x : α} (h : i < l.length) : (l.set i x)[i]? = some x := by simp [h]
theorem set_ne {α : Type} {l : List α} {i j : Nat} {x : α} (h : j ≠ i) : (l.set i x)[j]? = l[j]? := List.getElem?_set_ne (Ne.symm h)
def LA.set (A : LA) (i : Nat) (L : Lb) : LA := fun j => if j = i then L else A j
theorem LA.set_eq {A : LA} {i : Nat} {L : Lb} : A.set i L i = L := if_pos rfl
theorem LA.set_ne {A : LA} {i j : Nat} {L : Lb} (h : j ≠ i) : A.set i L j = A j := if_neg h
/-- slot i alone is changed: its content, what it names, what stands there -/
theorem RelG.slot {i : Nat} {s : Slot} {L : Lb} {σ' : L2.St} (g : RelG K pn A e σ G R H) (hi : i < e.length) (hs : SlR K G H' L s σ'[i]?) (hl : σ'.length = σ.length) (ho : ∀ j, j ≠ i → σ'[j]? = σ[j]?)
    (keep : ∀ a, (G a ≠ none ∨ R a ≠ none ∨ ∃ j τ, j ≠ i ∧ A j τ = some a) → H' a = H a)
    (own : ∀ τ a, L τ = some a → G a = none ∧ R a = none ∧ H' a ≠ none ∧ ∀ j π, j ≠ i → A j π ≠ some a) (ij : LInj L)
    (hp : ∀ q ∈ pn, q.1 = i → σ'[i]? = some (some (.ref q.2)) ∧ s.io = true) : RelG K pn (A.set i L) (e.set i s) σ' G R H' where
  gh := fun a u q => by rw [keep a (.inl (by rw [q]; simp))]; exact g.gh _ _ q
  rh := fun a u q => by rw [keep a (.inr (.inl (by rw [q]; simp)))]; exact g.rh _ _ q
  dj := g.dj
  len := by rw [List.length_set, hl]; exact g.len
  own := fun j τ a h => by
    by_cases hj : j = i
    · subst hj; rw [LA.set_eq] at h; obtain ⟨a1, a2, a3, _⟩ := own τ a h; exact ⟨a1, a2, a3⟩
    · rw [LA.set_ne hj] at h
      obtain ⟨a1, a2, a3⟩ := g.own j τ a h
      exact ⟨a1, a2, by rw [keep a (.inr (.inr ⟨j, τ, hj, h⟩))]; exact a3⟩
  inj := fun j τ k π a h h' => by
    by_cases hj : j = i
    · subst hj
      rw [LA.set_eq] at h
      by_cases hk : k = j
      · subst hk; rw [LA.set_eq] at h'; exact ⟨rfl, ij _ _ _ h h'⟩
      · rw [LA.set_ne hk] at h'; exact absurd h' ((own τ a h).2.2.2 k π hk)
    · rw [LA.set_ne hj] at h
      by_cases hk : k = i
      · subst hk; rw [LA.set_eq] at h'; exact absurd h ((own π a h').2.2.2 j τ hj)
      · rw [LA.set_ne hk] at h'; exact g.inj _ _ _ _ _ h h'
  sl := fun j t q => by
    by_cases hj : j = i
    · subst hj; rw [getElem?_setB hi] at q; cases q; rw [LA.set_eq]; exact hs
    · rw [Qv.set_ne hj] at q
      rw [ho j hj, LA.set_ne hj]
      exact (g.sl j t q).frame fun τ a h => ⟨keep a (.inr (.inr ⟨j, τ, hj, h⟩)), h⟩
  pin := fun q hq => by
    obtain ⟨a, t, b, c⟩ := g.pin q hq
    by_cases hj : q.1 = i
    · obtain ⟨z1, z2⟩ := hp q hq hj
      rw [hj]
      exact ⟨z1, s, getElem?_setB hi, z2⟩
    · rw [ho _ hj, Qv.set_ne hj]; exact ⟨a, t, b, c⟩
/-- an owning slot (not the caller's) is shared -/
theorem RelG.frz {i : Nat} {d : D} (g : RelG K pn A e σ G R H) (h : e[i]? = some (.ow false d) ∨ e[i]? = some (.nt false d)) (hv : σ[i]? = some (some v)) : ∃ A' G', Ex G G' ∧ RelG K pn A' (e.set i (.sh d.fz)) σ G' R H ∧ Rep K G' v d.fz := by
  obtain ⟨p, h1, h2, h3⟩ := g.tree h
  rw [hv] at h1
  cases h1
  have hi : i < e.length := by rcases h with h | h <;> exact (List.getElem?_eq_some_iff.mp h).1
  have x : Ex G (upB G H (A i)) := upB_ex fun τ a h => (g.own i τ a h).1
  have hrep : Rep K (upB G H (A i)) (.ref p) d.fz := h3.fz x fun τ a o h q => by rw [upB_in h]; exact q
  have hio : ∀ q ∈ pn, q.1 ≠ i := fun q hq z => by
    obtain ⟨_, s, b, c⟩ := g.pin q hq
    rw [z] at b
    rcases h with h | h <;> (rw [h] at b; cases b; cases c)
  have nG : ∀ j τ a, j ≠ i → A j τ = some a → upB G H (A i) a = none := fun j τ a hj z => by
    rw [upB_out fun π w => hj (g.inj _ _ _ _ _ z w).1]; exact (g.own j τ a z).1
  refine ⟨A.set i fun _ => none, _, x, ?_, hrep⟩
  have g2 : RelG K pn (A.set i fun _ => none) (e.set i .em) σ G R H := g.slot hi trivial rfl (fun _ _ => rfl) (fun _ _ => rfl) (fun τ a z => nomatch z) (fun τ π a z => nomatch z) fun q hq z => absurd z (hio q hq)
  have g3 := RelG.grow x (upB_gh g.gh) (fun a ha => by rw [upB_out fun τ z => ha (g.own i τ a z).2.1]; exact g.dj a ha) (fun a ha => by
    obtain ⟨j, τ, z⟩ := ha
    by_cases hj : j = i
    · subst hj; rw [LA.set_eq] at z; cases z
    · rw [LA.set_ne hj] at z; exact nG j τ a hj z) g2
  have g4 := RelG.slot (i := i) (s := .sh d.fz) (L := fun _ => none) (σ' := σ) (H' := H) g3 (by simpa using hi) ⟨_, hv, hrep⟩ rfl (fun _ _ => rfl) (fun _ _ => rfl) (fun τ a z => nomatch z) (fun τ π a z => nomatch z) fun q hq z => absurd z (hio q hq)
  rw [List.set_set] at g4
  have eA : (A.set i fun _ => none).set i (fun _ => none) = A.set i fun _ => none := by
    funext j; unfold LA.set; split <;> rfl
  rw [eA] at g4
  exact g4
/-- a new object is laid: shared -/
theorem RelG.laid {p : Addr} {o : HO} (g : RelG K pn A e σ G R H) (h : H p = none) : RelG K pn A e σ (upd G p o) R (upd H p o) ∧ Ex G (upd G p o) := by
  have hG : G p = none := Evl.fresh_back g.gh h
  have hR : R p = none := Evl.fresh_back g.rh h
  have x : Ex G (upd G p o) := Ex.new hG
  have hH : Ex H (upd H p o) := Ex.new h
  have no : ∀ i τ a, A i τ = some a → a ≠ p := fun i τ a z w => (g.own i τ a z).2.2 (by rw [w]; exact h)
  refine ⟨⟨fun a u q => ?_, g.rh.trans hH, fun a ha => ?_, g.len, fun i τ a z => ?_, g.inj, fun i s q => ?_, g.pin⟩, x⟩
  · by_cases ha : a = p
    · subst ha; rw [upd_same] at q ⊢; exact q
    · rw [upd_ne ha] at q ⊢; exact g.gh _ _ q
  · rw [upd_ne (show a ≠ p from fun z => ha (by rw [z]; exact hR))]; exact g.dj a ha
  · obtain ⟨a1, a2, a3⟩ := g.own i τ a z
    rw [upd_ne (no i τ a z), upd_ne (no i τ a z)]
    exact ⟨a1, a2, a3⟩
  · exact ((g.sl i s q).frame fun τ a z => ⟨upd_ne (no i τ a z), z⟩).monoG x
/-- a new object is laid: nobody's -/
theorem RelG.laidF {p : Addr} {o : HO} (g : RelG K pn A e σ G R H) (h : H p = none) : RelG K pn A e σ G R (upd H p o) ∧ G p = none ∧ R p = none ∧ ¬ Owd A p := by
  have hG : G p = none := Evl.fresh_back g.gh h
  have hR : R p = none := Evl.fresh_back g.rh h
  have hH : Ex H (upd H p o) := Ex.new h
  have no : ∀ i τ a, A i τ = some a → a ≠ p := fun i τ a z w => (g.own i τ a z).2.2 (by rw [w]; exact h)
  refine ⟨⟨g.gh.trans hH, g.rh.trans hH, g.dj, g.len, fun i τ a z => ?_, g.inj, fun i s q => ?_, g.pin⟩, hG, hR, fun ⟨i, τ, z⟩ => no i τ p z rfl⟩
  · obtain ⟨a1, a2, a3⟩ := g.own i τ a z
    exact ⟨a1, a2, by rw [upd_ne (no i τ a z)]; exact a3⟩
  · exact (g.sl i s q).frame fun τ a z => ⟨upd_ne (no i τ a z), z⟩
/-- a slot is written: shared -/
theorem RelG.putS {i : Nat} {d : D} (g : RelG K pn A e σ G R H) (hi : i < e.length) (hn : ∀ s, e[i]? = some s → s.io = false) (hs : Rep K G v d) : ∃ A', RelG K pn A' (e.set i (.sh d)) (σ.set i (some v)) G R H := by
  have hi2 : i < σ.length := by rw [← g.len]; exact hi
  refine ⟨A.set i fun _ => none, g.slot hi ⟨v, getElem?_setB hi2, hs⟩ (by simp) (fun j hj => Qv.set_ne hj) (fun _ _ => rfl) (fun τ a z => nomatch z) (fun τ π a z => nomatch z) fun q hq z => ?_⟩
  obtain ⟨_, s, b, c⟩ := g.pin q hq
  rw [z] at b
  rw [hn s b] at c; cases c
/-- .. a fresh flat object -/
theorem RelG.putO {i : Nat} {d : D} (g : RelG K pn A e σ G R H) (hi : i < e.length) (hn : ∀ s, e[i]? = some s → s.io = false) (hs : RepVal K A G R H e σ v (.fr d)) : RelG K pn (A.set i (match v with | .ref p => one p | _ => fun _ => none)) (e.set i (.ow false d)) (σ.set i (some v)) G R H := by
  have hi2 : i < σ.length := by rw [← g.len]; exact hi
  obtain ⟨p, rfl, h1, h2, h3, h4⟩ := hs
  obtain ⟨o, ho⟩ := h4.isS
  refine g.slot hi ⟨p, getElem?_setB hi2, rfl, h4⟩ (by simp) (fun j hj => Qv.set_ne hj) (fun _ _ => rfl) (fun τ a z => ?_) (fun τ π a z w => by rw [(one_eq z).1, (one_eq w).1]) fun q hq z => ?_
  · obtain ⟨_, rfl⟩ := one_eq z
    exact ⟨h1, h2, by rw [ho]; simp, fun j π _ w => h3 ⟨j, π, w⟩⟩
  · obtain ⟨_, s, b, c⟩ := g.pin q hq
    rw [z] at b
    rw [hn s b] at c; cases c
/-- .. a fresh tree -/
theorem RelG.putN {i : Nat} {d : D} {B : Lb} (g : RelG K pn A e σ G R H) (hi : i < e.length) (hn : ∀ s, e[i]? = some s → s.io = false) (hs : FrT K A G R H B v d) : RelG K pn (A.set i B) (e.set i (.nt false d)) (σ.set i (some v)) G R H := by
  have hi2 : i < σ.length := by rw [← g.len]; exact hi
  obtain ⟨t, ij, nw⟩ := hs
  refine g.slot hi ⟨v, getElem?_setB hi2, t⟩ (by simp) (fun j hj => Qv.set_ne hj) (fun _ _ => rfl) (fun τ a z => ?_) ij fun q hq z => ?_
  · obtain ⟨a1, a2, a3, a4⟩ := nw τ a z
    exact ⟨a1, a2, a3, fun j π _ w => a4 ⟨j, π, w⟩⟩
  · obtain ⟨_, s, b, c⟩ := g.pin q hq
    rw [z] at b
    rw [hn s b] at c; cases c
/-- an owned flat object's content is written -/
theorem RelG.updO {i : Nat} {b : Bool} {d d' : D} {p : Addr} {o : HO} (g : RelG K pn A e σ G R H) (h : e[i]? = some (.ow b d)) (hv : σ[i]? = some (some (.ref p))) (ho : OwnR K G (upd H p o) p d') : RelG K pn (A.set i (A i)) (e.set i (.ow b d')) σ G R (upd H p o) := by
  obtain ⟨p', h1, h2, h3, h4, h5⟩ := g.own_ow h
  rw [hv] at h1
  cases h1
  have hi : i < e.length := (List.getElem?_eq_some_iff.mp h).1
  refine g.slot hi ⟨p, hv, h2, ho⟩ rfl (fun _ _ => rfl) (fun a ha => upd_ne fun z => ?_) (fun τ a z => ?_) (fun τ π a z w => (g.inj _ _ _ _ _ z w).2) fun q hq z => ?_
  · subst z
    rcases ha with ha | ha | ⟨j, τ, hj, ha⟩
    · exact ha h3
    · exact ha h4
    · exact hj (g.inj _ _ _ _ _ ha h2).1
  · obtain ⟨a1, a2, a3⟩ := g.own i τ a z
    refine ⟨a1, a2, ?_, fun j π hj w => hj (g.inj _ _ _ _ _ w z).1⟩
    by_cases ha : a = p
    · subst ha; rw [upd_same]; simp
    · rw [upd_ne ha]; exact a3
  · obtain ⟨a1, s, b1, c1⟩ := g.pin q hq
    rw [z] at b1 a1
    rw [h] at b1
    cases b1
    refine ⟨a1, ?_⟩
    cases b
    · cases c1
    · rfl
theorem LA.set_self {A : LA} {i : Nat} : A.set i (A i) = A := by
  funext j; unfold LA.set; split
  · rename_i h; rw [h]
  · rfl
/-- what is framed grows smaller -/
theorem RelG.weakR {R' : Hp} (g : RelG K pn A e σ G R' H) (x : Ex R R') : RelG K pn A e σ G R H where
  gh := g.gh
  rh := x.trans g.rh
  dj := fun a ha => g.dj a fun z => ha (by
    cases q : R a with
    | none => rfl
    | some o => rw [x _ _ q] at z; cases z)
  len := g.len
  own := fun i τ a h => by
    obtain ⟨a1, a2, a3⟩ := g.own i τ a h
    refine ⟨a1, ?_, a3⟩
    cases q : R a with
    | none => rfl
    | some o => rw [x _ _ q] at a2; cases a2
  inj := g.inj
  sl := g.sl
  pin := g.pin
theorem low {R' : Hp} (x : Ex R R') {p : Addr} (z : R' p = none) : R p = none := by
  cases q : R p with
  | none => rfl
  | some o => rw [x _ _ q] at z; cases z
theorem RepVal.weakR {R' : Hp} (r : RepVal K A G R' H e σ v val) (x : Ex R R') : RepVal K A G R H e σ v val := by
  cases val with
  | sh d => exact r
  | ow i => exact r
  | fr d => obtain ⟨p, h1, h2, h3, h4⟩ := r; exact ⟨p, h1, h2, low x h3, h4⟩
  | fn d => obtain ⟨B, t, ij, nw⟩ := r; exact ⟨B, t, ij, fun τ a z => ⟨(nw τ a z).1, low x (nw τ a z).2.1, (nw τ a z).2.2⟩⟩
  | np i π => exact r
/-- objects of nobody's are framed -/
theorem RelG.addB {B : Lb} (g : RelG K pn A e σ G R H) (nw : ∀ τ a, B τ = some a → G a = none ∧ R a = none ∧ H a ≠ none ∧ ¬ Owd A a) : RelG K pn A e σ G (upB R H B) H ∧ Ex R (upB R H B) := by
  refine ⟨⟨g.gh, upB_gh g.rh, fun a ha => ?_, g.len, fun i τ a h => ?_, g.inj, g.sl, g.pin⟩, upB_ex fun τ a h => (nw τ a h).2.1⟩
  · by_cases z : ∃ τ, B τ = some a
    · obtain ⟨τ, z⟩ := z; exact (nw τ a z).1
    · rw [upB_out fun τ w => z ⟨τ, w⟩] at ha; exact g.dj a ha
  · obtain ⟨a1, a2, a3⟩ := g.own i τ a h
    refine ⟨a1, ?_, a3⟩
    rw [upB_out fun π w => (nw π a w).2.2.2 ⟨i, τ, h⟩]; exact a2
theorem RelG.addR {p : Addr} {o : HO} (g : RelG K pn A e σ G R H) (h1 : G p = none) (h2 : H p = some o) (h3 : ¬ Owd A p) : RelG K pn A e σ G (upd R p o) H where
  gh := g.gh
  rh := fun a u q => by
    by_cases ha : a = p
    · subst ha; rw [upd_same] at q; cases q; exact h2
    · rw [upd_ne ha] at q; exact g.rh _ _ q
  dj := fun a ha => by
    by_cases hp : a = p
    · rw [hp]; exact h1
    · rw [upd_ne hp] at ha; exact g.dj a ha
  len := g.len
  own := fun i τ a h => by
    obtain ⟨a1, a2, a3⟩ := g.own i τ a h
    exact ⟨a1, by rw [upd_ne fun z => h3 (by rw [← z]; exact ⟨i, τ, h⟩)]; exact a2, a3⟩
  inj := g.inj
  sl := g.sl
  pin := g.pin
/-- a framed object is written -/
theorem RelG.frameSet {p : Addr} {o o' : HO} (g : RelG K pn A e σ G (upd R p o) H) : RelG K pn A e σ G (upd R p o') (upd H p o') where
  gh := fun a u q => by
    have hne : a ≠ p := fun z => by
      have := g.dj p (by rw [upd_same]; simp)
      rw [z, this] at q; cases q
    rw [upd_ne hne]; exact g.gh _ _ q
  rh := fun a u q => by
    by_cases ha : a = p
    · subst ha; rw [upd_same] at q ⊢; exact q
    · rw [upd_ne ha] at q ⊢; exact g.rh _ _ (by rw [upd_ne ha]; exact q)
  dj := fun a ha => by
    by_cases hp : a = p
    · rw [hp]; exact g.dj p (by rw [upd_same]; simp)
    · rw [upd_ne hp] at ha; exact g.dj a (by rw [upd_ne hp]; exact ha)
  len := g.len
  own := fun i τ a h => by
    obtain ⟨a1, a2, a3⟩ := g.own i τ a h
    have hne : a ≠ p := fun z => by rw [z, upd_same] at a2; cases a2
    rw [upd_ne hne] at a2
    exact ⟨a1, by rw [upd_ne hne]; exact a2, by rw [upd_ne hne]; exact a3⟩
  inj := g.inj
  sl := fun i s h => (g.sl i s h).frame fun τ a z => by
    obtain ⟨a1, a2, a3⟩ := g.own i τ a z
    have hne : a ≠ p := fun z => by rw [z, upd_same] at a2; cases a2
    exact ⟨upd_ne hne, z⟩
  pin := g.pin
/-- a slot is forgotten: its reading, then its state -/
theorem RelG.em {i : Nat} {σ' : L2.St} (g : RelG K pn A e σ G R H) (hl : σ'.length = σ.length) (hs : ∀ k, k ≠ i → σ'[k]? = σ[k]?) (ho : ∀ s, e[i]? = some s → s.io = false) : ∃ A', RelG K pn A' (e.set i .em) σ' G R H := by
  by_cases hi : i < e.length
  · refine ⟨A.set i fun _ => none, g.slot hi trivial hl hs (fun _ _ => rfl) (fun τ a z => nomatch z) (fun τ π a z => nomatch z) fun q hq z => ?_⟩
    obtain ⟨_, s, b, c⟩ := g.pin q hq
    rw [z] at b
    rw [ho s b] at c; cases c
  · rw [List.set_eq_of_length_le (by omega)]
    refine ⟨A, g.gh, g.rh, g.dj, by rw [hl]; exact g.len, g.own, g.inj, fun j s q => ?_, fun q hq => ?_⟩
    · have hj : j ≠ i := fun z => by subst z; exact hi (List.getElem?_eq_some_iff.mp q).1
      rw [hs j hj]; exact g.sl j s q
    · obtain ⟨a, s, b, c⟩ := g.pin q hq
      have hj : q.1 ≠ i := fun z => by rw [z] at b; exact hi (List.getElem?_eq_some_iff.mp b).1
      rw [hs _ hj]; exact ⟨a, s, b, c⟩
end
end Qv
namespace Qv
open PySem L2
open Evl (Ex)

/-! ### outcomes -/
/-- an exception's object, told of by G -/
def XnR (K : PySem.W.Frag) (G : Hp) (x : Xn) (d : Option Addr) : Prop := (d = none ∧ x.fs = []) ∨ ∃ a vs, d = some a ∧ G a = some (.xd vs) ∧ (∀ f, (vs.lookup f).isSome = (fsGet x.fs f).isSome) ∧ ∀ f v d, vs.lookup f = some v → fsGet x.fs f = some d → Rep K G v d
theorem XnR.mono {K : PySem.W.Frag} {G G' : Hp} {x : Xn} {d : Option Addr} (y : Ex G G') (h : XnR K G x d) : XnR K G' x d := by
  rcases h with h | ⟨a, vs, h1, h2, h3, h4⟩
  · exact .inl h
  · exact .inr ⟨a, vs, h1, y _ _ h2, h3, fun f v d p q => (h4 f v d p q).mono y⟩
abbrev Rv (β α : Type) := LA → Hp → Hp → Hp → En → L2.St → β → α → Prop
def FinV {α β : Type} (K : PySem.W.Frag) (rv : Rv β α) (pn : Pn) (e : En) (σ : L2.St) (G R : Hp) (a : α) (Q : β → Hp → Prop) : Prop :=
  ∀ b A' G' H', Ex G G' → RelG K pn A' e σ G' R H' → rv A' G' R H' e σ b a → Q b H'
def FinX (K : PySem.W.Frag) (W : WX) (pn : Pn) (e : En) (σ : L2.St) (G R : Hp) (x : Xn) : Prop :=
  ∀ A' G' H' d, Ex G G' → RelG K pn A' e σ G' R H' → XnR K G' x d → W (.ref (He.ga K x.cls)) d σ H'
def Oc {α : Type} (P : α → En → Prop) (PX : Xn → En → Prop) : Out (α × En) → Prop
  | .ok (a, e) => P a e
  | .ex x e => PX x e
  | .err => False
def OcV {α β : Type} (K : PySem.W.Frag) (W : WX) (rv : Rv β α) (pn : Pn) (σ : L2.St) (R : Hp) (Q : β → Hp → Prop) (G : Hp) (o : Out (α × En)) : Prop :=
  Oc (fun a e' => FinV K rv pn e' σ G R a Q) (fun x e' => FinX K W pn e' σ G R x) o
def tG {α β : Type} (K : PySem.W.Frag) (W : WX) (rv : Rv β α) (f : M α) : L2.St → Hp → (β → Hp → Prop) → Prop := fun σ H Q => ∃ pn A e G R, RelG K pn A e σ G R H ∧ OcV K W rv pn σ R Q G (f e)
abbrev rvE (K : PySem.W.Frag) : Rv V Val := fun A G R H e σ v val => RepVal K A G R H e σ v val
abbrev rvB {α : Type} : Rv α α := fun _ _ _ _ _ _ b a => b = a
abbrev tEv (K : PySem.W.Frag) (W : WX) (f : M Val) : TE := tG K W (rvE K) f
abbrev tTv (K : PySem.W.Frag) (W : WX) (f : M Bool) : TT := tG K W rvB f
section
variable {α β γ δ : Type} {K : PySem.W.Frag} {W : WX} {rv : Rv β α} {rv' : Rv δ γ} {pn : Pn} {A : LA} {e e' : En} {σ : L2.St} {G G' R R' H H' : Hp} {v : V} {val : Val} {Q : β → Hp → Prop} {Q' : δ → Hp → Prop}
theorem FinV.ext {a : α} (h : FinV K rv pn e σ G R a Q) (x : Ex G G') : FinV K rv pn e σ G' R a Q := fun b A' G2 H' y g r => h b A' G2 H' (x.trans y) g r
theorem FinX.ext {x : Xn} (h : FinX K W pn e σ G R x) (y : Ex G G') : FinX K W pn e σ G' R x := fun A' G2 H' d z g r => h A' G2 H' d (y.trans z) g r
theorem OcV.ext {o : Out (α × En)} (h : OcV K W rv pn σ R Q G o) (x : Ex G G') : OcV K W rv pn σ R Q G' o := by
  cases o with
  | ok p => exact FinV.ext (h : FinV K rv pn p.2 σ G R p.1 Q) x
  | ex y e => exact FinX.ext (h : FinX K W pn e σ G R y) x
  | err => exact h
/-- one step, then another; what waits may be framed -/
theorem chainR {m : M α} {k : α → M γ} (xr : Ex R R') (g : RelG K pn A e σ G R' H) (oc : OcV K W rv' pn σ R Q' G (bnd m k e))
    (step : ∀ b a A1 e1 G1 H1, Ex G G1 → RelG K pn A1 e1 σ G1 R' H1 → rv A1 G1 R' H1 e1 σ b a → OcV K W rv' pn σ R Q' G1 (k a e1) → Q b H1) : tG K W rv m σ H Q := by
  refine ⟨pn, A, e, G, R', g, ?_⟩
  unfold bnd at oc
  unfold OcV
  cases h : m e with
  | ok p => rw [h] at oc; exact fun b A' G' H' x g' r => step b _ A' _ G' H' x g' r (oc.ext x)
  | ex x e' => rw [h] at oc; exact fun A' G' H' d y g' r => (oc : FinX K W pn e' σ G R x) A' G' H' d y (g'.weakR xr) r
  | err => rw [h] at oc; exact oc
theorem chain {m : M α} {k : α → M γ} (g : RelG K pn A e σ G R H) (oc : OcV K W rv' pn σ R Q' G (bnd m k e))
    (step : ∀ b a A1 e1 G1 H1, Ex G G1 → RelG K pn A1 e1 σ G1 R H1 → rv A1 G1 R H1 e1 σ b a → OcV K W rv' pn σ R Q' G1 (k a e1) → Q b H1) : tG K W rv m σ H Q := chainR (Ex.refl R) g oc step
/-- the last step -/
theorem last {m : M α} (g : RelG K pn A e σ G R H) (oc : OcV K W rv pn σ R Q G (m e)) : tG K W rv m σ H Q := ⟨pn, A, e, G, R, g, oc⟩
theorem tG_mono {m : M α} {Q2 : β → Hp → Prop} (h : tG K W rv m σ H Q) (f : ∀ b H', Q b H' → Q2 b H') : tG K W rv m σ H Q2 := by
  obtain ⟨pn, A, e, G, R, g, oc⟩ := h
  refine ⟨pn, A, e, G, R, g, ?_⟩
  unfold OcV at *
  cases q : m e with
  | ok p => rw [q] at oc; exact fun b A' G' H' x g' r => f _ _ (oc b A' G' H' x g' r)
  | ex x e' => rw [q] at oc; exact oc
  | err => rw [q] at oc; exact oc
theorem oc_ret {a : α} (oc : OcV K W rv pn σ R Q G (ret a e)) : FinV K rv pn e σ G R a Q := oc
theorem oc_fail {P : Prop} (oc : OcV K W rv pn σ R Q G ((fail : M α) e)) : P := False.elim oc
theorem oc_opt {o : Option α} {k : α → M γ} (oc : OcV K W rv' pn σ R Q' G (bnd (opt o) k e)) : ∃ a, o = some a ∧ OcV K W rv' pn σ R Q' G (k a e) := by
  cases o with
  | none => exact False.elim oc
  | some a => exact ⟨a, rfl, oc⟩
theorem oc_optE {o : Option α} (oc : OcV K W rv pn σ R Q G (opt o e)) : ∃ a, o = some a ∧ FinV K rv pn e σ G R a Q := by
  cases o with
  | none => exact False.elim oc
  | some a => exact ⟨a, rfl, oc⟩
theorem oc_bret {a : α} {k : α → M γ} (oc : OcV K W rv' pn σ R Q' G (bnd (ret a) k e)) : OcV K W rv' pn σ R Q' G (k a e) := oc
theorem der_no {x : Xn} : der val e ≠ .ex x e' := by
  intro h
  cases val with
  | sh d => cases h
  | fr d => cases h
  | fn d => cases h
  | ow i =>
    unfold der at h
    dsimp only at h
    split at h <;> cases h
  | np i π =>
    unfold der at h
    dsimp only at h
    repeat (split at h)
    all_goals cases h
theorem oc_der {k : D → M γ} (g : RelG K pn A e σ G R H) (r : RepVal K A G R H e σ v val) (oc : OcV K W rv' pn σ R Q' G (bnd (der val) k e)) : ∃ d, RdV K G H v d ∧ OcV K W rv' pn σ R Q' G (k d e) := by
  unfold bnd at oc
  cases h : der val e with
  | ok p =>
    obtain ⟨h1, h2⟩ := g.rd r (d := p.1) (e' := p.2) h
    rw [h] at oc
    exact ⟨p.1, h2, by rw [← h1]; exact oc⟩
  | ex x e' => exact absurd h der_no
  | err => rw [h] at oc; exact oc.elim
theorem shr_no {x : Xn} : shr val e ≠ .ex x e' := by
  intro h
  cases val with
  | sh d => cases h
  | fr d => cases h
  | fn d => cases h
  | ow i =>
    unfold shr at h
    dsimp only at h
    split at h <;> cases h
  | np i π =>
    cases π with
    | nil =>
      unfold shr at h
      dsimp only at h
      split at h <;> cases h
    | cons => cases h
/-- shared from here on -/
theorem RelG.shr {d : D} (g : RelG K pn A e σ G R H) (r : RepVal K A G R H e σ v val) (h : Qv.shr val e = .ok (d, e')) : ∃ A' G', Ex G G' ∧ RelG K pn A' e' σ G' R H ∧ Rep K G' v d := by
  cases val with
  | sh d' => cases h; exact ⟨A, G, Ex.refl G, g, r⟩
  | fr d' => cases h; obtain ⟨G', x, g', r'⟩ := g.share r; exact ⟨A, G', x, g', r'⟩
  | fn d' => cases h; obtain ⟨B, fr⟩ := r; obtain ⟨G', x, g', r'⟩ := g.shareN fr; exact ⟨A, G', x, g', r'⟩
  | ow i =>
    unfold Qv.shr at h
    dsimp only at h
    split at h
    · rename_i d' z
      cases h
      obtain ⟨A', G', x, g', r'⟩ := g.frz (.inl z) r.1
      obtain ⟨p, _, _, _, _, o⟩ := g.own_ow z
      rw [o.fz] at g' r'
      exact ⟨A', G', x, g', r'⟩
    · cases h
  | np i π =>
    cases π with
    | cons => cases h
    | nil =>
      unfold Qv.shr at h
      dsimp only at h
      split at h
      · rename_i d' z
        cases h
        obtain ⟨b, d2, c, p, h1, h2, rfl, h3⟩ := r
        rw [z] at h1
        cases h1
        obtain ⟨p', k1, k2, _⟩ := g.tree (.inr z)
        rw [h3] at k2
        cases k2
        exact g.frz (.inr z) k1
      · cases h
theorem oc_shr {k : D → M γ} (g : RelG K pn A e σ G R H) (r : RepVal K A G R H e σ v val) (oc : OcV K W rv' pn σ R Q' G (bnd (shr val) k e)) : ∃ d A' e' G', Ex G G' ∧ RelG K pn A' e' σ G' R H ∧ Rep K G' v d ∧ OcV K W rv' pn σ R Q' G' (k d e') := by
  unfold bnd at oc
  cases h : shr val e with
  | ok p =>
    obtain ⟨A', G', x, g', r'⟩ := g.shr r (d := p.1) (e' := p.2) h
    rw [h] at oc
    exact ⟨p.1, A', p.2, G', x, g', r', oc.ext x⟩
  | ex x e' => exact absurd h shr_no
  | err => rw [h] at oc; exact oc.elim
/-- what waits: it can be found again -/
def PnV (K : PySem.W.Frag) (G : Hp) (σ : L2.St) (v : V) : Val → Prop
  | .sh d => Rep K G v d
  | .ow i => σ[i]? = some (some v)
  | .np i [] => σ[i]? = some (some v)
  | _ => False
theorem PnV.mono (x : Ex G G') (h : PnV K G σ v val) : PnV K G' σ v val := by
  cases val with
  | sh d => exact Rep.mono x h
  | ow i => exact h
  | fr d => exact h
  | fn d => exact h
  | np i π => cases π <;> exact h
theorem oc_pend {k : Val → M γ} (g : RelG K pn A e σ G R H) (r : RepVal K A G R H e σ v val) (oc : OcV K W rv' pn σ R Q' G (bnd (pend val) k e)) : ∃ w G', Ex G G' ∧ RelG K pn A e σ G' R H ∧ PnV K G' σ v w ∧ OcV K W rv' pn σ R Q' G' (k w e) := by
  cases val with
  | sh d => exact ⟨.sh d, G, Ex.refl G, g, r, oc⟩
  | fr d =>
    obtain ⟨G', x, g', r'⟩ := g.share r
    exact ⟨.sh d, G', x, g', r', (show OcV K W rv' pn σ R Q' G (k (.sh d) e) from oc).ext x⟩
  | ow i => exact ⟨.ow i, G, Ex.refl G, g, r.1, oc⟩
  | fn d =>
    obtain ⟨B, fr⟩ := r
    obtain ⟨G', x, g', r'⟩ := g.shareN fr
    exact ⟨.sh d.fz, G', x, g', r', (show OcV K W rv' pn σ R Q' G (k (.sh d.fz) e) from oc).ext x⟩
  | np i π =>
    cases π with
    | cons => exact False.elim oc
    | nil =>
      obtain ⟨b, d2, c, p, h1, h2, rfl, h3⟩ := r
      obtain ⟨p', k1, k2, _⟩ := g.tree (.inr h1)
      rw [h3] at k2
      cases k2
      exact ⟨.np i [], G, Ex.refl G, g, k1, oc⟩
/-- .. read later: the value is back -/
theorem PnV.back (r : PnV K G σ v val) (g : RelG K pn A e σ G R H) (h : ∀ i, (val = .ow i ∨ val = .np i []) → ∃ b d, (val = .ow i ∧ e[i]? = some (.ow b d)) ∨ (val = .np i [] ∧ e[i]? = some (.nt b d))) : RepVal K A G R H e σ v val := by
  cases val with
  | sh d => exact r
  | fr d => exact r.elim
  | fn d => exact r.elim
  | ow i =>
    obtain ⟨b, d, ⟨_, z⟩ | ⟨z, _⟩⟩ := h i (.inl rfl)
    · exact ⟨r, b, d, z⟩
    · cases z
  | np i π =>
    cases π with
    | cons => exact r.elim
    | nil =>
      obtain ⟨b, d, ⟨z, _⟩ | ⟨_, z⟩⟩ := h i (.inr rfl)
      · cases z
      · obtain ⟨p', k1, k2, _⟩ := g.tree (.inr z)
        have r' : σ[i]? = some (some v) := r
        rw [r'] at k1
        cases k1
        exact ⟨b, d, d, p', z, rfl, rfl, k2⟩
theorem oc_derP {k : D → M γ} (g : RelG K pn A e σ G R H) (r : PnV K G σ v val) (oc : OcV K W rv' pn σ R Q' G (bnd (der val) k e)) : ∃ d, RdV K G H v d ∧ OcV K W rv' pn σ R Q' G (k d e) := by
  refine oc_der (A := A) g (r.back g fun i hi => ?_) oc
  rcases hi with rfl | rfl
  · unfold bnd der at oc
    dsimp only at oc
    split at oc
    · rename_i p z
      split at z
      · exact ⟨_, _, .inl ⟨rfl, by assumption⟩⟩
      · cases z
    · rename_i z
      split at z <;> cases z
    · exact oc.elim
  · unfold bnd der at oc
    dsimp only at oc
    split at oc
    · rename_i p z
      split at z
      · exact ⟨_, _, .inr ⟨rfl, by assumption⟩⟩
      · cases z
    · rename_i z
      repeat (split at z)
      all_goals cases z
    · exact oc.elim
theorem oc_shrP {k : D → M γ} (g : RelG K pn A e σ G R H) (r : PnV K G σ v val) (oc : OcV K W rv' pn σ R Q' G (bnd (shr val) k e)) : ∃ d A' e' G', Ex G G' ∧ RelG K pn A' e' σ G' R H ∧ Rep K G' v d ∧ OcV K W rv' pn σ R Q' G' (k d e') := by
  refine oc_shr (A := A) g (r.back g fun i hi => ?_) oc
  rcases hi with rfl | rfl
  · unfold bnd shr at oc
    dsimp only at oc
    split at oc
    · rename_i p z
      split at z
      · exact ⟨_, _, .inl ⟨rfl, by assumption⟩⟩
      · cases z
    · rename_i z
      split at z <;> cases z
    · exact oc.elim
  · unfold bnd shr at oc
    dsimp only at oc
    split at oc
    · rename_i p z
      split at z
      · exact ⟨_, _, .inr ⟨rfl, by assumption⟩⟩
      · cases z
    · rename_i z
      split at z <;> cases z
    · exact oc.elim
theorem FinV.sc {d : D} {Q : VK} (g : RelG K pn A e σ G R H) (f : FinV K (rvE K) pn e σ G R (.sh d) Q) (r : Rep K G v d) : Q v H := f v A G H (Ex.refl G) g r
theorem FinV.newF {ds : List D} {vs : List V} {Q : VK} (g : RelG K pn A e σ G R H) (f : FinV K (rvE K) pn e σ G R (.fr (.lst ds)) Q) (r : RepL K G vs ds) : ∀ p, H p = none → Q (.ref p) (upd H p (.lst vs)) := fun p hp => by
  obtain ⟨g', a, b, c⟩ := g.laidF (o := .lst vs) hp
  exact f _ A G _ (Ex.refl G) g' ⟨p, rfl, a, b, c, ⟨vs, upd_same, r⟩⟩
theorem FinV.newT {ds : List D} {vs : List V} {Q : VK} (g : RelG K pn A e σ G R H) (f : FinV K (rvE K) pn e σ G R (.sh (.tup ds)) Q) (r : RepL K G vs ds) : ∀ p, H p = none → Q (.ref p) (upd H p (.tup vs)) := fun p hp => by
  obtain ⟨g', x⟩ := g.laid (o := .tup vs) hp
  exact f _ A _ _ x g' (.tup upd_same (r.mono x))
theorem lim_eq : lenLim = sizeLine := by rw [sizeLine_eq]; rfl
end
section
variable {X : Cx} {ex : Expr} {t t' : TE}
theorem PE_mono (h : PE X ex t) (m : ∀ σ H Q, t' σ H Q → t σ H Q) : PE X ex t' := ⟨fun pins s σ H Q I q => h.run pins s σ H Q I (m σ H Q q)⟩
theorem PT_mono {t t' : TT} (h : PT X ex t) (m : ∀ σ H Q, t' σ H Q → t σ H Q) : PT X ex t' := ⟨fun pins s σ H Q I q => h.run pins s σ H Q I (m σ H Q q)⟩
theorem PW_mono {t t' : TT} (h : PW X ex t) (m : ∀ σ H Q, t' σ H Q → t σ H Q) : PW X ex t' := ⟨fun wh pins s σ H Q I q => h.run wh pins s σ H Q I (m σ H Q q)⟩
theorem PA_mono {es : List Expr} {t t' : TA} (h : PA X es t) (m : ∀ σ H Q, t' σ H Q → t σ H Q) : PA X es t' := ⟨fun p pins s σ H Q I q => h.run p pins s σ H Q I (m σ H Q q)⟩
theorem PS_mono {st : Stmt} {t t' : TS} (h : PS X st t) (m : ∀ D σ H, t' D σ H → t D σ H) : PS X st t' := ⟨fun pins s σ H D I q => h.run pins s σ H D I (m D σ H q)⟩
theorem PSs_mono {st : List Stmt} {t t' : TS} (h : PSs X st t) (m : ∀ D σ H, t' D σ H → t D σ H) : PSs X st t' := ⟨fun pins s σ H D I q => h.run pins s σ H D I (m D σ H q)⟩
theorem PI_mono {tg : Expr} {t t' : TI} (h : PI X tg ex t) (m : ∀ σ H R, t' σ H R → t σ H R) : PI X tg ex t' := ⟨fun pins s σ H R I q => h.run pins s σ H R I (m σ H R q)⟩
theorem OpR_mono {f : Value → Value → Sem Value} {r r' : R2} (h : OpR X f r) (m : ∀ x y H Q, r' x y H Q → r x y H Q) : OpR X f r' := fun pins s σ H x y v u Q I a b q => h pins s σ H x y v u Q I a b (m x y H Q q)
theorem CallR_mono {f : Value} {r r' : List V → Hp → VK → Prop} (h : CallR X f r) (m : ∀ xs H Q, r' xs H Q → r xs H Q) : CallR X f r' := fun pins s σ H xs us Q I a q => h pins s σ H xs us Q I a (m xs H Q q)
end
/-! ### two-place operations -/
/-- a rule r of the layer does what g says of data -/
def ROK (K : PySem.W.Frag) (r : R2) (g : D → D → Option Val) : Prop :=
  ∀ (pn : Pn) (A : LA) (e : En) (σ : L2.St) (G R H : Hp) (x y : V) (dx dy : D) (val : Val), RelG K pn A e σ G R H → RdV K G H x dx → RdV K G H y dy → g dx dy = some val → ∀ Q : VK, FinV K (rvE K) pn e σ G R val Q → r x y H Q
def binC (g : D → D → Option Val) (fa fb : M Val) : M Val := bnd fa fun va => bnd (pend va) fun va => bnd fb fun vb => bnd (der va) fun da => bnd (der vb) fun db => opt (g da db)
theorem tbin {K : PySem.W.Frag} {W : WX} {r : R2} {g : D → D → Option Val} {fa fb : M Val} (hr : ROK K r g) {σ : L2.St} {H : Hp} {Q : VK} (h : tEv K W (binC g fa fb) σ H Q) : tOp r (tEv K W fa) (tEv K W fb) σ H Q := by
  obtain ⟨pn, A, e, G, R, g0, oc⟩ := h
  refine chain g0 oc fun x va A1 e1 G1 H1 x1 g1 r1 oc1 => ?_
  obtain ⟨wa, G2, x2, g2, r2, oc2⟩ := oc_pend g1 r1 oc1
  refine chain g2 oc2 fun y vb A3 e3 G3 H3 x3 g3 r3 oc3 => ?_
  obtain ⟨da, d1, oc4⟩ := oc_derP g3 (r2.mono x3) oc3
  obtain ⟨db, d2, oc5⟩ := oc_der g3 r3 oc4
  obtain ⟨val, q5, fin⟩ := oc_optE oc5
  exact hr pn A3 e3 σ G3 R H3 x y da db val g3 d1 d2 q5 Q fin
theorem se_bin {X : Cx} {W : WX} {op : Operator} {a b : Expr} {pos : Pos} {r : R2} {g : D → D → Option Val} {fa fb : M Val} (ho : OpR X (binaryOp op) r) (hr : ROK X.K r g) (ha : PE X a (tEv X.K W fa)) (hb : PE X b (tEv X.K W fb)) :
    PE X (.BinOp a op b pos) (tEv X.K W (binC g fa fb)) := PE_mono (pe_op ho ha hb) fun _ _ _ h => tbin hr h
theorem se_cmp {X : Cx} {W : WX} {op : CmpOp} {a b : Expr} {pos : Pos} {r : R2} {g : D → D → Option Val} {fa fb : M Val} (ho : OpR X (compareOp op) r) (hr : ROK X.K r g) (ha : PE X a (tEv X.K W fa)) (hb : PE X b (tEv X.K W fb)) (hm : behindInMarks op b = false) :
    PE X (.Compare a [op] [b] pos) (tEv X.K W (binC g fa fb)) := PE_mono (pe_cmpR ho ha hb hm) fun _ _ _ h => tbin hr h
end Qv
namespace Qv
open PySem L2
open Evl (Ex)

/-! ### operators -/
section
variable {K : PySem.W.Frag}
def rAdd (K : PySem.W.Frag) : R2 := fun x y H Q => rI0 (fun i j => .int (i + j)) x y H Q ∨ (∃ i j, x = .str i ∧ y = .str j ∧ i.length + j.length ≤ sizeLine ∧ Q (.str (i ++ j)) H) ∨ rCat x y H Q ∨ rCatA K x y H Q
theorem op_addA {X : Cx} : OpR X (binaryOp .Add) (rAdd X.K) := op_add.or (op_add_str.or (op_cat.or op_catA))
theorem ok_add : ROK K (rAdd K) addD := by
  intro pn A e σ G R H x y dx dy val g rx ry h Q f
  unfold addD at h
  split at h
  · cases h; cases rx; cases ry
    exact .inl ⟨_, _, rfl, rfl, f.sc g (.int _)⟩
  · split at h
    · cases h; cases rx; cases ry
      exact .inr (.inl ⟨_, _, rfl, rfl, by rw [← lim_eq]; assumption, f.sc g (.str _)⟩)
    · cases h
  · rename_i a b
    split at h
    · cases h
      obtain ⟨p, xs, rfl, hp, ra⟩ := rx
      obtain ⟨q, ys, rfl, hq, rb⟩ := ry
      exact .inr (.inr (.inl ⟨p, q, xs, ys, rfl, rfl, hp, hq, by rw [← lim_eq, ra.length, rb.length]; assumption, f.newF g (ra.append rb)⟩))
    · cases h
  · rename_i a b
    split at h
    · cases h
      have rx' : Rep K G x (.tup a) := rx
      have ry' : Rep K G y (.tup b) := ry
      cases rx' with
      | @tup p xs _ sp ra =>
        cases ry' with
        | @tup q ys _ sq rb =>
          refine .inr (.inr (.inr ⟨p, q, xs, ys, rfl, rfl, SqT.of (g.gh _ _ sp), SqT.of (g.gh _ _ sq), by rw [← lim_eq, ra.length, rb.length]; assumption, fun z => ?_, fun z z2 => ?_, fun _ _ => f.newT g (ra.append rb)⟩))
          · subst z
            cases ra
            exact f.sc g (.tup sq rb)
          · subst z2
            cases rb
            rw [List.append_nil] at f
            exact f.sc g (.tup sp ra)
    · cases h
  · cases h
theorem ok_sub : ROK K (rI0 fun i j => .int (i - j)) subD := by
  intro pn A e σ G R H x y dx dy val g rx ry h Q f
  unfold subD at h
  split at h
  · cases h; cases rx; cases ry
    exact ⟨_, _, rfl, rfl, f.sc g (.int _)⟩
  · cases h
theorem repS_size (c : Array Nat) : ∀ (n : Nat) (acc : Array Nat), ((List.replicate n c).foldl (· ++ ·) acc).size = acc.size + n * c.size
  | 0, acc => by simp
  | n + 1, acc => by
    rw [List.replicate_succ, List.foldl_cons, repS_size c n, Array.size_append, Nat.succ_mul]
    omega
theorem repS_len (a : Str) (n : Nat) : (repS a n).length = n * a.length := by
  have := repS_size a.cps n #[]
  show ((List.replicate n a.cps).foldl (· ++ ·) #[]).size = _
  rw [this]
  simp
  rfl
def rMulS : R2 := fun x y H Q => ∃ a k, x = .str a ∧ y = .int k ∧ 2 ≤ k ∧ k ≤ 1000 ∧ a.length ≤ 1000 ∧ a.length ≠ 0 ∧ Q (.str (repS a k.toNat)) H
theorem op_mulS {X : Cx} : OpR X (binaryOp .Mult) rMulS := by
  intro pins s σ H x y v u Q I rx ry h
  obtain ⟨a, k, rfl, rfl, k1, k2, l1, l2, q⟩ := h
  obtain ⟨t, rfl⟩ := rx
  obtain ⟨t2, rfl⟩ := ry
  have big : a.length * k.toNat ≤ 1000 * 1000 := Nat.mul_le_mul l1 (by omega)
  have n1 : ¬ k < 1 := by omega
  have n2 : (k == 1 || a.length == 0) = false := by
    have z1 : (k == 1) = false := by rw [beq_eq_false_iff_ne]; omega
    have z2 : (a.length == 0) = false := by rw [beq_eq_false_iff_ne]; exact l2
    rw [z1, z2]; rfl
  refine PySem.P.mul_str ?_ (fun _ _ => ?_) (fun _ _ => ?_) ?_
  · have z1 : ¬ k < -(2 ^ 63 : Int) := by omega
    have z2 : ¬ k ≥ 2 ^ 63 := by omega
    rw [decide_eq_false z1, decide_eq_false z2]; rfl
  · have z : (1000 : Int) ≤ (2 ^ 63 - 1) / k := Int.le_ediv_of_mul_le (by omega) (by omega)
    have l3 : (a.length : Int) ≤ 1000 := by exact_mod_cast l1
    omega
  · refine decide_eq_false ?_
    rw [sizeLine_eq]
    omega
  · rw [if_neg n1, if_neg (by rw [n2]; exact Bool.false_ne_true)]
    refine ⟨?_, .str _, H, I.tok _, ⟨_, rfl⟩, q⟩
    have e := repS_len a k.toNat
    rw [Nat.mul_comm] at e
    show (repS a k.toNat).length ≤ sizeLine
    rw [e, sizeLine_eq]
    omega
end
section
open PySem.Spec PyProof.Rows
theorem tuple_mul1 (l : Addr) (items : Array Value) (n : Nat) (dd : Option Addr) (sl : Array (Option Value)) (u : Tok) :
    Meets (Builtin.«tuple.__mul__» ⟨[.ref l, .int 1 u], []⟩) (fun _ R s => s.heap.get? l = some { cls := .type "tuple", dict := dd, data := .seq items n, slots := sl } ∧ R (.ok (.ret (Value.ref l))) s) :=
  .of_wp fun prog w A R s h => by
    obtain ⟨hp, g, d, tk, os⟩ := s
    obtain ⟨hl, h⟩ := h
    have f1 := AutoSeq1.idx_int
    wp_walk using wpAny_loadPart' hl
    repeat (first
      | (refine wpAny_ite_false (by decide) ?_; wp_walk using wpAny_loadPart' hl)
      | (refine wpAny_ite_true (by simp) ?_; wp_walk using wpAny_loadPart' hl))
    exact ⟨_, rfl, h⟩
theorem tuple_mul0 (l : Addr) (items : Array Value) (n : Nat) (dd : Option Addr) (sl : Array (Option Value)) (u : Tok) (hi : items.isEmpty = false) :
    Meets (Builtin.«tuple.__mul__» ⟨[.ref l, .int 0 u], []⟩) (fun _ R s => s.heap.get? l = some { cls := .type "tuple", dict := dd, data := .seq items n, slots := sl } ∧
      R (.ok (.ret (Value.ref s.heap.objs.size))) { s with heap := s.heap.push { cls := Value.type "tuple", data := Data.seq #[] }, toks := s.toks }) :=
  .of_wp fun prog w A R s h => by
    obtain ⟨hp, g, d, tk, os⟩ := s
    obtain ⟨hl, h⟩ := h
    have f1 := AutoSeq1.idx_int
    wp_walk using wpAny_loadPart' hl
    repeat (first
      | (refine wpAny_ite_false (by decide) ?_; wp_walk using wpAny_loadPart' hl)
      | (refine wpAny_ite_false (by rw [hi]; decide) ?_; wp_walk using wpAny_loadPart' hl)
      | (refine wpAny_ite_true (by simp) ?_; wp_walk using wpAny_loadPart' hl))
    exact ⟨_, rfl, h⟩
def rRepT1 (K : PySem.W.Frag) : R2 := fun x y H Q => ∃ l xs, x = .ref l ∧ y = .int 1 ∧ SqT K H l xs ∧ Q x H
def rRepT0 (K : PySem.W.Frag) : R2 := fun x y H Q => ∃ l xs, x = .ref l ∧ y = .int 0 ∧ SqT K H l xs ∧ xs ≠ [] ∧ ∀ p, H p = none → Q (.ref p) (upd H p (.tup []))
theorem op_repT1 {X : Cx} : OpR X (binaryOp .Mult) (rRepT1 X.K) := by
  intro pins s σ H x y v u Q I rx ry h
  obtain ⟨l, xs, rfl, rfl, hT, q⟩ := h
  cases rx
  obtain ⟨t, rfl⟩ := ry
  obtain ⟨its, r, ⟨⟨cls, dd, data, sl⟩, ho, hc, n, hd⟩, hs⟩ := I.tuple hT
  simp only at hc hd
  subst hc hd
  refine wpAny_binaryOp_repeat_ref (T := "tuple") (U := "int") (by decide) ⟨_, ho, rfl⟩ (fun s' => typeIs_int s' 1 t) noFill_tuple_mul F.fills_int_mul F.slot_int_rmul repeat_tuple F.slot_int_index.lookup
    (call_meets F.slot_int_rmul (typeIs_int s 1 t) F.entry_int_rmul (F.args_int_rmul_2 _ _) (int_rmul_tuple 1 t l its.toArray n dd sl)
      ⟨ho, rfl, ⟨_, ho, rfl⟩, call_meets F.slot_tuple_mul ⟨_, ho, rfl⟩ F.entry_tuple_mul (F.args_tuple_mul_2 _ _) (tuple_mul1 l its.toArray n dd sl t) ⟨ho, ?_⟩⟩)
  exact ⟨.ref l, H, I, rfl, q⟩
theorem op_repT0 {X : Cx} : OpR X (binaryOp .Mult) (rRepT0 X.K) := by
  intro pins s σ H x y v u Q I rx ry h
  obtain ⟨l, xs, rfl, rfl, hT, hne, q⟩ := h
  cases rx
  obtain ⟨t, rfl⟩ := ry
  obtain ⟨its, r, ⟨⟨cls, dd, data, sl⟩, ho, hc, n, hd⟩, hs⟩ := I.tuple hT
  simp only at hc hd
  subst hc hd
  have hle : its.length = xs.length := r.length.symm
  have hn : its ≠ [] := fun e => hne (by
    rw [e] at hle
    exact List.eq_nil_of_length_eq_zero hle.symm)
  have hi : its.toArray.isEmpty = false := by
    cases its with
    | nil => exact absurd rfl hn
    | cons a b => rfl
  refine wpAny_binaryOp_repeat_ref (T := "tuple") (U := "int") (by decide) ⟨_, ho, rfl⟩ (fun s' => typeIs_int s' 0 t) noFill_tuple_mul F.fills_int_mul F.slot_int_rmul repeat_tuple F.slot_int_index.lookup
    (call_meets F.slot_int_rmul (typeIs_int s 0 t) F.entry_int_rmul (F.args_int_rmul_2 _ _) (int_rmul_tuple 0 t l its.toArray n dd sl)
      ⟨ho, rfl, ⟨_, ho, rfl⟩, call_meets F.slot_tuple_mul ⟨_, ho, rfl⟩ F.entry_tuple_mul (F.args_tuple_mul_2 _ _) (tuple_mul0 l its.toArray n dd sl t hi) ⟨ho, ?_⟩⟩)
  refine ⟨.ref s.heap.objs.size, _, I.laid (t' := s.toks) (o := .tup []) (fun b ob q => Heap.get?_push_of_some _ q) (Nat.le_refl _) ?_, rfl, q _ (I.hok.fresh (Nat.le_refl _))⟩
  exact ⟨Nat.zero_le _, _, .nil, IsTup.new _ _⟩
end
section
variable {K : PySem.W.Frag}
def rMulA (K : PySem.W.Frag) : R2 := fun x y H Q => rI CMulW (fun i j => .int (i * j)) x y H Q ∨ rRep x y H Q ∨ rRepT K x y H Q ∨ rMulS x y H Q ∨ rRepT1 K x y H Q ∨ rRepT0 K x y H Q
theorem op_mulA {X : Cx} : OpR X (binaryOp .Mult) (rMulA X.K) := op_mulW.or (op_rep.or (op_repT.or (op_mulS.or (op_repT1.or op_repT0))))
theorem ok_mul : ROK K (rMulA K) mulD := by
  intro pn A e σ G R H x y dx dy val g rx ry h Q f
  unfold mulD at h
  split at h
  · split at h
    · cases h; cases rx; cases ry
      exact .inl ⟨_, _, rfl, rfl, by assumption, f.sc g (.int _)⟩
    · cases h
  · split at h
    · rename_i c
      cases h; cases ry
      obtain ⟨p, xs, rfl, hp, ra⟩ := rx
      exact .inr (.inl ⟨p, _, xs, rfl, rfl, hp, c.2.1, c.2.2, by rw [← lim_eq, ra.length]; exact c.1, f.newF g (ra.rep _)⟩)
    · cases h
  · split at h
    · rename_i c
      cases h; cases ry
      have rx' : Rep K G x (.tup _) := rx
      cases rx' with
      | @tup p xs _ hp ra =>
        have hne : xs ≠ [] := fun z => by subst z; cases ra; exact c.1 rfl
        rename_i k
        rcases (show k = 0 ∨ k = 1 ∨ 2 ≤ k by omega) with z | z | z
        · subst z
          exact .inr (.inr (.inr (.inr (.inr ⟨p, xs, rfl, rfl, SqT.of (g.gh _ _ hp), hne, f.newT g .nil⟩))))
        · subst z
          refine .inr (.inr (.inr (.inr (.inl ⟨p, xs, rfl, rfl, SqT.of (g.gh _ _ hp), ?_⟩))))
          refine f.sc g ?_
          show Rep K G (.ref p) (.tup ((_ : List D) ++ []))
          rw [List.append_nil]
          exact .tup hp ra
        · exact .inr (.inr (.inl ⟨p, _, xs, rfl, rfl, SqT.of (g.gh _ _ hp), hne, z, c.2.2.1, by rw [ra.length]; exact c.2.2.2, f.newT g (ra.rep _)⟩))
    · cases h
  · split at h
    · rename_i c
      cases h; cases rx; cases ry
      exact .inr (.inr (.inr (.inl ⟨_, _, rfl, rfl, c.1, c.2.1, c.2.2.1, c.2.2.2, f.sc g (.str _)⟩)))
    · cases h
  · cases h
theorem ok_fdiv : ROK K (rI CDivW fun i j => .int (i / j)) fdivD := by
  intro pn A e σ G R H x y dx dy val g rx ry h Q f
  unfold fdivD at h
  split at h
  · split at h
    · cases h; cases rx; cases ry
      exact ⟨_, _, rfl, rfl, by assumption, f.sc g (.int _)⟩
    · cases h
  · cases h
theorem ok_mod : ROK K (rI (fun _ j => 0 < j) fun i j => .int (i % j)) modD := by
  intro pn A e σ G R H x y dx dy val g rx ry h Q f
  unfold modD at h
  split at h
  · split at h
    · cases h; cases rx; cases ry
      exact ⟨_, _, rfl, rfl, by assumption, f.sc g (.int _)⟩
    · cases h
  · cases h
def CPowW (i j : Int) : Prop := 0 ≤ j ∧ (Builtin.Int.intBits i : Int) * j ≤ 2 ^ 27
theorem op_powW {X : Cx} : OpR X (binaryOp .Pow) (rI CPowW fun i j => .int (i ^ j.toNat)) := opI fun _ _ _ _ _ _ _ hc q => PyProof.Rows.pow_int hc.1 hc.2 q
theorem ok_pow : ROK K (rI CPowW fun i j => .int (i ^ j.toNat)) powD := by
  intro pn A e σ G R H x y dx dy val g rx ry h Q f
  unfold powD at h
  split at h
  · split at h
    · cases h; cases rx; cases ry
      exact ⟨_, _, rfl, rfl, by assumption, f.sc g (.int _)⟩
    · cases h
  · cases h

/-! ### comparisons -/
mutual
theorem Rep.dp {H : Hp} : ∀ {d : D} {v : V}, d.pl = true → SeqAt.shaped d.py = true → Rep K H v d → Dp K H v d.py
  | _, _, _, _, .non => .non
  | _, _, _, _, .bl b => .bl b
  | _, _, _, _, .int i => .int i
  | _, _, _, _, .str x => .str x
  | _, _, p, s, .lst h r => .lst (SqL.of h) (RepL.dp p (by
      have c := SeqAt.canLay_of_shaped s
      simpa [D.py, PyData.canLay0] using c) r)
  | _, _, p, s, .tup h r => .tup (SqT.of h) (RepL.dp p (by
      have c := SeqAt.canLay_of_shaped s
      simpa [D.py, PyData.canLay0] using c) r)
  | _, _, p, s, .dct h r => by
      have c := SeqAt.canLay_of_shaped s
      simp [D.py, PyData.canLay0] at c
  | _, _, p, s, .scr h => .lst h (by
      rename_i ns _
      clear s p h
      induction ns with
      | nil => exact .nil
      | cons n r ih => exact .cons (.int n) ih)
  | _, _, p, s, .dcT h r => by
      have c := SeqAt.canLay_of_shaped s
      simp [D.py, PyData.canLay0] at c
  | _, _, p, s, .ins .. => by simp [D.pl] at p
  | _, _, p, s, .ty _ => by simp [D.pl] at p
theorem RepL.dp {H : Hp} : ∀ {ds : List D} {vs : List V}, plL ds = true → PyData.canLayAll0 (pyL ds) = true → RepL K H vs ds → DpAll K H vs (pyL ds)
  | _, _, _, _, .nil => .nil
  | _, _, p, s, .cons h r => by
      rw [plL, Bool.and_eq_true] at p
      rw [pyL, PyData.canLayAll0, Bool.and_eq_true] at s
      exact .cons (Rep.dp' p.1 s.1 h) (RepL.dp p.2 s.2 r)
theorem Rep.dp' {H : Hp} : ∀ {d : D} {v : V}, d.pl = true → d.py.canLay0 = true → Rep K H v d → Dp K H v d.py
  | _, _, _, _, .non => .non
  | _, _, _, _, .bl b => .bl b
  | _, _, _, _, .int i => .int i
  | _, _, _, _, .str x => .str x
  | _, _, p, s, .lst h r => .lst (SqL.of h) (RepL.dp p (by simpa [D.py, PyData.canLay0] using s) r)
  | _, _, p, s, .tup h r => .tup (SqT.of h) (RepL.dp p (by simpa [D.py, PyData.canLay0] using s) r)
  | _, _, p, s, .dct h r => by simp [D.py, PyData.canLay0] at s
  | _, _, p, s, .scr h => .lst h (by
      rename_i ns _
      clear s p h
      induction ns with
      | nil => exact .nil
      | cons n r ih => exact .cons (.int n) ih)
  | _, _, p, s, .dcT h r => by simp [D.py, PyData.canLay0] at s
  | _, _, p, s, .ins .. => by simp [D.pl] at p
  | _, _, p, s, .ty _ => by simp [D.pl] at p
end
theorem dec_strV (a b : Str) : decide (V.str a = V.str b) = decide (a = b) := by
  by_cases h : a = b
  · subst h; simp
  · have : V.str a ≠ V.str b := fun z => h (by cases z; rfl)
    simp [h, this]
/-- lists of different lengths -/
def rLn (K : PySem.W.Frag) (r : Bool) : R2 := fun x y H Q => ∃ a b xs ys, x = .ref a ∧ y = .ref b ∧ SqL K H a xs ∧ SqL K H b ys ∧ xs.length ≠ ys.length ∧ Q (.bl r) H
section
variable {X : Cx}
theorem rLn_go {op : CmpOp} {r : Bool} (hu : X.A.units + 64 < cLine) (go : ∀ {s : Shared} {a b : Addr} {i j : Array Value} {E Q : Value → Shared → Prop}, s.heap.IsList a i → s.heap.IsList b j → (i.size != j.size) = true → X.A.units < cLine → Q (.bool r) s → wpAny (model X.prog X.w) X.A (compareOp op (.ref a) (.ref b)) Q E s) : OpR X (compareOp op) (rLn X.K r) := by
  intro pins s σ H x y v u Q I rx ry h
  obtain ⟨a, b, xs, ys, rfl, rfl, ha, hb, hne, q⟩ := h
  cases rx
  cases ry
  obtain ⟨its, r1, l1, _⟩ := I.list ha
  obtain ⟨jts, r2, l2, _⟩ := I.list hb
  refine go l1.isList l2.isList ?_ (by omega) ⟨.bl _, H, I, rfl, q⟩
  rw [bne_iff_ne]
  intro z
  apply hne
  rw [r1.length, r2.length]
  simpa using z
theorem op_eqLen (hu : X.A.units + 64 < cLine) : OpR X (compareOp .Eq) (rLn X.K false) := rLn_go hu fun h1 h2 h3 h4 h5 => SeqAt.eq_list_lengthsAt h1 h2 h3 h4 h5
theorem op_neLen (hu : X.A.units + 64 < cLine) : OpR X (compareOp .NotEq) (rLn X.K true) := rLn_go hu fun h1 h2 h3 h4 h5 => SeqAt.RcNeAt.lists_lengths h1 h2 h3 h4 _ _ _ _ h5
end
theorem dif_rep {G H : Hp} {x y : V} {a b : D} (h : difLen a b = true) (rx : RdV K G H x a) (ry : RdV K G H y b) : ∃ p q xs ys, x = .ref p ∧ y = .ref q ∧ SqL K H p xs ∧ SqL K H q ys ∧ xs.length ≠ ys.length := by
  unfold difLen at h
  split at h
  · obtain ⟨p, xs, rfl, hp, ra⟩ := rx
    obtain ⟨q, ys, rfl, hq, rb⟩ := ry
    exact ⟨p, q, xs, ys, rfl, rfl, SqL.of hp, SqL.of hq, by rw [ra.length, rb.length]; exact of_decide_eq_true h⟩
  · cases h
def rEqA (K : PySem.W.Frag) : R2 := fun x y H Q => rEq x y H Q ∨ rEqD K x y H Q ∨ rLn K false x y H Q
def rNeA (K : PySem.W.Frag) : R2 := fun x y H Q => rNe x y H Q ∨ rNeD K x y H Q ∨ rLn K true x y H Q
theorem ok_eq : ROK K (rEqA K) eqD := by
  intro pn A e σ G R H x y dx dy val g rx ry h Q f
  unfold eqD at h
  split at h
  · cases h; cases rx; cases ry
    exact .inl ⟨rfl, by rw [dec_strV]; exact f.sc g (.bl _)⟩
  · split at h
    · rename_i c
      cases h
      rw [Bool.and_eq_true] at c
      obtain ⟨c1, c2⟩ := c
      unfold eqOk at c1 c2
      rw [Bool.and_eq_true] at c1 c2
      exact .inr (.inl ⟨_, _, Rep.dp c1.1 c1.2 (rx.rep g.gh), Rep.dp c2.1 c2.2 (ry.rep g.gh), c1.2, c2.2, f.sc g (.bl _)⟩)
    · split at h
      · rename_i c
        cases h
        obtain ⟨p, q, xs, ys, h1, h2, h3, h4, h5⟩ := dif_rep c rx ry
        exact .inr (.inr ⟨p, q, xs, ys, h1, h2, h3, h4, h5, f.sc g (.bl _)⟩)
      · cases h
theorem ok_ne : ROK K (rNeA K) neD := by
  intro pn A e σ G R H x y dx dy val g rx ry h Q f
  unfold neD at h
  split at h
  · cases h; cases rx; cases ry
    exact .inl ⟨rfl, by rw [dec_strV]; exact f.sc g (.bl _)⟩
  · split at h
    · rename_i c
      cases h
      rw [Bool.and_eq_true] at c
      obtain ⟨c1, c2⟩ := c
      unfold eqOk at c1 c2
      rw [Bool.and_eq_true] at c1 c2
      exact .inr (.inl ⟨_, _, Rep.dp c1.1 c1.2 (rx.rep g.gh), Rep.dp c2.1 c2.2 (ry.rep g.gh), c1.2, c2.2, f.sc g (.bl _)⟩)
    · split at h
      · rename_i c
        cases h
        obtain ⟨p, q, xs, ys, h1, h2, h3, h4, h5⟩ := dif_rep c rx ry
        exact .inr (.inr ⟨p, q, xs, ys, h1, h2, h3, h4, h5, f.sc g (.bl _)⟩)
      · cases h
def rOrd (p : Int → Int → Bool) (q : Str → Str → Bool) : R2 := fun x y H Q => rI0 (fun i j => .bl (p i j)) x y H Q ∨ ∃ i j, x = .str i ∧ y = .str j ∧ Q (.bl (q i j)) H
theorem ints_rep {G : Hp} : ∀ {l : List D} {bs : List Int} {vs : List V}, intsOf l = some bs → RepL K G vs l → vs = bs.map V.int
  | _, _, _, h, .nil => by cases h; rfl
  | d :: l, bs, v :: vs, h, .cons a b => by
    cases d with
    | int c =>
      unfold intsOf at h
      obtain ⟨bs', h1, rfl⟩ := Option.map_eq_some_iff.mp h
      cases a
      rw [ints_rep h1 b]
      rfl
    | _ => cases h
def rLtA (K : PySem.W.Frag) : R2 := fun x y H Q => rOrd (fun i j => decide (i < j)) (fun a b => decide (a.cps.toList < b.cps.toList)) x y H Q ∨ rLtT K x y H Q
theorem op_ltA {X : Cx} (hu : X.A.units < cLine) : OpR X (compareOp .Lt) (rLtA X.K) := (op_lt.or op_lt_str).or (op_ltT hu)
theorem op_leA {X : Cx} : OpR X (compareOp .LtE) (rOrd (fun i j => decide (i ≤ j)) fun a b => !decide (b.cps.toList < a.cps.toList)) := op_le.or op_le_str
theorem op_gtA {X : Cx} : OpR X (compareOp .Gt) (rOrd (fun i j => decide (j < i)) fun a b => decide (b.cps.toList < a.cps.toList)) := op_gt.or op_gt_str
theorem op_geA {X : Cx} : OpR X (compareOp .GtE) (rOrd (fun i j => decide (j ≤ i)) fun a b => !decide (a.cps.toList < b.cps.toList)) := op_ge.or op_ge_str
theorem ok_lt : ROK K (rLtA K) ltD := by
  intro pn A e σ G R H x y dx dy val g rx ry h Q f
  unfold ltD at h
  split at h
  · cases h; cases rx; cases ry; exact .inl (.inl ⟨_, _, rfl, rfl, f.sc g (.bl _)⟩)
  · cases h; cases rx; cases ry; exact .inl (.inr ⟨_, _, rfl, rfl, f.sc g (.bl _)⟩)
  · split at h
    · rename_i a b _ _ n m h1 h2
      cases h
      have rx' : Rep K G x (.tup a) := rx
      have ry' : Rep K G y (.tup b) := ry
      cases rx' with
      | @tup p xs _ sp ra =>
        cases ry' with
        | @tup q ys _ sq rb =>
          have e1 := ints_rep h1 ra
          have e2 := ints_rep h2 rb
          subst e1 e2
          exact .inr ⟨p, q, _, _, rfl, rfl, SqT.of (g.gh _ _ sp), SqT.of (g.gh _ _ sq), f.sc g (.bl _)⟩
    · cases h
  · cases h
theorem ok_le : ROK K (rOrd (fun i j => decide (i ≤ j)) fun a b => !decide (b.cps.toList < a.cps.toList)) leD := by
  intro pn A e σ G R H x y dx dy val g rx ry h Q f
  unfold leD at h
  split at h
  · cases h; cases rx; cases ry; exact .inl ⟨_, _, rfl, rfl, f.sc g (.bl _)⟩
  · cases h; cases rx; cases ry; exact .inr ⟨_, _, rfl, rfl, f.sc g (.bl _)⟩
  · cases h
theorem ok_gt : ROK K (rOrd (fun i j => decide (j < i)) fun a b => decide (b.cps.toList < a.cps.toList)) gtD := by
  intro pn A e σ G R H x y dx dy val g rx ry h Q f
  unfold gtD at h
  split at h
  · cases h; cases rx; cases ry; exact .inl ⟨_, _, rfl, rfl, f.sc g (.bl _)⟩
  · cases h; cases rx; cases ry; exact .inr ⟨_, _, rfl, rfl, f.sc g (.bl _)⟩
  · cases h
theorem ok_ge : ROK K (rOrd (fun i j => decide (j ≤ i)) fun a b => !decide (a.cps.toList < b.cps.toList)) geD := by
  intro pn A e σ G R H x y dx dy val g rx ry h Q f
  unfold geD at h
  split at h
  · cases h; cases rx; cases ry; exact .inl ⟨_, _, rfl, rfl, f.sc g (.bl _)⟩
  · cases h; cases rx; cases ry; exact .inr ⟨_, _, rfl, rfl, f.sc g (.bl _)⟩
  · cases h
theorem flat_of {H : Hp} {d : D} {v w : V} (h : flatD d = some w) (r : Rep K H v d) : v = w ∧ flatV v = true := by
  cases r <;> first
    | (cases h; exact ⟨rfl, rfl⟩)
    | cases h
theorem flatL_of {H : Hp} : ∀ {ds : List D} {vs ws : List V}, flatL ds = some ws → RepL K H vs ds → vs = ws ∧ vs.all flatV = true
  | _, _, _, h, .nil => by cases h; exact ⟨rfl, rfl⟩
  | d :: ds, v :: vs, ws, h, .cons a b => by
    unfold flatL at h
    split at h
    · rename_i w ws' h1 h2
      cases h
      obtain ⟨e1, f1⟩ := flat_of h1 a
      obtain ⟨e2, f2⟩ := flatL_of h2 b
      exact ⟨by rw [e1, e2], by rw [List.all_cons, f1, f2]; rfl⟩
    · cases h
def rInL (K : PySem.W.Frag) (neg : Bool) : R2 := fun x y H Q => ∃ d ds, Dp K H x d ∧ (Dp K H y (.list ds) ∧ SeqAt.shaped (.list ds) = true ∨ Dp K H y (.tuple ds) ∧ SeqAt.shaped (.tuple ds) = true) ∧ SeqAt.shaped d = true ∧ Q (.bl (if neg then !ds.any fun z => PyData.eqv z d else ds.any fun z => PyData.eqv z d)) H
theorem op_inL {X : Cx} (hu : X.A.units + 65 < cLine) : OpR X (compareOp .In) (rInL X.K false) := by
  intro pins s σ H x y v u Q I rx ry h
  obtain ⟨d, ds, hd, he, sd, q⟩ := h
  obtain ⟨as, r1⟩ := Dp.reads I d x v hd rx
  rcases he with ⟨he, se⟩ | ⟨he, se⟩
  · obtain ⟨bs, r2⟩ := Dp.reads I (.list ds) y u he ry
    exact SeqAt.in_list_reads r2 r1 (SeqAt.canLay_of_shaped se) (SeqAt.canLay_of_shaped sd) (PyProof.Rows.room_in_shaped sd hu) ⟨.bl _, H, I, rfl, q⟩
  · obtain ⟨bs, r2⟩ := Dp.reads I (.tuple ds) y u he ry
    exact SeqAt.in_tuple_reads r2 r1 (SeqAt.canLay_of_shaped se) (SeqAt.canLay_of_shaped sd) (PyProof.Rows.room_in_shaped sd hu) ⟨.bl _, H, I, rfl, q⟩
theorem op_ninL {X : Cx} (hu : X.A.units + 65 < cLine) : OpR X (compareOp .NotIn) (rInL X.K true) := by
  intro pins s σ H x y v u Q I rx ry h
  obtain ⟨d, ds, hd, he, sd, q⟩ := h
  obtain ⟨as, r1⟩ := Dp.reads I d x v hd rx
  rcases he with ⟨he, se⟩ | ⟨he, se⟩
  · obtain ⟨bs, r2⟩ := Dp.reads I (.list ds) y u he ry
    exact SeqAt.notIn_list_reads r2 r1 (SeqAt.canLay_of_shaped se) (SeqAt.canLay_of_shaped sd) (PyProof.Rows.room_in_shaped sd hu) ⟨.bl _, H, I, rfl, q⟩
  · obtain ⟨bs, r2⟩ := Dp.reads I (.tuple ds) y u he ry
    exact SeqAt.notIn_tuple_reads r2 r1 (SeqAt.canLay_of_shaped se) (SeqAt.canLay_of_shaped sd) (PyProof.Rows.room_in_shaped sd hu) ⟨.bl _, H, I, rfl, q⟩
def rInA (K : PySem.W.Frag) (neg : Bool) : R2 := fun x y H Q => (∃ (c : Nat) (z : Str), x = .str ⟨#[c]⟩ ∧ y = .str z ∧ Q (.bl (if neg then !decide (c ∈ z.cps.toList) else decide (c ∈ z.cps.toList))) H) ∨ rIn K neg x y H Q ∨ rInL K neg x y H Q
theorem op_inA {X : Cx} (hu : X.A.units + 65 < cLine) : OpR X (compareOp .In) (rInA X.K false) := op_in_sign.or (op_in_seq.or (op_inL hu))
theorem op_ninA {X : Cx} (hu : X.A.units + 65 < cLine) : OpR X (compareOp .NotIn) (rInA X.K true) := op_notIn_sign.or (op_notIn_seq.or (op_ninL hu))
theorem ok_inDp {neg : Bool} {pn : Pn} {A : LA} {e : En} {σ : L2.St} {G R H : Hp} {x y : V} {dx dy : D} {val : Val} (g : RelG K pn A e σ G R H) (rx : RdV K G H x dx) (ry : RdV K G H y dy) (h : inDp neg dx dy = some val) (hc : (∃ l, dy = .lst l) ∨ ∃ l, dy = .tup l) {Q : VK} (f : FinV K (rvE K) pn e σ G R val Q) : rInL K neg x y H Q := by
  unfold inDp at h
  split at h
  · rename_i c
    cases h
    rw [Bool.and_eq_true] at c
    obtain ⟨c1, c2⟩ := c
    unfold eqOk at c1 c2
    rw [Bool.and_eq_true] at c1 c2
    have d1 := Rep.dp c1.1 c1.2 (rx.rep g.gh)
    have d2 := Rep.dp c2.1 c2.2 (ry.rep g.gh)
    rcases hc with ⟨l, rfl⟩ | ⟨l, rfl⟩
    · exact ⟨_, pyL l, d1, .inl ⟨d2, c2.2⟩, c1.2, f.sc g (.bl _)⟩
    · exact ⟨_, pyL l, d1, .inr ⟨d2, c2.2⟩, c1.2, f.sc g (.bl _)⟩
  · cases h
theorem str1 {a : Str} {c : Nat} (h : a.cps.toList = [c]) : a = ⟨#[c]⟩ := by
  cases a with
  | mk l =>
    cases l with
    | mk l =>
      simp at h
      subst h
      rfl
theorem ok_in (neg : Bool) : ROK K (rInA K neg) (inD neg) := by
  intro pn A e σ G R H x y dx dy val g rx ry h Q f
  unfold inD at h
  split at h
  · split at h
    · rename_i a z l c hc
      cases h
      cases rx
      cases ry
      exact .inl ⟨c, z, by rw [str1 hc], rfl, f.sc g (.bl _)⟩
    · cases h
  · split at h
    · rename_i w ws h1 h2
      cases h
      have ry' : Rep K G y (.tup _) := ry
      cases ry' with
      | @tup q ys _ sq rb =>
        obtain ⟨e2, f2⟩ := flatL_of h2 rb
        obtain ⟨e1, f1⟩ := flat_of h1 (rx.rep g.gh)
        subst e1 e2
        exact .inr (.inl ⟨q, _, rfl, .inr (SqT.of (g.gh _ _ sq)), f1, f2, f.sc g (.bl _)⟩)
    · exact .inr (.inr (ok_inDp g rx ry h (.inr ⟨_, rfl⟩) f))
  · split at h
    · rename_i w ws h1 h2
      cases h
      obtain ⟨p, xs, rfl, hp, rb⟩ := ry
      obtain ⟨e2, f2⟩ := flatL_of h2 rb
      obtain ⟨e1, f1⟩ := flat_of h1 (rx.rep g.gh)
      subst e1 e2
      exact .inr (.inl ⟨p, _, rfl, .inl (SqL.of hp), f1, f2, f.sc g (.bl _)⟩)
    · exact .inr (.inr (ok_inDp g rx ry h (.inl ⟨_, rfl⟩) f))
  · cases h
def rIsA (neg : Bool) : R2 := fun x y H Q => y = .non ∧ Q (.bl (if neg then !decide (x = .non) else decide (x = .non))) H
theorem op_isA {X : Cx} : OpR X (compareOp .Is) (rIsA false) := op_isN
theorem op_nisA {X : Cx} : OpR X (compareOp .IsNot) (rIsA true) := op_notN
theorem ok_is (neg : Bool) : ROK K (rIsA neg) (isND neg) := by
  intro pn A e σ G R H x y dx dy val g rx ry h Q f
  unfold isND at h
  split at h
  · cases h
    cases ry
    refine ⟨rfl, ?_⟩
    have z : Rep K H x dx := rx.rep g.gh
    cases z <;> (cases neg <;> exact f.sc g (.bl _))
  · cases h
end
end Qv
namespace Qv
open PySem L2
open Evl (Ex)

/-! ### constants, names -/
def conC (d : D) : M Val := ret (.sh d)
def nameC (i : Nat) : M Val := fun e => match e[i]? with
  | some (.sh d) => .ok (.sh d, e)
  | some (.ow _ _) => .ok (.ow i, e)
  | some (.nt _ _) => .ok (.np i [], e)
  | _ => .err
section
variable {X : Cx} {W : WX} {pos : Pos}
theorem t_con {K : PySem.W.Frag} {d : D} {v : V} (h : ∀ G, Rep K G v d) {σ : L2.St} {H : Hp} {Q : VK} (q : tEv K W (conC d) σ H Q) : tC v σ H Q := by
  obtain ⟨pn, A, e, G, R, g, oc⟩ := q
  exact (oc_ret oc).sc g (h G)
theorem se_int {i : Int} {j : Nat} : PE X (.Constant (.int i) j pos) (tEv X.K W (conC (.int i))) := PE_mono pe_int fun _ _ _ q => t_con (fun _ => .int i) q
theorem se_bl {b : Bool} {j : Nat} : PE X (.Constant (.bool b) j pos) (tEv X.K W (conC (.bl b))) := PE_mono pe_bl fun _ _ _ q => t_con (fun _ => .bl b) q
theorem se_non {j : Nat} : PE X (.Constant .none j pos) (tEv X.K W (conC .non)) := PE_mono pe_non fun _ _ _ q => t_con (fun _ => .non) q
theorem se_str {x : Str} {j : Nat} : PE X (.Constant (.str x) j pos) (tEv X.K W (conC (.str x))) := PE_mono pe_str fun _ _ _ q => t_con (fun _ => .str x) q
theorem se_glob {x : Str} {d : D} {u : Value} {v : V} (hg : Gl X x) (hm : X.mg x = some u) (r : RelV v u) (h : ∀ G, Rep X.K G v d) (hd : (x == ("__debug__" : Str)) = false) : PE X (.Name x pos) (tEv X.K W (conC d)) :=
  PE_mono (pe_glob hg hm r hd) fun _ _ _ q => t_con h q
theorem se_name {i : Nat} {x : Str} (hN : X.N[i]? = some x) (hv : Vis X.env.scope x) (hd : (x == ("__debug__" : Str)) = false) (hcd : (x == ("__classdict__" : Str)) = false) : PE X (.Name x pos) (tEv X.K W (nameC i)) :=
  PE_mono (pe_var hN hv hd hcd) fun σ H Q q => by
    obtain ⟨pn, A, e, G, R, g, oc⟩ := q
    unfold nameC at oc
    cases h : e[i]? with
    | none => simp only [h] at oc; exact oc.elim
    | some s =>
      have z := g.sl i s h
      simp only [h] at oc
      cases s with
      | em => exact oc.elim
      | sh d =>
        obtain ⟨v, h1, h2⟩ := z
        exact ⟨v, h1, (oc_ret oc).sc g h2⟩
      | ow b d =>
        obtain ⟨p, h1, _⟩ := z
        have f : FinV X.K (rvE X.K) pn e σ G R (.ow i) Q := oc
        exact ⟨_, h1, f _ A G H (Ex.refl G) g ⟨h1, b, d, h⟩⟩
      | nt b d =>
        obtain ⟨p, h1, h2, _⟩ := g.tree (.inr h)
        have f : FinV X.K (rvE X.K) pn e σ G R (.np i []) Q := oc
        exact ⟨_, h1, f _ A G H (Ex.refl G) g ⟨b, d, d, p, h, rfl, rfl, h2⟩⟩
end

/-! ### truth, not, and, or -/
def truC (f : M Val) : M Bool := bnd f fun v => bnd (der v) fun d => opt (truD d)
theorem truV {K : PySem.W.Frag} {G H : Hp} {v : V} {d : D} {k : Bool} (x : Ex G H) (r : RdV K G H v d) (h : truD d = some k) : TruV K v H k := by
  unfold truD at h
  split at h
  · cases h; cases r; rfl
  · cases h; cases r; rfl
  · cases h; cases r; rfl
  · split at h
    · cases h; cases r; exact ⟨by rw [← lim_eq]; assumption, rfl⟩
    · cases h
  · cases h
    have r' : Rep K G v (.tup _) := r
    cases r' with
    | tup hp ra =>
      refine .inr (.inl ⟨_, SqT.of (x _ _ hp), ?_⟩)
      cases ra <;> rfl
  · cases h
    obtain ⟨p, xs, rfl, hp, ra⟩ := r
    refine .inl ⟨_, SqL.of hp, ?_⟩
    cases ra <;> rfl
  · cases h
section
variable {K : PySem.W.Frag} {W : WX}
theorem tru_fin {f : M Val} {σ : L2.St} {H : Hp} {Q : Bool → Hp → Prop} (h : tTv K W (truC f) σ H Q) : tEv K W f σ H fun x H1 => ∃ k, TruV K x H1 k ∧ Q k H1 := by
  obtain ⟨pn, A, e, G, R, g, oc⟩ := h
  refine chain g oc fun x v A1 e1 G1 H1 x1 g1 r1 oc1 => ?_
  obtain ⟨d, rd, oc2⟩ := oc_der g1 r1 oc1
  obtain ⟨b, q3, fin⟩ := oc_optE oc2
  exact ⟨b, truV g1.gh rd q3, fin b A1 G1 H1 (Ex.refl _) g1 rfl⟩
end
section
variable {X : Cx} {W : WX}
theorem st_tru {a : Expr} {f : M Val} (ha : PE X a (tEv X.K W f)) (he : ∀ whole, isTrue a X.env whole = (do let v ← whole; standAt a.pos; holding [v] (truthy v))) : PT X a (tTv X.K W (truC f)) :=
  PT_mono (pt_truth ha he) fun _ _ _ h => tru_fin h
def notC (f : M Bool) : M Val := bnd f fun b => ret (.sh (.bl (!b)))
theorem se_not {a : Expr} {f : M Val} {pos : Pos} (ha : PE X a (tEv X.K W f)) : PE X (.UnaryOp .Not a pos) (tEv X.K W (notC (truC f))) :=
  PE_mono (pe_notT ha) fun σ H Q h => by
    obtain ⟨pn, A, e, G, R, g, oc⟩ := h
    have z : tTv X.K W (truC f) σ H fun k H1 => Q (.bl (!k)) H1 := chain g oc fun b b' A1 e1 G1 H1 x1 g1 r1 oc1 => by subst r1; exact (oc_ret oc1).sc g1 (.bl _)
    exact tru_fin z
def notT (f : M Bool) : M Bool := bnd f fun b => ret (!b)
theorem st_not {a : Expr} {f : M Bool} {pos : Pos} (ha : PT X a (tTv X.K W f)) : PT X (.UnaryOp .Not a pos) (tTv X.K W (notT f)) :=
  PT_mono (pt_not ha) fun σ H Q h => by
    obtain ⟨pn, A, e, G, R, g, oc⟩ := h
    exact chain g oc fun b b' A1 e1 G1 H1 x1 g1 r1 oc1 => by subst r1; exact (oc_ret oc1) _ A1 G1 H1 (Ex.refl _) g1 rfl
/-- and, or as tests (w: the answer that ends it) -/
def bopT (w : Bool) : List (M Bool) → M Bool
  | [] => fail
  | [a] => a
  | a :: b :: r => bnd a fun c => if c = w then ret w else bopT w (b :: r)
theorem st_bop {pos : Pos} (op : BoolOp) : ∀ (es : List Expr) (fs : List (M Bool)), Paired (fun a f => PT X a (tTv X.K W f)) es fs → PW X (.BoolOp op es pos) (tTv X.K W (bopT (op == .Or) fs))
  | _, _, .nil => ⟨fun wh pins s σ H Q I h => by obtain ⟨_, _, _, _, _, _, oc⟩ := h; exact oc.elim⟩
  | [a], [f], .cons h .nil => by
    cases op
    · exact pw_and1 h
    · exact pw_or1 h
  | a :: b :: es, f :: f2 :: fs, .cons h (.cons h2 hr) => by
    have ih := st_bop (pos := pos) op (b :: es) (f2 :: fs) (.cons h2 hr)
    cases op
    · refine PW_mono (pw_and h ih) fun σ H Q q => ?_
      obtain ⟨pn, A, e, G, R, g, oc⟩ := q
      refine chain g oc fun c c' A1 e1 G1 H1 x1 g1 r1 oc1 => ?_
      subst r1
      cases c with
      | true =>
        rw [if_pos rfl]
        exact last g1 oc1
      | false =>
        rw [if_neg Bool.false_ne_true]
        exact (oc_ret (a := false) oc1) _ A1 G1 H1 (Ex.refl _) g1 rfl
    · refine PW_mono (pw_or h ih) fun σ H Q q => ?_
      obtain ⟨pn, A, e, G, R, g, oc⟩ := q
      refine chain g oc fun c c' A1 e1 G1 H1 x1 g1 r1 oc1 => ?_
      subst r1
      cases c with
      | true =>
        rw [if_pos rfl]
        exact (oc_ret (a := true) oc1) _ A1 G1 H1 (Ex.refl _) g1 rfl
      | false =>
        rw [if_neg Bool.false_ne_true]
        exact last g1 oc1
/-- .. as values -/
def bopC (w : Bool) : List (M Val) → M Val
  | [] => fail
  | [a] => a
  | a :: b :: r => bnd a fun v => bnd (der v) fun d => bnd (opt (truD d)) fun c => if c = w then ret v else bopC w (b :: r)
theorem se_bop {pos : Pos} (op : BoolOp) : ∀ (es : List Expr) (fs : List (M Val)), Paired (fun a f => PE X a (tEv X.K W f)) es fs → PE X (.BoolOp op es pos) (tEv X.K W (bopC (op == .Or) fs))
  | _, _, .nil => ⟨fun pins s σ H Q I h => by obtain ⟨_, _, _, _, _, _, oc⟩ := h; exact oc.elim⟩
  | [a], [f], .cons h .nil => pe_one h
  | a :: b :: es, f :: f2 :: fs, .cons h (.cons h2 hr) => by
    have ih := se_bop (pos := pos) op (b :: es) (f2 :: fs) (.cons h2 hr)
    cases op
    · refine PE_mono (pe_andT h ih) fun σ H Q q => ?_
      obtain ⟨pn, A, e, G, R, g, oc⟩ := q
      refine chain g oc fun x v A1 e1 G1 H1 x1 g1 r1 oc1 => ?_
      obtain ⟨d, rd, oc2⟩ := oc_der g1 r1 oc1
      obtain ⟨c, q4, oc3⟩ := oc_opt oc2
      refine ⟨c, truV g1.gh rd q4, ?_⟩
      cases c with
      | true =>
        rw [if_pos rfl]
        exact last g1 oc3
      | false =>
        rw [if_neg Bool.false_ne_true]
        exact (oc_ret (a := v) oc3) _ A1 G1 H1 (Ex.refl _) g1 r1
    · refine PE_mono (pe_orT h ih) fun σ H Q q => ?_
      obtain ⟨pn, A, e, G, R, g, oc⟩ := q
      refine chain g oc fun x v A1 e1 G1 H1 x1 g1 r1 oc1 => ?_
      obtain ⟨d, rd, oc2⟩ := oc_der g1 r1 oc1
      obtain ⟨c, q4, oc3⟩ := oc_opt oc2
      refine ⟨c, truV g1.gh rd q4, ?_⟩
      cases c with
      | true =>
        rw [if_pos rfl]
        exact (oc_ret (a := v) oc3) _ A1 G1 H1 (Ex.refl _) g1 r1
      | false =>
        rw [if_neg Bool.false_ne_true]
        exact last g1 oc3
/-- a if t else b -/
def ifC (t : M Bool) (a b : M Val) : M Val := bnd t fun c => if c = true then a else b
theorem se_if {c a b : Expr} {pos : Pos} {t : M Bool} {fa fb : M Val} (hc : PT X c (tTv X.K W t)) (ha : PE X a (tEv X.K W fa)) (hb : PE X b (tEv X.K W fb)) : PE X (.IfExp c a b pos) (tEv X.K W (ifC t fa fb)) :=
  PE_mono (pe_ifExp hc ha hb) fun σ H Q q => by
    obtain ⟨pn, A, e, G, R, g, oc⟩ := q
    refine chain g oc fun c c' A1 e1 G1 H1 x1 g1 r1 oc1 => ?_
    subst r1
    cases c with
    | true => rw [if_pos rfl] at oc1 ⊢; exact last g1 oc1
    | false => rw [if_neg Bool.false_ne_true] at oc1 ⊢; exact last g1 oc1
end
/-! ### comparisons as tests, chains -/
def asBl : Val → M Bool
  | .sh (.bl b) => ret b
  | _ => fail
def cmpT (f : M Val) : M Bool := bnd f asBl
section
variable {K : PySem.W.Frag} {W : WX}
theorem asBl_fin {β : Type} {rv' : Rv β Bool} {pn : Pn} {A : LA} {e : En} {σ : L2.St} {G R H : Hp} {Q : β → Hp → Prop} {x : V} {v : Val} (r : RepVal K A G R H e σ x v) (oc : OcV K W rv' pn σ R Q G (asBl v e)) : ∃ b, x = .bl b ∧ v = .sh (.bl b) ∧ FinV K rv' pn e σ G R b Q := by
  unfold asBl at oc
  split at oc
  · rename_i b
    have r1' : Rep K G x (.bl b) := r
    cases r1'
    exact ⟨b, rfl, rfl, oc_ret oc⟩
  · exact oc.elim
theorem oc_asBl {γ δ : Type} {rv' : Rv δ γ} {pn : Pn} {e : En} {σ : L2.St} {G R : Hp} {Q' : δ → Hp → Prop} {v : Val} {k : Bool → M γ} (oc : OcV K W rv' pn σ R Q' G (bnd (asBl v) k e)) : ∃ b, v = .sh (.bl b) ∧ OcV K W rv' pn σ R Q' G (k b e) := by
  cases v with
  | sh d =>
    cases d with
    | bl b => exact ⟨b, rfl, oc⟩
    | _ => exact False.elim oc
  | _ => exact False.elim oc
theorem cmp_fin {f : M Val} {σ : L2.St} {H : Hp} {Q : Bool → Hp → Prop} (h : tTv K W (cmpT f) σ H Q) : tEv K W f σ H fun x H1 => ∃ k, x = .bl k ∧ Q k H1 := by
  obtain ⟨pn, A, e, G, R, g, oc⟩ := h
  refine chain g oc fun x v A1 e1 G1 H1 x1 g1 r1 oc1 => ?_
  obtain ⟨b, rfl, _, fin⟩ := asBl_fin r1 oc1
  exact ⟨b, rfl, fin b A1 G1 H1 (Ex.refl _) g1 rfl⟩
theorem st_cmp {X : Cx} {op : CmpOp} {a b : Expr} {pos : Pos} {r : R2} {g : D → D → Option Val} {fa fb : M Val} (ho : OpR X (compareOp op) r) (hr : ROK X.K r g) (ha : PE X a (tEv X.K W fa)) (hb : PE X b (tEv X.K W fb)) (hm : behindInMarks op b = false) :
    PT X (.Compare a [op] [b] pos) (tTv X.K W (cmpT (binC g fa fb))) := PT_mono (pt_cmpR ho ha hb hm) fun _ _ _ h => tbin hr (cmp_fin h)
/-- a op b op' c -/
def chnC (g g' : D → D → Option Val) (fa fb fc : M Val) : M Val :=
  bnd fa fun va => bnd (pend va) fun va => bnd fb fun vb => bnd (pend vb) fun vb => bnd (der va) fun da => bnd (der vb) fun db => bnd (opt (g da db)) fun z => bnd (asBl z) fun k =>
    if k = true then bnd fc fun vc => bnd (der vb) fun db' => bnd (der vc) fun dc => opt (g' db' dc) else ret (.sh (.bl false))
theorem tchn {r r' : R2} {g g' : D → D → Option Val} {fa fb fc : M Val} (hr : ROK K r g) (hr' : ROK K r' g') {σ : L2.St} {H : Hp} {Q : VK} (h : tEv K W (chnC g g' fa fb fc) σ H Q) :
    tChain r r' (tEv K W fa) (tEv K W fb) (tEv K W fc) σ H Q := by
  obtain ⟨pn, A, e, G, R, g0, oc⟩ := h
  refine chain g0 oc fun x va A1 e1 G1 H1 x1 g1 r1 oc1 => ?_
  obtain ⟨wa, G2, x2, g2, r2, oc2⟩ := oc_pend g1 r1 oc1
  refine chain g2 oc2 fun y vb A3 e3 G3 H3 x3 g3 r3 oc3 => ?_
  obtain ⟨wb, G4, x4, g4, r4, oc4⟩ := oc_pend g3 r3 oc3
  obtain ⟨da, d1, oc5⟩ := oc_derP g4 (r2.mono (x3.trans x4)) oc4
  obtain ⟨db, d2, oc6⟩ := oc_derP g4 r4 oc5
  obtain ⟨z, q5, oc7⟩ := oc_opt oc6
  refine hr pn A3 e3 σ G4 R H3 x y da db z g4 d1 d2 q5 _ fun zv A5 G5 H5 x5 g5 r5 => ?_
  obtain ⟨b, rfl, oc8⟩ := oc_asBl oc7
  have r5' : Rep K G5 zv (.bl b) := r5
  cases r5'
  refine ⟨_, rfl, ?_⟩
  cases b with
  | false =>
    rw [if_neg Bool.false_ne_true] at oc8 ⊢
    exact ((oc_ret oc8).ext x5).sc g5 (.bl _)
  | true =>
    rw [if_pos rfl] at oc8 ⊢
    refine chain g5 (oc8.ext x5) fun w vc A6 e6 G6 H6 x6 g6 r6 oc9 => ?_
    obtain ⟨db', d3, oc10⟩ := oc_derP g6 (r4.mono (x5.trans x6)) oc9
    obtain ⟨dc, d4, oc11⟩ := oc_der g6 r6 oc10
    obtain ⟨val, q10, fin⟩ := oc_optE oc11
    exact hr' pn A6 e6 σ G6 R H6 y w db' dc val g6 d3 d4 q10 Q fin
end
section
variable {X : Cx} {W : WX} {pos : Pos} {a b c : Expr} {fa fb fc : M Val}
def asInt : D → M Int
  | .int i => ret i
  | _ => fail
theorem oc_int {γ δ : Type} {K : PySem.W.Frag} {rv' : Rv δ γ} {pn : Pn} {e : En} {σ : L2.St} {G R H : Hp} {Q' : δ → Hp → Prop} {d : D} {x : V} {k : Int → M γ} (r : RdV K G H x d) (oc : OcV K W rv' pn σ R Q' G (bnd (asInt d) k e)) : ∃ i, x = .int i ∧ d = .int i ∧ OcV K W rv' pn σ R Q' G (k i e) := by
  cases d with
  | int i => cases r; exact ⟨i, rfl, rfl, oc⟩
  | _ => exact False.elim oc
def negC (f : M Val) : M Val := bnd f fun v => bnd (der v) fun d => bnd (asInt d) fun i => ret (.sh (.int (-i)))
theorem se_neg (ha : PE X a (tEv X.K W fa)) : PE X (.UnaryOp .USub a pos) (tEv X.K W (negC fa)) := PE_mono (pe_un un_neg ha) fun σ H Q q => by
  obtain ⟨pn, A, e, G, R, g, oc⟩ := q
  refine chain g oc fun x v A1 e1 G1 H1 x1 g1 r1 oc1 => ?_
  obtain ⟨d, rd, oc2⟩ := oc_der g1 r1 oc1
  obtain ⟨i, rfl, _, oc3⟩ := oc_int rd oc2
  exact ⟨i, rfl, (oc_ret oc3).sc g1 (.int _)⟩
theorem se_chn {op op' : CmpOp} {r r' : R2} {g g' : D → D → Option Val} (ho : OpR X (compareOp op) r) (ho' : OpR X (compareOp op') r') (hr : ROK X.K r g) (hr' : ROK X.K r' g') (ha : PE X a (tEv X.K W fa)) (hb : PE X b (tEv X.K W fb)) (hc : PE X c (tEv X.K W fc))
    (hm : lastMarks [op, op'] [b, c] = false) : PE X (.Compare a [op, op'] [b, c] pos) (tEv X.K W (chnC g g' fa fb fc)) := PE_mono (pe_chain ho ho' ha hb hc hm) fun _ _ _ h => tchn hr hr' h
theorem st_chn {op op' : CmpOp} {r r' : R2} {g g' : D → D → Option Val} (ho : OpR X (compareOp op) r) (ho' : OpR X (compareOp op') r') (hr : ROK X.K r g) (hr' : ROK X.K r' g') (ha : PE X a (tEv X.K W fa)) (hb : PE X b (tEv X.K W fb)) (hc : PE X c (tEv X.K W fc))
    (hm : lastMarks [op, op'] [b, c] = false) : PT X (.Compare a [op, op'] [b, c] pos) (tTv X.K W (cmpT (chnC g g' fa fb fc))) := PT_mono (pt_chain ho ho' ha hb hc hm) fun _ _ _ h => tchn hr hr' (cmp_fin h)
end
end Qv
namespace Qv
open PySem L2
open Evl (Ex)

/-! ### argument lists -/
def argsN : List (M Val) → M (List Val)
  | [] => ret []
  | f :: r => bnd f fun v => bnd (pend v) fun w => bnd (argsN r) fun vs => ret (w :: vs)
/-- one alone need not wait -/
def argsC : List (M Val) → M (List Val)
  | [f] => bnd f fun v => ret [opd v]
  | fs => argsN fs
abbrev PnVs (K : PySem.W.Frag) (G : Hp) (σ : L2.St) : List V → List Val → Prop := Paired (PnV K G σ)
theorem PnVs.mono {K : PySem.W.Frag} {G G' : Hp} {σ : L2.St} (x : Ex G G') : ∀ {vs : List V} {vals : List Val}, PnVs K G σ vs vals → PnVs K G' σ vs vals
  | _, _, .nil => .nil
  | _, _, .cons h r => .cons (PnV.mono x h) (PnVs.mono x r)
def PnA (K : PySem.W.Frag) (A : LA) (G R H : Hp) (e : En) (σ : L2.St) (vs : List V) (vals : List Val) : Prop := PnVs K G σ vs vals ∨ ∃ v val, vs = [v] ∧ vals = [val] ∧ RepVal K A G R H e σ v val
abbrev rvN (K : PySem.W.Frag) : Rv (List V) (List Val) := fun _ G _ _ _ σ vs vals => PnVs K G σ vs vals
abbrev rvA (K : PySem.W.Frag) : Rv (List V) (List Val) := fun A G R H e σ vs vals => PnA K A G R H e σ vs vals
abbrev tNv (K : PySem.W.Frag) (W : WX) (f : M (List Val)) : TA := tG K W (rvN K) f
abbrev tAv (K : PySem.W.Frag) (W : WX) (f : M (List Val)) : TA := tG K W (rvA K) f
def notStar : Expr → Bool
  | .Starred _ _ => false
  | _ => true
theorem star_cons {e : Expr} {es : List Expr} {env : Env} (h : notStar e = true) : starEach (e :: es) env = (false, eval e env) :: starEach es env := by
  cases e <;> first | rfl | cases h
theorem star_plain {env : Env} {pos : Pos} : ∀ {es : List Expr}, es.all notStar = true → (backTo pos (starEach es env)).any (·.1) = false
  | [], _ => rfl
  | e :: es, h => by
    rw [List.all_cons, Bool.and_eq_true] at h
    rw [star_cons h.1]
    show (false || (backTo pos (starEach es env)).any (·.1)) = false
    rw [star_plain h.2]
    rfl
section
variable {X : Cx} {W : WX}
theorem sa_argsN : ∀ (es : List Expr) (fs : List (M Val)), es.all notStar = true → Paired (fun a f => PE X a (tEv X.K W f)) es fs → PA X es (tNv X.K W (argsN fs))
  | _, _, _, .nil => PA_mono pa_nil fun σ H Q h => by
    obtain ⟨pn, A, e, G, R, g, oc⟩ := h
    exact (oc_ret (rv := rvN X.K) oc) [] A G H (Ex.refl G) g .nil
  | a :: es, f :: fs, hn, .cons h hr => by
    rw [List.all_cons, Bool.and_eq_true] at hn
    refine PA_mono (pa_cons h (sa_argsN es fs hn.2 hr) (star_cons hn.1)) fun σ H Q q => ?_
    obtain ⟨pn, A, e, G, R, g, oc⟩ := q
    refine chain g oc fun x v A1 e1 G1 H1 x1 g1 r1 oc1 => ?_
    obtain ⟨w, G2, x2, g2, r2, oc2⟩ := oc_pend g1 r1 oc1
    refine chain g2 oc2 fun ws vs A3 e3 G3 H3 x3 g3 r3 oc3 => ?_
    exact (oc_ret (rv := rvN X.K) oc3) (x :: ws) A3 G3 H3 (Ex.refl _) g3 (.cons (r2.mono x3) r3)
theorem tNA {K : PySem.W.Frag} {f : M (List Val)} {σ : L2.St} {H : Hp} {Q : List V → Hp → Prop} (h : tAv K W f σ H Q) : tNv K W f σ H Q := by
  obtain ⟨pn, A, e, G, R, g, oc⟩ := h
  refine ⟨pn, A, e, G, R, g, ?_⟩
  unfold OcV at *
  cases q : f e with
  | ok p => rw [q] at oc; exact fun b A' G' H' x g' r => oc b A' G' H' x g' (.inl r)
  | ex x e' => rw [q] at oc; exact oc
  | err => rw [q] at oc; exact oc
theorem sa_args (es : List Expr) (fs : List (M Val)) (hn : es.all notStar = true) (h : Paired (fun a f => PE X a (tEv X.K W f)) es fs) : PA X es (tAv X.K W (argsC fs)) := by
  cases h with
  | nil => exact PA_mono (sa_argsN [] [] rfl .nil) fun σ H Q q => tNA q
  | @cons a f es fs h hr =>
    cases hr with
    | nil =>
      rw [List.all_cons, Bool.and_eq_true] at hn
      refine PA_mono (pa_cons h pa_nil (star_cons hn.1)) fun σ H Q q => ?_
      obtain ⟨pn, A, e, G, R, g, oc⟩ := q
      refine chain g oc fun x v A1 e1 G1 H1 x1 g1 r1 oc1 => ?_
      show Q [x] H1
      have f1 : FinV X.K (rvA X.K) pn e1 σ G1 R [opd v] Q := oc1
      cases v with
      | fr d => obtain ⟨G2, x2, g2, r2⟩ := g1.share r1; exact f1 [x] A1 G2 H1 x2 g2 (.inr ⟨_, _, rfl, rfl, r2⟩)
      | sh d => exact f1 [x] A1 G1 H1 (Ex.refl _) g1 (.inr ⟨_, _, rfl, rfl, r1⟩)
      | ow d => exact f1 [x] A1 G1 H1 (Ex.refl _) g1 (.inr ⟨_, _, rfl, rfl, r1⟩)
      | fn d => exact f1 [x] A1 G1 H1 (Ex.refl _) g1 (.inr ⟨_, _, rfl, rfl, r1⟩)
      | np i d => exact f1 [x] A1 G1 H1 (Ex.refl _) g1 (.inr ⟨_, _, rfl, rfl, r1⟩)
    | cons h2 hr => exact PA_mono (sa_argsN _ _ hn (.cons h (.cons h2 hr))) fun σ H Q q => tNA q
end
/-- all are shared -/
def shrAll : List Val → M (List D)
  | [] => ret []
  | v :: r => bnd (shr v) fun d => bnd (shrAll r) fun ds => ret (d :: ds)
def derAll : List Val → M (List D)
  | [] => ret []
  | v :: r => bnd (der v) fun d => bnd (derAll r) fun ds => ret (d :: ds)
abbrev RdVs (K : PySem.W.Frag) (G H : Hp) : List V → List D → Prop := Paired (RdV K G H)
section
variable {γ δ : Type} {K : PySem.W.Frag} {W : WX} {rv' : Rv δ γ} {pn : Pn} {A : LA} {e e' : En} {σ : L2.St} {G G' R R' H H' : Hp} {Q' : δ → Hp → Prop}
theorem oc_assoc {α β : Type} {m : M α} {f : α → M β} {k : β → M γ} (oc : OcV K W rv' pn σ R Q' G (bnd (bnd m f) k e)) : OcV K W rv' pn σ R Q' G (bnd m (fun a => bnd (f a) k) e) := by
  unfold bnd at *
  cases h : m e with
  | ok p => rw [h] at oc; exact oc
  | ex x e' => rw [h] at oc; exact oc
  | err => rw [h] at oc; exact oc
theorem oc_shrN : ∀ {vals : List Val} {vs : List V} {A : LA} {e : En} {G : Hp} {k : List D → M γ}, RelG K pn A e σ G R H → PnVs K G σ vs vals → OcV K W rv' pn σ R Q' G (bnd (shrAll vals) k e) →
    ∃ ds A' e' G', Ex G G' ∧ RelG K pn A' e' σ G' R H ∧ RepL K G' vs ds ∧ OcV K W rv' pn σ R Q' G' (k ds e')
  | _, _, A, e, G, k, g, .nil, oc => ⟨[], A, e, G, Ex.refl G, g, .nil, oc⟩
  | _, _, A, e, G, k, g, .cons r rr, oc => by
    obtain ⟨d, A1, e1, G1, x1, g1, r1, oc1⟩ := oc_shrP g r (oc_assoc oc)
    obtain ⟨ds, A2, e2, G2, x2, g2, r2, oc2⟩ := oc_shrN g1 (PnVs.mono x1 rr) (oc_assoc oc1)
    exact ⟨d :: ds, A2, e2, G2, x1.trans x2, g2, .cons (r1.mono x2) r2, oc2⟩
theorem oc_shrA {vals : List Val} {vs : List V} {k : List D → M γ} (g : RelG K pn A e σ G R H) (r : PnA K A G R H e σ vs vals) (oc : OcV K W rv' pn σ R Q' G (bnd (shrAll vals) k e)) :
    ∃ ds A' e' G', Ex G G' ∧ RelG K pn A' e' σ G' R H ∧ RepL K G' vs ds ∧ OcV K W rv' pn σ R Q' G' (k ds e') := by
  rcases r with r | ⟨v, val, rfl, rfl, r⟩
  · exact oc_shrN g r oc
  · obtain ⟨d, A1, e1, G1, x1, g1, r1, oc1⟩ := oc_shr g r (oc_assoc oc)
    exact ⟨[d], A1, e1, G1, x1, g1, .cons r1 .nil, oc1⟩
theorem oc_derN : ∀ {vals : List Val} {vs : List V} {k : List D → M γ}, RelG K pn A e σ G R H → PnVs K G σ vs vals → OcV K W rv' pn σ R Q' G (bnd (derAll vals) k e) → ∃ ds, RdVs K G H vs ds ∧ OcV K W rv' pn σ R Q' G (k ds e)
  | _, _, k, g, .nil, oc => ⟨[], .nil, oc⟩
  | _, _, k, g, .cons r rr, oc => by
    obtain ⟨d, rd, oc1⟩ := oc_derP g r (oc_assoc oc)
    obtain ⟨ds, rds, oc2⟩ := oc_derN g rr (oc_assoc oc1)
    exact ⟨d :: ds, .cons rd rds, oc2⟩
theorem oc_derA {vals : List Val} {vs : List V} {k : List D → M γ} (g : RelG K pn A e σ G R H) (r : PnA K A G R H e σ vs vals) (oc : OcV K W rv' pn σ R Q' G (bnd (derAll vals) k e)) : ∃ ds, RdVs K G H vs ds ∧ OcV K W rv' pn σ R Q' G (k ds e) := by
  rcases r with r | ⟨v, val, rfl, rfl, r⟩
  · exact oc_derN g r oc
  · obtain ⟨d, rd, oc1⟩ := oc_der g r (oc_assoc oc)
    exact ⟨[d], .cons rd .nil, oc1⟩
theorem oc_if {α : Type} {rv : Rv δ α} {c : Prop} [Decidable c] {m : M α} (oc : OcV K W rv pn σ R Q' G ((if c then m else fail) e)) : c ∧ OcV K W rv pn σ R Q' G (m e) := by
  by_cases h : c
  · rw [if_pos h] at oc; exact ⟨h, oc⟩
  · rw [if_neg h] at oc; exact False.elim oc
end
def tupC (fs : List (M Val)) : M Val := bnd (argsC fs) fun vs => bnd (shrAll vs) fun ds => if ds.length ≤ lenLim then ret (.sh (.tup ds)) else fail
def lstC (fs : List (M Val)) : M Val := bnd (argsC fs) fun vs => bnd (shrAll vs) fun ds => if ds.length ≤ lenLim then ret (.fr (.lst ds)) else fail
section
variable {X : Cx} {W : WX} {pos : Pos}
theorem se_tup {k : Nat} {es : List Expr} {fs : List (M Val)} (hn : es.all notStar = true) (h : Paired (fun a f => PE X a (tEv X.K W f)) es fs) : PE X (.Tuple es k pos) (tEv X.K W (tupC fs)) :=
  PE_mono (pe_tup (sa_args es fs hn h)) fun σ H Q q => by
    obtain ⟨pn, A, e, G, R, g, oc⟩ := q
    refine chain g oc fun ws vs A1 e1 G1 H1 x1 g1 r1 oc1 => ?_
    obtain ⟨ds, A2, e2, G2, x2, g2, r2, oc2⟩ := oc_shrA g1 r1 oc1
    obtain ⟨hl, oc3⟩ := oc_if oc2
    exact ⟨by rw [r2.length, ← lim_eq]; exact hl, (oc_ret oc3).newT g2 r2⟩
theorem se_lst {es : List Expr} {fs : List (M Val)} (hn : es.all notStar = true) (h : Paired (fun a f => PE X a (tEv X.K W f)) es fs) : PE X (.List es pos) (tEv X.K W (lstC fs)) :=
  PE_mono (pe_lst (sa_args es fs hn h)) fun σ H Q q => by
    obtain ⟨pn, A, e, G, R, g, oc⟩ := q
    refine chain g oc fun ws vs A1 e1 G1 H1 x1 g1 r1 oc1 => ?_
    obtain ⟨ds, A2, e2, G2, x2, g2, r2, oc2⟩ := oc_shrA g1 r1 oc1
    obtain ⟨hl, oc3⟩ := oc_if oc2
    exact ⟨by rw [r2.length, ← lim_eq]; exact hl, (oc_ret oc3).newF g2 r2⟩
/-! ### subscripts -/
theorem atI_rep {K : PySem.W.Frag} {G : Hp} {vs : List V} {ds : List D} {i : Int} {d : D} (r : RepL K G vs ds) (h : atI ds i = some d) : ∃ v, atI vs i = some v ∧ Rep K G v d := by
  unfold atI at h ⊢
  rw [r.length]
  cases q : ixN ds.length i with
  | none => rw [q] at h; cases h
  | some j =>
    rw [q] at h
    exact r.get h
theorem ok_ix {K : PySem.W.Frag} : ROK K (rIx K) fun a b => (ixD a b).map Val.sh := by
  intro pn A e σ G R H x y dx dy val g rx ry h Q f
  have h0 : (ixD dx dy).map Val.sh = some val := h
  clear h
  obtain ⟨d, h, rfl⟩ := Option.map_eq_some_iff.mp h0
  clear h0
  unfold ixD at h
  split at h
  · cases ry
    obtain ⟨p, xs, rfl, hp, ra⟩ := rx
    obtain ⟨v, h1, h2⟩ := atI_rep ra h
    exact .inl ⟨p, xs, _, v, rfl, rfl, SqL.of hp, h1, f.sc g h2⟩
  · cases ry
    have rx' : Rep K G x (.tup _) := rx
    cases rx' with
    | tup hp ra =>
      obtain ⟨v, h1, h2⟩ := atI_rep ra h
      exact .inr (.inl ⟨_, _, _, v, rfl, rfl, SqT.of (g.gh _ _ hp), h1, f.sc g h2⟩)
  · cases ry
    have rx' : Rep K G x (.scr _) := rx
    cases rx' with
    | scr hp =>
      obtain ⟨n, h1, rfl⟩ := Option.map_eq_some_iff.mp h
      refine .inl ⟨_, _, _, .int n, rfl, rfl, Evl.ex_l g.gh hp, ?_, f.sc g (.int n)⟩
      unfold atI at h1 ⊢
      rw [List.length_map]
      cases q : ixN _ _ with
      | none => rw [q] at h1; cases h1
      | some j =>
        rw [q] at h1
        have h1' : (_ : List Int)[j]? = some n := h1
        simp [h1']
  · split at h
    · cases ry
      have rx' : Rep K G x (.str _) := rx
      cases rx'
      obtain ⟨c, h1, rfl⟩ := Option.map_eq_some_iff.mp h
      exact .inr (.inr ⟨_, _, c, rfl, rfl, by rw [← lim_eq]; assumption, h1, f.sc g (.str _)⟩)
    · cases h
  · cases h
def ixC (fa fb : M Val) : M Val := binC (fun a b => (ixD a b).map Val.sh) fa fb
def notSlice : Expr → Bool
  | .Slice .. => false
  | _ => true
theorem plainIx_of {b : Expr} (h : notSlice b = true) : PlainIx b := by
  intro o i
  cases b <;> first | rfl | cases h
theorem se_ix {a b : Expr} {fa fb : M Val} (ha : PE X a (tEv X.K W fa)) (hb : PE X b (tEv X.K W fb)) (hs : notSlice b = true) : PE X (.Subscript a b pos) (tEv X.K W (ixC fa fb)) :=
  PE_mono (pe_ix ix_seq ha hb (plainIx_of hs)) fun _ _ _ h => tbin ok_ix h
/-- a part of a slice: left out, or an int -/
def noC : M (Option Int) := ret none
def partC (f : M Val) : M (Option Int) := bnd f fun v => bnd (der v) fun d => bnd (asInt d) fun i => ret (some i)
abbrev tOv (K : PySem.W.Frag) (W : WX) (f : M (Option Int)) : TO := tG K W rvB f
theorem PO_mono {e : Option Expr} {t t' : TO} (h : PO X e t) (m : ∀ σ H Q, t' σ H Q → t σ H Q) : PO X e t' := ⟨fun pins s σ H Q I q => h.run pins s σ H Q I (m σ H Q q)⟩
theorem so_no : PO X none (tOv X.K W noC) := PO_mono po_none fun σ H Q q => by
  obtain ⟨pn, A, e, G, R, g, oc⟩ := q
  exact (oc_ret oc) none A G H (Ex.refl G) g rfl
theorem so_part {a : Expr} {f : M Val} (ha : PE X a (tEv X.K W f)) : PO X (some a) (tOv X.K W (partC f)) := PO_mono (po_some ha) fun σ H Q q => by
  obtain ⟨pn, A, e, G, R, g, oc⟩ := q
  refine chain g oc fun x v A1 e1 G1 H1 x1 g1 r1 oc1 => ?_
  obtain ⟨d, rd, oc2⟩ := oc_der g1 r1 oc1
  obtain ⟨i, rfl, _, oc3⟩ := oc_int rd oc2
  exact ⟨i, rfl, (oc_ret oc3) (some i) A1 G1 H1 (Ex.refl _) g1 rfl⟩
def sliC (fa : M Val) (lo hi : M (Option Int)) : M Val := bnd fa fun v => bnd (pend v) fun v => bnd lo fun l => bnd hi fun u => bnd (der v) fun d => opt (slD d l u)
def rSlA3 (K : PySem.W.Frag) : V → Option Int → Option Int → Hp → VK → Prop := fun x lo hi H Q => rSlL K x lo hi H Q ∨ rSlA K x lo hi H Q ∨ rSlS x lo hi H Q
theorem cut_rep {K : PySem.W.Frag} {G : Hp} {vs : List V} {ds : List D} (lo hi : Option Int) (r : RepL K G vs ds) : RepL K G (cutV vs lo hi) (cutD ds lo hi) := by
  unfold cutV cutD
  rw [r.length]
  exact (r.drop _).take _
theorem cut_all {α : Type} {l : List α} {lo hi : Option Int} (h : HT.sIx l.length 0 lo = 0 ∧ HT.sIx l.length l.length hi = l.length) : (l.drop (HT.sIx l.length 0 lo)).take (HT.sIx l.length l.length hi - HT.sIx l.length 0 lo) = l := by
  rw [h.1, h.2]
  simp
theorem se_sli {a : Expr} {lo hi : Option Expr} {fa : M Val} {fl fh : M (Option Int)} {p2 : Pos} (ha : PE X a (tEv X.K W fa)) (hl : PO X lo (tOv X.K W fl)) (hu : PO X hi (tOv X.K W fh)) : PE X (.Subscript a (.Slice lo hi none p2) pos) (tEv X.K W (sliC fa fl fh)) :=
  PE_mono (pe_slice (r := rSlA3 X.K) (sl_list.or (sl_tupA.or sl_str)) ha hl hu) fun σ H Q q => by
    obtain ⟨pn, A, e, G, R, g, oc⟩ := q
    refine chain g oc fun x v A1 e1 G1 H1 x1 g1 r1 oc1 => ?_
    obtain ⟨w, G2, x2, g2, r2, oc2⟩ := oc_pend g1 r1 oc1
    refine chain g2 oc2 fun l l' A3 e3 G3 H3 x3 g3 r3 oc3 => ?_
    subst r3
    refine chain g3 oc3 fun u u' A4 e4 G4 H4 x4 g4 r4 oc4 => ?_
    subst r4
    obtain ⟨d, rd, oc5⟩ := oc_derP g4 (r2.mono (x3.trans x4)) oc4
    obtain ⟨val, q5, fin⟩ := oc_optE oc5
    cases d with
    | lst ds =>
      cases q5
      obtain ⟨p, xs, rfl, hp, ra⟩ := rd
      exact .inl ⟨p, xs, rfl, SqL.of hp, fin.newF g4 (cut_rep l u ra)⟩
    | tup ds =>
      cases q5
      have rd' : Rep X.K G4 x (.tup ds) := rd
      cases rd' with
      | @tup p xs _ hp ra =>
        refine .inr (.inl ⟨p, xs, rfl, SqT.of (g4.gh _ _ hp), fun w => ?_, fun w => fin.newT g4 (cut_rep l u ra)⟩)
        rw [ra.length] at w
        have e5 : cutD ds l u = ds := cut_all w
        rw [e5] at fin
        exact fin.sc g4 (.tup hp ra)
    | str z =>
      unfold slD at q5
      dsimp only at q5
      split at q5
      · cases q5
        cases rd
        exact .inr (.inr ⟨_, rfl, by rw [← lim_eq]; assumption, fin.sc g4 (.str _)⟩)
      · cases q5
    | _ => cases q5
end
/-! ### calls of built-ins on data -/
def callC (g : List D → Option Val) (fs : List (M Val)) : M Val := bnd (argsC fs) fun vs => bnd (derAll vs) fun ds => opt (g ds)
/-- a rule does what g says of data -/
def COK (K : PySem.W.Frag) (r : List V → Hp → VK → Prop) (g : List D → Option Val) : Prop :=
  ∀ (pn : Pn) (A : LA) (e : En) (σ : L2.St) (G R H : Hp) (xs : List V) (ds : List D) (val : Val), RelG K pn A e σ G R H → RdVs K G H xs ds → g ds = some val → ∀ Q : VK, FinV K (rvE K) pn e σ G R val Q → r xs H Q
theorem tcall {K : PySem.W.Frag} {W : WX} {r : List V → Hp → VK → Prop} {g : List D → Option Val} {fs : List (M Val)} (hr : COK K r g) {σ : L2.St} {H : Hp} {Q : VK} (h : tEv K W (callC g fs) σ H Q) : tCB r (tAv K W (argsC fs)) σ H Q := by
  obtain ⟨pn, A, e, G, R, g0, oc⟩ := h
  refine chain g0 oc fun ws vs A1 e1 G1 H1 x1 g1 r1 oc1 => ?_
  obtain ⟨ds, rd, oc2⟩ := oc_derA g1 r1 oc1
  obtain ⟨val, q3, fin⟩ := oc_optE oc2
  exact hr pn A1 e1 σ G1 R H1 ws ds val g1 rd q3 Q fin
section
variable {X : Cx} {W : WX} {pos p : Pos} {x : Str} {id T : String} {r : List V → Hp → VK → Prop} {g : List D → Option Val} {a : Expr} {es : List Expr} {fs : List (M Val)}
theorem se_callB (hc : CallR X (.builtin id) r) (hr : COK X.K r g) (hg : Gl X x) (hm : X.mg x = none) (hv : bootBuiltins x = some (.builtin id)) (hn : x ≠ "__name__") (hdb : (x == ("__debug__" : Str)) = false) (hs : (a :: es).all notStar = true)
    (h : Paired (fun a f => PE X a (tEv X.K W f)) (a :: es) fs) : PE X (.Call (.Name x p) (a :: es) [] pos) (tEv X.K W (callC g fs)) := by
  have hs' := hs
  rw [List.all_cons, Bool.and_eq_true] at hs'
  exact PE_mono (pe_callB hc hg hm hv (sa_args _ fs hs h) hn hdb (star_cons hs'.1) (star_plain hs'.2)) fun _ _ _ q => tcall hr q
theorem se_callTy (hc : CallR X (.type T) r) (hr : COK X.K r g) (hg : Gl X x) (hm : X.mg x = none) (hv : bootBuiltins x = some (.type T)) (hn : x ≠ "__name__") (hdb : (x == ("__debug__" : Str)) = false) (hs : (a :: es).all notStar = true)
    (h : Paired (fun a f => PE X a (tEv X.K W f)) (a :: es) fs) : PE X (.Call (.Name x p) (a :: es) [] pos) (tEv X.K W (callC g fs)) := by
  have hs' := hs
  rw [List.all_cons, Bool.and_eq_true] at hs'
  exact PE_mono (pe_callTy hc hg hm hv (sa_args _ fs hs h) hn hdb (star_cons hs'.1) (star_plain hs'.2)) fun _ _ _ q => tcall hr q
end
end Qv
namespace Qv
open PySem L2 PySem.Spec PyProof.Rows
open Evl (Ex)

/-! ### built-ins -/
def lenB : List D → Option Val
  | [.lst l] => some (.sh (.int l.length))
  | [.tup l] => some (.sh (.int l.length))
  | [.scr l] => some (.sh (.int l.length))
  | [.str z] => if z.length ≤ lenLim then some (.sh (.int z.length)) else none
  | _ => none
def absB : List D → Option Val
  | [.int i] => some (.sh (.int (if i < 0 then -i else i)))
  | _ => none
def maxB : List D → Option Val
  | [.int i, .int j] => some (.sh (.int (if j > i then j else i)))
  | _ => none
def minB : List D → Option Val
  | [.int i, .int j] => some (.sh (.int (if j < i then j else i)))
  | _ => none
def intB : List D → Option Val
  | [.int i] => some (.sh (.int i))
  | [.bl k] => some (.sh (.int (if k then 1 else 0)))
  | _ => none
def bls : List D → Option (List Bool)
  | [] => some []
  | .bl b :: r => (bls r).map (b :: ·)
  | _ => none
def strsOf : List D → Option (List Str)
  | [] => some []
  | .str b :: r => (strsOf r).map (b :: ·)
  | _ => none
def allB : List D → Option Val
  | [.lst l] => (bls l).map fun bs => .sh (.bl (bs.all id))
  | _ => none
def anyB : List D → Option Val
  | [.lst l] => (bls l).map fun bs => .sh (.bl (bs.any id))
  | _ => none
def sumB : List D → Option Val
  | [.lst l] => (intsOf l).map fun bs => .sh (.int bs.sum)
  | _ => none
def listB : List D → Option Val
  | [.lst l] => some (.fr (.lst l))
  | [.tup l] => some (.fr (.lst l))
  | _ => none
def tupleB : List D → Option Val
  | [.lst l] => some (.sh (.tup l))
  | [.tup l] => some (.sh (.tup l))
  | _ => none
def reprD (d : D) : Option Str := if (d.nl || (d.pl && d.py.canLay0)) && (d.py.showable && (decide (d.py.shown.length ≤ lenLim) && decide (d.py.depth ≤ 64))) then some d.py.shown else none
def reprB : List D → Option Val
  | [d] => (reprD d).map fun x => .sh (.str x)
  | _ => none
def strB : List D → Option Val
  | [.str x] => some (.sh (.str x))
  | [.int i] => if i.natAbs.log2 < 1920 then some (.sh (.str (toString i))) else none
  | _ => none
def txtLe (a b : Str) : Bool := !ltCps b.cps.toList a.cps.toList
def sortS (xs : List Str) : List Str := xs.mergeSort txtLe
def sortedB : List D → Option Val
  | [.lst l] => match intsOf l with
    | some ns => some (.fr (.lst ((PySem.W.sortI ns).map .int)))
    | none => match strsOf l with
      | some xs => if xs.length < 64 then some (.fr (.lst ((sortS xs).map .str))) else none
      | none => none
  | _ => none
section
variable {X : Cx} {K : PySem.W.Frag}
theorem rd1 {G H : Hp} {xs : List V} {d : D} (h : RdVs K G H xs [d]) : ∃ x, xs = [x] ∧ RdV K G H x d := by
  cases h with
  | cons a b => cases b; exact ⟨_, rfl, a⟩
theorem rd2 {G H : Hp} {xs : List V} {d d2 : D} (h : RdVs K G H xs [d, d2]) : ∃ x y, xs = [x, y] ∧ RdV K G H x d ∧ RdV K G H y d2 := by
  cases h with
  | cons a b =>
    cases b with
    | cons c e => cases e; exact ⟨_, _, rfl, a, c⟩
def rLenA (K : PySem.W.Frag) : List V → Hp → VK → Prop := fun xs H Q => ∃ x n, xs = [x] ∧ LenV K x H n ∧ Q (.int n) H
theorem ok_len : COK K (rLenA K) lenB := by
  intro pn A e σ G R H xs ds val g r h Q f
  unfold lenB at h
  split at h
  · cases h
    obtain ⟨x, rfl, rx⟩ := rd1 r
    obtain ⟨p, ys, rfl, hp, ra⟩ := rx
    exact ⟨_, _, rfl, .inl ⟨ys, SqL.of hp, ra.length.symm⟩, f.sc g (.int _)⟩
  · cases h
    obtain ⟨x, rfl, rx⟩ := rd1 r
    have rx' : Rep K G x (.tup _) := rx
    cases rx' with
    | tup hp ra => exact ⟨_, _, rfl, .inr ⟨_, SqT.of (g.gh _ _ hp), ra.length.symm⟩, f.sc g (.int _)⟩
  · cases h
    obtain ⟨x, rfl, rx⟩ := rd1 r
    have rx' : Rep K G x (.scr _) := rx
    cases rx' with
    | scr hp => exact ⟨_, _, rfl, .inl ⟨_, Evl.ex_l g.gh hp, by rw [List.length_map]⟩, f.sc g (.int _)⟩
  · split at h
    · cases h
      obtain ⟨x, rfl, rx⟩ := rd1 r
      cases rx
      exact ⟨_, _, rfl, ⟨by rw [← lim_eq]; assumption, rfl⟩, f.sc g (.int _)⟩
    · cases h
  · cases h
theorem ok_abs : COK K (fun xs H Q => ∃ i, xs = [.int i] ∧ Q (.int (if i < 0 then -i else i)) H) absB := by
  intro pn A e σ G R H xs ds val g r h Q f
  unfold absB at h
  split at h
  · cases h
    obtain ⟨x, rfl, rx⟩ := rd1 r
    cases rx
    exact ⟨_, rfl, f.sc g (.int _)⟩
  · cases h
theorem ok_max : COK K (fun xs H Q => ∃ i j, xs = [.int i, .int j] ∧ Q (.int (if j > i then j else i)) H) maxB := by
  intro pn A e σ G R H xs ds val g r h Q f
  unfold maxB at h
  split at h
  · cases h
    obtain ⟨x, y, rfl, rx, ry⟩ := rd2 r
    cases rx; cases ry
    exact ⟨_, _, rfl, f.sc g (.int _)⟩
  · cases h
theorem ok_min : COK K (fun xs H Q => ∃ i j, xs = [.int i, .int j] ∧ Q (.int (if j < i then j else i)) H) minB := by
  intro pn A e σ G R H xs ds val g r h Q f
  unfold minB at h
  split at h
  · cases h
    obtain ⟨x, y, rfl, rx, ry⟩ := rd2 r
    cases rx; cases ry
    exact ⟨_, _, rfl, f.sc g (.int _)⟩
  · cases h
theorem ok_int : COK K (fun xs H Q => (∃ i, xs = [.int i] ∧ Q (.int i) H) ∨ ∃ k, xs = [.bl k] ∧ Q (.int (if k then 1 else 0)) H) intB := by
  intro pn A e σ G R H xs ds val g r h Q f
  unfold intB at h
  split at h
  · cases h
    obtain ⟨x, rfl, rx⟩ := rd1 r
    cases rx
    exact .inl ⟨_, rfl, f.sc g (.int _)⟩
  · cases h
    obtain ⟨x, rfl, rx⟩ := rd1 r
    cases rx
    exact .inr ⟨_, rfl, f.sc g (.int _)⟩
  · cases h
theorem bls_rep {G : Hp} : ∀ {l : List D} {bs : List Bool} {vs : List V}, bls l = some bs → RepL K G vs l → vs = bs.map V.bl
  | _, _, _, h, .nil => by cases h; rfl
  | d :: l, bs, v :: vs, h, .cons a b => by
    cases d with
    | bl c =>
      unfold bls at h
      obtain ⟨bs', h1, rfl⟩ := Option.map_eq_some_iff.mp h
      cases a
      rw [bls_rep h1 b]
      rfl
    | _ => cases h
theorem strs_rep {G : Hp} : ∀ {l : List D} {bs : List Str} {vs : List V}, strsOf l = some bs → RepL K G vs l → vs = bs.map V.str
  | _, _, _, h, .nil => by cases h; rfl
  | d :: l, bs, v :: vs, h, .cons a b => by
    cases d with
    | str c =>
      unfold strsOf at h
      obtain ⟨bs', h1, rfl⟩ := Option.map_eq_some_iff.mp h
      cases a
      rw [strs_rep h1 b]
      rfl
    | _ => cases h
theorem ok_all : COK K (rAll K) allB := by
  intro pn A e σ G R H xs ds val g r h Q f
  unfold allB at h
  split at h
  · obtain ⟨bs, h1, rfl⟩ := Option.map_eq_some_iff.mp h
    obtain ⟨x, rfl, rx⟩ := rd1 r
    obtain ⟨p, ys, rfl, hp, ra⟩ := rx
    rw [bls_rep h1 ra] at hp
    exact ⟨p, bs, rfl, SqL.of hp, f.sc g (.bl _)⟩
  · cases h
theorem ok_any : COK K (rAny K) anyB := by
  intro pn A e σ G R H xs ds val g r h Q f
  unfold anyB at h
  split at h
  · obtain ⟨bs, h1, rfl⟩ := Option.map_eq_some_iff.mp h
    obtain ⟨x, rfl, rx⟩ := rd1 r
    obtain ⟨p, ys, rfl, hp, ra⟩ := rx
    rw [bls_rep h1 ra] at hp
    exact ⟨p, bs, rfl, SqL.of hp, f.sc g (.bl _)⟩
  · cases h
theorem ok_sum : COK K (rSum K) sumB := by
  intro pn A e σ G R H xs ds val g r h Q f
  unfold sumB at h
  split at h
  · obtain ⟨bs, h1, rfl⟩ := Option.map_eq_some_iff.mp h
    obtain ⟨x, rfl, rx⟩ := rd1 r
    obtain ⟨p, ys, rfl, hp, ra⟩ := rx
    rw [ints_rep h1 ra] at hp
    exact ⟨p, bs, rfl, SqL.of hp, f.sc g (.int _)⟩
  · cases h
theorem ok_list : COK K (fun xs H Q => ∃ p ys, xs = [.ref p] ∧ (SqL K H p ys ∨ SqT K H p ys) ∧ ∀ l, H l = none → Q (.ref l) (upd H l (.lst ys))) listB := by
  intro pn A e σ G R H xs ds val g r h Q f
  unfold listB at h
  split at h
  · cases h
    obtain ⟨x, rfl, rx⟩ := rd1 r
    obtain ⟨p, ys, rfl, hp, ra⟩ := rx
    exact ⟨p, ys, rfl, .inl (SqL.of hp), f.newF g ra⟩
  · cases h
    obtain ⟨x, rfl, rx⟩ := rd1 r
    have rx' : Rep K G x (.tup _) := rx
    cases rx' with
    | tup hp ra => exact ⟨_, _, rfl, .inr (SqT.of (g.gh _ _ hp)), f.newF g ra⟩
  · cases h
theorem ok_tuple : COK K (fun xs H Q => ∃ p ys, xs = [.ref p] ∧ ((SqL K H p ys ∧ ∀ l, H l = none → Q (.ref l) (upd H l (.tup ys))) ∨ (SqT K H p ys ∧ Q (.ref p) H))) tupleB := by
  intro pn A e σ G R H xs ds val g r h Q f
  unfold tupleB at h
  split at h
  · cases h
    obtain ⟨x, rfl, rx⟩ := rd1 r
    obtain ⟨p, ys, rfl, hp, ra⟩ := rx
    exact ⟨p, ys, rfl, .inl ⟨SqL.of hp, f.newT g ra⟩⟩
  · cases h
    obtain ⟨x, rfl, rx⟩ := rd1 r
    have rx' : Rep K G x (.tup _) := rx
    cases rx' with
    | tup hp ra => exact ⟨_, _, rfl, .inr ⟨SqT.of (g.gh _ _ hp), f.sc g (.tup hp ra)⟩⟩
  · cases h
def rStr : List V → Hp → VK → Prop := fun xs H Q => (∃ a, xs = [.str a] ∧ Q (.str a) H) ∨ ∃ i, xs = [.int i] ∧ i.natAbs.log2 < 1920 ∧ Q (.str (toString i)) H
theorem call_strA : CallR X (.type "str") rStr := SkE.call_str_str.or call_str_int
theorem ok_str : COK K rStr strB := by
  intro pn A e σ G R H xs ds val g r h Q f
  unfold strB at h
  split at h
  · cases h
    obtain ⟨x, rfl, rx⟩ := rd1 r
    cases rx
    exact .inl ⟨_, rfl, f.sc g (.str _)⟩
  · split at h
    · cases h
      obtain ⟨x, rfl, rx⟩ := rd1 r
      cases rx
      exact .inr ⟨_, rfl, by assumption, f.sc g (.str _)⟩
    · cases h
  · cases h
/-! ### repr -/
def rRepr (K : PySem.W.Frag) : List V → Hp → VK → Prop := fun xs H Q => ∃ x d, xs = [x] ∧ Rep K H x d ∧ (d.nl || (d.pl && d.py.canLay0)) = true ∧ d.py.showable = true ∧ d.py.shown.length ≤ sizeLine ∧ d.py.depth ≤ 64 ∧ Q (.str d.py.shown) H
section
variable {pins : List (Addr × Obj)} {σ : L2.St} {H : Hp} {s : Shared}
mutual
theorem rdsD (I : Inv X pins σ H s) : ∀ (d : D) (v : V) (u : Value), d.nl = true → Rep X.K H v d → RelV v u → ∃ as, Reads s.heap u d.py as ∧ sysModules ∉ as
  | .non, _, _, _, h, r => by cases h; cases r; exact ⟨_, Reads.none, List.not_mem_nil⟩
  | .bl b, _, _, _, h, r => by cases h; cases r; exact ⟨_, Reads.bool b, List.not_mem_nil⟩
  | .int i, _, _, _, h, r => by cases h; obtain ⟨t, rfl⟩ := r; exact ⟨_, Reads.int i t, List.not_mem_nil⟩
  | .str x, _, _, _, h, r => by cases h; obtain ⟨t, rfl⟩ := r; exact ⟨_, Reads.str x t, List.not_mem_nil⟩
  | .tup ds, _, _, n, h, r => by
    cases h with
    | tup hp ra =>
      cases r
      obtain ⟨_, its, rv, o, h1, h2, m, h3⟩ := (show ObjOk X.prog X.w H s.heap _ (.tup _) from I.hok _ _ hp)
      obtain ⟨as, q1, q2⟩ := rdsL I ds _ its n ra rv
      exact ⟨as, Reads.tuple h1 h2 h3 q1, q2⟩
  | .dct es, v, u, n, h, r => by
    have fin : ∀ (a : Addr) (o : Obj) (en : Array DictEntry) (m : Nat), u = .ref a → (a == sysModules) = false → s.heap.get? a = some o → o.cls = .type "dict" → o.data = .dict en m →
        (∃ as, ReadsAll s.heap (en.toList.map (·.key)) ((pyK es).map (·.1)) as ∧ sysModules ∉ as) → (∃ bs, ReadsAll s.heap (en.toList.map (·.val)) ((pyK es).map (·.2)) bs ∧ sysModules ∉ bs) → ∃ as, Reads s.heap u (D.dct es).py as ∧ sysModules ∉ as := by
      intro a o en m e1 ne ho hc hd ⟨as, q1, q2⟩ ⟨bs, q3, q4⟩
      subst e1
      refine ⟨_, Reads.dict ho hc hd q1 q3, fun hm => ?_⟩
      rcases List.mem_cons.mp hm with z | z
      · rw [← z] at ne; simp at ne
      · rcases List.mem_append.mp z with z | z
        · exact q2 z
        · exact q4 z
    cases h with
    | dct hp ra =>
      cases r
      obtain ⟨_, ne, vs, kv, o, en, m, ho, hx, hd, hk, pr, _⟩ := dk_of I.hok hp
      obtain ⟨q1, q2⟩ := rdsK I es _ vs en.toList n ra kv pr
      exact fin _ o en m rfl ne ho hx.1 hd q1 q2
    | dcT hp ra =>
      cases r
      cases ra with
      | nil =>
        obtain ⟨_, ne, xs, kt, o, en, m, ho, hx, hd, hk, _⟩ := dt_of I.hok hp
        cases kt
        have e : en.toList = [] := hk
        refine fin _ o en m rfl ne ho hx.1 hd ?_ ?_
        · rw [e]; exact ⟨_, ReadsAll.nil, List.not_mem_nil⟩
        · rw [e]; exact ⟨_, ReadsAll.nil, List.not_mem_nil⟩
      | cons a b => simp [D.nl, nlK] at n
  | .lst _, _, _, n, _, _ => by cases n
  | .scr _, _, _, n, _, _ => by cases n
  | .ins _ _, _, _, n, _, _ => by cases n
  | .ty _, _, _, n, _, _ => by cases n
  | .box _, _, _, n, _, _ => by cases n
theorem rdsL (I : Inv X pins σ H s) : ∀ (ds : List D) (vs : List V) (us : List Value), nlL ds = true → RepL X.K H vs ds → Vals vs us → ∃ as, ReadsAll s.heap us (pyL ds) as ∧ sysModules ∉ as
  | [], _, _, _, .nil, r => by cases r; exact ⟨_, ReadsAll.nil, List.not_mem_nil⟩
  | d :: ds, _, _, n, .cons a b, r => by
    cases r with
    | cons r1 r2 =>
      obtain ⟨n1, n2⟩ := Bool.and_eq_true_iff.mp (show (d.nl && nlL ds) = true from n)
      obtain ⟨as, q1, q2⟩ := rdsD I d _ _ n1 a r1
      obtain ⟨bs, q3, q4⟩ := rdsL I ds _ _ n2 b r2
      exact ⟨_, ReadsAll.cons q1 q3, fun z => (List.mem_append.mp z).elim q2 q4⟩
theorem rdsK (I : Inv X pins σ H s) : ∀ (es : List (D × D)) (kvs : List (L2.Key × V)) (vs : List (L2.Key × Value)) (en : List DictEntry), nlK es = true → RepK X.K H kvs es → KV kvs vs → Pairs (mixKind X.prog X.w) en vs →
    (∃ as, ReadsAll s.heap (en.map (·.key)) ((pyK es).map (·.1)) as ∧ sysModules ∉ as) ∧ ∃ bs, ReadsAll s.heap (en.map (·.val)) ((pyK es).map (·.2)) bs ∧ sysModules ∉ bs
  | [], _, _, _, _, .nil, r, p => by cases r; cases p; exact ⟨⟨_, ReadsAll.nil, List.not_mem_nil⟩, ⟨_, ReadsAll.nil, List.not_mem_nil⟩⟩
  | (_, d) :: es, (k, v) :: kvs, _, _, n, .cons a b, r, p => by
    cases r with
    | cons r1 r2 =>
      cases p with
      | cons p1 p2 p3 =>
        obtain ⟨_, n2⟩ := Bool.and_eq_true_iff.mp n
        obtain ⟨n3, n4⟩ := Bool.and_eq_true_iff.mp n2
        obtain ⟨⟨as, q1, q2⟩, ⟨bs, q3, q4⟩⟩ := rdsK I es kvs _ _ n4 b r2 p3
        obtain ⟨cs, q5, q6⟩ := rdsD I d _ _ n3 a r1.2
        obtain ⟨e1, _⟩ := r1
        rw [← p2] at q5
        refine ⟨?_, ⟨_, ReadsAll.cons q5 q3, fun z => (List.mem_append.mp z).elim q6 q4⟩⟩
        have e1' : k = _ := e1
        rw [← e1'] at p1
        cases k with
        | inl i =>
          rcases @L2.keyIs_shape (.inl i) _ p1 with ⟨i', t, z1, z2⟩ | ⟨x', t, z1, z2⟩
          · cases z1; exact ⟨_, ReadsAll.cons (by show Reads s.heap (DictEntry.key _) _ []; rw [z2]; exact Reads.int _ t) q1, q2⟩
          · cases z1
        | inr x =>
          rcases @L2.keyIs_shape (.inr x) _ p1 with ⟨i', t, z1, z2⟩ | ⟨x', t, z1, z2⟩
          · cases z1
          · cases z1; exact ⟨_, ReadsAll.cons (by show Reads s.heap (DictEntry.key _) _ []; rw [z2]; exact Reads.str _ t) q1, q2⟩
end
end
theorem call_reprA (hg : X.A.guards = some []) (hu : X.A.units + 200 < cLine) : CallR X (.builtin "repr") (rRepr X.K) := by
  intro pins s σ H xs us Q I r h
  obtain ⟨x, d, rfl, hd, hc, hs, hl, hz, q⟩ := h
  obtain ⟨u, rfl, ru⟩ := vals1 r
  have go : ∀ (a : Addr), u = .ref a → wpAny (model X.prog X.w) X.A (call (.builtin "repr") [u]) (EP X pins σ Q) X.xe s := by
    intro a eu
    subst eu
    have rd : ∃ as, Reads s.heap (.ref a) d.py as ∧ (d.py.hasDict = true → sysModules ∉ as) := by
      rcases Bool.or_eq_true_iff.mp hc with z | z
      · obtain ⟨as, q1, q2⟩ := rdsD I d x _ z hd ru
        exact ⟨as, q1, fun _ => q2⟩
      · obtain ⟨z1, z2⟩ := Bool.and_eq_true_iff.mp z
        obtain ⟨as, q1⟩ := Dp.reads I _ _ _ (Rep.dp' z1 z2 hd) ru
        exact ⟨as, q1, PyData.noDict_hsm (PyData.hasDict_of_canLay _ z2)⟩
    obtain ⟨as, q1, q2⟩ := rd
    exact PySem.repr_of_reads' q1 hs q2 hg (by omega) (fun _ _ z => z) (fun h' u tk k => ⟨.str _, H, I.kept k, ⟨_, rfl⟩, q⟩) hl
  cases hd with
  | non => cases ru; exact PySem.P.repr_of_none ⟨.str _, H, I.tok _, ⟨_, rfl⟩, q⟩
  | bl b =>
    cases ru
    refine PySem.P.repr_of_bool ⟨.str _, H, I.tok _, ⟨_, rfl⟩, ?_⟩
    cases b <;> exact q
  | int i =>
    obtain ⟨t, rfl⟩ := ru
    exact PySem.P.repr_of_int (of_decide_eq_true hs) ⟨.str _, H, I.tok _, ⟨_, rfl⟩, q⟩
  | str y =>
    obtain ⟨t, rfl⟩ := ru
    exact PySem.P.repr_of_str ⟨.str _, H, I.tok _, ⟨_, rfl⟩, q⟩ hl
  | lst a b => exact go _ ru
  | tup a b => exact go _ ru
  | dct a b => exact go _ ru
  | dcT a b => exact go _ ru
  | scr a => exact go _ ru
  | ins a b c d => exact go _ ru
  | ty c => exact go _ ru
theorem ok_repr : COK K (rRepr K) reprB := by
  intro pn A e σ G R H xs ds val g r h Q f
  unfold reprB at h
  split at h
  · rename_i d
    obtain ⟨bs, h1, rfl⟩ := Option.map_eq_some_iff.mp h
    obtain ⟨x, rfl, rx⟩ := rd1 r
    unfold reprD at h1
    split at h1
    · rename_i c
      cases h1
      rw [Bool.and_eq_true, Bool.and_eq_true, Bool.and_eq_true, decide_eq_true_eq, decide_eq_true_eq] at c
      obtain ⟨c1, c3, c4, c5⟩ := c
      exact ⟨x, d, rfl, rx.rep g.gh, c1, c3, by rw [← lim_eq]; exact c4, c5, f.sc g (.str _)⟩
    · cases h1
  · cases h
/-! ### sorted -/
theorem txtLe_trans (a b c : Str) : txtLe a b = true → txtLe b c = true → txtLe a c = true := by
  unfold txtLe
  rw [ltCps_eq, ltCps_eq, ltCps_eq]
  simp only [Bool.not_eq_true', decide_eq_false_iff_not]
  intro h1 h2 h3
  exact h1 (List.lt_of_le_of_lt (List.not_lt.mp h2) h3)
theorem txtLe_total (a b : Str) : (txtLe a b || txtLe b a) = true := by
  unfold txtLe
  rw [ltCps_eq, ltCps_eq]
  rw [Bool.or_eq_true]
  simp only [Bool.not_eq_true', decide_eq_false_iff_not]
  by_cases h : b.cps.toList < a.cps.toList
  · exact .inr (List.lt_asymm h)
  · exact .inl h
theorem txtLe_anti (a b : Str) (h1 : txtLe a b = true) (h2 : txtLe b a = true) : a = b := by
  unfold txtLe at h1 h2
  rw [ltCps_eq] at h1 h2
  simp only [Bool.not_eq_true', decide_eq_false_iff_not] at h1 h2
  have e : a.cps.toList = b.cps.toList := List.le_antisymm (List.not_lt.mp h1) (List.not_lt.mp h2)
  obtain ⟨x⟩ := a
  obtain ⟨y⟩ := b
  obtain ⟨x⟩ := x
  obtain ⟨y⟩ := y
  cases e
  rfl
theorem rising_pw : ∀ (p : Str) (l : List Str), risingS p l = true → (p :: l).Pairwise (fun a b => txtLe a b = true)
  | p, [], _ => List.pairwise_cons.mpr ⟨fun _ h => (nomatch h), .nil⟩
  | p, x :: r, h => by
    obtain ⟨h1, h2⟩ := Bool.and_eq_true_iff.mp (show (!ltCps x.cps.toList p.cps.toList && risingS x r) = true from h)
    have ih := rising_pw x r h2
    refine List.pairwise_cons.mpr ⟨fun z hz => ?_, ih⟩
    rcases List.mem_cons.mp hz with rfl | hz
    · exact h1
    · exact txtLe_trans _ _ _ h1 ((List.pairwise_cons.mp ih).1 z hz)
theorem sortedS_pw {l : List Str} (h : sortedS l = true) : l.Pairwise (fun a b => txtLe a b = true) := by
  cases l with
  | nil => exact .nil
  | cons x r => exact rising_pw x r h
theorem sortS_perm (xs : List Str) : (sortS xs).Perm xs := List.mergeSort_perm xs _
theorem sortS_pw (xs : List Str) : (sortS xs).Pairwise (fun a b => txtLe a b = true) := List.pairwise_mergeSort txtLe_trans txtLe_total xs
theorem eq_sortS {xs ys : List Str} (hp : ys.Perm xs) (hs : sortedS ys = true) : ys = sortS xs :=
  List.Perm.eq_of_pairwise (fun _ _ _ _ a b => txtLe_anti _ _ a b) (sortedS_pw hs) (sortS_pw xs) (hp.trans (sortS_perm xs).symm)
theorem RepL.strs {G : Hp} : ∀ (xs : List Str), RepL K G (xs.map V.str) (xs.map D.str)
  | [] => .nil
  | _ :: r => .cons (.str _) (RepL.strs r)
def rSrt (K : PySem.W.Frag) : List V → Hp → VK → Prop := fun xs H Q => rSortedI K xs H Q ∨ rSortedS K xs H Q
theorem cr_srt : CallR X (.builtin "sorted") (rSrt X.K) := cr_sortedI.or cr_sortedS
theorem ok_srt : COK K (rSrt K) sortedB := by
  intro pn A e σ G R H xs ds val g r h Q f
  unfold sortedB at h
  split at h
  · obtain ⟨x, rfl, rx⟩ := rd1 r
    obtain ⟨p, ys, rfl, hp, ra⟩ := rx
    split at h
    · rename_i ns hn
      cases h
      rw [ints_rep hn ra] at hp
      refine .inl ⟨p, ns, rfl, SqL.of hp, fun ns' q h1 h2 h3 => ?_⟩
      rw [PySem.W.eq_sortI h1 h2]
      exact f.newF g (RepL.ints _) q h3
    · split at h
      · rename_i zs hz
        split at h
        · rename_i hl
          cases h
          rw [strs_rep hz ra] at hp
          refine .inr ⟨p, zs, rfl, SqL.of hp, hl, fun ys' q h1 h2 h3 => ?_⟩
          rw [eq_sortS h1 h2]
          exact f.newF g (RepL.strs _) q h3
        · cases h
      · cases h
  · cases h
/-! ### isinstance -/
/-- the built-in type of data -/
def tyD : D → Option String
  | .non => some "NoneType" | .bl _ => some "bool" | .int _ => some "int" | .str _ => some "str"
  | .tup _ => some "tuple" | .lst _ => some "list" | .dct _ => some "dict" | .scr _ => none | .ins _ _ => none | .ty _ => none | .box _ => none
def isiD (T : String) (d : D) : Option Bool := (tyD d).bind fun t => kitB t T
def isiC (T : String) (f : M Val) : M Val := bnd f fun v => bnd (der v) fun d => bnd (opt (isiD T d)) fun b => ret (.sh (.bl b))
theorem tyX_of {G H : Hp} {v : V} {d : D} {t : String} (x : Ex G H) (h : RdV K G H v d) (q : tyD d = some t) : TyX K H v (.type t) := by
  cases d with
  | non => cases q; cases h; exact .base .non
  | bl b => cases q; cases h; exact .base (.bl _)
  | int b => cases q; cases h; exact .base (.int _)
  | str b => cases q; cases h; exact .base (.str _)
  | lst b => cases q; obtain ⟨a, xs, rfl, h, _⟩ := h; exact .base (.lst h)
  | dct b =>
    cases q
    obtain ⟨a, rfl, h⟩ := h
    rcases h with ⟨kvs, h, _⟩ | ⟨kvs, h, _⟩
    · exact .base (.dK h)
    · exact .base (.dT h)
  | tup b =>
    cases q
    have h' : Rep K G v (.tup b) := h
    cases h' with
    | tup hp ra =>
      rcases SqT.of (x _ _ hp) with (hp | ⟨o, hp⟩) | ⟨o, its, n, k1, k2, _⟩
      · exact .base (.tup hp)
      · exact .fTuple hp
      · exact .kTuple k1 k2
  | _ => cases q
theorem se_isi {y : Str} {p p2 pos : Pos} {a : Expr} {f : M Val} {T : String} {W : WX} (ha : PE X a (tEv X.K W f)) (hg : Gl X "isinstance") (hm : X.mg "isinstance" = none) (hy : Gl X y) (hmy : X.mg y = none) (hv : bootBuiltins y = some (.type T)) (hn : y ≠ "__name__") (hdb : (y == ("__debug__" : Str)) = false)
    (hs : notStar a = true) : PE X (.Call (.Name "isinstance" p) [a, .Name y p2] [] pos) (tEv X.K W (isiC T f)) := by
  have hv0 : bootBuiltins ("isinstance" : Str) = some (.builtin "isinstance") := by decide +kernel
  refine PE_mono (pe_callB call_isi hg hm hv0 (pa_cons ha (pa_cons (pe_bltn (v := .ty T) hy hmy hv rfl hn hdb) pa_nil rfl) (star_cons hs)) (by decide +kernel) (by decide +kernel) (star_cons hs) rfl) fun σ H Q q => ?_
  obtain ⟨pn, A, e, G, R, g, oc⟩ := q
  refine chain g oc fun x v A1 e1 G1 H1 x1 g1 r1 oc1 => ?_
  obtain ⟨d, rd, oc2⟩ := oc_der g1 r1 oc1
  obtain ⟨b, q3, oc3⟩ := oc_opt oc2
  unfold isiD at q3
  obtain ⟨t, q4, q5⟩ := Option.bind_eq_some_iff.mp q3
  exact ⟨x, .ty T, .type t, .type T, b, rfl, .ty T, tyX_of g1.gh rd q4, kit_ty q5, (oc_ret oc3).sc g1 (.bl _)⟩
end
end Qv
namespace Qv
open PySem L2
open Evl (Ex)

/-! ### what is walked, whatever it is: the list of what it yields -/
/-- J yields ds, over whatever G grows into -/
def ItOk (K : PySem.W.Frag) (J : It) (G : Hp) (ds : List D) : Prop :=
  ∀ (pn : Pn) (A : LA) (e : En) (σ : L2.St) (G1 R H1 : Hp) (i : Nat), Ex G G1 → RelG K pn A e σ G1 R H1 → (i < ds.length → J.go i H1) ∧ (i = ds.length → J.stop i H1) ∧
    ∀ x H2 d, J.yld i H1 x H2 → ds[i]? = some d → ∃ G2, Ex G1 G2 ∧ RelG K pn A e σ G2 R H2 ∧ Rep K G2 x d
abbrev rvI (K : PySem.W.Frag) : Rv It (List D) := fun _ G _ _ _ _ J ds => ItOk K J G ds
abbrev tIv (K : PySem.W.Frag) (W : WX) (f : M (List D)) : TI := tG K W (rvI K) f
section
variable {K : PySem.W.Frag} {G : Hp}
theorem it_list {a : Addr} {xs : List V} {ds : List D} (h : G a = some (.lst xs)) (r : RepL K G xs ds) : ItOk K (Itl K a) G ds := by
  intro pn A e σ G1 R H1 i x g
  have hq : SqL K H1 a xs := SqL.of (g.gh _ _ (x _ _ h))
  refine ⟨fun hi => ?_, fun hi => ⟨xs, hq, by rw [r.length]; omega⟩, fun v H2 d hy hd => ?_⟩
  · have hi' : i < xs.length := by rw [r.length]; exact hi
    exact ⟨xs, xs[i], hq, by simp [hi']⟩
  · obtain ⟨rfl, hy⟩ := hy
    obtain ⟨w, hw, rw'⟩ := r.get hd
    have e2 := hy xs hq
    rw [hw] at e2
    cases e2
    exact ⟨G1, Ex.refl _, g, rw'.mono x⟩
theorem it_tup {a : Addr} {xs : List V} {ds : List D} (h : G a = some (.tup xs)) (r : RepL K G xs ds) : ItOk K (Itt K a) G ds := by
  intro pn A e σ G1 R H1 i x g
  have hq : SqT K H1 a xs := SqT.of (g.gh _ _ (x _ _ h))
  refine ⟨fun hi => ?_, fun hi => ⟨xs, hq, by rw [r.length]; omega⟩, fun v H2 d hy hd => ?_⟩
  · have hi' : i < xs.length := by rw [r.length]; exact hi
    exact ⟨xs, xs[i], hq, by simp [hi']⟩
  · obtain ⟨rfl, hy⟩ := hy
    obtain ⟨w, hw, rw'⟩ := r.get hd
    have e2 := hy xs hq
    rw [hw] at e2
    cases e2
    exact ⟨G1, Ex.refl _, g, rw'.mono x⟩
theorem it_scr {a : Addr} {ns : List Int} (h : SqL K G a (ns.map V.int)) : ItOk K (Itl K a) G (ns.map D.int) := by
  intro pn A e σ G1 R H1 i x g
  have hq : SqL K H1 a (ns.map V.int) := Evl.ex_l g.gh (Evl.ex_l x h)
  refine ⟨fun hi => ?_, fun hi => ⟨_, hq, by rw [List.length_map] at hi ⊢; omega⟩, fun v H2 d hy hd => ?_⟩
  · have hi' : i < ns.length := by simpa using hi
    exact ⟨_, .int ns[i], hq, by simp [hi']⟩
  · obtain ⟨rfl, hy⟩ := hy
    have e2 := hy _ hq
    rw [List.getElem?_map] at hd e2
    cases z : ns[i]? with
    | none => rw [z] at hd; cases hd
    | some n =>
      rw [z] at hd e2
      cases hd
      cases e2
      exact ⟨G1, Ex.refl _, g, .int n⟩
theorem it_str {x : Str} : ItOk K (Its x) G (x.cps.toList.map fun c => D.str ⟨#[c]⟩) := by
  intro pn A e σ G1 R H1 i x1 g
  refine ⟨fun hi => ?_, fun hi => ?_, fun v H2 d hy hd => ?_⟩
  · have hi' : i < x.cps.size := by simpa using hi
    exact hi'
  · show x.cps.size ≤ i
    simp at hi
    omega
  · obtain ⟨rfl, c, hc, rfl⟩ := hy
    rw [List.getElem?_map, Array.getElem?_toList, hc] at hd
    cases hd
    exact ⟨G1, Ex.refl _, g, .str _⟩
/-- lo, lo + 1, .. -/
def rngD (lo : Int) (n : Nat) : List D := (List.range n).map fun i => .int (lo + (i : Nat))
theorem it_rng {lo : Int} {n : Nat} : ItOk K (Itr lo n) G (rngD lo n) := by
  intro pn A e σ G1 R H1 i x1 g
  refine ⟨fun hi => ?_, fun hi => ?_, fun v H2 d hy hd => ?_⟩
  · have hi' : i < n := by simpa [rngD] using hi
    exact hi'
  · show n ≤ i
    simp [rngD] at hi
    omega
  · obtain ⟨rfl, rfl⟩ := hy
    have hi : i < n := by
      have := (List.getElem?_eq_some_iff.mp hd).1
      simpa [rngD] using this
    unfold rngD at hd
    rw [List.getElem?_map, List.getElem?_range hi] at hd
    cases hd
    exact ⟨G1, Ex.refl _, g, .int _⟩
end
/-- walked as it is: a list, a tuple, a text, the script -/
def itemsD : D → Option (List D)
  | .lst l => some l
  | .tup l => some l
  | .scr l => some (l.map .int)
  | .str z => some (z.cps.toList.map fun c => .str ⟨#[c]⟩)
  | _ => none
def iterC (f : M Val) : M (List D) := bnd f fun v => bnd (shr v) fun d => opt (itemsD d)
section
variable {X : Cx} {W : WX} {tg a : Expr}
theorem PI_or {t t' : TI} (h : PI X tg a t) (h' : PI X tg a t') : PI X tg a (fun σ H R => t σ H R ∨ t' σ H R) := ⟨fun pins s σ H R I q => q.elim (h.run pins s σ H R I) (h'.run pins s σ H R I)⟩
theorem si_iter {f : M Val} (ha : PE X a (tEv X.K W f)) : PI X tg a (tIv X.K W (iterC f)) :=
  PI_mono (PI_or (pi_list ha) (PI_or (pi_tup ha) (pi_str ha))) fun σ H Rr q => by
    obtain ⟨pn, A, e, G, R, g, oc⟩ := q
    have key : ∀ (P : V → Hp → Prop), (∀ x d A2 e2 G2 H1 ds, RelG X.K pn A2 e2 σ G2 R H1 → Rep X.K G2 x d → itemsD d = some ds → FinV X.K (rvI X.K) pn e2 σ G2 R ds Rr → P x H1) → tEv X.K W f σ H P := fun P hP => by
      refine chain g oc fun x v A1 e1 G1 H1 x1 g1 r1 oc1 => ?_
      obtain ⟨d, A2, e2, G2, x2, g2, r2, oc2⟩ := oc_shr g1 r1 oc1
      obtain ⟨ds, q3, fin⟩ := oc_optE oc2
      exact hP x d A2 e2 G2 H1 ds g2 r2 q3 fin
    have z : tEv X.K W f σ H fun x H1 => ∃ d A2 e2 G2 ds, RelG X.K pn A2 e2 σ G2 R H1 ∧ Rep X.K G2 x d ∧ itemsD d = some ds ∧ FinV X.K (rvI X.K) pn e2 σ G2 R ds Rr := key _ fun x d A2 e2 G2 H1 ds a b c f => ⟨d, A2, e2, G2, ds, a, b, c, f⟩
    -- which of the three: by the outcome of f
    obtain ⟨pn', A', e', G', R', g', oc'⟩ := z
    have pick : ∀ (P : V → Hp → Prop), (∀ x H1, (∃ d A2 e2 G2 ds, RelG X.K pn A2 e2 σ G2 R H1 ∧ Rep X.K G2 x d ∧ itemsD d = some ds ∧ FinV X.K (rvI X.K) pn e2 σ G2 R ds Rr) → P x H1) → tEv X.K W f σ H P := fun P hP => key P fun x d A2 e2 G2 H1 ds a b c f => hP x H1 ⟨d, A2, e2, G2, ds, a, b, c, f⟩
    clear pick oc' g'
    have oc0 : OcV X.K W (rvI X.K) pn σ R Rr G (bnd f (fun v => bnd (shr v) fun d => opt (itemsD d)) e) := oc
    unfold bnd at oc0
    cases hf : f e with
    | err => rw [hf] at oc0; exact oc0.elim
    | ex x e2 =>
      rw [hf] at oc0
      refine .inl ⟨pn, A, e, G, R, g, ?_⟩
      unfold OcV; rw [hf]; exact oc0
    | ok p =>
      obtain ⟨v, e1⟩ := p
      rw [hf] at oc0
      have oc1 : OcV X.K W (rvI X.K) pn σ R Rr G (bnd (shr v) (fun d => opt (itemsD d)) e1) := oc0
      have mk : ∀ P : V → Hp → Prop, (∀ x A1 G1 H1, Ex G G1 → RelG X.K pn A1 e1 σ G1 R H1 → RepVal X.K A1 G1 R H1 e1 σ x v → P x H1) → tEv X.K W f σ H P := fun P hP => ⟨pn, A, e, G, R, g, by unfold OcV; rw [hf]; exact fun b A' G' H' x g' r => hP b A' G' H' x g' r⟩
      have sh1 : ∀ (x : V) (A1 : LA) (G1 H1 : Hp), Ex G G1 → RelG X.K pn A1 e1 σ G1 R H1 → RepVal X.K A1 G1 R H1 e1 σ x v → ∃ d A2 e2 G2 ds, Ex G1 G2 ∧ RelG X.K pn A2 e2 σ G2 R H1 ∧ Rep X.K G2 x d ∧ shr v e1 = .ok (d, e2) ∧ itemsD d = some ds ∧ FinV X.K (rvI X.K) pn e2 σ G2 R ds Rr := fun x A1 G1 H1 x1 g1 r1 => by
        have oc2 := oc1.ext x1
        unfold bnd at oc2
        cases hs : shr v e1 with
        | err => rw [hs] at oc2; exact oc2.elim
        | ex y e2 => exact absurd hs shr_no
        | ok p =>
          obtain ⟨A2, G2, x2, g2, r2⟩ := g1.shr r1 (d := p.1) (e' := p.2) hs
          rw [hs] at oc2
          have oc3 : OcV X.K W (rvI X.K) pn σ R Rr G1 (opt (itemsD p.1) p.2) := oc2
          obtain ⟨ds, q3, fin⟩ := oc_optE oc3
          exact ⟨p.1, A2, p.2, G2, ds, x2, g2, r2, rfl, q3, fin.ext x2⟩
      have kind : ∃ d e2, shr v e1 = .ok (d, e2) ∧ ∃ ds, itemsD d = some ds := by
        have oc2 := oc1
        unfold bnd at oc2
        cases hs : shr v e1 with
        | err => rw [hs] at oc2; exact oc2.elim
        | ex y e2 => exact absurd hs shr_no
        | ok p =>
          rw [hs] at oc2
          have oc3 : OcV X.K W (rvI X.K) pn σ R Rr G (opt (itemsD p.1) p.2) := oc2
          obtain ⟨ds, q3, _⟩ := oc_optE oc3
          exact ⟨p.1, p.2, rfl, ds, q3⟩
      obtain ⟨d, e2, hs, ds, hd⟩ := kind
      cases d with
      | lst l =>
        refine .inl (mk _ fun x A1 G1 H1 x1 g1 r1 => ?_)
        obtain ⟨d', A2, e3, G2, ds', x2, g2, r2, hs', hd', fin⟩ := sh1 x A1 G1 H1 x1 g1 r1
        rw [hs] at hs'
        cases hs'
        cases hd'
        cases r2 with
        | lst hp ra => exact ⟨_, rfl, ⟨_, SqL.of (g2.gh _ _ hp)⟩, fin _ A2 G2 H1 (Ex.refl _) g2 (it_list hp ra)⟩
      | scr l =>
        refine .inl (mk _ fun x A1 G1 H1 x1 g1 r1 => ?_)
        obtain ⟨d', A2, e3, G2, ds', x2, g2, r2, hs', hd', fin⟩ := sh1 x A1 G1 H1 x1 g1 r1
        rw [hs] at hs'
        cases hs'
        cases hd'
        cases r2 with
        | scr hp => exact ⟨_, rfl, ⟨_, Evl.ex_l g2.gh hp⟩, fin _ A2 G2 H1 (Ex.refl _) g2 (it_scr hp)⟩
      | tup l =>
        refine .inr (.inl (mk _ fun x A1 G1 H1 x1 g1 r1 => ?_))
        obtain ⟨d', A2, e3, G2, ds', x2, g2, r2, hs', hd', fin⟩ := sh1 x A1 G1 H1 x1 g1 r1
        rw [hs] at hs'
        cases hs'
        cases hd'
        cases r2 with
        | tup hp ra => exact ⟨_, rfl, ⟨_, SqT.of (g2.gh _ _ hp)⟩, fin _ A2 G2 H1 (Ex.refl _) g2 (it_tup hp ra)⟩
      | str l =>
        refine .inr (.inr (mk _ fun x A1 G1 H1 x1 g1 r1 => ?_))
        obtain ⟨d', A2, e3, G2, ds', x2, g2, r2, hs', hd', fin⟩ := sh1 x A1 G1 H1 x1 g1 r1
        rw [hs] at hs'
        cases hs'
        cases hd'
        cases r2
        exact ⟨_, rfl, fin _ A2 G2 H1 (Ex.refl _) g2 it_str⟩
      | _ => cases hd
/-! ### range -/
@[irreducible] def rng1B : List D → Option (List D)
  | [.int j] => if -(2 ^ 62) ≤ j ∧ j < 2 ^ 62 then some (rngD 0 j.toNat) else none
  | _ => none
@[irreducible] def rng2B : List D → Option (List D)
  | [.int i, .int j] => if -(2 ^ 62) ≤ i ∧ i < 2 ^ 62 ∧ -(2 ^ 62) ≤ j ∧ j < 2 ^ 62 then some (rngD i (j - i).toNat) else none
  | _ => none
def rngC (g : List D → Option (List D)) (fs : List (M Val)) : M (List D) := bnd (argsC fs) fun vs => bnd (derAll vs) fun ds => opt (g ds)
theorem si_rng1 {x : Expr} {f : M Val} {p pos : Pos} (hg : Gl X "range") (hm : X.mg "range" = none) (hn : notStar x = true) (ha : PE X x (tEv X.K W f)) : PI X tg (.Call (.Name "range" p) [x] [] pos) (tIv X.K W (rngC rng1B [f])) :=
  PI_mono (pi_range1 hg hm (sa_args [x] [f] (by simp [hn]) (.cons ha .nil)) (star_cons hn)) fun σ H Rr q => by
    obtain ⟨pn, A, e, G, R, g, oc⟩ := q
    refine chain g oc fun ws vs A1 e1 G1 H1 x1 g1 r1 oc1 => ?_
    obtain ⟨es, r2, oc2⟩ := oc_derA g1 r1 oc1
    obtain ⟨ds, q3, fin⟩ := oc_optE oc2
    unfold rng1B at q3
    split at q3
    · split at q3
      · rename_i c
        cases q3
        obtain ⟨x, rfl, rx⟩ := rd1 r2
        cases rx
        exact ⟨_, rfl, c.1, c.2, fin _ A1 G1 H1 (Ex.refl _) g1 it_rng⟩
      · cases q3
    · cases q3
theorem si_rng2 {x y : Expr} {f f2 : M Val} {p pos : Pos} (hg : Gl X "range") (hm : X.mg "range" = none) (hn : notStar x = true) (hn2 : notStar y = true) (ha : PE X x (tEv X.K W f)) (hb : PE X y (tEv X.K W f2)) :
    PI X tg (.Call (.Name "range" p) [x, y] [] pos) (tIv X.K W (rngC rng2B [f, f2])) :=
  PI_mono (pi_range2 hg hm (sa_args [x, y] [f, f2] (by simp [hn, hn2]) (.cons ha (.cons hb .nil))) (by rw [star_cons hn, star_cons hn2]; rfl) (star_cons hn2)) fun σ H Rr q => by
    obtain ⟨pn, A, e, G, R, g, oc⟩ := q
    refine chain g oc fun ws vs A1 e1 G1 H1 x1 g1 r1 oc1 => ?_
    obtain ⟨es, r2, oc2⟩ := oc_derA g1 r1 oc1
    obtain ⟨ds, q3, fin⟩ := oc_optE oc2
    unfold rng2B at q3
    split at q3
    · split at q3
      · rename_i c
        cases q3
        obtain ⟨x, y, rfl, rx, ry⟩ := rd2 r2
        cases rx
        cases ry
        exact ⟨_, _, rfl, c, fin _ A1 G1 H1 (Ex.refl _) g1 it_rng⟩
      · cases q3
    · cases q3
end
end Qv
namespace Qv
open PySem L2
open Evl (Ex)

/-! ### enumerate, zip over lists and tuples in any mix -/
/-- a list (false) or a tuple (true) at a -/
def SqK (K : PySem.W.Frag) (t : Bool) (H : Hp) (a : Addr) (xs : List V) : Prop := if t then SqT K H a xs else SqL K H a xs
def IsK (t : Bool) (h : Heap) (a : Addr) (its : Array Value) : Prop := if t then h.IsTuple a its else h.IsList a its
def ItK (t : Bool) (h : Heap) (it a : Addr) (i : Nat) : Prop := if t then h.IsTupleIter it a i else h.IsListIter it a i
def obK (t : Bool) (a : Addr) : Obj := if t then { cls := .type "tuple_iterator", data := .fields #[.ref a, .int 0 0] } else { cls := .type "list_iterator", data := .fields #[.ref a, .int 0 0] }
theorem SqK.ex {K : PySem.W.Frag} {t : Bool} {H H' : Hp} {a : Addr} {xs : List V} (x : Ex H H') (h : SqK K t H a xs) : SqK K t H' a xs := by
  cases t
  · exact Evl.ex_l x h
  · exact Evl.ex_t x h
section
variable {X : Cx} {pins : List (Addr × Obj)} {σ : L2.St} {H : Hp} {s : Shared} {a : Addr} {xs : List V}
theorem inv_sq {t : Bool} (I : Inv X pins σ H s) (h : SqK X.K t H a xs) : ∃ its : List Value, Vals xs its ∧ IsK t s.heap a its.toArray ∧ xs.length ≤ sizeLine ∧ a < s.heap.objs.size := by
  cases t
  · obtain ⟨its, rv, p, hz⟩ := I.list h
    exact ⟨its, rv, p.isList, hz, p.lt⟩
  · obtain ⟨its, rv, p, hz⟩ := I.tuple h
    exact ⟨its, rv, p, hz, p.lt⟩
theorem inv_inj {t : Bool} {ys : List V} (I : Inv X pins σ H s) (h : SqK X.K t H a xs) (h' : SqK X.K t H a ys) : xs = ys := by
  cases t
  · exact I.list_inj h h'
  · exact I.tuple_inj h h'
end
theorem ItK.obj {t : Bool} {h : Heap} {it a : Addr} {i : Nat} (x : ItK t h it a i) : ∃ o, h.get? it = some o ∧ ∀ v, o.data ≠ .cell v := by
  cases t
  · obtain ⟨o, ho, hc, hd⟩ := x
    exact ⟨o, ho, fun v q => by rw [hd] at q; cases q⟩
  · obtain ⟨o, ho, hc, hd⟩ := x
    exact ⟨o, ho, fun v q => by rw [hd] at q; cases q⟩
theorem ItK.at {t : Bool} {h h' : Heap} {it a : Addr} {i : Nat} (x : ItK t h it a i) (k : ∀ o, h.get? it = some o → h'.get? it = some o) : ItK t h' it a i := by
  cases t
  · exact Heap.IsListIter.at x k
  · exact Heap.IsTupleIter.at x k
theorem drawsK {prog : Program} {w : World} {A : Around} (t : Bool) (hh : A.handled = none) (it l : Addr) (hne : l ≠ it) (items : Array Value) :
    Draws prog w A it [it, l] items.size (fun i v => items[i]? = some v) (fun i h => ItK t h it l i ∧ IsK t h l items) := by
  cases t
  · exact .list hh it l hne items
  · exact .tuple hh it l hne items
theorem beginsK (t : Bool) (l : Addr) (items : Array Value) : Begins (.ref l) (obK t l) fun h => IsK t h l items := by
  cases t
  · exact begins_list l items
  · exact begins_tuple l items
theorem obK_it {t : Bool} {h : Heap} {it a : Addr} (e : h.get? it = some (obK t a)) : ItK t h it a 0 := by
  cases t
  · exact ⟨_, e, rfl, rfl⟩
  · exact ⟨_, e, rfl, rfl⟩
/-- an iterator of new tuples -/
def Itn (yi : Nat → Hp → List V → Prop) (go stop : Nat → Hp → Prop) : It := ⟨go, fun i H v H' => ∃ T xs, v = .ref T ∧ H T = none ∧ H' = upd H T (.tup xs) ∧ yi i H xs, stop⟩
/-- enumerate -/
def yEn (K : PySem.W.Frag) (t : Bool) (a : Addr) (i : Nat) (H : Hp) (xs : List V) : Prop := ∃ x, (∀ ys, SqK K t H a ys → ys[i]? = some x) ∧ xs = [.int (i : Nat), x]
def JEn (K : PySem.W.Frag) (t : Bool) (a : Addr) : It := Itn (yEn K t a) (fun i H => ∃ ys x, SqK K t H a ys ∧ ys[i]? = some x) fun i H => ∃ ys : List V, SqK K t H a ys ∧ i = ys.length
theorem turn_enK {P : Program} {w : World} {K : PySem.W.Frag} {elts : List Expr} {kk : Nat} {tpos : Pos} (t : Bool) (a e it : Addr) :
    Turn P w K (.Tuple elts kk tpos) (JEn K t a) [e, it] e (fun i h => (∃ old, IsEnum h e it ((i : Nat) : Int) old) ∧ ItK t h it a i ∧ e ≠ it ∧ a ≠ it ∧ a ≠ e) where
  mem := by simp
  obj := fun i h st b hb => by
    obtain ⟨⟨old, he⟩, hi, _⟩ := st
    have e' : b = e ∨ b = it := by simpa using hb
    rcases e' with z | z
    · subst z; exact ⟨_, he, fun v q => nomatch q⟩
    · subst z; exact hi.obj
  keep := fun i h h' st k => let ⟨⟨old, he⟩, hi, hne⟩ := st; ⟨⟨old, k e (by simp) _ he⟩, hi.at fun o q => k it (by simp) o q, hne⟩
  item := by
    intro X hP hw hK hc i pins s σ H E I hf st hg
    subst hP hw hK
    obtain ⟨ys, x, hq, hx⟩ := hg
    obtain ⟨⟨old, he⟩, hi, hne, hne2, hne3⟩ := st
    obtain ⟨its, rv, p, hz, hlt⟩ := inv_sq I hq
    obtain ⟨u, hu, ru⟩ := rv.get hx
    have W := GoesN.enumFrom (prog := X.prog) (w := X.w) (A := X.A) (elts := elts) (x1 := kk) (pos := tpos) 0 (drawsK t (A := X.A.in1) (I.ok.hd hc) it a hne2 its.toArray) e hne (by simp; exact ⟨hne, Ne.symm hne3⟩) (by simp)
    have hlen : i < its.toArray.size := by
      have := (List.getElem?_eq_some_iff.mp hu).1
      simpa using this
    refine W.goes i s _ E hlen ⟨⟨old, by rw [Int.zero_add]; exact he⟩, hi, p⟩ fun v h' tk hY st' hk htk => ?_
    obtain ⟨T, t', x', rfl, hT, hx', hTup⟩ := hY
    obtain ⟨⟨old', he'⟩, hi', p'⟩ := st'
    have hxu : x' = u := by
      have : its[i]? = some x' := by simpa using hx'
      rw [hu] at this
      exact (Option.some.inj this).symm
    subst hxu
    have new : ObjOk X.prog X.w (upd H T (.tup [.int (i : Nat), x])) h' T (.tup [.int (i : Nat), x]) :=
      ⟨by show 2 ≤ sizeLine; decide, [.int (0 + (i : Int)) t', x'], .cons ⟨t', by rw [Int.zero_add]⟩ (.cons ru .nil), hTup⟩
    have I1 := I.turnedNew (t' := tk) (ch := [e, it]) hk hf hT new
    refine ⟨.ref T, _, I1, rfl, ⟨T, _, rfl, I.hok.fresh hT, rfl, x, fun ys' hy => by rw [inv_inj I hy hq]; exact hx, rfl⟩, ⟨⟨old', ?_⟩, hi', hne, hne2, hne3⟩, fun b hb => ?_⟩
    · rw [Int.zero_add] at he'; exact he'
    · have hb' : b < s.heap.objs.size := by
        have e' : b = e ∨ b = it := by simpa using hb
        rcases e' with z | z
        · rw [z]; exact Heap.lt_size he
        · rw [z]; obtain ⟨o, ho, _⟩ := hi.obj; exact Heap.lt_size ho
      rw [upd_ne (Nat.ne_of_lt (Nat.lt_of_lt_of_le hb' hT))]
      exact (hf b hb).1
  done := by
    intro X hP hw hK hc i pins s σ H E I hf st hg
    subst hP hw hK
    obtain ⟨ys, hq, hx⟩ := hg
    obtain ⟨⟨old, he⟩, hi, hne, hne2, hne3⟩ := st
    obtain ⟨its, rv, p, hz, hlt⟩ := inv_sq I hq
    have W := GoesN.enumFrom (prog := X.prog) (w := X.w) (A := X.A) (elts := elts) (x1 := kk) (pos := tpos) 0 (drawsK t (A := X.A.in1) (I.ok.hd hc) it a hne2 its.toArray) e hne (by simp; exact ⟨hne, Ne.symm hne3⟩) (by simp)
    have hn : i = its.toArray.size := by rw [hx, rv.length]; simp
    rw [hn] at he hi
    exact W.stops s _ E ⟨⟨old, by rw [Int.zero_add]; exact he⟩, hi, p⟩ fun h' tk hk htk => I.turnedL (ch := [e, it]) hk hf
  self := fun A i s Q E st h => let ⟨⟨_, he⟩, _⟩ := st; wpAny_pyIter_enum he h
/-- zip of two -/
def yZ2 (K : PySem.W.Frag) (t u : Bool) (a b : Addr) (i : Nat) (H : Hp) (zs : List V) : Prop := ∃ x y, (∀ xs, SqK K t H a xs → xs[i]? = some x) ∧ (∀ ys, SqK K u H b ys → ys[i]? = some y) ∧ zs = [x, y]
def JZ2 (K : PySem.W.Frag) (t u : Bool) (a b : Addr) : It := Itn (yZ2 K t u a b) (fun i H => ∃ xs ys x y, SqK K t H a xs ∧ SqK K u H b ys ∧ xs[i]? = some x ∧ ys[i]? = some y) fun i H => ∃ xs ys : List V, SqK K t H a xs ∧ SqK K u H b ys ∧ i = min xs.length ys.length
theorem turn_z2K {P : Program} {w : World} {K : PySem.W.Frag} {elts : List Expr} {kk : Nat} {tpos : Pos} (t u : Bool) (a b z TI TO i1 i2 : Addr) (S : ZipSep2 z TI TO i1 i2 [i1, a] [i2, b]) (ha : a ≠ i1) (hb : b ≠ i2) :
    Turn P w K (.Tuple elts kk tpos) (JZ2 K t u a b) [z, TI, TO, i1, i2] z (fun i h => IsZip h z TI TO .none ∧ IsTupOf2 h TI (.ref i1) (.ref i2) ∧ (∃ a1 a2, IsTupOf2 h TO a1 a2) ∧ ItK t h i1 a i ∧ ItK u h i2 b i) where
  mem := by simp
  obj := fun i h st c hc => by
    obtain ⟨hz, hTI, ⟨a1, a2, hTO⟩, h1, h2⟩ := st
    have e' : c = z ∨ c = TI ∨ c = TO ∨ c = i1 ∨ c = i2 := by simpa using hc
    rcases e' with q | q | q | q | q
    · subst q; exact ⟨_, hz, fun v q => nomatch q⟩
    · subst q; exact ⟨_, hTI, fun v q => nomatch q⟩
    · subst q; exact ⟨_, hTO, fun v q => nomatch q⟩
    · subst q; exact h1.obj
    · subst q; exact h2.obj
  keep := fun i h h' st k => by
    obtain ⟨hz, hTI, ⟨a1, a2, hTO⟩, h1, h2⟩ := st
    exact ⟨k z (by simp) _ hz, k TI (by simp) _ hTI, ⟨a1, a2, k TO (by simp) _ hTO⟩, h1.at fun o q => k i1 (by simp) o q, h2.at fun o q => k i2 (by simp) o q⟩
  item := by
    intro X hP hw hK hc i pins s σ H E I hf st hg
    subst hP hw hK
    obtain ⟨xs, ys, x, y, hqx, hqy, hx, hy⟩ := hg
    obtain ⟨hz, hTI, hTO, h1, h2⟩ := st
    obtain ⟨its, rv, p, _, _⟩ := inv_sq I hqx
    obtain ⟨its2, rv2, p2, _, _⟩ := inv_sq I hqy
    obtain ⟨v1, hv1, r1⟩ := rv.get hx
    obtain ⟨v2, hv2, r2⟩ := rv2.get hy
    have W := GoesN.zip2 (prog := X.prog) (w := X.w) (A := X.A) (elts := elts) (x1 := kk) (pos := tpos) S (drawsK t (A := X.A.in1) (I.ok.hd hc) i1 a ha its.toArray) (drawsK u (A := X.A.in1) (I.ok.hd hc) i2 b hb its2.toArray)
    have hl1 : i < its.toArray.size := by
      have := (List.getElem?_eq_some_iff.mp hv1).1
      simpa using this
    have hl2 : i < its2.toArray.size := by
      have := (List.getElem?_eq_some_iff.mp hv2).1
      simpa using this
    refine W.goes i s _ E (by omega) ⟨hz, hTI, hTO, ⟨h1, p⟩, h2, p2⟩ fun v h' tk hY st' hk htk => ?_
    obtain ⟨T, x', y', rfl, hT, hx', hy', hTup⟩ := hY
    obtain ⟨hz', hTI', hTO', ⟨h1', _⟩, h2', _⟩ := st'
    have e1 : x' = v1 := by
      have : its[i]? = some x' := by simpa using hx'
      rw [hv1] at this
      exact (Option.some.inj this).symm
    have e2 : y' = v2 := by
      have : its2[i]? = some y' := by simpa using hy'
      rw [hv2] at this
      exact (Option.some.inj this).symm
    subst e1 e2
    have new : ObjOk X.prog X.w (upd H T (.tup [x, y])) h' T (.tup [x, y]) := ⟨by show 2 ≤ sizeLine; decide, [x', y'], .cons r1 (.cons r2 .nil), hTup⟩
    have I1 := I.turnedNew (t' := tk) (ch := [z, TI, TO, i1, i2]) (fun c o hb q => hk c o (fun m => hb (by
      have e' : c = z ∨ c = TO ∨ c = i1 ∨ c = i2 := by simpa using m
      rcases e' with q | q | q | q <;> simp [q])) q) hf hT new
    refine ⟨.ref T, _, I1, rfl, ⟨T, _, rfl, I.hok.fresh hT, rfl, x, y, fun ys' h' => by rw [inv_inj I h' hqx]; exact hx, fun ys' h' => by rw [inv_inj I h' hqy]; exact hy, rfl⟩, ⟨hz', hTI', hTO', h1', h2'⟩, fun c hcm => ?_⟩
    have hc' : c < s.heap.objs.size := by
      have e' : c = z ∨ c = TI ∨ c = TO ∨ c = i1 ∨ c = i2 := by simpa using hcm
      rcases e' with q | q | q | q | q
      · rw [q]; exact Heap.lt_size hz
      · rw [q]; exact Heap.lt_size hTI
      · rw [q]; obtain ⟨_, _, e⟩ := hTO; exact Heap.lt_size e
      · rw [q]; obtain ⟨o, ho, _⟩ := h1.obj; exact Heap.lt_size ho
      · rw [q]; obtain ⟨o, ho, _⟩ := h2.obj; exact Heap.lt_size ho
    rw [upd_ne (Nat.ne_of_lt (Nat.lt_of_lt_of_le hc' hT))]
    exact (hf c hcm).1
  done := by
    intro X hP hw hK hc i pins s σ H E I hf st hg
    subst hP hw hK
    obtain ⟨xs, ys, hqx, hqy, hx⟩ := hg
    obtain ⟨hz, hTI, hTO, h1, h2⟩ := st
    obtain ⟨its, rv, p, _, _⟩ := inv_sq I hqx
    obtain ⟨its2, rv2, p2, _, _⟩ := inv_sq I hqy
    have W := GoesN.zip2 (prog := X.prog) (w := X.w) (A := X.A) (elts := elts) (x1 := kk) (pos := tpos) S (drawsK t (A := X.A.in1) (I.ok.hd hc) i1 a ha its.toArray) (drawsK u (A := X.A.in1) (I.ok.hd hc) i2 b hb its2.toArray)
    have hn : i = min its.toArray.size its2.toArray.size := by rw [hx, rv.length, rv2.length]; simp
    rw [hn] at h1 h2
    exact W.stops s _ E ⟨hz, hTI, hTO, ⟨h1, p⟩, h2, p2⟩ fun h' tk hk htk => I.turnedL (ch := [z, TI, TO, i1, i2]) (fun c o hb q => hk c o (fun m => hb (by
      have e' : c = z ∨ c = TO ∨ c = i1 ∨ c = i2 := by simpa using m
      rcases e' with q | q | q | q <;> simp [q])) q) hf
  self := fun A i s Q E st h => wpAny_pyIter_zip st.1 h
/-- zip of three -/
def yZ3 (K : PySem.W.Frag) (t u v : Bool) (a b c : Addr) (i : Nat) (H : Hp) (ws : List V) : Prop := ∃ x y z, (∀ xs, SqK K t H a xs → xs[i]? = some x) ∧ (∀ ys, SqK K u H b ys → ys[i]? = some y) ∧ (∀ zs, SqK K v H c zs → zs[i]? = some z) ∧ ws = [x, y, z]
def JZ3 (K : PySem.W.Frag) (t u v : Bool) (a b c : Addr) : It := Itn (yZ3 K t u v a b c) (fun i H => ∃ xs ys zs x y z, SqK K t H a xs ∧ SqK K u H b ys ∧ SqK K v H c zs ∧ xs[i]? = some x ∧ ys[i]? = some y ∧ zs[i]? = some z)
  fun i H => ∃ xs ys zs : List V, SqK K t H a xs ∧ SqK K u H b ys ∧ SqK K v H c zs ∧ i = min (min xs.length ys.length) zs.length
theorem turn_z3K {P : Program} {w : World} {K : PySem.W.Frag} {elts : List Expr} {kk : Nat} {tpos : Pos} (t u v : Bool) (a b c z TI TO i1 i2 i3 : Addr) (S : ZipSep3 z TI TO i1 i2 i3 [i1, a] [i2, b] [i3, c]) (ha : a ≠ i1) (hb : b ≠ i2) (hc3 : c ≠ i3) :
    Turn P w K (.Tuple elts kk tpos) (JZ3 K t u v a b c) [z, TI, TO, i1, i2, i3] z (fun i h => IsZip h z TI TO .none ∧ IsTupOf3 h TI (.ref i1) (.ref i2) (.ref i3) ∧ (∃ a1 a2 a3, IsTupOf3 h TO a1 a2 a3) ∧ ItK t h i1 a i ∧ ItK u h i2 b i ∧ ItK v h i3 c i) where
  mem := by simp
  obj := fun i h st d hd => by
    obtain ⟨hz, hTI, ⟨a1, a2, a3, hTO⟩, h1, h2, h3⟩ := st
    have e' : d = z ∨ d = TI ∨ d = TO ∨ d = i1 ∨ d = i2 ∨ d = i3 := by simpa using hd
    rcases e' with q | q | q | q | q | q
    · subst q; exact ⟨_, hz, fun v q => nomatch q⟩
    · subst q; exact ⟨_, hTI, fun v q => nomatch q⟩
    · subst q; exact ⟨_, hTO, fun v q => nomatch q⟩
    · subst q; exact h1.obj
    · subst q; exact h2.obj
    · subst q; exact h3.obj
  keep := fun i h h' st k => by
    obtain ⟨hz, hTI, ⟨a1, a2, a3, hTO⟩, h1, h2, h3⟩ := st
    exact ⟨k z (by simp) _ hz, k TI (by simp) _ hTI, ⟨a1, a2, a3, k TO (by simp) _ hTO⟩, h1.at fun o q => k i1 (by simp) o q, h2.at fun o q => k i2 (by simp) o q, h3.at fun o q => k i3 (by simp) o q⟩
  item := by
    intro X hP hw hK hc i pins s σ H E I hf st hg
    subst hP hw hK
    obtain ⟨xs, ys, zs, x, y, z3, hqx, hqy, hqz, hx, hy, hz3⟩ := hg
    obtain ⟨hz, hTI, hTO, h1, h2, h3⟩ := st
    obtain ⟨its, rv, p, _, _⟩ := inv_sq I hqx
    obtain ⟨its2, rv2, p2, _, _⟩ := inv_sq I hqy
    obtain ⟨its3, rv3, p3, _, _⟩ := inv_sq I hqz
    obtain ⟨v1, hv1, r1⟩ := rv.get hx
    obtain ⟨v2, hv2, r2⟩ := rv2.get hy
    obtain ⟨v3, hv3, r3⟩ := rv3.get hz3
    have W := GoesN.zip3 (prog := X.prog) (w := X.w) (A := X.A) (elts := elts) (x1 := kk) (pos := tpos) S (drawsK t (A := X.A.in1) (I.ok.hd hc) i1 a ha its.toArray) (drawsK u (A := X.A.in1) (I.ok.hd hc) i2 b hb its2.toArray) (drawsK v (A := X.A.in1) (I.ok.hd hc) i3 c hc3 its3.toArray)
    have hl1 : i < its.toArray.size := by
      have := (List.getElem?_eq_some_iff.mp hv1).1
      simpa using this
    have hl2 : i < its2.toArray.size := by
      have := (List.getElem?_eq_some_iff.mp hv2).1
      simpa using this
    have hl3 : i < its3.toArray.size := by
      have := (List.getElem?_eq_some_iff.mp hv3).1
      simpa using this
    refine W.goes i s _ E (by omega) ⟨hz, hTI, hTO, ⟨h1, p⟩, ⟨h2, p2⟩, h3, p3⟩ fun v h' tk hY st' hk htk => ?_
    obtain ⟨T, x', y', z', rfl, hT, hx', hy', hz', hTup⟩ := hY
    obtain ⟨hz2', hTI', hTO', ⟨h1', _⟩, ⟨h2', _⟩, h3', _⟩ := st'
    have e1 : x' = v1 := by
      have : its[i]? = some x' := by simpa using hx'
      rw [hv1] at this
      exact (Option.some.inj this).symm
    have e2 : y' = v2 := by
      have : its2[i]? = some y' := by simpa using hy'
      rw [hv2] at this
      exact (Option.some.inj this).symm
    have e3 : z' = v3 := by
      have : its3[i]? = some z' := by simpa using hz'
      rw [hv3] at this
      exact (Option.some.inj this).symm
    subst e1 e2 e3
    have new : ObjOk X.prog X.w (upd H T (.tup [x, y, z3])) h' T (.tup [x, y, z3]) := ⟨by show 3 ≤ sizeLine; decide, [x', y', z'], .cons r1 (.cons r2 (.cons r3 .nil)), hTup⟩
    have I1 := I.turnedNew (t' := tk) (ch := [z, TI, TO, i1, i2, i3]) (fun d o hb q => hk d o (fun m => hb (by
      have e' : d = z ∨ d = TO ∨ d = i1 ∨ d = i2 ∨ d = i3 := by simpa using m
      rcases e' with q | q | q | q | q <;> simp [q])) q) hf hT new
    refine ⟨.ref T, _, I1, rfl, ⟨T, _, rfl, I.hok.fresh hT, rfl, x, y, z3, fun ys' h' => by rw [inv_inj I h' hqx]; exact hx, fun ys' h' => by rw [inv_inj I h' hqy]; exact hy, fun ys' h' => by rw [inv_inj I h' hqz]; exact hz3, rfl⟩, ⟨hz2', hTI', hTO', h1', h2', h3'⟩, fun d hdm => ?_⟩
    have hc' : d < s.heap.objs.size := by
      have e' : d = z ∨ d = TI ∨ d = TO ∨ d = i1 ∨ d = i2 ∨ d = i3 := by simpa using hdm
      rcases e' with q | q | q | q | q | q
      · rw [q]; exact Heap.lt_size hz
      · rw [q]; exact Heap.lt_size hTI
      · rw [q]; obtain ⟨_, _, _, e⟩ := hTO; exact Heap.lt_size e
      · rw [q]; obtain ⟨o, ho, _⟩ := h1.obj; exact Heap.lt_size ho
      · rw [q]; obtain ⟨o, ho, _⟩ := h2.obj; exact Heap.lt_size ho
      · rw [q]; obtain ⟨o, ho, _⟩ := h3.obj; exact Heap.lt_size ho
    rw [upd_ne (Nat.ne_of_lt (Nat.lt_of_lt_of_le hc' hT))]
    exact (hf d hdm).1
  done := by
    intro X hP hw hK hc i pins s σ H E I hf st hg
    subst hP hw hK
    obtain ⟨xs, ys, zs, hqx, hqy, hqz, hx⟩ := hg
    obtain ⟨hz, hTI, hTO, h1, h2, h3⟩ := st
    obtain ⟨its, rv, p, _, _⟩ := inv_sq I hqx
    obtain ⟨its2, rv2, p2, _, _⟩ := inv_sq I hqy
    obtain ⟨its3, rv3, p3, _, _⟩ := inv_sq I hqz
    have W := GoesN.zip3 (prog := X.prog) (w := X.w) (A := X.A) (elts := elts) (x1 := kk) (pos := tpos) S (drawsK t (A := X.A.in1) (I.ok.hd hc) i1 a ha its.toArray) (drawsK u (A := X.A.in1) (I.ok.hd hc) i2 b hb its2.toArray) (drawsK v (A := X.A.in1) (I.ok.hd hc) i3 c hc3 its3.toArray)
    have hn : i = min (min its.toArray.size its2.toArray.size) its3.toArray.size := by rw [hx, rv.length, rv2.length, rv3.length]; simp
    rw [hn] at h1 h2 h3
    exact W.stops s _ E ⟨hz, hTI, hTO, ⟨h1, p⟩, ⟨h2, p2⟩, h3, p3⟩ fun h' tk hk htk => I.turnedL (ch := [z, TI, TO, i1, i2, i3]) (fun d o hb q => hk d o (fun m => hb (by
      have e' : d = z ∨ d = TO ∨ d = i1 ∨ d = i2 ∨ d = i3 := by simpa using m
      rcases e' with q | q | q | q | q <;> simp [q])) q) hf
  self := fun A i s Q E st h => wpAny_pyIter_zip st.1 h
end Qv
namespace Qv
open PySem L2
open Evl (Ex)

theorem fpNew {X : Cx} {pins : List (Addr × Obj)} {σ : L2.St} {H : Hp} {s : Shared} {h' : Heap} {l : List Addr} (I : Inv X pins σ H s) (h : ∀ b ∈ l, s.heap.objs.size ≤ b) : ∀ b ∈ l, FpOk X pins H b := fun b hb => I.fpOk (h b hb) (I.hok.fresh (h b hb))
def iEnK (K : PySem.W.Frag) (ta : TA) : TI := fun σ H R => ta σ H fun vs H1 => ∃ t a xs, vs = [.ref a] ∧ SqK K t H1 a xs ∧ R (JEn K t a) H1
def iZ2K (K : PySem.W.Frag) (ta : TA) : TI := fun σ H R => ta σ H fun vs H1 => ∃ t u a b xs ys, vs = [.ref a, .ref b] ∧ SqK K t H1 a xs ∧ SqK K u H1 b ys ∧ R (JZ2 K t u a b) H1
def iZ3K (K : PySem.W.Frag) (ta : TA) : TI := fun σ H R => ta σ H fun vs H1 => ∃ t u v a b c xs ys zs, vs = [.ref a, .ref b, .ref c] ∧ SqK K t H1 a xs ∧ SqK K u H1 b ys ∧ SqK K v H1 c zs ∧ R (JZ3 K t u v a b c) H1
/-- enumerate.__new__ over whatever begins -/
theorem enum_new1 {v : Value} {ob : Obj} {Hh : Heap → Prop} (B : Begins v ob Hh) :
    Meets (Builtin.«enumerate.__new__» ⟨[.type "enumerate", v], []⟩) (fun _ R z => Hh z.heap ∧
      R (.ok (.ret (.ref (z.heap.push ob).objs.size)))
        { z with heap := (z.heap.push ob).push { cls := .type "enumerate", data := .fields #[.none, .bool false, .ref z.heap.objs.size, rawInt 0, .none, .none] } }) :=
  .of_wp fun prog w A R z hyp => by
    obtain ⟨hp, gs, dr, tk, os⟩ := z
    obtain ⟨hB, hR⟩ := hyp
    have subE := sub_enumerate
    have itB : ∀ {A' : Around} {E' : Value → Shared → Prop} {Q' : Value → Shared → Prop}, Q' (.ref hp.objs.size) ⟨hp.push ob, gs, dr, tk, os⟩ → wpAny (model prog w) A' (pyIter v) Q' E' ⟨hp, gs, dr, tk, os⟩ :=
      fun q' => B.iter prog w _ _ ⟨hp, gs, dr, tk, os⟩ _ hB q'
    wp_walk using itB
    refine wpAny_stack_any fun _ => wpAny_pure ?_
    split
    · rename_i cl _ _ _ _ _
      cases (cl == Value.type "enumerate")
      all_goals
        wp_walk using itB
        exact ⟨_, rfl, hR⟩
    · wp_walk using itB
      exact ⟨_, rfl, hR⟩
theorem enum_beginsK {prog : Program} {w : World} {A : Around} {E : Value → Shared → Prop} {s : Shared} (t : Bool) {l : Addr} {its : Array Value} {Q : Value → Shared → Prop} (h1 : IsK t s.heap l its)
    (h : ∀ h', IsEnum h' (s.heap.objs.size + 1) s.heap.objs.size 0 .none → ItK t h' s.heap.objs.size l 0 → (∀ b o, s.heap.get? b = some o → h'.get? b = some o) → Q (.ref (s.heap.objs.size + 1)) { s with heap := h' }) :
    wpAny (model prog w) A (call (.type "enumerate") [.ref l]) Q E s := by
  have B := beginsK t l its
  refine callType_new F.called_enumerate (by decide) (F.typeCall_enumerate_1 _) (F.newCall_enumerate_1 _) (fun obj => F.args_object_init_2 obj _) F.entry_enumerate_new (enum_new1 B) ⟨h1, ?_⟩
  have sz : (s.heap.push (obK t l)).objs.size = s.heap.objs.size + 1 := Heap.size_push ..
  have he := Heap.get?_push_size (s.heap.push (obK t l)) (o := { cls := .type "enumerate", data := .fields #[.none, .bool false, .ref s.heap.objs.size, rawInt 0, .none, .none] }) rfl
  rw [sz] at he
  show _ ∧ _
  rw [sz]
  exact ⟨⟨_, he, rfl⟩, h _ he (obK_it (Heap.get?_push_of_some _ (Heap.get?_push_size _ B.free))) fun b o q => Heap.get?_push_of_some _ (Heap.get?_push_of_some _ q)⟩
section
variable {X : Cx}
theorem pi_z2K {e e2 : Expr} {ta : TA} {p pos tpos : Pos} {elts : List Expr} {kk : Nat} (hg : Gl X "zip") (hm : X.mg "zip" = none) (ha : PA X [e, e2] ta)
    (hs : starEach [e, e2] X.env = (false, eval e X.env) :: starEach [e2] X.env) (hpl : (backTo pos (starEach [e2] X.env)).any (·.1) = false) :
    PI X (.Tuple elts kk tpos) (.Call (.Name "zip" p) [e, e2] [] pos) (iZ2K X.K ta) := by
  refine ⟨fun pins s σ H R I h => ?_⟩
  refine PyProof.Rows.Call_ (ld_blt I hg hm PyProof.Rows.boot_zip (PyProof.Rows.callWith_type1 (thn (ha.run pos pins s σ H _ I h) fun us s1 ⟨vs, H1, I1, r1, q1⟩ => ?_) hs hpl))
  obtain ⟨t, u, a, b, xs, ys, ev, hqx, hqy, q⟩ := q1
  subst ev
  obtain ⟨u1, u2, rfl, z1, z2⟩ := vals2 r1
  cases z1
  cases z2
  obtain ⟨its, rv, p1, _, l1⟩ := inv_sq I1 hqx
  obtain ⟨its2, rv2, p2, _, l2⟩ := inv_sq I1 hqy
  refine zip_begins2 (beginsK t a its.toArray) (beginsK u b its2.toArray) p1 p2 fun h' hz hTI hTO g1 g2 hsz hk => wpAny_pyIter_zip hz ?_
  have I2 : Inv X pins σ H1 { s1 with heap := h' } := I1.kept (t' := s1.toks) hk
  have na : a ≠ s1.heap.objs.size := Nat.ne_of_lt l1
  have nb : b ≠ s1.heap.objs.size + 1 := Nat.ne_of_lt (Nat.lt_succ_of_lt l2)
  refine ⟨s1.heap.objs.size + 4, [s1.heap.objs.size + 4, s1.heap.objs.size + 2, s1.heap.objs.size + 3, s1.heap.objs.size, s1.heap.objs.size + 1], _, _, H1, rfl, I2,
    turn_z2K t u a b _ _ _ _ _ (zip_sep2 (N := s1.heap.objs.size) (fp1 := [a]) (fp2 := [b]) (by simpa using l1) (by simpa using l2)) na nb, ⟨hz, hTI, ⟨_, _, hTO⟩, obK_it g1, obK_it g2⟩, fpNew (h' := h') I1 ?_, q⟩
  intro c hc
  have e' : c = s1.heap.objs.size + 4 ∨ c = s1.heap.objs.size + 2 ∨ c = s1.heap.objs.size + 3 ∨ c = s1.heap.objs.size ∨ c = s1.heap.objs.size + 1 := by simpa using hc
  rcases e' with z | z | z | z | z <;> (rw [z]; first | exact Nat.le_add_right _ _ | exact Nat.le_refl _)
theorem pi_z3K {e e2 e3 : Expr} {ta : TA} {p pos tpos : Pos} {elts : List Expr} {kk : Nat} (hg : Gl X "zip") (hm : X.mg "zip" = none) (ha : PA X [e, e2, e3] ta)
    (hs : starEach [e, e2, e3] X.env = (false, eval e X.env) :: starEach [e2, e3] X.env) (hpl : (backTo pos (starEach [e2, e3] X.env)).any (·.1) = false) :
    PI X (.Tuple elts kk tpos) (.Call (.Name "zip" p) [e, e2, e3] [] pos) (iZ3K X.K ta) := by
  refine ⟨fun pins s σ H R I h => ?_⟩
  refine PyProof.Rows.Call_ (ld_blt I hg hm PyProof.Rows.boot_zip (PyProof.Rows.callWith_type1 (thn (ha.run pos pins s σ H _ I h) fun us s1 ⟨vs, H1, I1, r1, q1⟩ => ?_) hs hpl))
  obtain ⟨t, u, v, a, b, c, xs, ys, zs, ev, hqx, hqy, hqz, q⟩ := q1
  subst ev
  obtain ⟨u1, u2, u3, rfl, z1, z2, z3⟩ : ∃ u1 u2 u3, us = [u1, u2, u3] ∧ RelV (.ref a) u1 ∧ RelV (.ref b) u2 ∧ RelV (.ref c) u3 := by
    cases r1 with
    | cons x1 r =>
      cases r with
      | cons x2 r =>
        cases r with
        | cons x3 r => cases r; exact ⟨_, _, _, rfl, x1, x2, x3⟩
  cases z1
  cases z2
  cases z3
  obtain ⟨its, rv, p1, _, l1⟩ := inv_sq I1 hqx
  obtain ⟨its2, rv2, p2, _, l2⟩ := inv_sq I1 hqy
  obtain ⟨its3, rv3, p3, _, l3⟩ := inv_sq I1 hqz
  refine zip_begins3 (beginsK t a its.toArray) (beginsK u b its2.toArray) (beginsK v c its3.toArray) p1 p2 p3 fun h' hz hTI hTO g1 g2 g3 hsz hk => wpAny_pyIter_zip hz ?_
  have I2 : Inv X pins σ H1 { s1 with heap := h' } := I1.kept (t' := s1.toks) hk
  have na : a ≠ s1.heap.objs.size := Nat.ne_of_lt l1
  have nb : b ≠ s1.heap.objs.size + 1 := Nat.ne_of_lt (Nat.lt_succ_of_lt l2)
  have nc : c ≠ s1.heap.objs.size + 2 := Nat.ne_of_lt (Nat.lt_succ_of_lt (Nat.lt_succ_of_lt l3))
  refine ⟨s1.heap.objs.size + 5, [s1.heap.objs.size + 5, s1.heap.objs.size + 3, s1.heap.objs.size + 4, s1.heap.objs.size, s1.heap.objs.size + 1, s1.heap.objs.size + 2], _, _, H1, rfl, I2,
    turn_z3K t u v a b c _ _ _ _ _ _ (zip_sep3 (N := s1.heap.objs.size) (fp1 := [a]) (fp2 := [b]) (fp3 := [c]) (by simpa using l1) (by simpa using l2) (by simpa using l3)) na nb nc, ⟨hz, hTI, ⟨_, _, _, hTO⟩, obK_it g1, obK_it g2, obK_it g3⟩, fpNew (h' := h') I1 ?_, q⟩
  intro d hd
  have e' : d = s1.heap.objs.size + 5 ∨ d = s1.heap.objs.size + 3 ∨ d = s1.heap.objs.size + 4 ∨ d = s1.heap.objs.size ∨ d = s1.heap.objs.size + 1 ∨ d = s1.heap.objs.size + 2 := by simpa using hd
  rcases e' with z | z | z | z | z | z <;> (rw [z]; first | exact Nat.le_add_right _ _ | exact Nat.le_refl _)
theorem pi_enK {e : Expr} {ta : TA} {p pos tpos : Pos} {elts : List Expr} {kk : Nat} (hg : Gl X "enumerate") (hm : X.mg "enumerate" = none) (ha : PA X [e] ta) (hs : starEach [e] X.env = [(false, eval e X.env)]) :
    PI X (.Tuple elts kk tpos) (.Call (.Name "enumerate" p) [e] [] pos) (iEnK X.K ta) := by
  refine ⟨fun pins s σ H R I h => ?_⟩
  refine PyProof.Rows.Call_ (ld_blt I hg hm PyProof.Rows.boot_enumerate (PyProof.Rows.callWith_type1 (thn (ha.run pos pins s σ H _ I h) fun us s1 ⟨vs, H1, I1, r1, q1⟩ => ?_) hs rfl))
  obtain ⟨t, a, xs, ev, hq, q⟩ := q1
  subst ev
  obtain ⟨u, rfl, z⟩ := vals1 r1
  cases z
  obtain ⟨its, rv, p1, _, l1⟩ := inv_sq I1 hq
  refine enum_beginsK t p1 fun h' he hit hk => wpAny_pyIter_enum he ?_
  have I2 : Inv X pins σ H1 { s1 with heap := h' } := I1.kept (t' := s1.toks) hk
  refine ⟨s1.heap.objs.size + 1, [s1.heap.objs.size + 1, s1.heap.objs.size], _, _, H1, rfl, I2, turn_enK t a (s1.heap.objs.size + 1) s1.heap.objs.size, ⟨⟨.none, he⟩, hit, Nat.succ_ne_self _, Nat.ne_of_lt l1, Nat.ne_of_lt (Nat.lt_succ_of_lt l1)⟩, fpNew (h' := h') I1 ?_, q⟩
  intro b hb
  have e' : b = s1.heap.objs.size + 1 ∨ b = s1.heap.objs.size := by simpa using hb
  rcases e' with z | z <;> (rw [z]; first | exact Nat.le_add_right _ _ | exact Nat.le_refl _)
end
end Qv
namespace Qv
open PySem L2
open Evl (Ex)

def seqD : D → Option (List D)
  | .lst l => some l
  | .tup l => some l
  | .scr l => some (l.map .int)
  | _ => none
def isT : D → Bool
  | .tup _ => true
  | _ => false
theorem sq_of {K : PySem.W.Frag} {G : Hp} {v : V} {d : D} {l : List D} (h : seqD d = some l) (r : Rep K G v d) : ∃ a xs, v = .ref a ∧ SqK K (isT d) G a xs ∧ RepL K G xs l := by
  cases r with
  | lst hp ra => cases h; exact ⟨_, _, rfl, SqL.of hp, ra⟩
  | tup hp ra => cases h; exact ⟨_, _, rfl, SqT.of hp, ra⟩
  | scr hp => cases h; exact ⟨_, _, rfl, hp, .ints _⟩
  | _ => cases h
def enL (l : List D) : List D := l.zipIdx.map fun p => .tup [.int (p.2 : Nat), p.1]
def z2L (l m : List D) : List D := List.zipWith (fun a b => .tup [a, b]) l m
def z3L (l m n : List D) : List D := List.zipWith (fun (p : D × D) c => .tup [p.1, p.2, c]) (l.zip m) n
section
variable {K : PySem.W.Frag} {G : Hp}
theorem new_tup {pn : Pn} {A : LA} {e : En} {σ : L2.St} {G1 R H1 : Hp} {T : Addr} {xs : List V} {ds : List D} (g : RelG K pn A e σ G1 R H1) (hT : H1 T = none) (r : RepL K G1 xs ds) :
    ∃ G2, Ex G1 G2 ∧ RelG K pn A e σ G2 R (upd H1 T (.tup xs)) ∧ Rep K G2 (.ref T) (.tup ds) := by
  obtain ⟨g2, x2⟩ := g.laid (o := .tup xs) hT
  exact ⟨_, x2, g2, .tup upd_same (r.mono x2)⟩
/-- the walked thing is what it was: its items stand (by any state that bears it) -/
theorem it_en {t : Bool} {a : Addr} {xs : List V} {l : List D} (h : SqK K t G a xs) (r : RepL K G xs l) : ItOk K (JEn K t a) G (enL l) := by
  intro pn A e σ G1 R H1 i x g
  have hq : SqK K t H1 a xs := (h.ex x).ex g.gh
  have hl : (enL l).length = l.length := by simp [enL]
  refine ⟨fun hi => ?_, fun hi => ⟨xs, hq, by rw [r.length]; omega⟩, fun v H2 d hy hd => ?_⟩
  · have hi' : i < xs.length := by rw [r.length]; omega
    exact ⟨xs, xs[i], hq, by simp [hi']⟩
  · obtain ⟨T, zs, rfl, hT, rfl, y, hys, rfl⟩ := hy
    have hyi := hys xs hq
    unfold enL at hd
    rw [List.getElem?_map] at hd
    cases z : l.zipIdx[i]? with
    | none => rw [z] at hd; cases hd
    | some p =>
      rw [z] at hd
      cases hd
      rw [List.getElem?_zipIdx] at z
      obtain ⟨d0, hd0, rfl⟩ := Option.map_eq_some_iff.mp z
      obtain ⟨w, hw, rw'⟩ := r.get hd0
      rw [hyi] at hw
      cases hw
      simp only [Nat.zero_add]
      exact new_tup g hT (.cons (.int _) (.cons (rw'.mono x) .nil))
theorem it_z2 {t s : Bool} {a b : Addr} {xs ys : List V} {l m : List D} 
    (h1 : SqK K t G a xs) (r1 : RepL K G xs l) (h2 : SqK K s G b ys) (r2 : RepL K G ys m) : ItOk K (JZ2 K t s a b) G (z2L l m) := by
  intro pn A e σ G1 R H1 i x g
  have q1 : SqK K t H1 a xs := (h1.ex x).ex g.gh
  have q2 : SqK K s H1 b ys := (h2.ex x).ex g.gh
  have hl : (z2L l m).length = min l.length m.length := by simp [z2L]
  refine ⟨fun hi => ?_, fun hi => ⟨xs, ys, q1, q2, by rw [r1.length, r2.length]; omega⟩, fun v H2 d hy hd => ?_⟩
  · have i1 : i < xs.length := by rw [r1.length]; omega
    have i2 : i < ys.length := by rw [r2.length]; omega
    exact ⟨xs, ys, xs[i], ys[i], q1, q2, by simp [i1], by simp [i2]⟩
  · obtain ⟨T, zs, rfl, hT, rfl, x', y', a1, a2, rfl⟩ := hy
    have b1 := a1 xs q1
    have b2 := a2 ys q2
    unfold z2L at hd
    rw [List.getElem?_zipWith] at hd
    split at hd
    · rename_i da db c1 c2
      cases hd
      obtain ⟨w, hw, rw'⟩ := r1.get c1
      obtain ⟨w2, hw2, rw2'⟩ := r2.get c2
      rw [b1] at hw; rw [b2] at hw2
      cases hw; cases hw2
      exact new_tup g hT (.cons (rw'.mono x) (.cons (rw2'.mono x) .nil))
    · cases hd
theorem it_z3 {t s q : Bool} {a b c : Addr} {xs ys zs : List V} {l m n : List D} 
    (h1 : SqK K t G a xs) (r1 : RepL K G xs l) (h2 : SqK K s G b ys) (r2 : RepL K G ys m) (h3 : SqK K q G c zs) (r3 : RepL K G zs n) : ItOk K (JZ3 K t s q a b c) G (z3L l m n) := by
  intro pn A e σ G1 R H1 i x g
  have q1 : SqK K t H1 a xs := (h1.ex x).ex g.gh
  have q2 : SqK K s H1 b ys := (h2.ex x).ex g.gh
  have q3 : SqK K q H1 c zs := (h3.ex x).ex g.gh
  have hl : (z3L l m n).length = min (min l.length m.length) n.length := by simp [z3L]
  refine ⟨fun hi => ?_, fun hi => ⟨xs, ys, zs, q1, q2, q3, by rw [r1.length, r2.length, r3.length]; omega⟩, fun v H2 d hy hd => ?_⟩
  · have i1 : i < xs.length := by rw [r1.length]; omega
    have i2 : i < ys.length := by rw [r2.length]; omega
    have i3 : i < zs.length := by rw [r3.length]; omega
    exact ⟨xs, ys, zs, xs[i], ys[i], zs[i], q1, q2, q3, by simp [i1], by simp [i2], by simp [i3]⟩
  · obtain ⟨T, ws, rfl, hT, rfl, x', y', z', a1, a2, a3, rfl⟩ := hy
    have b1 := a1 xs q1
    have b2 := a2 ys q2
    have b3 := a3 zs q3
    unfold z3L at hd
    rw [List.getElem?_zipWith] at hd
    split at hd
    · rename_i pp dc c1 c3
      cases hd
      rw [List.getElem?_zip_eq_some] at c1
      obtain ⟨w, hw, rw'⟩ := r1.get c1.1
      obtain ⟨w2, hw2, rw2'⟩ := r2.get c1.2
      obtain ⟨w3, hw3, rw3'⟩ := r3.get c3
      rw [b1] at hw; rw [b2] at hw2; rw [b3] at hw3
      cases hw; cases hw2; cases hw3
      exact new_tup g hT (.cons (rw'.mono x) (.cons (rw2'.mono x) (.cons (rw3'.mono x) .nil)))
    · cases hd
end
def enB : List D → Option (List D)
  | [d] => (seqD d).map enL
  | _ => none
def zp2B : List D → Option (List D)
  | [a, b] => match seqD a, seqD b with
    | some l, some m => some (z2L l m)
    | _, _ => none
  | _ => none
def zp3B : List D → Option (List D)
  | [a, b, c] => match seqD a, seqD b, seqD c with
    | some l, some m, some n => some (z3L l m n)
    | _, _, _ => none
  | _ => none
/-- the arguments are shared; what g makes of them is walked -/
def walkC (g : List D → Option (List D)) (fs : List (M Val)) : M (List D) := bnd (argsC fs) fun vs => bnd (shrAll vs) fun ds => opt (g ds)
section
variable {X : Cx} {W : WX} {p pos tpos : Pos} {elts : List Expr} {kk : Nat}
theorem si_en {x : Expr} {f : M Val} (hg : Gl X "enumerate") (hm : X.mg "enumerate" = none) (hn : notStar x = true) (ha : PE X x (tEv X.K W f)) : PI X (.Tuple elts kk tpos) (.Call (.Name "enumerate" p) [x] [] pos) (tIv X.K W (walkC enB [f])) :=
  PI_mono (pi_enK hg hm (sa_args [x] [f] (by simp [hn]) (.cons ha .nil)) (star_cons hn)) fun σ H Rr q => by
    obtain ⟨pn, A, e, G, R, g, oc⟩ := q
    refine chain g oc fun ws vs A1 e1 G1 H1 x1 g1 r1 oc1 => ?_
    obtain ⟨es, A2, e2, G2, x2, g2, r2, oc2⟩ := oc_shrA g1 r1 oc1
    obtain ⟨ds, q3, fin⟩ := oc_optE oc2
    unfold enB at q3
    split at q3
    · obtain ⟨l, hl, rfl⟩ := Option.map_eq_some_iff.mp q3
      cases r2 with
      | cons rd rr =>
        cases rr
        obtain ⟨a, xs, rfl, hs, rl⟩ := sq_of hl rd
        exact ⟨_, a, xs, rfl, hs.ex g2.gh, fin _ A2 G2 H1 (Ex.refl _) g2 (it_en hs rl)⟩
    · cases q3
theorem si_zp2 {x y : Expr} {f f2 : M Val} (hg : Gl X "zip") (hm : X.mg "zip" = none) (hn : notStar x = true) (hn2 : notStar y = true) (ha : PE X x (tEv X.K W f)) (hb : PE X y (tEv X.K W f2)) :
    PI X (.Tuple elts kk tpos) (.Call (.Name "zip" p) [x, y] [] pos) (tIv X.K W (walkC zp2B [f, f2])) :=
  PI_mono (pi_z2K hg hm (sa_args [x, y] [f, f2] (by simp [hn, hn2]) (.cons ha (.cons hb .nil))) (star_cons hn) (star_plain (by simp [hn2]))) fun σ H Rr q => by
    obtain ⟨pn, A, e, G, R, g, oc⟩ := q
    refine chain g oc fun ws vs A1 e1 G1 H1 x1 g1 r1 oc1 => ?_
    obtain ⟨es, A2, e2, G2, x2, g2, r2, oc2⟩ := oc_shrA g1 r1 oc1
    obtain ⟨ds, q3, fin⟩ := oc_optE oc2
    unfold zp2B at q3
    split at q3
    · split at q3
      · rename_i l m hl hm2
        cases q3
        cases r2 with
        | cons rd rr =>
          cases rr with
          | cons rd2 rr =>
            cases rr
            obtain ⟨a, xs, rfl, hs, rl⟩ := sq_of hl rd
            obtain ⟨b, ys, rfl, hs2, rl2⟩ := sq_of hm2 rd2
            exact ⟨_, _, a, b, xs, ys, rfl, hs.ex g2.gh, hs2.ex g2.gh, fin _ A2 G2 H1 (Ex.refl _) g2 (it_z2 hs rl hs2 rl2)⟩
      · cases q3
    · cases q3
theorem si_zp3 {x y z : Expr} {f f2 f3 : M Val} (hg : Gl X "zip") (hm : X.mg "zip" = none) (hn : notStar x = true) (hn2 : notStar y = true) (hn3 : notStar z = true) (ha : PE X x (tEv X.K W f)) (hb : PE X y (tEv X.K W f2)) (hc : PE X z (tEv X.K W f3)) :
    PI X (.Tuple elts kk tpos) (.Call (.Name "zip" p) [x, y, z] [] pos) (tIv X.K W (walkC zp3B [f, f2, f3])) :=
  PI_mono (pi_z3K hg hm (sa_args [x, y, z] [f, f2, f3] (by simp [hn, hn2, hn3]) (.cons ha (.cons hb (.cons hc .nil)))) (star_cons hn) (star_plain (by simp [hn2, hn3]))) fun σ H Rr q => by
    obtain ⟨pn, A, e, G, R, g, oc⟩ := q
    refine chain g oc fun ws vs A1 e1 G1 H1 x1 g1 r1 oc1 => ?_
    obtain ⟨es, A2, e2, G2, x2, g2, r2, oc2⟩ := oc_shrA g1 r1 oc1
    obtain ⟨ds, q3, fin⟩ := oc_optE oc2
    unfold zp3B at q3
    split at q3
    · split at q3
      · rename_i l m n hl hm2 hn2
        cases q3
        cases r2 with
        | cons rd rr =>
          cases rr with
          | cons rd2 rr =>
            cases rr with
            | cons rd3 rr =>
              cases rr
              obtain ⟨a, xs, rfl, hs, rl⟩ := sq_of hl rd
              obtain ⟨b, ys, rfl, hs2, rl2⟩ := sq_of hm2 rd2
              obtain ⟨c, zs, rfl, hs3, rl3⟩ := sq_of hn2 rd3
              exact ⟨_, _, _, a, b, c, xs, ys, zs, rfl, hs.ex g2.gh, hs2.ex g2.gh, hs3.ex g2.gh, fin _ A2 G2 H1 (Ex.refl _) g2 (it_z3 hs rl hs2 rl2 hs3 rl3)⟩
      · cases q3
    · cases q3
end
end Qv
namespace Qv
open PySem L2
open Evl (Ex)

/-! ### keys -/
section
variable {K : PySem.W.Frag} {H : Hp}
theorem keyD_inj {a b : Key} (h : keyD a = keyD b) : a = b := by
  cases a <;> cases b <;> first | (cases h; rfl) | cases h
theorem keyS_D : ∀ {k : Key}, keyS (keyD k) = some k
  | .inl _ => rfl
  | .inr _ => rfl
theorem keyS_ok : ∀ {d : D} {k : Key}, keyS d = some k → d = keyD k
  | .int i, k, h => by cases h; rfl
  | .str x, k, h => by cases h; rfl
  | .non, _, h => by cases h
  | .bl _, _, h => by cases h
  | .tup _, _, h => by cases h
  | .lst _, _, h => by cases h
  | .dct _, _, h => by cases h
  | .scr _, _, h => by cases h
  | .ins _ _, _, h => by cases h
  | .ty _, _, h => by cases h
  | .box _, _, h => by cases h
theorem keyL_ok : ∀ {l : List D} {ks : List Key}, keyL l = some ks → l = ks.map keyD
  | [], ks, h => by cases h; rfl
  | d :: r, ks, h => by
    unfold keyL at h
    split at h
    · rename_i k ks' h1 h2
      cases h
      rw [keyS_ok h1, keyL_ok h2]
      rfl
    · cases h
theorem keyT_ok {d : D} {ks : List Key} (h : keyT d = some ks) : d = .tup (ks.map keyD) := by
  cases d <;> first | (rw [keyL_ok (show keyL _ = some ks from h)]) | cases h
theorem keyL_D : ∀ {ks : List Key}, keyL (ks.map keyD) = some ks
  | [] => rfl
  | k :: r => by
    unfold keyL
    rw [List.map_cons]
    simp only [keyS_D, keyL_D]
theorem keyT_D {ks : List Key} : keyT (.tup (ks.map keyD)) = some ks := keyL_D
theorem tupD_inj {a b : List Key} (h : D.tup (a.map keyD) = D.tup (b.map keyD)) : a = b := by
  have := congrArg keyT h
  rw [keyT_D, keyT_D] at this
  exact Option.some.inj this
theorem rep_keyS : ∀ {k : Key} {v : V}, Rep K H v (keyD k) → v = kV k
  | .inl _, _, h => by cases h; rfl
  | .inr _, _, h => by cases h; rfl
theorem keyS_rep {k : Key} : Rep K H (kV k) (keyD k) := by
  cases k
  · exact .int _
  · exact .str _
theorem repL_keys : ∀ {ks : List Key} {vs : List V}, RepL K H vs (ks.map keyD) → vs = ks.map kV
  | [], _, .nil => rfl
  | k :: ks, _, .cons a b => by rw [rep_keyS a, repL_keys b]; rfl
theorem rep_keyT {ks : List Key} {v : V} (h : Rep K H v (.tup (ks.map keyD))) : ∃ a, v = .ref a ∧ H a = some (.tup (ks.map kV)) := by
  cases h with
  | tup hp ra => rw [repL_keys ra] at hp; exact ⟨_, rfl, hp⟩
theorem RepK.put {kvs : List (Key × V)} {es : List (D × D)} {k : Key} {v : V} {d : D} (r : RepK K H kvs es) (h : Rep K H v d) : RepK K H (putK kvs k v) (kvSet es (keyD k) d) := by
  have any : ∀ {kvs : List (Key × V)} {es : List (D × D)}, RepK K H kvs es → (kvs.any fun kv => decide (kv.1 = k)) = es.any fun q => decide (q.1 = keyD k) := by
    intro kvs es r
    induction kvs generalizing es with
    | nil => cases r; rfl
    | cons p kvs ih =>
      cases r with
      | cons a b =>
        rw [List.any_cons, List.any_cons, ih b]
        congr 1
        exact decide_eq_decide.mpr ⟨fun z => congrArg keyD z, fun z => keyD_inj z⟩
  have mp : ∀ {kvs : List (Key × V)} {es : List (D × D)}, RepK K H kvs es → RepK K H (kvs.map fun kv => if kv.1 = k then (kv.1, v) else kv) (es.map fun q => if q.1 = keyD k then (q.1, d) else q) := by
    intro kvs es r
    induction kvs generalizing es with
    | nil => cases r; exact .nil
    | cons p kvs ih =>
      cases r with
      | @cons k' x _ d' _ a b =>
        rw [List.map_cons, List.map_cons]
        by_cases z : k' = k
        · subst z
          simp only [if_pos]
          exact .cons h (ih b)
        · have z2 : keyD k' ≠ keyD k := fun w => z (keyD_inj w)
          rw [if_neg z, if_neg z2]
          exact .cons a (ih b)
  have ap : ∀ {kvs : List (Key × V)} {es : List (D × D)}, RepK K H kvs es → RepK K H (kvs ++ [(k, v)]) (es ++ [(keyD k, d)]) := by
    intro kvs es r
    induction kvs generalizing es with
    | nil => cases r; exact .cons h .nil
    | cons p kvs ih =>
      cases r with
      | cons a b => exact .cons a (ih b)
  unfold putK kvSet
  rw [any r]
  split
  · exact mp r
  · exact ap r
theorem RepT.put {kvs : List (List Key × V)} {es : List (D × D)} {k : List Key} {v : V} {d : D} (r : RepT K H kvs es) (h : Rep K H v d) : RepT K H (putK kvs k v) (kvSet es (.tup (k.map keyD)) d) := by
  have any : ∀ {kvs : List (List Key × V)} {es : List (D × D)}, RepT K H kvs es → (kvs.any fun kv => decide (kv.1 = k)) = es.any fun q => decide (q.1 = .tup (k.map keyD)) := by
    intro kvs es r
    induction kvs generalizing es with
    | nil => cases r; rfl
    | cons p kvs ih =>
      cases r with
      | cons a b =>
        rw [List.any_cons, List.any_cons, ih b]
        congr 1
        exact decide_eq_decide.mpr ⟨fun z => congrArg (fun k => D.tup (k.map keyD)) z, fun z => tupD_inj z⟩
  have mp : ∀ {kvs : List (List Key × V)} {es : List (D × D)}, RepT K H kvs es → RepT K H (kvs.map fun kv => if kv.1 = k then (kv.1, v) else kv) (es.map fun q => if q.1 = .tup (k.map keyD) then (q.1, d) else q) := by
    intro kvs es r
    induction kvs generalizing es with
    | nil => cases r; exact .nil
    | cons p kvs ih =>
      cases r with
      | @cons k' x _ d' _ a b =>
        rw [List.map_cons, List.map_cons]
        by_cases z : k' = k
        · subst z
          simp only [if_pos]
          exact .cons h (ih b)
        · have z2 : D.tup (k'.map keyD) ≠ .tup (k.map keyD) := fun w => z (tupD_inj w)
          rw [if_neg z, if_neg z2]
          exact .cons a (ih b)
  have ap : ∀ {kvs : List (List Key × V)} {es : List (D × D)}, RepT K H kvs es → RepT K H (kvs ++ [(k, v)]) (es ++ [(.tup (k.map keyD), d)]) := by
    intro kvs es r
    induction kvs generalizing es with
    | nil => cases r; exact .cons h .nil
    | cons p kvs ih =>
      cases r with
      | cons a b => exact .cons a (ih b)
  unfold putK kvSet
  rw [any r]
  split
  · exact mp r
  · exact ap r
theorem RepK.at {kvs : List (Key × V)} {es : List (D × D)} {k : Key} (r : RepK K H kvs es) : match kvGet es (keyD k) with
    | some d => ∃ v, valV kvs k = some v ∧ Rep K H v d
    | none => valV kvs k = none := by
  induction kvs generalizing es with
  | nil => cases r; rfl
  | cons p kvs ih =>
    cases r with
    | @cons k' x _ d' _ a b =>
      unfold kvGet valV at *
      rw [List.find?_cons, List.find?_cons]
      by_cases z : k' = k
      · subst z
        simp only [decide_true]
        exact ⟨_, rfl, a⟩
      · have z2 : keyD k' ≠ keyD k := fun w => z (keyD_inj w)
        simp only [z, z2, decide_false]
        exact ih b
theorem RepT.at {kvs : List (List Key × V)} {es : List (D × D)} {k : List Key} (r : RepT K H kvs es) : match kvGet es (.tup (k.map keyD)) with
    | some d => ∃ v, valV kvs k = some v ∧ Rep K H v d
    | none => valV kvs k = none := by
  induction kvs generalizing es with
  | nil => cases r; rfl
  | cons p kvs ih =>
    cases r with
    | @cons k' x _ d' _ a b =>
      unfold kvGet valV at *
      rw [List.find?_cons, List.find?_cons]
      by_cases z : k' = k
      · subst z
        simp only [decide_true]
        exact ⟨_, rfl, a⟩
      · have z2 : D.tup (k'.map keyD) ≠ .tup (k.map keyD) := fun w => z (tupD_inj w)
        simp only [z, z2, decide_false]
        exact ih b
theorem RepK.length : ∀ {kvs : List (Key × V)} {es : List (D × D)}, RepK K H kvs es → kvs.length = es.length
  | _, _, .nil => rfl
  | _, _, .cons _ r => congrArg Nat.succ (RepK.length r)
theorem RepT.length : ∀ {kvs : List (List Key × V)} {es : List (D × D)}, RepT K H kvs es → kvs.length = es.length
  | _, _, .nil => rfl
  | _, _, .cons _ r => congrArg Nat.succ (RepT.length r)
end
/-! ### an empty dict is of either kind -/
section
variable {X : Cx} {pins : List (Addr × Obj)} {σ : L2.St} {H : Hp} {s : Shared} {a : Addr} {o o' : HO}
/-- another description of the same object -/
theorem inv_redo (I : Inv X pins σ H s) (h : H a = some o) (hm : Mut (some o)) (ok : ObjOk X.prog X.w (upd H a o') s.heap a o') : Inv X pins σ (upd H a o') s := by
  have ne : ∀ b, H b = none → b ≠ a := fun b z w => by rw [w, h] at z; cases z
  have nt : ∀ b xs, H b = some (.tup xs) → b ≠ a := fun b xs z w => by subst w; rw [h] at z; cases z; exact hm
  have nf : ∀ b ob u, H b = some (.frz ob u) → b ≠ a := fun b ob u z w => by subst w; rw [h] at z; cases z; exact hm
  have nb : ∀ b ps, H b = some (.tbl ps) → b ≠ a := fun b ps z w => by subst w; rw [h] at z; cases z; exact hm
  have no : ∀ b x, H b = some (.own x) → b ≠ a := fun b x z w => by subst w; rw [h] at z; cases z; exact hm
  refine ⟨I.ok, I.os, I.bare, ?_, I.loc, I.cell, ?_, fun x c hc => ?_, fun p hp => ?_, fun b u e => ?_, I.len⟩
  · have u := I.base
    exact ⟨u.keep, u.slot, fun b ob q n hx => by rw [upd_ne (ne b (u.free b ob q n hx))]; exact u.free b ob q n hx, u.there, fun b xs z => by rw [upd_ne (nt b xs (u.tups b xs z))]; exact u.tups b xs z,
      fun b ob q z => by rw [upd_ne (nf b ob q (u.frzs b ob q z))]; exact u.frzs b ob q z, fun b ps z => by
        obtain ⟨more, w⟩ := u.tbls b ps z
        exact ⟨more, by rw [upd_ne (nb b _ w)]; exact w⟩⟩
  · rw [upd_ne (ne _ I.free)]; exact I.free
  · rw [upd_ne (ne _ (I.freeC x c hc))]; exact I.freeC x c hc
  · obtain ⟨p1, p2, p3⟩ := I.pin p hp
    exact ⟨p1, by rw [upd_ne (ne _ p2)]; exact p2, p3⟩
  · by_cases hb : b = a
    · subst hb; rw [upd_same] at e; cases e; exact ok
    · rw [upd_ne hb] at e
      exact (I.hok b u e).stay (fun c v _ q => q) (fun c q => by rw [upd_ne (no c b q)]; exact q) fun c xs q => by rw [upd_ne (nt c xs q)]; exact q
theorem inv_toT (I : Inv X pins σ H s) (h : H a = some (.dK [])) : Inv X pins σ (upd H a (.dT [])) s := by
  refine inv_redo I h trivial ?_
  obtain ⟨_, hs, vs, kv, dd⟩ := I.hok a _ h
  cases kv
  obtain ⟨o, es, ep, e, c, d, _, l, _⟩ := dd
  have l' : es.toList = [] := by
    cases q : es.toList with
    | nil => rfl
    | cons x r => rw [q] at l; exact nomatch l
  exact ⟨Nat.zero_le _, hs, [], .nil, o, es, ep, e, c, d, l', List.nodup_nil⟩
theorem inv_toK (I : Inv X pins σ H s) (h : H a = some (.dT [])) : Inv X pins σ (upd H a (.dK [])) s := by
  refine inv_redo I h trivial ?_
  obtain ⟨_, hs, xs, pr, o, es, ep, e, c, d, l, _⟩ := I.hok a _ h
  cases pr
  have l' : es = #[] := by simpa using l
  subst l'
  exact ⟨Nat.zero_le _, hs, [], .nil, o, #[], ep, e, c, d, (fun x hx => by simp at hx), .nil, List.nodup_nil⟩
end
end Qv
namespace Qv
open PySem L2
open Evl (Ex)

/-! ### slots are written -/
def setN (i : Nat) (s : Slot) : M Unit := fun e => match e[i]? with
  | some t => if t.io = true then .err else .ok ((), e.set i s)
  | none => .err
def asgN (i : Nat) : Val → M Unit
  | .sh d => setN i (.sh d)
  | .fr d => setN i (.ow false d)
  | .fn d => setN i (.nt false d)
  | .ow j => bnd (shr (.ow j)) fun d => setN i (.sh d)
  | .np j π => bnd (shr (.np j π)) fun d => setN i (.sh d)
/-- only these slots are written -/
def Same (ixs : List Nat) (σ σ' : L2.St) : Prop := σ'.length = σ.length ∧ ∀ k, k ∉ ixs → σ'[k]? = σ[k]?
theorem Same.refl {ixs : List Nat} {σ : L2.St} : Same ixs σ σ := ⟨rfl, fun _ _ => rfl⟩
theorem Same.trans {ixs : List Nat} {σ σ' σ'' : L2.St} (h : Same ixs σ σ') (h' : Same ixs σ' σ'') : Same ixs σ σ'' := ⟨h'.1.trans h.1, fun k hk => (h'.2 k hk).trans (h.2 k hk)⟩
theorem Same.of {ixs jxs : List Nat} {σ σ' : L2.St} (h : Same ixs σ σ') (s : ∀ i ∈ ixs, i ∈ jxs) : Same jxs σ σ' := ⟨h.1, fun k hk => h.2 k fun z => hk (s k z)⟩
theorem Same.set {i : Nat} {σ : L2.St} {v : V} : Same [i] σ (σ.set i (some v)) := ⟨by simp, fun k hk => set_ne (by simpa using hk)⟩
def FinG (K : PySem.W.Frag) (ixs : List Nat) (pn : Pn) (e : En) (σ : L2.St) (G R : Hp) (Q : L2.St → Hp → Prop) : Prop := ∀ σ' A' G' H', Ex G G' → Same ixs σ σ' → RelG K pn A' e σ' G' R H' → Q σ' H'
/-- an exception, wherever the slots stand by then -/
def FinXS (K : PySem.W.Frag) (W : WX) (pn : Pn) (e : En) (n : Nat) (G R : Hp) (x : Xn) : Prop :=
  ∀ σ' A' G' H' d, Ex G G' → σ'.length = n → RelG K pn A' e σ' G' R H' → XnR K G' x d → W (.ref (He.ga K x.cls)) d σ' H'
def OcG (K : PySem.W.Frag) (W : WX) (ixs : List Nat) (pn : Pn) (σ : L2.St) (R : Hp) (Q : L2.St → Hp → Prop) (G : Hp) (o : Out (Unit × En)) : Prop :=
  Oc (fun _ e' => FinG K ixs pn e' σ G R Q) (fun x e' => FinXS K W pn e' σ.length G R x) o
def tGv (K : PySem.W.Frag) (W : WX) (ixs : List Nat) (f : Val → M Unit) : TG := fun v σ H Q => ∃ pn A e G R val, RelG K pn A e σ G R H ∧ RepVal K A G R H e σ v val ∧ OcG K W ixs pn σ R Q G (f val e)
theorem PG_mono {X : Cx} {tg : Expr} {t t' : TG} (h : PG X tg t) (m : ∀ v σ H Q, t' v σ H Q → t v σ H Q) : PG X tg t' := ⟨fun pins s σ H v u Q I r q => h.run pins s σ H v u Q I r (m v σ H Q q)⟩
theorem PGs_mono {X : Cx} {tg : List Expr} {t t' : TGs} (h : PGs X tg t) (m : ∀ v σ H Q, t' v σ H Q → t v σ H Q) : PGs X tg t' := ⟨fun pins s σ H v u Q I r q => h.run pins s σ H v u Q I r (m v σ H Q q)⟩
section
variable {K : PySem.W.Frag} {W : WX} {pn : Pn} {A : LA} {e e' : En} {σ : L2.St} {G G' R R' H H' : Hp} {v : V} {val : Val} {ixs : List Nat} {Q : L2.St → Hp → Prop}
theorem FinG.ext (h : FinG K ixs pn e σ G R Q) (x : Ex G G') : FinG K ixs pn e σ G' R Q := fun σ' A' G2 H' y s g => h σ' A' G2 H' (x.trans y) s g
theorem FinXS.ext {x : Xn} {n : Nat} (h : FinXS K W pn e n G R x) (y : Ex G G') : FinXS K W pn e n G' R x := fun σ' A' G2 H' d z l g r => h σ' A' G2 H' d (y.trans z) l g r
theorem OcG.ext {o : Out (Unit × En)} (h : OcG K W ixs pn σ R Q G o) (x : Ex G G') : OcG K W ixs pn σ R Q G' o := by
  cases o with
  | ok p => exact FinG.ext (h : FinG K ixs pn p.2 σ G R Q) x
  | ex y e => exact FinXS.ext (h : FinXS K W pn e σ.length G R y) x
  | err => exact h
/-- a step of values ahead of what writes slots -/
theorem chainG {α β : Type} {rv : Rv β α} {m : M α} {k : α → M Unit} {Q' : β → Hp → Prop} (g : RelG K pn A e σ G R H) (oc : OcG K W ixs pn σ R Q G (bnd m k e))
    (step : ∀ b a A1 e1 G1 H1, Ex G G1 → RelG K pn A1 e1 σ G1 R H1 → rv A1 G1 R H1 e1 σ b a → OcG K W ixs pn σ R Q G1 (k a e1) → Q' b H1) : tG K W rv m σ H Q' := by
  refine ⟨pn, A, e, G, R, g, ?_⟩
  unfold bnd at oc
  unfold OcV
  cases h : m e with
  | ok p => rw [h] at oc; exact fun b A' G' H' x g' r => step b _ A' _ G' H' x g' r (oc.ext x)
  | ex x e' => rw [h] at oc; exact fun A' G' H' d y g' r => (oc : FinXS K W pn e' σ.length G R x) σ A' G' H' d y rfl g' r
  | err => rw [h] at oc; exact oc
/-- the same, as if it were values -/
theorem OcG.toV {o : Out (Unit × En)} (h : OcG K W ixs pn σ R Q G o) : OcV K W (rvB (α := Unit)) pn σ R (fun _ H' => Q σ H') G o := by
  cases o with
  | ok p => exact fun b A' G' H' x g r => (h : FinG K ixs pn p.2 σ G R Q) σ A' G' H' x Same.refl g
  | ex y e => exact fun A' G' H' d x g r => (h : FinXS K W pn e σ.length G R y) σ A' G' H' d x rfl g r
  | err => exact h
theorem setN_ok {i : Nat} {s : Slot} {e : En} {r : Unit × En} (h : setN i s e = .ok r) : i < e.length ∧ (∀ t, e[i]? = some t → t.io = false) ∧ r.2 = e.set i s := by
  unfold setN at h
  cases q : e[i]? with
  | none => simp only [q] at h; cases h
  | some t =>
    have hi : i < e.length := (List.getElem?_eq_some_iff.mp q).1
    simp only [q] at h
    split at h
    · cases h
    · rename_i z
      cases h
      exact ⟨hi, fun t' ht => by cases ht; simpa using z, rfl⟩
theorem setN_no {i : Nat} {s : Slot} {x : Xn} : setN i s e ≠ .ex x e' := by
  intro h
  unfold setN at h
  repeat (split at h)
  all_goals cases h
theorem asgN_ok {i : Nat} (g : RelG K pn A e σ G R H) (r : RepVal K A G R H e σ v val) (h : asgN i val e = .ok ((), e')) :
    ∃ A' G', Ex G G' ∧ RelG K pn A' e' (σ.set i (some v)) G' R H := by
  have viaS : ∀ val, (val = .sh default → False) → RepVal K A G R H e σ v val → bnd (shr val) (fun d => setN i (.sh d)) e = .ok ((), e') → ∃ A' G', Ex G G' ∧ RelG K pn A' e' (σ.set i (some v)) G' R H := fun val _ r h => by
    unfold bnd at h
    cases hs : shr val e with
    | err => rw [hs] at h; cases h
    | ex x e1 => rw [hs] at h; cases h
    | ok p =>
      rw [hs] at h
      obtain ⟨A2, G2, x2, g2, r2⟩ := g.shr r (d := p.1) (e' := p.2) hs
      obtain ⟨h1, h2, h3⟩ := setN_ok (r := ((), e')) h
      simp only at h3
      subst h3
      obtain ⟨A3, g3⟩ := g2.putS h1 h2 r2
      exact ⟨A3, G2, x2, g3⟩
  cases val with
  | sh d =>
    obtain ⟨h1, h2, h3⟩ := setN_ok h
    simp only at h3
    subst h3
    obtain ⟨A3, g3⟩ := g.putS h1 h2 r
    exact ⟨A3, G, Ex.refl G, g3⟩
  | fr d =>
    obtain ⟨h1, h2, h3⟩ := setN_ok h
    simp only at h3
    subst h3
    exact ⟨_, G, Ex.refl G, g.putO h1 h2 r⟩
  | fn d =>
    obtain ⟨h1, h2, h3⟩ := setN_ok h
    simp only at h3
    subst h3
    obtain ⟨B, fr⟩ := r
    exact ⟨_, G, Ex.refl G, g.putN h1 h2 fr⟩
  | ow j => exact viaS (.ow j) (fun z => nomatch z) r h
  | np j π => exact viaS (.np j π) (fun z => nomatch z) r h
theorem asgN_no {i : Nat} {x : Xn} : asgN i val e ≠ .ex x e' := by
  intro h
  have viaS : ∀ val, bnd (shr val) (fun d => setN i (.sh d)) e ≠ .ex x e' := fun val h => by
    unfold bnd at h
    cases hs : shr val e with
    | err => rw [hs] at h; cases h
    | ex x e1 => exact shr_no hs
    | ok p => rw [hs] at h; exact setN_no h
  cases val with
  | sh d => exact setN_no h
  | fr d => exact setN_no h
  | fn d => exact setN_no h
  | ow j => exact viaS _ h
  | np j π => exact viaS _ h
theorem ocg_asgN {i : Nat} (g : RelG K pn A e σ G R H) (r : RepVal K A G R H e σ v val) (oc : OcG K W ixs pn σ R Q G (asgN i val e)) (hi : i ∈ ixs) : Q (σ.set i (some v)) H := by
  cases h : asgN i val e with
  | err => rw [h] at oc; exact oc.elim
  | ex x e' => exact absurd h asgN_no
  | ok p =>
    rw [h] at oc
    obtain ⟨A', G', x', g'⟩ := asgN_ok (e' := p.2) g r h
    exact (oc : FinG K ixs pn p.2 σ G R Q) _ A' G' H x' (Same.set.of fun j hj => by rw [List.mem_singleton.mp hj]; exact hi) g'
end
/-! ### targets -/
section
variable {X : Cx} {W : WX} {pos : Pos}
theorem sg_name {i : Nat} {x : Str} (hN : X.N.Nodup) (hi : X.N[i]? = some x) (hx : Loc X.env.scope x) (hf : X.fn x = true ∨ X.env.scope.names.lookup x = some .local) : PG X (.Name x pos) (tGv X.K W [i] (asgN i)) :=
  PG_mono (pg_name hN hi hx hf) fun v σ H Q q => by
    obtain ⟨pn, A, e, G, R, val, g, r, oc⟩ := q
    exact ocg_asgN g r oc (List.mem_singleton.mpr rfl)
/-- several, of shared things -/
def asgL : List (Val → M Unit) → List D → M Unit
  | [], [] => ret ()
  | f :: fs, d :: ds => bnd (f (.sh d)) fun _ => asgL fs ds
  | _, _ => fail
def asgT (fs : List (Val → M Unit)) (val : Val) : M Unit := bnd (shr val) fun d => match d with
  | .tup ds => asgL fs ds
  | _ => fail
def tGsv (K : PySem.W.Frag) (W : WX) (ixs : List Nat) (fs : List (Val → M Unit)) : TGs := fun vs σ H Q => ∃ pn A e G R ds, RelG K pn A e σ G R H ∧ RepL K G vs ds ∧ OcG K W ixs pn σ R Q G (asgL fs ds e)
theorem sgs {ixs : List Nat} : ∀ (es : List Expr) (fs : List (Val → M Unit)), es.all notStar = true → Paired (fun a f => PG X a (tGv X.K W ixs f)) es fs → PGs X es (tGsv X.K W ixs fs)
  | _, _, _, .nil => PGs_mono pgs_nil fun vs σ H Q q => by
    obtain ⟨pn, A, e, G, R, ds, g, r, oc⟩ := q
    cases r with
    | nil => exact ⟨rfl, (show FinG X.K ixs pn e σ G R Q from oc) σ A G H (Ex.refl G) Same.refl g⟩
    | cons => exact oc.elim
  | a :: es, f :: fs, hn, .cons h hr => by
    rw [List.all_cons, Bool.and_eq_true] at hn
    refine PGs_mono (pgs_cons h (sgs es fs hn.2 hr) ?_) fun vs σ H Q q => ?_
    · cases a <;> first | rfl | cases hn.1
    · obtain ⟨pn, A, e, G, R, ds, g, r, oc⟩ := q
      cases r with
      | nil => exact oc.elim
      | @cons v vs d ds r rr =>
        refine ⟨v, vs, rfl, pn, A, e, G, R, .sh d, g, r, ?_⟩
        have oc' : OcG X.K W ixs pn σ R Q G (bnd (f (.sh d)) (fun _ => asgL fs ds) e) := oc
        unfold bnd at oc'
        unfold OcG
        cases hf : f (.sh d) e with
        | err => rw [hf] at oc'; exact oc'.elim
        | ex x e1 => rw [hf] at oc'; exact oc'
        | ok p =>
          rw [hf] at oc'
          intro σ1 A1 G1 H1 x1 s1 g1
          refine ⟨pn, A1, p.2, G1, R, ds, g1, rr.mono x1, ?_⟩
          have oc2 : OcG X.K W ixs pn σ R Q G (asgL fs ds p.2) := oc'
          unfold OcG at *
          cases hk : asgL fs ds p.2 with
          | err => rw [hk] at oc2; exact oc2.elim
          | ex x e1 => rw [hk] at oc2; exact fun σ' A' G' H' d y l g r => (oc2 : FinXS X.K W pn e1 σ.length G R x) σ' A' G' H' d (x1.trans y) (l.trans s1.1) g r
          | ok p2 => rw [hk] at oc2; exact fun σ2 A2 G2 H2 x2 s2 g2 => (oc2 : FinG X.K ixs pn p2.2 σ G R Q) σ2 A2 G2 H2 (x1.trans x2) (s1.trans s2) g2
theorem asgL_err : ∀ {fs : List (Val → M Unit)} {ds : List D} {e : En}, ds.length ≠ fs.length → ∀ r, asgL fs ds e ≠ .ok r
  | [], [], _, h, _ => absurd rfl h
  | f :: fs, d :: ds, e, h, r => fun z => by
    have z' : bnd (f (.sh d)) (fun _ => asgL fs ds) e = .ok r := z
    unfold bnd at z'
    cases hf : f (.sh d) e with
    | err => rw [hf] at z'; cases z'
    | ex x e1 => rw [hf] at z'; cases z'
    | ok p => rw [hf] at z'; exact asgL_err (fun w => h (by rw [List.length_cons, List.length_cons, w])) r z'
  | [], _ :: _, _, _, _ => fun z => nomatch z
  | _ :: _, [], _, _, _ => fun z => nomatch z
theorem each_len : ∀ {es : List Expr} {env : Env}, es.all notStar = true → (assignEach es env).length = es.length ∧ (assignEach es env).findIdx? (·.1) = none
  | [], _, _ => ⟨rfl, rfl⟩
  | a :: es, env, h => by
    rw [List.all_cons, Bool.and_eq_true] at h
    obtain ⟨h1, h2⟩ := each_len (env := env) h.2
    have e : assignEach (a :: es) env = (false, assign a env) :: assignEach es env := by cases a <;> first | rfl | cases h.1
    rw [e]
    exact ⟨by rw [List.length_cons, h1, List.length_cons], by rw [List.findIdx?_cons, h2]; rfl⟩
theorem paired_len {α β : Type} {p : α → β → Prop} : ∀ {l : List α} {m : List β}, Paired p l m → l.length = m.length
  | _, _, .nil => rfl
  | _, _, .cons _ r => congrArg Nat.succ (paired_len r)
/-- the tuple's length is looked at first -/
def asgTn (fs : List (Val → M Unit)) (val : Val) : M Unit := bnd (shr val) fun d => match d with
  | .tup ds => if ds.length = fs.length then asgL fs ds else fail
  | _ => fail
theorem sg_tup {ixs : List Nat} {k : Nat} {es : List Expr} {fs : List (Val → M Unit)} (hc : X.calm = true) (hn : es.all notStar = true) (h : Paired (fun a f => PG X a (tGv X.K W ixs f)) es fs) : PG X (.Tuple es k pos) (tGv X.K W ixs (asgTn fs)) :=
  PG_mono (pg_tup (n := es.length) hc (sgs es fs hn h) (each_len hn).1 (each_len hn).2) fun v σ H Q q => by
    obtain ⟨pn, A, e, G, R, val, g, r, oc⟩ := q
    have oc' := oc
    unfold asgTn bnd at oc'
    cases hs : shr val e with
    | err => rw [hs] at oc'; exact oc'.elim
    | ex x e1 => exact absurd hs shr_no
    | ok p =>
      rw [hs] at oc'
      obtain ⟨d, e1⟩ := p
      obtain ⟨A2, G2, x2, g2, r2⟩ := g.shr r hs
      cases d with
      | tup ds =>
        have oc2 : OcG X.K W ixs pn σ R Q G ((if ds.length = fs.length then asgL fs ds else fail) e1) := oc'
        by_cases hl : ds.length = fs.length
        · rw [if_pos hl] at oc2
          cases r2 with
          | tup hp ra => exact ⟨_, _, rfl, SqT.of (g2.gh _ _ hp), by rw [ra.length, hl, paired_len h], pn, A2, e1, G2, R, ds, g2, ra, oc2.ext x2⟩
        · rw [if_neg hl] at oc2; exact False.elim oc2
      | _ => exact False.elim oc'
end
/-! ### stores into containers -/
def setD : D → D → D → Option D
  | .lst l, .int k, d => (ixN l.length k).map fun n => .lst (l.set n d)
  | .dct l, k, d => if l.length < lenLim ∧ keyFits l k = true then some (.dct (kvSet l k d)) else none
  | _, _, _ => none
def rSet0T : TSet := fun o i v H Q => ∃ (a : Addr) (k : List Key) (b : Addr), o = .ref a ∧ H a = some (.dK []) ∧ i = .ref b ∧ H b = some (.tup (k.map kV)) ∧ Q (upd H a (.dT [(k, v)]))
def rSet0K : TSet := fun o i v H Q => ∃ a k, o = .ref a ∧ H a = some (.dT []) ∧ i = kV k ∧ Q (upd H a (.dK [(k, v)]))
theorem set_0T {X : Cx} (hu : X.A.units + 1 < cLine) : PSet X rSet0T := fun pins s σ H o i v ov iv u Q I ro ri rv ⟨a, k, b, eo, ha, ei, hb, q⟩ => by
  have ne : b ≠ a := fun z => by rw [z, ha] at hb; cases hb
  refine set_dict hu pins s σ (upd H a (.dT [])) o i v ov iv u Q (inv_toT I ha) ro ri rv ⟨a, _, eo, ?_, q⟩
  subst ei
  have := DPut.t (k := k) (v := v) (a := a) (b := b) (H := upd H a (.dT [])) (kvs := []) upd_same (by rw [upd_ne ne]; exact hb) (by rw [sizeLine_eq]; decide)
  rw [upd_upd] at this
  exact this
theorem set_0K {X : Cx} (hu : X.A.units + 1 < cLine) : PSet X rSet0K := fun pins s σ H o i v ov iv u Q I ro ri rv ⟨a, k, eo, ha, ei, q⟩ => by
  refine set_dict hu pins s σ (upd H a (.dK [])) o i v ov iv u Q (inv_toK I ha) ro ri rv ⟨a, _, eo, ?_, q⟩
  subst ei
  have := DPut.k (k := k) (v := v) (a := a) (H := upd H a (.dK [])) (kvs := []) upd_same (by rw [sizeLine_eq]; decide)
  rw [upd_upd] at this
  exact this
def rSetA : TSet := fun o i v H Q => rSetL o i v H Q ∨ rSetD o i v H Q ∨ rSet0T o i v H Q ∨ rSet0K o i v H Q
theorem set_any {X : Cx} (hu : X.A.units + 1 < cLine) : PSet X rSetA := fun pins s σ H o i v ov iv u Q I ro ri rv h => by
  rcases h with h | h | h | h
  · exact set_list pins s σ H o i v ov iv u Q I ro ri rv h
  · exact set_dict hu pins s σ H o i v ov iv u Q I ro ri rv h
  · exact set_0T hu pins s σ H o i v ov iv u Q I ro ri rv h
  · exact set_0K hu pins s σ H o i v ov iv u Q I ro ri rv h
theorem keyFits_ok {l : List (D × D)} {k : D} (h : keyFits l k = true) : (∃ x, k = keyD x ∧ (∀ q r, l = q :: r → ∃ y, q.1 = keyD y)) ∨ ∃ x : List Key, k = .tup (x.map keyD) ∧ (∀ q r, l = q :: r → ∃ y : List Key, q.1 = .tup (y.map keyD)) := by
  unfold keyFits at h
  rw [Bool.or_eq_true, Bool.and_eq_true, Bool.and_eq_true] at h
  rcases h with ⟨h1, h2⟩ | ⟨h1, h2⟩
  · obtain ⟨x, hx⟩ := Option.isSome_iff_exists.mp h1
    refine .inl ⟨x, keyS_ok hx, fun q r z => ?_⟩
    subst z
    obtain ⟨y, hy⟩ := Option.isSome_iff_exists.mp h2
    exact ⟨y, keyS_ok hy⟩
  · obtain ⟨x, hx⟩ := Option.isSome_iff_exists.mp h1
    refine .inr ⟨x, keyT_ok hx, fun q r z => ?_⟩
    subst z
    obtain ⟨y, hy⟩ := Option.isSome_iff_exists.mp h2
    exact ⟨y, keyT_ok hy⟩
theorem keyD_tup {a : Key} {b : List D} : keyD a ≠ .tup b := by cases a <;> intro h <;> cases h
theorem set_own {K : PySem.W.Frag} {G H : Hp} {p : Addr} {c c' k d : D} {key v : V} {Q : Hp → Prop} (gh : Ex G H) (h : OwnR K G H p c) (rk : Rep K G key k) (rd : Rep K G v d) (hs : setD c k d = some c') (hp : G p = none) (q : ∀ o, OwnR K G (upd H p o) p c' → Q (upd H p o)) : rSetA (.ref p) key v H Q := by
  cases c with
  | lst ds =>
    obtain ⟨xs, hx, rx⟩ := h
    cases k with
    | int k =>
      cases rk
      obtain ⟨n, hn, rfl⟩ := Option.map_eq_some_iff.mp hs
      exact .inl ⟨p, xs, k, n, rfl, rfl, hx, by rw [rx.length]; exact hn, q _ ⟨_, upd_same, rx.set rd n⟩⟩
    | _ => cases hs
  | dct es =>
    have hs' : (if es.length < lenLim ∧ keyFits es k = true then some (D.dct (kvSet es k d)) else none) = some c' := hs
    split at hs'
    · rename_i hc
      cases hs'
      rcases keyFits_ok hc.2 with ⟨x, rfl, hl⟩ | ⟨x, rfl, hl⟩
      · obtain rfl := rep_keyS rk
        rcases h with ⟨kvs, hx, r⟩ | ⟨kvs, hx, r⟩
        · exact .inr (.inl ⟨p, _, rfl, DPut.k hx (by rw [r.length, ← lim_eq]; exact hc.1), q _ (.inl ⟨_, upd_same, r.put rd⟩)⟩)
        · cases r with
          | nil => exact .inr (.inr (.inr ⟨p, x, rfl, hx, rfl, q _ (.inl ⟨_, upd_same, .cons rd .nil⟩)⟩))
          | cons a b => obtain ⟨y, hy⟩ := hl _ _ rfl; exact absurd hy.symm keyD_tup
      · obtain ⟨a, rfl, ha⟩ := rep_keyT rk
        rcases h with ⟨kvs, hx, r⟩ | ⟨kvs, hx, r⟩
        · cases r with
          | nil => exact .inr (.inr (.inl ⟨p, x, a, rfl, hx, rfl, gh _ _ ha, q _ (.inr ⟨_, upd_same, .cons rd .nil⟩)⟩))
          | cons a b => obtain ⟨y, hy⟩ := hl _ _ rfl; exact absurd hy keyD_tup
        · exact .inr (.inl ⟨p, _, rfl, DPut.t hx (gh _ _ ha) (by rw [r.length, ← lim_eq]; exact hc.1), q _ (.inr ⟨_, upd_same, r.put rd⟩)⟩)
    · cases hs'
  | _ => exact h.elim
/-- the thing owned at slot j is written -/
def updS (j : Nat) (f : D → Option D) : M Unit := fun e => match e[j]? with
  | some (.ow b c) => match f c with
    | some c' => .ok ((), e.set j (.ow b c'))
    | none => .err
  | _ => .err
theorem updS_ok {j : Nat} {f : D → Option D} {e : En} {r : Unit × En} (h : updS j f e = .ok r) : ∃ b c c', e[j]? = some (.ow b c) ∧ f c = some c' ∧ r.2 = e.set j (.ow b c') := by
  unfold updS at h
  split at h
  · split at h
    · cases h; exact ⟨_, _, _, by assumption, by assumption, rfl⟩
    · cases h
  · cases h
theorem updS_no {j : Nat} {f : D → Option D} {e e' : En} {x : Xn} : updS j f e ≠ .ex x e' := by
  intro h
  unfold updS at h
  repeat (split at h)
  all_goals cases h
def owJ : Val → M Nat
  | .ow j => ret j
  | _ => fail
def asgI (fo fi : M Val) (val : Val) : M Unit := bnd (shr val) fun d => bnd fo fun vo => bnd (owJ vo) fun j => bnd fi fun vi => bnd (shr vi) fun k => updS j fun c => setD c k d
section
variable {X : Cx} {W : WX} {pos : Pos}
theorem ocg_shr {K : PySem.W.Frag} {pn : Pn} {A : LA} {e : En} {σ : L2.St} {G R H : Hp} {v : V} {val : Val} {ixs : List Nat} {Q : L2.St → Hp → Prop} {k : D → M Unit} (g : RelG K pn A e σ G R H) (r : RepVal K A G R H e σ v val) (oc : OcG K W ixs pn σ R Q G (bnd (shr val) k e)) :
    ∃ d A' e' G', Ex G G' ∧ RelG K pn A' e' σ G' R H ∧ Rep K G' v d ∧ OcG K W ixs pn σ R Q G' (k d e') := by
  unfold bnd at oc
  cases h : shr val e with
  | ok p =>
    obtain ⟨A', G', x, g', r'⟩ := g.shr r (d := p.1) (e' := p.2) h
    rw [h] at oc
    exact ⟨p.1, A', p.2, G', x, g', r', oc.ext x⟩
  | ex x e' => exact absurd h shr_no
  | err => rw [h] at oc; exact oc.elim
theorem sg_sub {o i : Expr} {fo fi : M Val} (hu : X.A.units + 1 < cLine) (ho : PE X o (tEv X.K W fo)) (hi : PE X i (tEv X.K W fi)) (hs : notSlice i = true) : PG X (.Subscript o i pos) (tGv X.K W [] (asgI fo fi)) :=
  PG_mono (pg_sub ho hi (set_any hu) (by intro v; cases i <;> first | rfl | cases hs)) fun v σ H Q q => by
    obtain ⟨pn, A, e, G, R, val, g, r, oc⟩ := q
    obtain ⟨d, A1, e1, G1, x1, g1, r1, oc1⟩ := ocg_shr g r oc
    refine chainG g1 oc1 fun ov vo A2 e2 G2 H2 x2 g2 r2 oc2 => ?_
    cases vo with
    | ow j =>
      have oc3 : OcG X.K W [] pn σ R Q G2 (bnd fi (fun vi => bnd (shr vi) fun k => updS j fun c => setD c k d) e2) := oc2
      refine chainG g2 oc3 fun iv vi A4 e4 G4 H4 x4 g4 r4 oc4 => ?_
      obtain ⟨k, A5, e5, G5, x5, g5, r5, oc5⟩ := ocg_shr g4 r4 oc4
      cases hk : updS j (fun c => setD c k d) e5 with
      | err => rw [hk] at oc5; exact oc5.elim
      | ex x e' => exact absurd hk updS_no
      | ok p =>
        rw [hk] at oc5
        obtain ⟨b, c, c', q1, q2, q3⟩ := updS_ok hk
        obtain ⟨p', h1, h2, h3, h4, h5⟩ := g5.own_ow q1
        rw [r2.1] at h1
        cases h1
        refine set_own g5.gh h5 r5 (r1.mono (x2.trans (x4.trans x5))) q2 h3 fun o ho => ?_
        have fin : FinG X.K [] pn p.2 σ G5 R Q := oc5
        rw [q3] at fin
        exact fin σ _ G5 _ (Ex.refl _) Same.refl (g5.updO q1 r2.1 ho)
    | _ => exact False.elim oc2
end
end Qv
namespace Qv
open PySem L2
open Evl (Ex)

/-! ### statements -/
inductive Fl where
  | nx | bk | ct | rt (v : Val)
def FinS (K : PySem.W.Frag) (pn : Pn) (e : En) (n : Nat) (G R : Hp) (D : Ends) : Fl → Prop
  | .nx => ∀ σ' A' G' H', Ex G G' → σ'.length = n → RelG K pn A' e σ' G' R H' → D.nx σ' H'
  | .bk => ∀ σ' A' G' H', Ex G G' → σ'.length = n → RelG K pn A' e σ' G' R H' → D.bk σ' H'
  | .ct => ∀ σ' A' G' H', Ex G G' → σ'.length = n → RelG K pn A' e σ' G' R H' → D.ct σ' H'
  | .rt val => ∀ v σ' A' G' H', Ex G G' → σ'.length = n → RelG K pn A' e σ' G' R H' → RepVal K A' G' R H' e σ' v val → D.rt v H'
def OcS (K : PySem.W.Frag) (W : WX) (pn : Pn) (n : Nat) (R : Hp) (D : Ends) (G : Hp) (o : Out (Fl × En)) : Prop :=
  Oc (fun fl e' => FinS K pn e' n G R D fl) (fun x e' => FinXS K W pn e' n G R x) o
def tSv (K : PySem.W.Frag) (W : WX) (f : M Fl) : TS := fun D σ H => ∃ pn A e G R, RelG K pn A e σ G R H ∧ OcS K W pn σ.length R D G (f e)
section
variable {K : PySem.W.Frag} {W : WX} {pn : Pn} {A : LA} {e e' : En} {σ : L2.St} {G G' R R' H H' : Hp} {v : V} {val : Val} {ixs : List Nat} {D : Ends} {n : Nat}
theorem FinS.ext : ∀ {fl : Fl}, FinS K pn e n G R D fl → Ex G G' → FinS K pn e n G' R D fl
  | .nx, h, x => fun σ' A' G2 H' x' l' g => h σ' A' G2 H' (x.trans x') l' g
  | .bk, h, x => fun σ' A' G2 H' x' l' g => h σ' A' G2 H' (x.trans x') l' g
  | .ct, h, x => fun σ' A' G2 H' x' l' g => h σ' A' G2 H' (x.trans x') l' g
  | .rt _, h, x => fun v σ' A' G2 H' x' l' g r => h v σ' A' G2 H' (x.trans x') l' g r
theorem OcS.ext {o : Out (Fl × En)} (h : OcS K W pn n R D G o) (x : Ex G G') : OcS K W pn n R D G' o := by
  cases o with
  | ok p => exact FinS.ext (h : FinS K pn p.2 n G R D p.1) x
  | ex y e => exact FinXS.ext (h : FinXS K W pn e n G R y) x
  | err => exact h
theorem chainS {α β : Type} {rv : Rv β α} {m : M α} {k : α → M Fl} {Q' : β → Hp → Prop} (g : RelG K pn A e σ G R H) (oc : OcS K W pn σ.length R D G (bnd m k e))
    (step : ∀ b a A1 e1 G1 H1, Ex G G1 → RelG K pn A1 e1 σ G1 R H1 → rv A1 G1 R H1 e1 σ b a → OcS K W pn σ.length R D G1 (k a e1) → Q' b H1) : tG K W rv m σ H Q' := by
  refine ⟨pn, A, e, G, R, g, ?_⟩
  unfold bnd at oc
  unfold OcV
  cases h : m e with
  | ok p => rw [h] at oc; exact fun b A' G' H' x g' r => step b _ A' _ G' H' x g' r (oc.ext x)
  | ex x e' => rw [h] at oc; exact fun A' G' H' d y g' r => (oc : FinXS K W pn e' σ.length G R x) σ A' G' H' d y rfl g' r
  | err => rw [h] at oc; exact oc
/-- a target is stored, then on -/
theorem chainT {f : Val → M Unit} {k : Unit → M Fl} {Q' : L2.St → Hp → Prop} (g : RelG K pn A e σ G R H) (r : RepVal K A G R H e σ v val) (oc : OcS K W pn n R D G (bnd (f val) k e)) (hn : σ.length = n)
    (step : ∀ σ1 A1 e1 G1 H1, Ex G G1 → Same ixs σ σ1 → RelG K pn A1 e1 σ1 G1 R H1 → OcS K W pn n R D G1 (k () e1) → Q' σ1 H1) : tGv K W ixs f v σ H Q' := by
  refine ⟨pn, A, e, G, R, val, g, r, ?_⟩
  unfold bnd at oc
  unfold OcG
  cases h : f val e with
  | ok p => rw [h] at oc; exact fun σ' A' G' H' x s g' => step σ' A' _ G' H' x s g' (oc.ext x)
  | ex x e' => rw [h] at oc; rw [← hn] at oc; exact oc
  | err => rw [h] at oc; exact oc
/-- a statement, then on -/
theorem chainF {m : M Fl} {k : Fl → M Fl} {D' : Ends} (g : RelG K pn A e σ G R H) (oc : OcS K W pn n R D G (bnd m k e)) (hn : σ.length = n)
    (step : ∀ fl e1, OcS K W pn n R D G (k fl e1) → FinS K pn e1 n G R D' fl) : tSv K W m D' σ H := by
  refine ⟨pn, A, e, G, R, g, ?_⟩
  rw [hn]
  unfold bnd at oc
  unfold OcS
  cases h : m e with
  | ok p => rw [h] at oc; exact step p.1 p.2 oc
  | ex x e' => rw [h] at oc; exact oc
  | err => rw [h] at oc; exact oc
end
def nxS : M Fl := ret .nx
def bkS : M Fl := ret .bk
def ctS : M Fl := ret .ct
def rtS (f : M Val) : M Fl := bnd f fun v => ret (.rt v)
def rtN : M Fl := ret (.rt (.sh .non))
def drS (f : M Val) : M Fl := bnd f fun _ => ret .nx
def seqS : List (M Fl) → M Fl
  | [] => ret .nx
  | f :: r => bnd f fun fl => match fl with
    | .nx => seqS r
    | .bk => ret .bk
    | .ct => ret .ct
    | .rt v => ret (.rt v)
def ifS (c : M Bool) (a b : M Fl) : M Fl := bnd c fun k => if k = true then a else b
def asS (f : M Val) (g : Val → M Unit) : M Fl := bnd f fun v => bnd (g v) fun _ => ret .nx
section
variable {X : Cx} {W : WX} {pos : Pos} {st : Stmt} {a c : Expr} {f : M Val}
theorem ss_nx {t : TS} (h : PS X st tNext) : PS X st (tSv X.K W nxS) := PS_mono h fun D σ H q => by
  obtain ⟨pn, A, e, G, R, g, oc⟩ := q
  exact (show FinS X.K pn e σ.length G R D .nx from oc) σ A G H (Ex.refl G) rfl g
theorem ss_pass : PS X (.Pass pos) (tSv X.K W nxS) := ss_nx (t := tNext) ps_pass
theorem ss_break : PS X (.Break pos) (tSv X.K W bkS) := PS_mono ps_break fun D σ H q => by
  obtain ⟨pn, A, e, G, R, g, oc⟩ := q
  exact (show FinS X.K pn e σ.length G R D .bk from oc) σ A G H (Ex.refl G) rfl g
theorem ss_cont : PS X (.Continue pos) (tSv X.K W ctS) := PS_mono ps_continue fun D σ H q => by
  obtain ⟨pn, A, e, G, R, g, oc⟩ := q
  exact (show FinS X.K pn e σ.length G R D .ct from oc) σ A G H (Ex.refl G) rfl g
theorem ss_ret (ha : PE X a (tEv X.K W f)) : PS X (.Return (some a) pos) (tSv X.K W (rtS f)) := PS_mono (ps_ret ha) fun D σ H q => by
  obtain ⟨pn, A, e, G, R, g, oc⟩ := q
  refine chainS g oc fun x v A1 e1 G1 H1 x1 g1 r1 oc1 => ?_
  exact (show FinS X.K pn e1 σ.length G1 R D (.rt v) from oc1) x σ A1 G1 H1 (Ex.refl _) rfl g1 r1
theorem ss_retN : PS X (.Return none pos) (tSv X.K W rtN) := PS_mono ps_retN fun D σ H q => by
  obtain ⟨pn, A, e, G, R, g, oc⟩ := q
  exact (show FinS X.K pn e σ.length G R D (.rt (.sh .non)) from oc) .non σ A G H (Ex.refl G) rfl g .non
theorem ss_expr (ha : PE X a (tEv X.K W f)) (hs : swapsWith a none pos.line X.env = pure false) : PS X (.Expr a pos) (tSv X.K W (drS f)) := PS_mono (ps_expr ha hs) fun D σ H q => by
  obtain ⟨pn, A, e, G, R, g, oc⟩ := q
  refine chainS g oc fun x v A1 e1 G1 H1 x1 g1 r1 oc1 => ?_
  exact (show FinS X.K pn e1 σ.length G1 R D .nx from oc1) σ A1 G1 H1 (Ex.refl _) rfl g1
theorem ss_if {p q : List Stmt} {t : M Bool} {fp fq : M Fl} (hc : PT X c (tTv X.K W t)) (ha : PSs X p (tSv X.K W fp)) (hb : PSs X q (tSv X.K W fq)) : PS X (.If c p q pos) (tSv X.K W (ifS t fp fq)) := PS_mono (ps_if hc ha hb) fun D σ H q => by
  obtain ⟨pn, A, e, G, R, g, oc⟩ := q
  refine chainS g oc fun k k' A1 e1 G1 H1 x1 g1 r1 oc1 => ?_
  subst r1
  cases k with
  | true => rw [if_pos rfl] at oc1 ⊢; exact ⟨pn, A1, e1, G1, R, g1, oc1⟩
  | false => rw [if_neg Bool.false_ne_true] at oc1 ⊢; exact ⟨pn, A1, e1, G1, R, g1, oc1⟩
theorem tasg {K : PySem.W.Frag} {ixs : List Nat} {te : TE} {f : M Val} {h : Val → M Unit} (hE : ∀ σ H Q, tEv K W f σ H Q → te σ H Q) (D : Ends) (σ : L2.St) (H : Hp) (q : tSv K W (asS f h) D σ H) : tAsg te (tGv K W ixs h) D σ H := by
  obtain ⟨pn, A, e, G, R, g, oc⟩ := q
  refine hE _ _ _ (chainS g oc fun x v A1 e1 G1 H1 x1 g1 r1 oc1 => ?_)
  refine chainT g1 r1 oc1 rfl fun σ2 A2 e2 G2 H2 x2 s2 g2 oc2 => ?_
  exact (show FinS K pn e2 σ.length G2 R D .nx from oc2) σ2 A2 G2 H2 (Ex.refl _) s2.1 g2
theorem ss_asg {ixs : List Nat} {tg : Expr} {h : Val → M Unit} (he : PE X a (tEv X.K W f)) (hg : PG X tg (tGv X.K W ixs h)) (hs : swapsWithSole [tg] a pos.line X.env = pure false) (hw : swappedStores [tg] a X.env = pure none)
    (hn : notStar tg = true) : PS X (.Assign [tg] a pos) (tSv X.K W (asS f h)) := by
  refine PS_mono (ps_asg he hg hs hw ?_) fun D σ H q => tasg (fun _ _ _ h => h) D σ H q
  cases tg <;> first | rfl | cases hn
theorem sss_nil : PSs X [] (tSv X.K W (seqS [])) := PSs_mono pss_nil fun D σ H q => by
  obtain ⟨pn, A, e, G, R, g, oc⟩ := q
  exact (show FinS X.K pn e σ.length G R D .nx from oc) σ A G H (Ex.refl G) rfl g
theorem sss_cons {rest : List Stmt} {fs : M Fl} {fr : List (M Fl)} (h1 : PS X st (tSv X.K W fs)) (h2 : PSs X rest (tSv X.K W (seqS fr))) : PSs X (st :: rest) (tSv X.K W (seqS (fs :: fr))) := PSs_mono (pss_cons h1 h2) fun D σ H q => by
  obtain ⟨pn, A, e, G, R, g, oc⟩ := q
  refine chainF g oc rfl fun fl e1 oc1 => ?_
  cases fl with
  | nx => exact fun σ1 A1 G1 H1 x1 l1 g1 => ⟨pn, A1, e1, G1, R, g1, by rw [l1]; exact OcS.ext oc1 x1⟩
  | bk => exact oc1
  | ct => exact oc1
  | rt v => exact oc1
theorem sss : ∀ (sts : List Stmt) (fs : List (M Fl)), Paired (fun s f => PS X s (tSv X.K W f)) sts fs → PSs X sts (tSv X.K W (seqS fs))
  | _, _, .nil => sss_nil
  | _, _, .cons h r => sss_cons h (sss _ _ r)
/-! ### for -/
def forL (g : Val → M Unit) (b : M Fl) : List D → M Fl
  | [] => ret .nx
  | d :: r => bnd (g (.sh d)) fun _ => bnd b fun fl => match fl with
    | .nx => forL g b r
    | .ct => forL g b r
    | .bk => ret .nx
    | .rt v => ret (.rt v)
def forS (it : M (List D)) (g : Val → M Unit) (b : M Fl) : M Fl := bnd it fun ds => forL g b ds
theorem ss_for {ixs : List Nat} {tg iter : Expr} {body : List Stmt} {wi : M (List D)} {h : Val → M Unit} {fb : M Fl} (hp : PassesOwn (model X.prog X.w) X.A X.env X.xe) (hc : X.calm = true) (hi : PI X tg iter (tIv X.K W wi)) (hg : PG X tg (tGv X.K W ixs h))
    (hb : PSs X body (tSv X.K W fb)) (hs : ∀ x, foldedSetIterable iter X.env x = pure x) : PS X (.For tg iter body [] pos) (tSv X.K W (forS wi h fb)) := PS_mono (ps_for hp hc hi hg hb hs) fun D σ H q => by
  obtain ⟨pn, A, e, G, R, g, oc⟩ := q
  refine chainS g oc fun J ds A1 e1 G1 H1 x1 g1 ok oc1 => ?_
  refine ⟨fun i m σ' H' => m = ds.length - i ∧ i ≤ ds.length ∧ ∃ A2 e2 G2, Ex G1 G2 ∧ σ'.length = σ.length ∧ RelG X.K pn A2 e2 σ' G2 R H' ∧ OcS X.K W pn σ.length R D G2 (forL h fb (ds.drop i) e2), ⟨_, rfl, Nat.zero_le _, A1, e1, G1, Ex.refl _, rfl, g1, oc1⟩, ?_⟩
  rintro i m σ2 H2 ⟨rfl, hi, A2, e2, G2, x2, l2, g2, oc2⟩
  obtain ⟨ok1, ok2, ok3⟩ := ok pn A2 e2 σ2 G2 R H2 i x2 g2
  by_cases hlt : i < ds.length
  · refine .inr ⟨ok1 hlt, fun σ' H' => ∃ A4 e4 G4, Ex G1 G4 ∧ σ'.length = σ.length ∧ RelG X.K pn A4 e4 σ' G4 R H' ∧ OcS X.K W pn σ.length R D G4 (forL h fb (ds.drop (i + 1)) e4), fun σ' H' z => ⟨_, by omega, rfl, hlt, z⟩, fun x H3 y3 => ?_⟩
    have hd : ds[i]? = some ds[i] := by simp [hlt]
    obtain ⟨G3, x3, g3, r3⟩ := ok3 x H3 _ y3 hd
    rw [List.drop_eq_getElem_cons hlt] at oc2
    refine chainT (val := .sh ds[i]) g3 r3 (oc2.ext x3) l2 fun σ4 A4 e4 G4 H4 x4 s4 g4 oc4 => ?_
    have l4 : σ4.length = σ.length := s4.1.trans l2
    refine chainF g4 oc4 l4 fun fl5 e5 oc5 => ?_
    have y := (x2.trans x3).trans x4
    cases fl5 with
    | nx => exact fun σ6 A6 G6 H6 x6 l6 g6 => ⟨A6, e5, G6, y.trans x6, l6, g6, OcS.ext oc5 x6⟩
    | ct => exact fun σ6 A6 G6 H6 x6 l6 g6 => ⟨A6, e5, G6, y.trans x6, l6, g6, OcS.ext oc5 x6⟩
    | bk => exact fun σ6 A6 G6 H6 x6 l6 g6 => (show FinS X.K pn e5 σ.length G4 R D .nx from oc5) σ6 A6 G6 H6 x6 l6 g6
    | rt v => exact fun v6 σ6 A6 G6 H6 x6 l6 g6 r6 => (show FinS X.K pn e5 σ.length G4 R D (.rt v) from oc5) v6 σ6 A6 G6 H6 x6 l6 g6 r6
  · have e0 : i = ds.length := by omega
    refine .inl ⟨ok2 e0, ?_⟩
    rw [List.drop_eq_nil_of_le (by omega)] at oc2
    exact (show FinS X.K pn e2 σ.length G2 R D .nx from oc2) σ2 A2 G2 H2 (Ex.refl _) l2 g2
/-! ### while -/
def whS (c : M Bool) (b : M Fl) : Nat → M Fl
  | 0 => fail
  | n + 1 => bnd c fun k => if k = true then bnd b fun fl => match fl with
    | .nx => whS c b n
    | .ct => whS c b n
    | .bk => ret .nx
    | .rt v => ret (.rt v)
    else ret .nx
theorem ss_while {body : List Stmt} {t : M Bool} {fb : M Fl} {n : Nat} (hp : PassesOwn (model X.prog X.w) X.A X.env X.xe) (hc : PT X c (tTv X.K W t)) (hb : PSs X body (tSv X.K W fb)) : PS X (.While c body [] pos) (tSv X.K W (whS t fb n)) := PS_mono (ps_while hp hc hb) fun D σ H q => by
  obtain ⟨pn, A, e, G, R, g, oc⟩ := q
  refine ⟨fun m σ' H' => ∃ A2 e2 G2, σ'.length = σ.length ∧ RelG X.K pn A2 e2 σ' G2 R H' ∧ OcS X.K W pn σ.length R D G2 (whS t fb m e2), ⟨n, A, e, G, rfl, g, oc⟩, ?_⟩
  rintro m σ2 H2 ⟨A2, e2, G2, l2, g2, oc2⟩
  cases m with
  | zero => exact False.elim oc2
  | succ m =>
    rw [← l2] at oc2
    refine chainS g2 oc2 fun k k' A3 e3 G3 H3 x3 g3 r3 oc3 => ?_
    subst r3
    cases k with
    | false =>
      rw [if_neg Bool.false_ne_true] at oc3 ⊢
      rw [l2] at oc3
      exact (show FinS X.K pn e3 σ.length G3 R D .nx from oc3) σ2 A3 G3 H3 (Ex.refl _) l2 g3
    | true =>
      rw [if_pos rfl] at oc3 ⊢
      rw [l2] at oc3
      refine ⟨fun σ' H' => ∃ A2 e2 G2, σ'.length = σ.length ∧ RelG X.K pn A2 e2 σ' G2 R H' ∧ OcS X.K W pn σ.length R D G2 (whS t fb m e2), fun σ' H' z => ⟨m, Nat.lt_succ_self _, z⟩, ?_⟩
      refine chainF g3 oc3 l2 fun fl5 e5 oc5 => ?_
      cases fl5 with
      | nx => exact fun σ6 A6 G6 H6 x6 l6 g6 => ⟨A6, e5, G6, l6, g6, OcS.ext oc5 x6⟩
      | ct => exact fun σ6 A6 G6 H6 x6 l6 g6 => ⟨A6, e5, G6, l6, g6, OcS.ext oc5 x6⟩
      | bk => exact fun σ6 A6 G6 H6 x6 l6 g6 => (show FinS X.K pn e5 σ.length G3 R D .nx from oc5) σ6 A6 G6 H6 x6 l6 g6
      | rt v => exact fun v6 σ6 A6 G6 H6 x6 l6 g6 r6 => (show FinS X.K pn e5 σ.length G3 R D (.rt v) from oc5) v6 σ6 A6 G6 H6 x6 l6 g6 r6
end
end Qv
namespace Qv
open PySem L2
open Evl (Ex)

theorem bnd_ok {α β : Type} {m : M α} {f : α → M β} {e : En} {r : β × En} (h : bnd m f e = .ok r) : ∃ a e', m e = .ok (a, e') ∧ f a e' = .ok r := by
  unfold bnd at h
  cases q : m e with
  | err => rw [q] at h; cases h
  | ex x e' => rw [q] at h; cases h
  | ok p => rw [q] at h; exact ⟨p.1, p.2, rfl, h⟩
/-- nothing is raised -/
abbrev W0 : WX := fun _ _ _ _ => False
def Slot.bare : Slot → Bool
  | .em => true
  | .sh _ => true
  | _ => false
/-! ### list comprehensions -/
def wipE : List Nat → M Unit
  | [] => ret ()
  | i :: r => bnd (wipE r) fun _ => fun e => match e[i]? with
    | some s => if s.bare = true then .ok ((), e.set i .em) else .err
    | none => .err
/-- the slots as they were -/
def putE : List Nat → En → En → En
  | [], _, e => e
  | i :: r, e0, e => match e0[i]? with
    | some s => (putE r e0 e).set i s
    | none => putE r e0 e
def lcL (own : List Nat) (g : Val → M Unit) (t : M Bool) (f : M Val) : List D → M (List D)
  | [] => bnd (wipE own) fun _ => ret []
  | d :: r => bnd (wipE own) fun _ => bnd (g (.sh d)) fun _ => bnd t fun k =>
    if k = true then bnd f fun v => bnd (shr v) fun x => bnd (lcL own g t f r) fun xs => ret (x :: xs) else lcL own g t f r
def lcC (own : List Nat) (it : M (List D)) (g : Val → M Unit) (t : M Bool) (f : M Val) : M Val := bnd it fun ds => fun e0 => match lcL own g t f ds e0 with
  | .ok (xs, e1) => if xs.length ≤ lenLim then .ok (.fr (.lst xs), putE own e0 e1) else .err
  | _ => .err
section
variable {K : PySem.W.Frag} {pn : Pn} {A : LA} {e e' : En} {σ : L2.St} {G G' R R' H H' : Hp} {v : V} {val : Val}
theorem bare_io {s : Slot} (h : s.bare = true) : s.io = false := by
  cases s <;> first | rfl | cases h
theorem wipE_ok : ∀ {own : List Nat} {e e' : En} {σ : L2.St} {A : LA}, RelG K pn A e σ G R H → wipE own e = .ok ((), e') → ∃ A', RelG K pn A' e' (wipe σ own) G R H
  | [], e, e', σ, A, g, h => by cases h; exact ⟨A, g⟩
  | i :: r, e, e', σ, A, g, h => by
    obtain ⟨_, e1, h1, k1⟩ := bnd_ok h
    obtain ⟨A1, g1⟩ := wipE_ok g h1
    split at k1
    · rename_i s hs
      split at k1
      · rename_i hb
        cases k1
        exact g1.em (by show ((wipe σ r).set i none).length = _; simp) (fun k hk => by show ((wipe σ r).set i none)[k]? = _; exact set_ne hk) fun t ht => by rw [hs] at ht; cases ht; exact bare_io hb
      · cases k1
    · cases k1
theorem wipE_env : ∀ {own : List Nat} {e e' : En}, wipE own e = .ok ((), e') → e'.length = e.length ∧ (∀ k, k ∉ own → e'[k]? = e[k]?) ∧ ∀ k ∈ own, e'[k]? = some .em
  | [], e, e', h => by cases h; exact ⟨rfl, fun _ _ => rfl, fun k hk => by cases hk⟩
  | i :: r, e, e', h => by
    obtain ⟨_, e1, h1, k1⟩ := bnd_ok h
    obtain ⟨a, b, c⟩ := wipE_env h1
    split at k1
    · rename_i s hs
      split at k1
      · rename_i hb
        cases k1
        have hi : i < e1.length := (List.getElem?_eq_some_iff.mp hs).1
        refine ⟨by simpa using a, fun k hk => ?_, fun k hk => ?_⟩
        · rw [List.mem_cons, not_or] at hk
          rw [set_ne hk.1]; exact b k hk.2
        · by_cases hk2 : k = i
          · subst hk2; exact getElem?_setB hi
          · rw [set_ne hk2]
            rcases List.mem_cons.mp hk with z | z
            · exact absurd z hk2
            · exact c k z
      · cases k1
    · cases k1
theorem putE_len : ∀ {own : List Nat} {e0 e1 : En}, (putE own e0 e1).length = e1.length
  | [], _, _ => rfl
  | i :: r, e0, e1 => by
    unfold putE
    split
    · rw [List.length_set]; exact putE_len
    · exact putE_len
theorem putE_ne : ∀ {own : List Nat} {e0 e1 : En} {k : Nat}, k ∉ own → (putE own e0 e1)[k]? = e1[k]?
  | [], _, _, _, _ => rfl
  | i :: r, e0, e1, k, h => by
    rw [List.mem_cons, not_or] at h
    unfold putE
    split
    · rw [set_ne h.1]; exact putE_ne h.2
    · exact putE_ne h.2
theorem putE_eq : ∀ {own : List Nat} {e0 e1 : En} {k : Nat}, k ∈ own → e0.length = e1.length → (putE own e0 e1)[k]? = e0[k]?
  | [], _, _, _, h, _ => by cases h
  | i :: r, e0, e1, k, h, l => by
    unfold putE
    by_cases hk : k = i
    · subst hk
      split
      · rename_i s hs
        have hi : k < e0.length := (List.getElem?_eq_some_iff.mp hs).1
        rw [getElem?_setB (by rw [putE_len, ← l]; exact hi), hs]
      · rename_i hs
        rw [hs]
        exact List.getElem?_eq_none (by rw [putE_len, ← l]; exact List.getElem?_eq_none_iff.mp hs)
    · have hr : k ∈ r := by
        rcases List.mem_cons.mp h with z | z
        · exact absurd z hk
        · exact z
      split
      · rw [set_ne hk]; exact putE_eq hr l
      · exact putE_eq hr l
theorem wipe_ne {σ : L2.St} : ∀ {own : List Nat} {k : Nat}, k ∉ own → (wipe σ own)[k]? = σ[k]?
  | [], _, _ => rfl
  | i :: r, k, h => by
    rw [List.mem_cons, not_or] at h
    show ((wipe σ r).set i none)[k]? = _
    rw [set_ne h.1]; exact wipe_ne h.2
theorem wipe_in {σ : L2.St} : ∀ {own : List Nat} {k : Nat}, k ∈ own → k < σ.length → (wipe σ own)[k]? = some none
  | i :: r, k, h, l => by
    show ((wipe σ r).set i none)[k]? = _
    by_cases hk : k = i
    · subst hk; exact getElem?_setB (by rw [wipe_length]; exact l)
    · rw [set_ne hk]
      rcases List.mem_cons.mp h with z | z
      · exact absurd z hk
      · exact wipe_in z l
theorem wipe_same {own : List Nat} {σ σ' : L2.St} (h : Same own σ σ') : wipe σ' own = wipe σ own := by
  apply List.ext_getElem?
  intro k
  by_cases hk : k ∈ own
  · by_cases hl : k < σ.length
    · rw [wipe_in hk hl, wipe_in hk (by rw [h.1]; exact hl)]
    · rw [List.getElem?_eq_none (by rw [wipe_length, h.1]; exact Nat.le_of_not_lt hl), List.getElem?_eq_none (by rw [wipe_length]; exact Nat.le_of_not_lt hl)]
  · rw [wipe_ne hk, wipe_ne hk]; exact h.2 k hk
theorem same_wipe {own : List Nat} {σ : L2.St} : Same own σ (wipe σ own) := ⟨wipe_length _ _, fun k hk => wipe_ne hk⟩
theorem wipE_not : ∀ {own : List Nat} {e : En} {r : Unit × En}, wipE own e = .ok r → ∀ k ∈ own, ∀ s, e[k]? = some s → s.bare = true
  | [], _, _, _, k, hk => by cases hk
  | i :: r, e, q, h, k, hk => fun s z => by
    obtain ⟨_, e1, h1, k1⟩ := bnd_ok h
    by_cases hr : k ∈ r
    · exact wipE_not h1 k hr s z
    · have : k = i := by rcases List.mem_cons.mp hk with z | z; exact z; exact absurd z hr
      subst this
      obtain ⟨_, b2, _⟩ := wipE_env h1
      rw [← b2 k hr] at z
      rw [z] at k1
      dsimp only at k1
      split at k1
      · assumption
      · cases k1
/-- behind the block the slots are as they were -/
theorem RelG.unwip {own : List Nat} {A1 : LA} {e0 e1 : En} (g0 : RelG K pn A e0 σ G R' H) (hno : ∀ k ∈ own, ∀ s, e0[k]? = some s → s.bare = true) (x : Ex G G') (g : RelG K pn A1 e1 (wipe σ own) G' R H') (he : ∀ k ∈ own, e1[k]? = some .em) : RelG K pn A1 (putE own e0 e1) σ G' R H' := by
  have hlen : e0.length = e1.length := by rw [g0.len, g.len, wipe_length]
  refine ⟨g.gh, g.rh, g.dj, by rw [putE_len, ← hlen]; exact g0.len, g.own, g.inj, fun j s q => ?_, fun q hq => ?_⟩
  · by_cases hj : j ∈ own
    · rw [putE_eq hj hlen] at q
      have z := g0.sl j s q
      have hb := hno j hj s q
      cases s with
      | em => exact trivial
      | sh d => obtain ⟨v, a, b⟩ := z; exact ⟨v, a, b.mono x⟩
      | ow b d => cases hb
      | nt b d => cases hb
    · rw [putE_ne hj] at q
      have z := g.sl j s q
      rw [wipe_ne hj] at z
      exact z
  · obtain ⟨a, s, b, c⟩ := g.pin q hq
    have hn : q.1 ∉ own := fun z => by rw [he _ z] at b; cases b; cases c
    rw [wipe_ne hn] at a
    rw [putE_ne hn]
    exact ⟨a, s, b, c⟩
end
theorem lcL_env {own : List Nat} {g : Val → M Unit} {t : M Bool} {f : M Val} : ∀ {ds : List D} {e : En} {r : List D × En}, lcL own g t f ds e = .ok r → (∀ k ∈ own, r.2[k]? = some .em) ∧ ∃ e1, wipE own e = .ok ((), e1)
  | [], e, r, h => by
    obtain ⟨_, e1, h1, k1⟩ := bnd_ok h
    cases k1
    exact ⟨(wipE_env h1).2.2, e1, h1⟩
  | d :: ds, e, r, h => by
    obtain ⟨_, e1, h1, k1⟩ := bnd_ok h
    refine ⟨?_, e1, h1⟩
    obtain ⟨_, e2, h2, k2⟩ := bnd_ok k1
    obtain ⟨k, e3, h3, k3⟩ := bnd_ok k2
    cases k with
    | false =>
      rw [if_neg Bool.false_ne_true] at k3
      exact (lcL_env k3).1
    | true =>
      rw [if_pos rfl] at k3
      obtain ⟨v, e4, h4, k4⟩ := bnd_ok k3
      obtain ⟨x, e5, h5, k5⟩ := bnd_ok k4
      obtain ⟨xs, e6, h6, k6⟩ := bnd_ok k5
      cases k6
      exact (lcL_env h6).1
theorem tlc {K : PySem.W.Frag} {W : WX} {own ixs : List Nat} {it : M (List D)} {g : Val → M Unit} {t : M Bool} {f : M Val} (hix : ∀ i ∈ ixs, i ∈ own) (σ : L2.St) (H : Hp) (Q : VK) (q : tEv K W (lcC own it g t f) σ H Q) : tLc (tIv K W it) (tGv K W0 ixs g) (tTv K W0 t) (tEv K W0 f) own σ H Q := by
  obtain ⟨pn, A, e, G, R, g0, oc⟩ := q
  refine chain g0 oc fun J ds A1 e1 G1 H1 x1 g1 ok oc1 => ?_
  intro D hD
  cases k2 : lcL own g t f ds e1 with
  | err => rw [k2] at oc1; exact False.elim oc1
  | ex x e2 => rw [k2] at oc1; exact False.elim oc1
  | ok p =>
    obtain ⟨xs, e2⟩ := p
    rw [k2] at oc1
    have oc2 : OcV K W (rvE K) pn σ R Q G1 (if xs.length ≤ lenLim then Out.ok (Val.fr (.lst xs), putE own e1 e2) else Out.err) := oc1
    by_cases hlen : xs.length ≤ lenLim
    · rw [if_pos hlen] at oc2
      have fin : FinV K (rvE K) pn (putE own e1 e2) σ G1 R (.fr (.lst xs)) Q := oc2
      obtain ⟨hem, ew, hw⟩ := lcL_env k2
      obtain ⟨gD, GD, RD, oD⟩ := g1.laidF (o := .lst []) hD
      have gA : RelG K pn A1 e1 σ G1 (upd R D (.lst [])) (upd H1 D (.lst [])) := gD.addR GD upd_same oD
      refine ⟨fun i m H' => m = ds.length - i ∧ i ≤ ds.length ∧ ∃ A3 e3 σ3 G3 acc as xs', Ex G1 G3 ∧ Same own σ σ3 ∧ RelG K pn A3 e3 σ3 G3 (upd R D (.lst acc)) H' ∧ RepL K G3 acc as ∧ xs = as ++ xs' ∧ lcL own g t f (ds.drop i) e3 = .ok (xs', e2), ⟨_, rfl, Nat.zero_le _, A1, e1, σ, G1, [], [], xs, Ex.refl _, Same.refl, gA, .nil, rfl, k2⟩, ?_⟩
      rintro i m H3 ⟨rfl, hi, A3, e3, σ3, G3, acc, as, xs', x3, s3, g3, ra, hx, k3⟩
      have ws : wipe σ3 own = wipe σ own := wipe_same s3
      by_cases hlt : i < ds.length
      · rw [List.drop_eq_getElem_cons hlt] at k3
        obtain ⟨_, e4, h4, k4⟩ := bnd_ok k3
        obtain ⟨A4, g4⟩ := wipE_ok g3 h4
        rw [ws] at g4
        obtain ⟨ok1, ok2, ok3⟩ := ok pn A4 e4 (wipe σ own) G3 _ H3 i x3 g4
        obtain ⟨_, e5, h5, k5⟩ := bnd_ok k4
        obtain ⟨kb, e6, h6, k6⟩ := bnd_ok k5
        refine .inr ⟨ok1 hlt, fun H' => ∃ A3 e3 σ3 G3 acc as xs', Ex G1 G3 ∧ Same own σ σ3 ∧ RelG K pn A3 e3 σ3 G3 (upd R D (.lst acc)) H' ∧ RepL K G3 acc as ∧ xs = as ++ xs' ∧ lcL own g t f (ds.drop (i + 1)) e3 = .ok (xs', e2), fun H' z => ⟨_, by omega, rfl, hlt, z⟩, fun x H5 y5 => ?_⟩
        have hd : ds[i]? = some ds[i] := by simp [hlt]
        obtain ⟨G5, x5, g5, r5⟩ := ok3 x H5 _ y5 hd
        refine ⟨pn, A4, e4, G5, _, .sh ds[i], g5, r5, ?_⟩
        unfold OcG
        rw [h5]
        intro σ6 A6 G6 H6 x6 s6 g6
        have s6' : Same own (wipe σ own) σ6 := s6.of hix
        have s7 : Same own σ σ6 := same_wipe.trans s6'
        refine ⟨wipe_same s7, pn, A6, e5, G6, _, g6, ?_⟩
        unfold OcV
        rw [h6]
        intro kb' A7 G7 H7 x7 g7 hkb
        subst hkb
        have y := x3.trans (x5.trans (x6.trans x7))
        have y0 := x5.trans (x6.trans x7)
        cases kb' with
        | false =>
          rw [if_neg Bool.false_ne_true] at k6
          show ∃ A3 e3 σ3 G3 acc as xs', _
          exact ⟨A7, e6, σ6, G7, acc, as, xs', y, s7, g7, ra.mono y0, hx, k6⟩
        | true =>
          rw [if_pos rfl] at k6
          show tEv K W0 f σ6 H7 _
          obtain ⟨v, e8, h8, k8⟩ := bnd_ok k6
          obtain ⟨xd, e9, h9, k9⟩ := bnd_ok k8
          obtain ⟨xs2, e10, h10, k10⟩ := bnd_ok k9
          cases k10
          refine ⟨pn, A7, e6, G7, _, g7, ?_⟩
          unfold OcV
          rw [h8]
          intro z A8 G8 H8 x8 g8 r8
          obtain ⟨A9, G9, x9, g9, r9⟩ := g8.shr r8 h9
          have ra9 := ra.mono (y0.trans (x8.trans x9))
          refine ⟨acc, g9.rh _ _ upd_same, ?_, A9, e9, σ6, G9, acc ++ [z], as ++ [xd], xs2, y.trans (x8.trans x9), s7, g9.frameSet, ra9.append (.cons r9 .nil), by rw [hx, List.append_assoc]; rfl, h10⟩
          rw [← lim_eq, ra.length]
          rw [hx, List.length_append, List.length_cons] at hlen
          omega
      · have e0 : i = ds.length := by omega
        rw [List.drop_eq_nil_of_le (by omega)] at k3
        obtain ⟨_, e4, h4, k4⟩ := bnd_ok k3
        cases k4
        obtain ⟨A4, g4⟩ := wipE_ok g3 h4
        rw [ws] at g4
        obtain ⟨ok1, ok2, ok3⟩ := ok pn A4 e2 (wipe σ own) G3 _ H3 i x3 g4
        refine .inl ⟨ok2 e0, ?_⟩
        have hno := wipE_not hw
        have g5 : RelG K pn A4 (putE own e1 e2) σ G3 (upd R D (.lst acc)) H3 := RelG.unwip g1 hno x3 g4 (wipE_env h4).2.2
        have RD' : R D = none := RD
        have ns : ¬ Owd A4 D := fun ⟨j, τ, z⟩ => by
          have := (g5.own j τ D z).2.1
          rw [upd_same] at this; cases this
        have g6 : RelG K pn A4 (putE own e1 e2) σ G3 R H3 := g5.weakR (Ex.new RD')
        rw [List.append_nil] at hx
        subst hx
        exact fin _ A4 G3 H3 x3 g6 ⟨D, rfl, g5.dj D (by rw [upd_same]; simp), RD', ns, ⟨acc, g5.rh _ _ upd_same, ra⟩⟩
    · rw [if_neg hlen] at oc2; exact False.elim oc2
end Qv
namespace Qv
open PySem L2 PySem.Spec PyProof.Rows
open Evl (Ex)

/-! ### calls of the text's own functions -/
def frzL : List Bool → List Val → M (List Val)
  | _, [] => ret []
  | true :: bs, v :: vs => bnd (frzL bs vs) fun r => ret (v :: r)
  | false :: bs, v :: vs => bnd (shr v) fun d => bnd (frzL bs vs) fun r => ret (.sh d :: r)
  | [], v :: vs => bnd (shr v) fun d => bnd (frzL [] vs) fun r => ret (.sh d :: r)
def slotOf (e : En) : Val → Option Slot
  | .sh d => some (.sh d)
  | .ow i => match e[i]? with
    | some (.ow _ d) => some (.ow true d)
    | _ => none
  | .np i [] => match e[i]? with
    | some (.nt _ d) => some (.nt true d)
    | _ => none
  | _ => none
def slotsOf (e : En) : List Val → Option (List Slot)
  | [] => some []
  | v :: vs => match slotOf e v, slotsOf e vs with
    | some s, some ss => some (s :: ss)
    | _, _ => none
def pairs : Nat → List Val → List (Nat × Nat)
  | _, [] => []
  | k, .ow i :: r => (k, i) :: pairs (k + 1) r
  | k, .np i _ :: r => (k, i) :: pairs (k + 1) r
  | k, _ :: r => pairs (k + 1) r
def backE : List (Nat × Nat) → En → En → Option En
  | [], _, e => some e
  | (k, i) :: r, b, e => match e[i]?, b[k]? with
    | some (.ow io _), some (.ow true d) => backE r b (e.set i (.ow io d))
    | some (.nt io _), some (.nt true d) => backE r b (e.set i (.nt io d))
    | _, _ => none
/-- what of a callee's slot its caller sees -/
def Slot.nrm : Slot → Slot
  | .ow true d => .ow true d
  | .nt true d => .nt true d
  | _ => .em
def backL (np : Nat) (e : En) : En := (e.take np).map Slot.nrm
abbrev Ev := List Slot → Out (Val × En)
def goV (ev : Ev) (vals : List Val) : M Val := fun e => match slotsOf e vals with
  | none => .err
  | some ss => if ((pairs 0 vals).map Prod.snd).Nodup then match ev ss with
      | .ok (val, b) => match backE (pairs 0 vals) b e with
        | some e2 => .ok (val, e2)
        | none => .err
      | .ex x b => match backE (pairs 0 vals) b e with
        | some e2 => .ex x e2
        | none => .err
      | .err => .err
    else .err
def callV (bs : List Bool) (ev : Ev) (fs : List (M Val)) : M Val := bnd (argsN fs) fun vals => bnd (frzL bs vals) fun vals1 => goV ev vals1
/-- what is handed back: a thing of one's own is nobody's by then -/
def retV (e : En) : Val → Option Val
  | .sh d => some (.sh d)
  | .fr d => some (.fr d)
  | .fn d => some (.fn d)
  | .ow k => match e[k]? with
    | some (.ow false d) => some (.fr d)
    | _ => none
  | .np k [] => match e[k]? with
    | some (.nt false d) => some (.fn d)
    | _ => none
  | .np _ (_ :: _) => none
def evF (n np : Nat) (body : M Fl) : Ev := fun ss => if ss.length = np then match body (ss ++ List.replicate (n - np) .em) with
    | .ok (.rt v, e) => match retV e v with
      | some v' => .ok (v', backL np e)
      | none => .err
    | .ok (.nx, e) => .ok (.sh .non, backL np e)
    | .ex x e => .ex x (backL np e)
    | _ => .err
  else .err
section
variable {γ δ : Type} {K : PySem.W.Frag} {W : WX} {rv' : Rv δ γ} {pn : Pn} {A A' : LA} {e e' : En} {σ : L2.St} {G G' R R' H H' : Hp} {v : V} {val : Val} {Q' : δ → Hp → Prop}
theorem oc_frzL : ∀ {bs : List Bool} {vals : List Val} {vs : List V} {A : LA} {e : En} {G : Hp} {k : List Val → M γ}, RelG K pn A e σ G R H → PnVs K G σ vs vals → OcV K W rv' pn σ R Q' G (bnd (frzL bs vals) k e) →
    ∃ r A' e' G', Ex G G' ∧ RelG K pn A' e' σ G' R H ∧ PnVs K G' σ vs r ∧ OcV K W rv' pn σ R Q' G' (k r e')
  | bs, _, _, A, e, G, k, g, .nil, oc => by
    have oc' : OcV K W rv' pn σ R Q' G (k [] e) := by cases bs with
      | nil => exact oc
      | cons b _ => cases b <;> exact oc
    exact ⟨[], A, e, G, Ex.refl G, g, .nil, oc'⟩
  | true :: bs, _, _, A, e, G, k, g, .cons p pp, oc => by
    obtain ⟨r, A1, e1, G1, x1, g1, p1, oc1⟩ := oc_frzL g pp (oc_assoc oc)
    exact ⟨_ :: r, A1, e1, G1, x1, g1, .cons (p.mono x1) p1, oc1⟩
  | false :: bs, _, _, A, e, G, k, g, .cons p pp, oc => by
    obtain ⟨d, A1, e1, G1, x1, g1, p1, oc1⟩ := oc_shrP g p (oc_assoc oc)
    obtain ⟨r, A2, e2, G2, x2, g2, p2, oc2⟩ := oc_frzL g1 (PnVs.mono x1 pp) (oc_assoc oc1)
    exact ⟨.sh d :: r, A2, e2, G2, x1.trans x2, g2, .cons (Rep.mono x2 p1) p2, oc2⟩
  | [], _, _, A, e, G, k, g, .cons p pp, oc => by
    obtain ⟨d, A1, e1, G1, x1, g1, p1, oc1⟩ := oc_shrP g p (oc_assoc oc)
    obtain ⟨r, A2, e2, G2, x2, g2, p2, oc2⟩ := oc_frzL g1 (PnVs.mono x1 pp) (oc_assoc oc1)
    exact ⟨.sh d :: r, A2, e2, G2, x1.trans x2, g2, .cons (Rep.mono x2 p1) p2, oc2⟩
/-- the slot that is handed over -/
def isOwn : Val → Option Nat
  | .ow i => some i
  | .np i _ => some i
  | _ => none
theorem pairs_mem : ∀ {vals : List Val} {k0 k i : Nat}, (k, i) ∈ pairs k0 vals ↔ ∃ j w, k = k0 + j ∧ vals[j]? = some w ∧ isOwn w = some i
  | [], k0, k, i => ⟨fun h => (nomatch h), fun ⟨j, w, _, h, _⟩ => by simp at h⟩
  | v :: r, k0, k, i => by
    have ih := fun k0 => @pairs_mem r k0 k i
    have up : (∃ j w, k = k0 + j ∧ (v :: r)[j]? = some w ∧ isOwn w = some i) ↔ (k = k0 ∧ isOwn v = some i) ∨ ∃ j w, k = k0 + 1 + j ∧ r[j]? = some w ∧ isOwn w = some i := by
      constructor
      · rintro ⟨j, w, h1, h2, h3⟩
        cases j with
        | zero => simp at h2; subst h2; exact .inl ⟨h1, h3⟩
        | succ j => exact .inr ⟨j, w, by omega, by simpa using h2, h3⟩
      · rintro (⟨h1, h2⟩ | ⟨j, w, h1, h2, h3⟩)
        · exact ⟨0, v, h1, rfl, h2⟩
        · exact ⟨j + 1, w, by omega, by simpa using h2, h3⟩
    rw [up]
    have own : ∀ i', isOwn v = some i' → pairs k0 (v :: r) = (k0, i') :: pairs (k0 + 1) r → ((k, i) ∈ pairs k0 (v :: r) ↔ (k = k0 ∧ isOwn v = some i) ∨ ∃ j w, k = k0 + 1 + j ∧ r[j]? = some w ∧ isOwn w = some i) := fun i' hv hp => by
      rw [hp, List.mem_cons, ih, hv]
      constructor
      · rintro (h | h)
        · cases h; exact .inl ⟨rfl, rfl⟩
        · exact .inr h
      · rintro (⟨h1, h2⟩ | h)
        · cases h2; subst h1; exact .inl rfl
        · exact .inr h
    have non : isOwn v = none → pairs k0 (v :: r) = pairs (k0 + 1) r → ((k, i) ∈ pairs k0 (v :: r) ↔ (k = k0 ∧ isOwn v = some i) ∨ ∃ j w, k = k0 + 1 + j ∧ r[j]? = some w ∧ isOwn w = some i) := fun hv hp => by
      rw [hp, ih, hv]
      exact ⟨.inr, fun h => h.elim (fun z => by cases z.2) id⟩
    cases v with
    | ow i' => exact own i' rfl rfl
    | np i' p => exact own i' rfl rfl
    | sh d => exact non rfl rfl
    | fr d => exact non rfl rfl
    | fn d => exact non rfl rfl
theorem slotsOf_get : ∀ {vals : List Val} {ss : List Slot}, slotsOf e vals = some ss → ss.length = vals.length ∧ ∀ (j : Nat) (w : Val), vals[j]? = some w → ∃ s, ss[j]? = some s ∧ slotOf e w = some s
  | [], ss, h => by cases h; exact ⟨rfl, fun j w q => by simp at q⟩
  | w :: r, ss, h => by
    unfold slotsOf at h
    split at h
    · rename_i s ss' h1 h2
      cases h
      obtain ⟨a, b⟩ := slotsOf_get h2
      refine ⟨by simpa using a, fun j x q => ?_⟩
      cases j with
      | zero => simp at q; subst q; exact ⟨s, rfl, h1⟩
      | succ j => obtain ⟨t, t1, t2⟩ := b j x (by simpa using q); exact ⟨t, by simpa using t1, t2⟩
    · cases h
theorem slotOf_own {w : Val} {s : Slot} (h : slotOf e w = some s) : (∃ d, w = .sh d ∧ s = .sh d) ∨ (∃ i b d, w = .ow i ∧ e[i]? = some (.ow b d) ∧ s = .ow true d) ∨ ∃ i b d, w = .np i [] ∧ e[i]? = some (.nt b d) ∧ s = .nt true d := by
  cases w with
  | sh d => cases h; exact .inl ⟨d, rfl, rfl⟩
  | fr d => cases h
  | fn d => cases h
  | ow i =>
    unfold slotOf at h
    dsimp only at h
    split at h
    · cases h; exact .inr (.inl ⟨_, _, _, rfl, by assumption, rfl⟩)
    · cases h
  | np i π =>
    cases π with
    | nil =>
      unfold slotOf at h
      dsimp only at h
      split at h
      · cases h; exact .inr (.inr ⟨_, _, _, rfl, by assumption, rfl⟩)
      · cases h
    | cons => cases h
/-- both owning, of one sort -/
def SlK : Slot → Slot → Prop
  | .ow io _, .ow io' _ => io = io'
  | .nt io _, .nt io' _ => io = io'
  | _, _ => False
theorem backE_ok : ∀ {ps : List (Nat × Nat)} {b e e2 : En}, (ps.map Prod.snd).Nodup → backE ps b e = some e2 → e2.length = e.length ∧ (∀ i, i ∉ ps.map Prod.snd → e2[i]? = e[i]?) ∧
    ∀ k i, (k, i) ∈ ps → ∃ (io : Bool) (d d' : D), (e[i]? = some (.ow io d) ∧ b[k]? = some (.ow true d') ∧ e2[i]? = some (.ow io d')) ∨ (e[i]? = some (.nt io d) ∧ b[k]? = some (.nt true d') ∧ e2[i]? = some (.nt io d'))
  | [], b, e, e2, _, h => by cases h; exact ⟨rfl, fun _ _ => rfl, fun k i q => (nomatch q)⟩
  | (k, i) :: r, b, e, e2, nd, h => by
    rw [List.map_cons, List.nodup_cons] at nd
    have go : ∀ (s : Slot), i < e.length → backE r b (e.set i s) = some e2 → (∃ (io : Bool) (d d' : D), (e[i]? = some (.ow io d) ∧ b[k]? = some (.ow true d') ∧ s = .ow io d') ∨ (e[i]? = some (.nt io d) ∧ b[k]? = some (.nt true d') ∧ s = .nt io d')) → e2.length = e.length ∧ (∀ j, j ∉ ((k, i) :: r).map Prod.snd → e2[j]? = e[j]?) ∧
      ∀ k' i', (k', i') ∈ (k, i) :: r → ∃ (io : Bool) (d d' : D), (e[i']? = some (.ow io d) ∧ b[k']? = some (.ow true d') ∧ e2[i']? = some (.ow io d')) ∨ (e[i']? = some (.nt io d) ∧ b[k']? = some (.nt true d') ∧ e2[i']? = some (.nt io d')) := fun s hi hb hs => by
      obtain ⟨l1, l2, l3⟩ := backE_ok nd.2 hb
      refine ⟨by simpa using l1, fun j hj => ?_, fun k' i' q => ?_⟩
      · rw [List.map_cons, List.mem_cons, not_or] at hj
        rw [l2 j hj.2, set_ne hj.1]
      · rcases List.mem_cons.mp q with z | z
        · cases z
          have e2i : e2[i]? = some s := by rw [l2 i nd.1, getElem?_setB hi]
          obtain ⟨io, d, d', h | h⟩ := hs
          · exact ⟨io, d, d', .inl ⟨h.1, h.2.1, by rw [e2i, h.2.2]⟩⟩
          · exact ⟨io, d, d', .inr ⟨h.1, h.2.1, by rw [e2i, h.2.2]⟩⟩
        · obtain ⟨io, d, d', q1⟩ := l3 k' i' z
          have hne : i' ≠ i := fun w => nd.1 (by rw [← w]; exact List.mem_map.mpr ⟨(k', i'), z, rfl⟩)
          rw [set_ne hne] at q1
          exact ⟨io, d, d', q1⟩
    unfold backE at h
    split at h
    · rename_i io d d' h1 h2
      exact go _ (List.getElem?_eq_some_iff.mp h1).1 h ⟨io, d, d', .inl ⟨h1, h2, rfl⟩⟩
    · rename_i io d d' h1 h2
      exact go _ (List.getElem?_eq_some_iff.mp h1).1 h ⟨io, d, d', .inr ⟨h1, h2, rfl⟩⟩
    · cases h
theorem snd_inj {ps : List (Nat × Nat)} (nd : (ps.map Prod.snd).Nodup) {k k' i : Nat} (h : (k, i) ∈ ps) (h' : (k', i) ∈ ps) : k = k' := by
  induction ps with
  | nil => cases h
  | cons q r ih =>
    rw [List.map_cons, List.nodup_cons] at nd
    rcases List.mem_cons.mp h with z | z <;> rcases List.mem_cons.mp h' with z' | z'
    · rw [← z] at z'; cases z'; rfl
    · exact absurd (List.mem_map.mpr ⟨(k', i), z', rfl⟩) (by rw [← z] at nd; exact nd.1)
    · exact absurd (List.mem_map.mpr ⟨(k, i), z, rfl⟩) (by rw [← z'] at nd; exact nd.1)
    · exact ih nd.2 z z'
theorem fst_inj {vals : List Val} {k i i' : Nat} (h : (k, i) ∈ pairs 0 vals) (h' : (k, i') ∈ pairs 0 vals) : i = i' := by
  obtain ⟨j, w, e1, q1, r1⟩ := pairs_mem.mp h
  obtain ⟨j', w', e2, q2, r2⟩ := pairs_mem.mp h'
  have : j = j' := by omega
  subst this
  rw [q1] at q2
  cases q2
  rw [r1] at r2
  cases r2; rfl
/-- owned by the caller and not handed over -/
def Kept (A : LA) (ps : List (Nat × Nat)) (a : Addr) : Prop := ∃ i τ, A i τ = some a ∧ i ∉ ps.map Prod.snd
open Classical in
noncomputable def Rc (A : LA) (ps : List (Nat × Nat)) (R H : Hp) : Hp := fun a => if Kept A ps a then H a else R a
/-- the callee's labels -/
def LAc (A : LA) (ps : List (Nat × Nat)) : LA := fun k => match ps.find? fun q => decide (q.1 = k) with
  | some q => A q.2
  | none => fun _ => none
theorem find_mem {ps : List (Nat × Nat)} {k : Nat} {q : Nat × Nat} (h : (ps.find? fun q => decide (q.1 = k)) = some q) : q ∈ ps ∧ q.1 = k := ⟨List.mem_of_find?_eq_some h, by simpa using List.find?_some h⟩
theorem LAc_mem {vals : List Val} {k i : Nat} (h : (k, i) ∈ pairs 0 vals) : LAc A (pairs 0 vals) k = A i := by
  unfold LAc
  cases q : (pairs 0 vals).find? fun q => decide (q.1 = k) with
  | none => have := List.find?_eq_none.mp q (k, i) h; simp at this
  | some p =>
    obtain ⟨h1, h2⟩ := find_mem q
    obtain ⟨k', i'⟩ := p
    simp only at h2
    subst h2
    show A i' = A i
    rw [fst_inj h1 h]
theorem LAc_some {ps : List (Nat × Nat)} {k : Nat} {τ : List Pt} {a : Addr} (h : LAc A ps k τ = some a) : ∃ i, (k, i) ∈ ps ∧ A i τ = some a := by
  unfold LAc at h
  cases hq : ps.find? fun q => decide (q.1 = k) with
  | none => rw [hq] at h; cases h
  | some q =>
    rw [hq] at h
    obtain ⟨h1, h2⟩ := find_mem hq
    obtain ⟨k', i⟩ := q
    simp only at h2
    subst h2
    exact ⟨i, h1, h⟩
def pnOf (ps : List (Nat × Nat)) (σ : L2.St) : Pn := ps.filterMap fun q => match σ[q.2]? with
  | some (some (V.ref p)) => some (q.1, p)
  | _ => none
theorem pnOf_mem {ps : List (Nat × Nat)} {q : Nat × Addr} (h : q ∈ pnOf ps σ) : ∃ i, (q.1, i) ∈ ps ∧ σ[i]? = some (some (.ref q.2)) := by
  obtain ⟨a, h1, h2⟩ := List.mem_filterMap.mp h
  split at h2
  · cases h2; exact ⟨a.2, h1, by assumption⟩
  · cases h2
theorem mem_pnOf {ps : List (Nat × Nat)} {k i : Nat} {p : Addr} (h : (k, i) ∈ ps) (hs : σ[i]? = some (some (.ref p))) : (k, p) ∈ pnOf ps σ := List.mem_filterMap.mpr ⟨(k, i), h, by simp only [hs]⟩
theorem rc_ex (g : RelG K pn A e σ G R H) (ps : List (Nat × Nat)) : Ex R (Rc A ps R H) := fun a u q => by
  unfold Rc
  split
  · exact g.rh _ _ q
  · exact q
theorem paired_get {α β : Type} {p : α → β → Prop} : ∀ {l : List α} {m : List β} {i : Nat} {y : β}, Paired p l m → m[i]? = some y → ∃ x, l[i]? = some x ∧ p x y
  | _, _, _, _, .nil, h => by simp at h
  | _, _, 0, _, .cons h _, e => by simp at e; subst e; exact ⟨_, rfl, h⟩
  | _, _, i + 1, _, .cons _ r, e => by
    obtain ⟨x, a, b⟩ := paired_get (i := i) r (by simpa using e)
    exact ⟨x, by simpa using a, b⟩
/-- into the callee -/
theorem RelG.into {vals : List Val} {vs : List V} {ss : List Slot} {n : Nat} (g : RelG K pn A e σ G R H) (r : PnVs K G σ vs vals) (hs : slotsOf e vals = some ss) (nd : ((pairs 0 vals).map Prod.snd).Nodup) :
    RelG K (pnOf (pairs 0 vals) σ) (LAc A (pairs 0 vals)) (ss ++ List.replicate n .em) (vs.map some ++ List.replicate n none) G (Rc A (pairs 0 vals) R H) H := by
  obtain ⟨hl, hg⟩ := slotsOf_get hs
  have hvl : vs.length = vals.length := paired_len r
  have inv : ∀ (j : Nat) (s : Slot), (ss ++ List.replicate n .em)[j]? = some s → s = .em ∨ ∃ w v, vals[j]? = some w ∧ slotOf e w = some s ∧ vs[j]? = some v ∧ PnV K G σ v w ∧ (vs.map some ++ List.replicate n none)[j]? = some (some v) := fun j s q => by
    by_cases hj : j < ss.length
    · rw [List.getElem?_append_left hj] at q
      have hj2 : j < vals.length := by rw [← hl]; exact hj
      obtain ⟨s', t1, t2⟩ := hg j vals[j] (by simp [hj2])
      rw [q] at t1
      cases t1
      obtain ⟨v, v1, v2⟩ := paired_get (i := j) r (by simp [hj2] : vals[j]? = some vals[j])
      refine .inr ⟨_, v, by simp [hj2], t2, v1, v2, ?_⟩
      rw [List.getElem?_append_left (by rw [List.length_map, hvl]; exact hj2), List.getElem?_map, v1]
      rfl
    · rw [List.getElem?_append_right (by omega), List.getElem?_replicate] at q
      split at q
      · cases q; exact .inl rfl
      · cases q
  have keepR : ∀ a u, Rc A (pairs 0 vals) R H a = some u → H a = some u := fun a u q => by
    unfold Rc at q
    split at q
    · exact q
    · exact g.rh _ _ q
  refine ⟨g.gh, keepR, fun a ha => ?_, by simp [hl, hvl], fun k τ a h => ?_, fun k τ k' π a h h' => ?_, fun j s q => ?_, fun q hq => ?_⟩
  · unfold Rc at ha
    split at ha
    · rename_i hk
      obtain ⟨i, τ, h1, _⟩ := hk
      exact (g.own i τ a h1).1
    · exact g.dj a ha
  · obtain ⟨i, m, h1⟩ := LAc_some h
    obtain ⟨a1, a2, a3⟩ := g.own i τ a h1
    refine ⟨a1, ?_, a3⟩
    unfold Rc
    rw [if_neg]
    · exact a2
    · rintro ⟨i2, π, z1, z2⟩
      have := (g.inj _ _ _ _ _ z1 h1).1
      subst this
      exact z2 (List.mem_map.mpr ⟨_, m, rfl⟩)
  · obtain ⟨i, m, h1⟩ := LAc_some h
    obtain ⟨i', m', h2⟩ := LAc_some h'
    obtain ⟨z1, z2⟩ := g.inj _ _ _ _ _ h1 h2
    subst z1
    exact ⟨snd_inj nd m m', z2⟩
  · rcases inv j s q with z | ⟨w, v, h1, h2, h3, h4, h5⟩
    · subst z; exact trivial
    · rw [h5]
      rcases slotOf_own h2 with ⟨d, rfl, rfl⟩ | ⟨i, b, d, rfl, hi, rfl⟩ | ⟨i, b, d, rfl, hi, rfl⟩
      · exact ⟨v, rfl, h4⟩
      · have m : (j, i) ∈ pairs 0 vals := pairs_mem.mpr ⟨j, _, by omega, h1, rfl⟩
        rw [LAc_mem m]
        obtain ⟨p, a1, a2, _, _, a3⟩ := g.own_ow hi
        have h4' : σ[i]? = some (some v) := h4
        rw [a1] at h4'
        cases h4'
        exact ⟨p, rfl, a2, a3⟩
      · have m : (j, i) ∈ pairs 0 vals := pairs_mem.mpr ⟨j, _, by omega, h1, rfl⟩
        rw [LAc_mem m]
        obtain ⟨p, a1, a2, a3⟩ := g.tree (.inr hi)
        have h4' : σ[i]? = some (some v) := h4
        rw [a1] at h4'
        cases h4'
        exact ⟨_, rfl, a3⟩
  · obtain ⟨i, m, hσ⟩ := pnOf_mem hq
    obtain ⟨j, w, e1, hv, hw⟩ := pairs_mem.mp m
    have e1' : q.1 = j := by omega
    rw [e1']
    obtain ⟨s, t1, t2⟩ := hg j _ hv
    have hj : j < vals.length := (List.getElem?_eq_some_iff.mp hv).1
    obtain ⟨v, v1, v2⟩ := paired_get r hv
    have at_ : (vs.map some ++ List.replicate n none)[j]? = some (some v) := by rw [List.getElem?_append_left (by rw [List.length_map, hvl]; exact hj), List.getElem?_map, v1]; rfl
    have at2 : (ss ++ List.replicate n .em)[j]? = some s := by rw [List.getElem?_append_left (by rw [hl]; exact hj)]; exact t1
    rw [at_, at2]
    rcases slotOf_own t2 with ⟨d, rfl, rfl⟩ | ⟨i2, b, d, rfl, hi, rfl⟩ | ⟨i2, b, d, rfl, hi, rfl⟩
    · cases hw
    · cases hw
      have v2' : σ[i]? = some (some v) := v2
      rw [hσ] at v2'
      cases v2'
      exact ⟨rfl, _, rfl, rfl⟩
    · cases hw
      have v2' : σ[i]? = some (some v) := v2
      rw [hσ] at v2'
      cases v2'
      exact ⟨rfl, _, rfl, rfl⟩
open Classical in
/-- the caller's labels behind the call -/
noncomputable def LAb (A Ac : LA) (ps : List (Nat × Nat)) : LA := fun i => match ps.find? fun q => decide (q.2 = i) with
  | some q => Ac q.1
  | none => A i
theorem LAb_mem {Ac : LA} {ps : List (Nat × Nat)} (nd : (ps.map Prod.snd).Nodup) {k i : Nat} (h : (k, i) ∈ ps) : LAb A Ac ps i = Ac k := by
  unfold LAb
  cases q : ps.find? fun q => decide (q.2 = i) with
  | none => have := List.find?_eq_none.mp q (k, i) h; simp at this
  | some p =>
    have h1 := List.mem_of_find?_eq_some q
    have h2 : p.2 = i := by simpa using List.find?_some q
    obtain ⟨k', i'⟩ := p
    simp only at h2
    subst h2
    show Ac k' = Ac k
    rw [snd_inj nd h1 h]
theorem LAb_not {Ac : LA} {ps : List (Nat × Nat)} {i : Nat} (h : i ∉ ps.map Prod.snd) : LAb A Ac ps i = A i := by
  unfold LAb
  cases q : ps.find? fun q => decide (q.2 = i) with
  | none => rfl
  | some p =>
    have h1 := List.mem_of_find?_eq_some q
    have h2 : p.2 = i := by simpa using List.find?_some q
    exact absurd (List.mem_map.mpr ⟨p, h1, h2⟩) h
theorem nrm_ow {s : Slot} {d : D} (h : s.nrm = .ow true d) : s = .ow true d := by
  cases s with
  | em => cases h
  | sh d => cases h
  | ow b d => cases b <;> cases h; rfl
  | nt b d => cases b <;> cases h
theorem nrm_nt {s : Slot} {d : D} (h : s.nrm = .nt true d) : s = .nt true d := by
  cases s with
  | em => cases h
  | sh d => cases h
  | ow b d => cases b <;> cases h
  | nt b d => cases b <;> cases h; rfl
theorem backL_get {np k : Nat} {ec b : En} {s : Slot} (h : backL np ec = b) (hk : b[k]? = some s) : ∃ t, ec[k]? = some t ∧ t.nrm = s := by
  subst h
  unfold backL at hk
  rw [List.getElem?_map] at hk
  obtain ⟨t, h1, h2⟩ := Option.map_eq_some_iff.mp hk
  rw [List.getElem?_take] at h1
  split at h1
  · exact ⟨t, h1, h2⟩
  · cases h1
/-- .. and back -/
theorem RelG.back {vals : List Val} {b ec e2 : En} {σc : L2.St} {pc : Pn} {Ac : LA} {np : Nat} (g : RelG K pn A e σ G R H) (nd : ((pairs 0 vals).map Prod.snd).Nodup) (hpc : pc = pnOf (pairs 0 vals) σ) (x : Ex G G') (gc : RelG K pc Ac ec σc G' (Rc A (pairs 0 vals) R H) H') (hb0 : backL np ec = b) (hb : backE (pairs 0 vals) b e = some e2) :
    RelG K pn (LAb A Ac (pairs 0 vals)) e2 σ G' R H' ∧ ∀ a, Owd (LAb A Ac (pairs 0 vals)) a → (Rc A (pairs 0 vals) R H) a ≠ none ∨ ∃ k i τ, (k, i) ∈ pairs 0 vals ∧ Ac k τ = some a := by
  subst hpc
  obtain ⟨b1, b2, b3⟩ := backE_ok nd hb
  have rk : Ex R (Rc A (pairs 0 vals) R H) := rc_ex g _
  have kept : ∀ i τ a, i ∉ (pairs 0 vals).map Prod.snd → A i τ = some a → (∃ o, H a = some o ∧ Rc A (pairs 0 vals) R H a = some o) ∧ H' a = H a := fun i τ a hi h => by
    have hk : Kept A (pairs 0 vals) a := ⟨i, τ, h, hi⟩
    cases q : H a with
    | none => exact absurd q (g.own i τ a h).2.2
    | some o =>
      have hR : (Rc A (pairs 0 vals) R H) a = some o := by unfold Rc; rw [if_pos hk]; exact q
      exact ⟨⟨o, rfl, hR⟩, gc.rh _ _ hR⟩
  have lab : ∀ i τ a, LAb A Ac (pairs 0 vals) i τ = some a → (∃ k, (k, i) ∈ pairs 0 vals ∧ Ac k τ = some a) ∨ (i ∉ (pairs 0 vals).map Prod.snd ∧ A i τ = some a) := fun i τ a h => by
    by_cases hm : i ∈ (pairs 0 vals).map Prod.snd
    · obtain ⟨⟨k, i'⟩, m, rfl⟩ := List.mem_map.mp hm
      rw [LAb_mem nd m] at h
      exact .inl ⟨k, m, h⟩
    · rw [LAb_not hm] at h; exact .inr ⟨hm, h⟩
  refine ⟨⟨gc.gh, rk.trans gc.rh, fun a ha => gc.dj a fun z => ha (low rk z), by rw [b1]; exact g.len, fun i τ a h => ?_, fun i τ j π a h h' => ?_, fun i s q => ?_, fun q hq => ?_⟩, fun a ha => ?_⟩
  · rcases lab i τ a h with ⟨k, m, h1⟩ | ⟨hm, h1⟩
    · obtain ⟨a1, a2, a3⟩ := gc.own k τ a h1
      exact ⟨a1, low rk a2, a3⟩
    · obtain ⟨⟨o, ho, hR⟩, hH⟩ := kept i τ a hm h1
      exact ⟨gc.dj a (by rw [hR]; simp), (g.own i τ a h1).2.1, by rw [hH, ho]; simp⟩
  · rcases lab i τ a h with ⟨k, m, h1⟩ | ⟨hm, h1⟩ <;> rcases lab j π a h' with ⟨k', m', h2⟩ | ⟨hm', h2⟩
    · obtain ⟨z1, z2⟩ := gc.inj _ _ _ _ _ h1 h2
      subst z1
      exact ⟨fst_inj m m', z2⟩
    · obtain ⟨⟨o, ho, hR⟩, _⟩ := kept j π a hm' h2
      have := (gc.own k τ a h1).2.1
      rw [hR] at this; cases this
    · obtain ⟨⟨o, ho, hR⟩, _⟩ := kept i τ a hm h1
      have := (gc.own k' π a h2).2.1
      rw [hR] at this; cases this
    · exact g.inj _ _ _ _ _ h1 h2
  · by_cases hm : i ∈ (pairs 0 vals).map Prod.snd
    · obtain ⟨⟨k, i'⟩, m, rfl⟩ := List.mem_map.mp hm
      rw [LAb_mem nd m]
      obtain ⟨io, d, d', h | h⟩ := b3 k i' m
      · obtain ⟨h1, h2, h3⟩ := h
        simp only at q
        rw [h3] at q
        cases q
        obtain ⟨p, a1, _⟩ := g.tree (.inl h1)
        obtain ⟨t, t1, t2⟩ := backL_get hb0 h2
        have t3 := nrm_ow t2
        subst t3
        obtain ⟨c1, _⟩ := gc.pin (k, p) (mem_pnOf m a1)
        obtain ⟨p', c3, c4, _, _, c5⟩ := gc.own_ow t1
        simp only at c1
        rw [c1] at c3
        cases c3
        exact ⟨p, a1, c4, c5⟩
      · obtain ⟨h1, h2, h3⟩ := h
        simp only at q
        rw [h3] at q
        cases q
        obtain ⟨p, a1, _⟩ := g.tree (.inr h1)
        obtain ⟨t, t1, t2⟩ := backL_get hb0 h2
        have t3 := nrm_nt t2
        subst t3
        obtain ⟨c1, _⟩ := gc.pin (k, p) (mem_pnOf m a1)
        obtain ⟨p', c3, c4, c5⟩ := gc.tree (.inr t1)
        simp only at c1
        rw [c1] at c3
        cases c3
        exact ⟨_, a1, c5⟩
    · rw [LAb_not hm]
      rw [b2 i hm] at q
      exact ((g.sl i s q).frame fun τ a h => ⟨(kept i τ a hm h).2, h⟩).monoG x
  · obtain ⟨a, s, c, d⟩ := g.pin q hq
    refine ⟨a, ?_⟩
    by_cases hm : q.1 ∈ (pairs 0 vals).map Prod.snd
    · obtain ⟨⟨k, i'⟩, m, hi⟩ := List.mem_map.mp hm
      simp only at hi
      obtain ⟨io, d1, d', h | h⟩ := b3 k i' m
      · rw [← hi] at c ⊢
        rw [h.1] at c
        cases c
        refine ⟨_, h.2.2, ?_⟩
        cases io <;> first | exact d | rfl
      · rw [← hi] at c ⊢
        rw [h.1] at c
        cases c
        refine ⟨_, h.2.2, ?_⟩
        cases io <;> first | exact d | rfl
    · rw [b2 _ hm]; exact ⟨s, c, d⟩
  · obtain ⟨i, τ, h⟩ := ha
    rcases lab i τ a h with ⟨k, m, h1⟩ | ⟨hm, h1⟩
    · exact .inr ⟨k, i, τ, m, h1⟩
    · obtain ⟨⟨o, ho, hR⟩, _⟩ := kept i τ a hm h1
      exact .inl (by rw [hR]; simp)
/-- what the callee hands back, in the caller's hands -/
theorem RepVal.out {A2 Ac : LA} {ec e2 : En} {σc : L2.St} {Rk : Hp} (x : Ex R Rk) (ho : ∀ a, Owd A2 a → Rk a ≠ none ∨ Owd Ac a) (r : RepVal K Ac G' Rk H' ec σc v val) (hv : (∃ d, val = .sh d) ∨ (∃ d, val = .fr d) ∨ ∃ d, val = .fn d) : RepVal K A2 G' R H' e2 σ v val := by
  rcases hv with ⟨d, rfl⟩ | ⟨d, rfl⟩ | ⟨d, rfl⟩
  · exact r
  · obtain ⟨p, h1, h2, h3, h4, h5⟩ := r
    exact ⟨p, h1, h2, low x h3, fun z => (ho p z).elim (fun w => w h3) h4, h5⟩
  · obtain ⟨B, t, ij, nw⟩ := r
    exact ⟨B, t, ij, fun τ a z => by
      obtain ⟨a1, a2, a3, a4⟩ := nw τ a z
      exact ⟨a1, low x a2, a3, fun w => (ho a w).elim (fun w => w a2) a4⟩⟩
end
/-! ### a def's promise, no guard set -/
def FinR (K : PySem.W.Frag) (pn : Pn) (np : Nat) (G R : Hp) (Q : VK) (val : Val) (b : En) : Prop :=
  ∀ v ef σ' A' Ao G' H', Ex G G' → RelG K pn A' ef σ' G' R H' → backL np ef = b → (∀ k τ a, (∃ s, ef[k]? = some s ∧ s.io = true) → A' k τ = some a → Owd Ao a) → RepVal K Ao G' R H' ef σ' v val → ((∃ d, val = .sh d) ∨ (∃ d, val = .fr d) ∨ ∃ d, val = .fn d) → Q v H'
def FinRX (K : PySem.W.Frag) (pn : Pn) (np : Nat) (G R : Hp) (E : XK) (x : Xn) (b : En) : Prop :=
  ∀ ef σ' A' G' H' d, Ex G G' → RelG K pn A' ef σ' G' R H' → backL np ef = b → XnR K G' x d → E (.ref (He.ga K x.cls)) d H'
def OcR (K : PySem.W.Frag) (pn : Pn) (np : Nat) (R : Hp) (Q : VK) (E : XK) (G : Hp) (o : Out (Val × En)) : Prop := Oc (FinR K pn np G R Q) (FinRX K pn np G R E) o
def spG (K : PySem.W.Frag) (np : Nat) (ev : Ev) : List V → Hp → VK → XK → Prop := fun vs H Q E => vs.length = np ∧ ∃ (pn : Pn) (A : LA) (ss : List Slot) (G R : Hp), ss.length = np ∧
  (∀ n, RelG K pn A (ss ++ List.replicate n .em) (vs.map some ++ List.replicate n none) G R H) ∧ OcR K pn np R Q E G (ev ss)
structure FnG (P : Program) (w : World) (K : PySem.W.Frag) (mg : Str → Option Value) (base : Heap) (k : Nat) (f : Addr) (fd : FuncData) (ps : List Str) (ev : Ev) : Prop where
  go : ∀ (A : Around) (out : List Env) (s : Shared) (H : Hp) (args : Args) (us : List Value) (vs : List V) (Q : VK) (E : XK), Room k A → A.guards = some [] → Env0 P w K mg base A out s H →
    BindsTo s fd args (ps.zip us) → Vals vs us → spG K ps.length ev vs H Q E → codeAny (model P w) A (.call (.ref f) args) (CR (CX P w) out P w H s Q E) s
theorem FnG.mono {P : Program} {w : World} {K : PySem.W.Frag} {mg : Str → Option Value} {base : Heap} {j k : Nat} {f : Addr} {fd : FuncData} {ps : List Str} {ev : Ev} (F : FnG P w K mg base j f fd ps ev) (h : j ≤ k) : FnG P w K mg base k f fd ps ev :=
  ⟨fun A out s H args us vs Q E hr => F.go A out s H args us vs Q E (hr.mono h)⟩
end Qv
namespace Qv
open PySem L2 PySem.Spec PyProof.Rows
open Evl (Ex)

section
variable {K : PySem.W.Frag} {pn : Pn} {A : LA} {e e' : En} {σ : L2.St} {G G' R R' H H' : Hp} {v : V} {val val' : Val}
open Classical in
/-- the labels of the caller's own things -/
noncomputable def LAo (A : LA) (e : En) : LA := fun k => if ∃ s, e[k]? = some s ∧ s.io = true then A k else fun _ => none
theorem LAo_some {k : Nat} {τ : List Pt} {a : Addr} (h : LAo A e k τ = some a) : A k τ = some a ∧ ∃ s, e[k]? = some s ∧ s.io = true := by
  unfold LAo at h
  split at h
  · exact ⟨h, by assumption⟩
  · cases h
theorem LAo_in {k : Nat} {τ : List Pt} {a : Addr} (h : ∃ s, e[k]? = some s ∧ s.io = true) (z : A k τ = some a) : Owd (LAo A e) a := ⟨k, τ, by unfold LAo; rw [if_pos h]; exact z⟩
/-- a def's answer: its own thing is nobody's by then -/
theorem retV_ok (g : RelG K pn A e σ G R H) (r : RepVal K A G R H e σ v val) (h : retV e val = some val') : RepVal K (LAo A e) G R H e σ v val' ∧ ((∃ d, val' = .sh d) ∨ (∃ d, val' = .fr d) ∨ ∃ d, val' = .fn d) := by
  have dn : ∀ a, Owd (LAo A e) a → Owd A a := fun a ⟨k, τ, z⟩ => ⟨k, τ, (LAo_some z).1⟩
  cases val with
  | sh d => cases h; exact ⟨r, .inl ⟨d, rfl⟩⟩
  | fr d => cases h; obtain ⟨p, h1, h2, h3, h4, h5⟩ := r; exact ⟨⟨p, h1, h2, h3, fun z => h4 (dn p z), h5⟩, .inr (.inl ⟨d, rfl⟩)⟩
  | fn d => cases h; obtain ⟨B, t, ij, nw⟩ := r; exact ⟨⟨B, t, ij, fun τ a z => ⟨(nw τ a z).1, (nw τ a z).2.1, (nw τ a z).2.2.1, fun w => (nw τ a z).2.2.2 (dn a w)⟩⟩, .inr (.inr ⟨d, rfl⟩)⟩
  | ow k =>
    unfold retV at h
    dsimp only at h
    split at h
    · rename_i d hk
      cases h
      obtain ⟨p, a1, a2, a3, a4, a5⟩ := g.own_ow hk
      have r1 := r.1
      rw [a1] at r1
      cases r1
      refine ⟨⟨p, rfl, a3, a4, fun ⟨j, τ, z⟩ => ?_, a5⟩, .inr (.inl ⟨d, rfl⟩)⟩
      obtain ⟨z1, s, z2, z3⟩ := LAo_some z
      have := (g.inj _ _ _ _ _ z1 a2).1
      subst this
      rw [hk] at z2
      cases z2
      cases z3
    · cases h
  | np k π =>
    cases π with
    | cons => cases h
    | nil =>
      unfold retV at h
      dsimp only at h
      split at h
      · rename_i d hk
        cases h
        obtain ⟨b, d2, c, p, h1, h2, rfl, h3⟩ := r
        obtain ⟨p', a1, a2, a3⟩ := g.tree (.inr hk)
        rw [h3] at a2
        cases a2
        refine ⟨⟨A k, a3, fun τ π a z w => (g.inj _ _ _ _ _ z w).2, fun τ a z => ?_⟩, .inr (.inr ⟨d, rfl⟩)⟩
        obtain ⟨q1, q2, q3⟩ := g.own k τ a z
        refine ⟨q1, q2, q3, fun ⟨j, π, w⟩ => ?_⟩
        obtain ⟨z1, s, z2, z3⟩ := LAo_some w
        have := (g.inj _ _ _ _ _ z1 z).1
        subst this
        rw [hk] at z2
        cases z2
        cases z3
      · cases h
end
/-- the context of a body -/
abbrev cxG (P : Program) (w : World) (K : PySem.W.Frag) (mg : Str → Option Value) (base : Heap) (N : List Str) (qual : Str) (sc : Scope) (f : Addr) (cd : Value) (A : Around) (out : List Env) (s : Shared) (H : Hp) (E : XK) : Cx :=
  cxOf (CX P w) P w K mg base N qual sc f cd A out s H E
abbrev wxG (E : XK) : WX := fun cls d _ H => E cls d H
/-- what a promise says, in the body's words -/
theorem sp_body {K : PySem.W.Frag} {N ps : List Str} {fb : M Fl} {vs : List V} {H : Hp} {Q : VK} {E : XK} (hl : vs.length = ps.length) (h : spG K ps.length (evF N.length ps.length fb) vs H Q E) : tSv K (wxG E) fb { nx := fun _ H' => Q .non H', rt := Q } (L2.start N vs) H := by
  obtain ⟨_, pn, LA, ss, G, R, hsl, hrel, oc⟩ := h
  have hst : L2.start N vs = vs.map some ++ List.replicate (N.length - ps.length) none := by unfold L2.start; rw [hl]
  rw [hst]
  refine ⟨pn, LA, _, G, R, hrel (N.length - ps.length), ?_⟩
  unfold evF at oc
  rw [if_pos hsl] at oc
  generalize hn : (List.map some vs ++ List.replicate (N.length - ps.length) none).length = n
  cases hf : fb (ss ++ List.replicate (N.length - ps.length) .em) with
  | err => rw [hf] at oc; exact False.elim oc
  | ex y e2 =>
    rw [hf] at oc
    exact fun σ' A' G' H' d x l g r => (show FinRX K pn ps.length G R E y (backL ps.length e2) from oc) e2 σ' A' G' H' d x g rfl r
  | ok p =>
    obtain ⟨fl, e2⟩ := p
    rw [hf] at oc
    cases fl with
    | bk => exact False.elim oc
    | ct => exact False.elim oc
    | nx =>
      have oc' : FinR K pn ps.length G R Q (.sh .non) (backL ps.length e2) := oc
      exact fun σ' A' G' H' x l g => oc' .non e2 σ' A' (LAo A' e2) G' H' x g rfl (fun k τ a h z => LAo_in h z) .non (.inl ⟨_, rfl⟩)
    | rt v =>
      have oc' : OcR K pn ps.length R Q E G (match retV e2 v with | some v' => .ok (v', backL ps.length e2) | none => .err) := oc
      cases hv : retV e2 v with
      | none => rw [hv] at oc'; exact False.elim oc'
      | some v' =>
        rw [hv] at oc'
        have oc2 : FinR K pn ps.length G R Q v' (backL ps.length e2) := oc'
        exact fun u σ' A' G' H' x l g r => oc2 u e2 σ' A' (LAo A' e2) G' H' x g rfl (fun k τ a h z => LAo_in h z) (retV_ok g r hv).1 (retV_ok g r hv).2
section
variable {P : Program} {w : World} {K : PySem.W.Frag} {mg : Str → Option Value} {base : Heap} {k : Nat} {f : Addr}
theorem cxG_takes {N : List Str} {qual : Str} {sc : Scope} {cd : Value} {A : Around} {out : List Env} {s : Shared} {H : Hp} {E : XK} : Takes (cxG P w K mg base N qual sc f cd A out s H E) (wxG E) := takes_of rfl rfl rfl rfl
theorem cxG_passes {N : List Str} {qual : Str} {sc : Scope} {cd : Value} {A : Around} {out : List Env} {s : Shared} {H : Hp} {E : XK} : PassesOwn (model P w) (cxG P w K mg base N qual sc f cd A out s H E).A (cxG P w K mg base N qual sc f cd A out s H E).env (cxG P w K mg base N qual sc f cd A out s H E).xe := PassesOwn.leaving
theorem fnG_of {nm qual : Str} {prm : Arguments} {body : List Stmt} {sc : Scope} {dV kV doc pm cdv ct oc : Value} {an od : Option Addr} {osl : Array (Option Value)} {N ps : List Str} {fb : M Fl}
    (lk : K.lookup f = some ⟨oc, od, .func (PySem.W.fnOf nm qual prm body sc dV kV doc pm an cdv ct), osl⟩) (hcd : PySem.W.codeIn K cdv qual = true) (S : FnScope N ps sc)
    (hbody : ∀ (A : Around) (out : List Env) (s : Shared) (H : Hp) (E : XK), Room k (A.deeper (envOfC qual sc s.heap.objs.size f cdv)) → A.guards = some [] → PSs (cxG P w K mg base N qual sc f cdv A out s H E) body (tSv K (wxG E) fb)) :
    FnG P w K mg base (k + 1) f (PySem.W.fnOf nm qual prm body sc dV kV doc pm an cdv ct) ps (evF N.length ps.length fb) := by
  constructor
  intro A out s H args us vs Q E hr hgu e0 hb r hsp
  have hl := hsp.1
  have inK : K.In s.heap := e0.mod.kin.keeps fun b o z => (e0.bs b o z).1
  have nolim : s.heap.NoLimit := e0.mod.nolimit.keeps fun b o z => (e0.bs b o z).1
  have kinds : ∀ y ∈ ps.zip us, sc.names.lookup y.1 = some .local ∨ (sc.names.lookup y.1 = some .cell ∧ ((cellsFrom (s.heap.objs.size + 1) sc.names []).lookup y.1).isSome = true) := by
    intro y hy
    obtain ⟨a, b⟩ := y
    have hp := S.par a (List.of_mem_zip hy).1
    cases hp with
    | inl q => exact Or.inl q
    | inr q => exact Or.inr ⟨q, PySem.W.cellsFrom_some _ _ _ (Or.inl q)⟩
  apply codeAny_call_function hr.depth (inK _ _ lk) rfl S.co S.gen rfl (PySem.W.codeRec_of inK hcd) (hb _ _ _ _ ?_)
  apply wpAny_newFunctionEnv_cells S.kind kinds
  intro env he s1 x
  subst he
  refine ⟨nolim.keeps x.toInCall.keep, codeAny_func ?_⟩
  have J := inv_start (CX := CX P w) (E := E) S hr.hd e0 hl r x
  have B := hbody A out s H E (hr.deeper _) hgu
  have q := sp_body (K := K) (N := N) (fb := fb) hl hsp
  refine wpAny_mono (B.run [] s1 (L2.start N vs) H _ J q) (fun fl s' hs => ?_) fun e s' hs => hs
  cases fl with
  | ret u =>
    obtain ⟨v, σ', H', I2, rv, hq⟩ := hs
    exact ⟨v, H', I2.os, I2.bare, I2.base, I2.hok, rv, hq⟩
  | next =>
    obtain ⟨σ', H', I2, hq⟩ := hs
    exact ⟨V.non, H', I2.os, I2.bare, I2.base, I2.hok, (rfl : Value.none = _), hq⟩
  | brk => exact hs.elim fun _ z => z.elim fun _ z => z.2.elim
  | cont => exact hs.elim fun _ z => z.elim fun _ z => z.2.elim
end
/-! ### the caller's side -/
def tCl (sp : List V → Hp → VK → XK → Prop) (W : WX) (t : TA) : TE := fun σ H Q => t σ H fun vs H1 => sp vs H1 Q fun cls d H2 => W cls d σ H2
section
variable {X : Cx} {W : WX} {k : Nat} {f : Addr} {fd : FuncData} {ps : List Str} {ev : Ev} {x : Str} {p pos : Pos} {a : Expr} {es : List Expr} {t : TA} {fs : List (M Val)} {bs : List Bool}
theorem runG {pins : List (Addr × Obj)} {σ : L2.St} {H : Hp} {s : Shared} {Q : VK} {us : List Value} {vs : List V} (F : FnG X.prog X.w X.K X.mg X.base k f fd ps ev) (hr : Room k X.A) (hgu : X.A.guards = some []) (hb : Binds X.K fd ps []) (tk : Takes X W)
    (I : Inv X pins σ H s) (r : Vals vs us) (h : spG X.K ps.length ev vs H Q fun cls d H2 => W cls d σ H2) : wpAny (model X.prog X.w) X.A (call (.ref f) us) (EP X pins σ Q) X.xe s := by
  have lu : (us ++ []).length = ps.length := by rw [List.append_nil, ← r.length]; exact h.1
  have bt := hb s us I.kIn lu
  rw [List.append_nil] at bt
  refine wpAny_call (codeAny_mono (F.go X.A X.stack s H ⟨us, []⟩ us vs Q _ hr hgu I.env0 bt r h) fun res s' hq => ?_)
  cases res with
  | error e => exact tk _ _ (XE.of_call I (fun _ _ _ h => h) hq)
  | ok fl =>
    cases fl with
    | ret u => exact I.after hq
    | next => exact False.elim hq
    | brk => exact False.elim hq
    | cont => exact False.elim hq
theorem pe_callG (F : FnG X.prog X.w X.K X.mg X.base k f fd ps ev) (hr : Room k X.A) (hgu : X.A.guards = some []) (tk : Takes X W) (hg : Gl X x) (hm : X.mg x = some (.ref f)) (hk : PySem.W.keepIn X.K (.ref f) = true) (hb : Binds X.K fd ps [])
    (ha : PA X (a :: es) t) (hdb : (x == ("__debug__" : Str)) = false) (hs : (a :: es).all notStar = true) : PE X (.Call (.Name x p) (a :: es) [] pos) (tCl (spG X.K ps.length ev) W t) := by
  constructor
  intro pins s σ H Q I h
  rw [List.all_cons, Bool.and_eq_true] at hs
  apply wpAny_Call_Name_kw
  apply ld_glob I hg hm _ hdb
  apply PySem.W.callWith_K (h₀ := X.base) I.ok.mod.kin hk _ (star_cons hs.1) (star_plain hs.2)
  exact thn (ha.run pos pins s σ H _ I h) fun us s1 ⟨vs, H1, I1, r, q⟩ => ⟨I1.kIn, runG F hr hgu hb tk I1 r q⟩
theorem pe_callG0 (F : FnG X.prog X.w X.K X.mg X.base k f fd ps ev) (hr : Room k X.A) (hgu : X.A.guards = some []) (tk : Takes X W) (hg : Gl X x) (hm : X.mg x = some (.ref f)) (hk : PySem.W.keepIn X.K (.ref f) = true) (hb : Binds X.K fd ps [])
    (hdb : (x == ("__debug__" : Str)) = false) : PE X (.Call (.Name x p) [] [] pos) (tCl (spG X.K ps.length ev) W tNil) := by
  constructor
  intro pins s σ H Q I h
  apply wpAny_Call_Name_kw
  apply ld_glob I hg hm _ hdb
  exact PySem.W.callWith_K0 I.kIn hk (runG F hr hgu hb tk (us := []) I .nil h)
/-- what the caller's evaluator says of a call, in the callee's words -/
theorem go_sp {K : PySem.W.Frag} {np : Nat} {pn : Pn} {A : LA} {e : En} {σ : L2.St} {G R H : Hp} {vals : List Val} {vs : List V} {Q : VK} (hl : ∀ ss, ev ss ≠ .err → ss.length = np) (g : RelG K pn A e σ G R H) (r : PnVs K G σ vs vals)
    (oc : OcV K W (rvE K) pn σ R Q G (goV ev vals e)) : spG K np ev vs H Q fun cls d H2 => W cls d σ H2 := by
  unfold goV at oc
  cases hs : slotsOf e vals with
  | none => rw [hs] at oc; exact False.elim oc
  | some ss =>
    rw [hs] at oc
    have oc' : OcV K W (rvE K) pn σ R Q G (if ((pairs 0 vals).map Prod.snd).Nodup then (match ev ss with
      | .ok (val, b) => match backE (pairs 0 vals) b e with
        | some e2 => .ok (val, e2)
        | none => .err
      | .ex x b => match backE (pairs 0 vals) b e with
        | some e2 => .ex x e2
        | none => .err
      | .err => .err) else .err) := oc
    by_cases nd : ((pairs 0 vals).map Prod.snd).Nodup
    · rw [if_pos nd] at oc'
      have ls : ss.length = np := hl ss fun z => by rw [z] at oc'; exact oc'
      have e1 : vs.length = np := by rw [paired_len r, ← (slotsOf_get hs).1, ls]
      refine ⟨e1, pnOf (pairs 0 vals) σ, LAc A (pairs 0 vals), ss, G, Rc A (pairs 0 vals) R H, ls, fun n => g.into r hs nd, ?_⟩
      have own : ∀ {A2 Ac Ao : LA} {ef b e2 : En} {Rk : Hp}, backL np ef = b → backE (pairs 0 vals) b e = some e2 → (∀ a, Owd A2 a → Rk a ≠ none ∨ ∃ k i τ, (k, i) ∈ pairs 0 vals ∧ Ac k τ = some a) → (∀ k τ a, (∃ s, ef[k]? = some s ∧ s.io = true) → Ac k τ = some a → Owd Ao a) → ∀ a, Owd A2 a → Rk a ≠ none ∨ Owd Ao a := fun hb hbe ho hio a ha => by
        rcases ho a ha with z | ⟨k, i, τ, m, z⟩
        · exact .inl z
        · obtain ⟨io, d, d', h | h⟩ := (backE_ok nd hbe).2.2 k i m
          · obtain ⟨t, t1, t2⟩ := backL_get hb h.2.1
            rw [nrm_ow t2] at t1
            exact .inr (hio k τ a ⟨_, t1, rfl⟩ z)
          · obtain ⟨t, t1, t2⟩ := backL_get hb h.2.1
            rw [nrm_nt t2] at t1
            exact .inr (hio k τ a ⟨_, t1, rfl⟩ z)
      cases hv : ev ss with
      | err => rw [hv] at oc'; exact False.elim oc'
      | ex y b =>
        rw [hv] at oc'
        have oc2 : OcV K W (rvE K) pn σ R Q G (match backE (pairs 0 vals) b e with | some e2 => .ex y e2 | none => .err) := oc'
        cases hbe : backE (pairs 0 vals) b e with
        | none => rw [hbe] at oc2; exact False.elim oc2
        | some e2 =>
          rw [hbe] at oc2
          have fin : FinX K W pn e2 σ G R y := oc2
          intro ef σ' A' G' H' d x' g' hb' rx
          obtain ⟨g4, _⟩ := RelG.back g nd rfl x' g' hb' hbe
          exact fin _ G' H' d x' g4 rx
      | ok q =>
        obtain ⟨vr, b⟩ := q
        rw [hv] at oc'
        have oc2 : OcV K W (rvE K) pn σ R Q G (match backE (pairs 0 vals) b e with | some e2 => .ok (vr, e2) | none => .err) := oc'
        cases hbe : backE (pairs 0 vals) b e with
        | none => rw [hbe] at oc2; exact False.elim oc2
        | some e2 =>
          rw [hbe] at oc2
          have fin : FinV K (rvE K) pn e2 σ G R vr Q := oc2
          intro v ef σ' A' Ao G' H' x' g' hb' hio r' hk
          obtain ⟨g4, ho⟩ := RelG.back g nd rfl x' g' hb' hbe
          exact fin v _ G' H' x' g4 (RepVal.out (Ac := Ao) (Rk := Rc A (pairs 0 vals) R H) (rc_ex g _) (own hb' hbe ho hio) r' hk)
    · rw [if_neg nd] at oc'; exact False.elim oc'
theorem tcl {K : PySem.W.Frag} {np : Nat} {σ : L2.St} {H : Hp} {Q : VK} (hl : ∀ ss, ev ss ≠ .err → ss.length = np) (h : tEv K W (callV bs ev fs) σ H Q) : tCl (spG K np ev) W (tNv K W (argsN fs)) σ H Q := by
  obtain ⟨pn, A, e, G, R, g, oc⟩ := h
  refine chain g oc fun vs vals A1 e1 G1 H1 x1 g1 r1 oc1 => ?_
  obtain ⟨r, A2, e2, G2, x2, g2, p2, oc2⟩ := oc_frzL g1 r1 oc1
  exact go_sp hl g2 p2 oc2
theorem se_call (F : FnG X.prog X.w X.K X.mg X.base k f fd ps ev) (hr : Room k X.A) (hgu : X.A.guards = some []) (tk : Takes X W) (hg : Gl X x) (hm : X.mg x = some (.ref f)) (hk : PySem.W.keepIn X.K (.ref f) = true) (hb : Binds X.K fd ps [])
    (hl : ∀ ss, ev ss ≠ .err → ss.length = ps.length) (hdb : (x == ("__debug__" : Str)) = false) (hs : (a :: es).all notStar = true) (h : Paired (fun a f => PE X a (tEv X.K W f)) (a :: es) fs) :
    PE X (.Call (.Name x p) (a :: es) [] pos) (tEv X.K W (callV bs ev fs)) := PE_mono (pe_callG F hr hgu tk hg hm hk hb (sa_argsN _ fs hs h) hdb hs) fun _ _ _ q => tcl hl q
theorem se_call0 (F : FnG X.prog X.w X.K X.mg X.base k f fd ps ev) (hr : Room k X.A) (hgu : X.A.guards = some []) (tk : Takes X W) (hg : Gl X x) (hm : X.mg x = some (.ref f)) (hk : PySem.W.keepIn X.K (.ref f) = true) (hb : Binds X.K fd ps [])
    (hl : ∀ ss, ev ss ≠ .err → ss.length = ps.length) (hdb : (x == ("__debug__" : Str)) = false) : PE X (.Call (.Name x p) [] [] pos) (tEv X.K W (callV bs ev [])) := PE_mono (pe_callG0 F hr hgu tk hg hm hk hb hdb) fun σ H Q q => by
  have z := tcl hl q
  obtain ⟨pn, A, e, G, R, g, oc⟩ := z
  exact (oc_ret (rv := rvN X.K) oc) [] A G H (Ex.refl G) g .nil
end
end Qv
namespace Qv
open PySem L2 PySem.Spec PyProof.Rows
open Evl (Ex)

/-! ### the law's end -/
theorem law_callG {P : Program} {w : World} {K : PySem.W.Frag} {mg mb : Str → Option Value} {k : Nat} {fa a : Addr} {fd : FuncData} {x : Str} {ev : Ev} {t : Shared} {vs : List Value} {ns : List Int}
    (inK : K.In t.heap) (hns : t.heap.Ns mainGlobals mg) (hb : t.heap.Ns builtinsNs mb) (hbb : ∀ x : Str, x ≠ "__name__" → mb x = bootBuiltins x) (hlim : t.heap.NoLimit) (hg : t.gens = #[])
    (ha : t.heap.get? a = some { cls := .type "list", data := .seq vs.toArray }) (hi : IntsAre vs ns) (hl : ns.length ≤ sizeLine) (hr : Room k callerA)
    (F : ∀ base : Heap, K.In base → base.Ns mainGlobals mg → FnG P w K mg base k fa fd [x] ev) (hbind : ∀ (s : Shared) (u : Value), BindsTo s fd ⟨[u], []⟩ [(x, u)])
    (hev : ∃ e', ev [.sh (.scr ns)] = .ok (.sh (.bl true), e')) :
    codeAny (model P w) callerA (.call (.ref fa) ⟨[.ref a], []⟩) (fun r s' => r = .ok (.ret (.bool true)) ∧ OldK t.heap s'.heap ∧ s'.os = t.os ∧ AllBare s'.gens) t := by
  have rv := vals_ints hi
  have lenV := hi.length
  obtain ⟨e', hev⟩ := hev
  have key : ∀ H : Hp, Only H → SqL K H a (ns.map V.int) → HOk P w H t.heap → (∀ b, H b ≠ none → b = a) → (H a ≠ none → K.lookup a = none) →
      codeAny (model P w) callerA (.call (.ref fa) ⟨[.ref a], []⟩) (fun r s' => r = .ok (.ret (.bool true)) ∧ OldK t.heap s'.heap ∧ s'.os = t.os ∧ AllBare s'.gens) t := by
    intro H hO hS hok hA hK
    have at_a : ∀ {b : Addr}, (∃ u, H b = some u) → b = a := fun {b} ⟨u, q⟩ => hA b (by rw [q]; exact fun z => nomatch z)
    have noD : ∀ {b : Addr} {o : Obj} {es : Array DictEntry} {ep : Nat}, t.heap.get? b = some o → o.data = .dict es ep → H b = none := by
      intro b o es ep e d
      match q : H b with
      | none => rfl
      | some u =>
        have e2 := at_a ⟨u, q⟩
        subst e2
        rw [ha] at e; cases e
        exact (nomatch d)
    have nsK : ∀ {b : Addr} {m : Str → Option Value}, t.heap.Ns b m → (hidT t.heap H).Ns b m := by
      intro b m ⟨o, es, ep, e, d, r⟩
      exact ⟨o, es, ep, hidT_get e (noD e d), d, r⟩
    have inH : K.In (hidT t.heap H) := by
      intro b o e
      refine hidT_get (inK b o e) ?_
      match q : H b with
      | none => rfl
      | some u =>
        have e2 := at_a ⟨u, q⟩
        subst e2
        have e3 := hK (by rw [q]; exact fun z => nomatch z)
        rw [e3] at e; cases e
    obtain ⟨mc, lim1, lim2⟩ := hlim
    have mo : Mod K mg (hidT t.heap H) := ⟨inH, nsK hns, ⟨mb, nsK hb, hbb⟩, ⟨mc, nsK lim1, lim2⟩⟩
    have e0 : Env0 P w K mg (hidT t.heap H) callerA [] t H := by
      refine ⟨rfl, mo, fun b o e => of_hidT e, Nat.le_of_eq (hidT_size _ _), trivial, ?_, hok, AllBare.of_eq hg⟩
      intro b hb
      exact absurd (show b ∈ ([] : List Addr) from hb) (List.not_mem_nil)
    have sp : spG K [x].length ev [.ref a] H (fun v _ => v = .bl true) fun _ _ _ => False := by
      refine ⟨rfl, [], fun _ _ => none, [.sh (.scr ns)], H, fun _ => none, rfl, fun n => ⟨Ex.refl H, (fun _ _ z => nomatch z), (fun _ z => absurd rfl z), by simp, (fun _ _ _ z => nomatch z), (fun _ _ _ _ _ z => nomatch z), fun i s q => ?_, (fun q hq => nomatch hq)⟩, ?_⟩
      · cases i with
        | zero => simp at q; subst q; exact ⟨.ref a, rfl, .scr hS⟩
        | succ i =>
          have q' : (List.replicate n Slot.em)[i]? = some s := by simpa using q
          rw [List.getElem?_replicate] at q'
          split at q'
          · cases q'; exact trivial
          · cases q'
      · rw [hev]
        intro v ef σ' A' Ao G' H' x' g' hb' hio r' hk
        have r2 : Rep K G' v (.bl true) := r'
        cases r2
        rfl
    refine codeAny_mono ((F _ inH (nsK hns)).go callerA [] t H ⟨[.ref a], []⟩ [.ref a] [.ref a] _ _ hr rfl e0 (hbind t (.ref a)) (.cons rfl .nil) sp) fun r s' h => ?_
    match r, h with
    | .error e, h => obtain ⟨_, _, _, _, _, _, _, _, _, _, _, _, z⟩ := h; exact z.elim
    | .ok (.ret u), ⟨v, H', os, bare, un, hok', r', q⟩ =>
      have q' : v = .bl true := q
      subst q'
      have ru : u = Value.bool true := r'
      refine ⟨by rw [ru], OldK.of_keep fun b o e => ?_, os, bare⟩
      match q : H b with
      | none => exact un.keep b o e q (fun z => absurd (show b ∈ ([] : List Addr) from z) List.not_mem_nil) (by simp)
      | some u =>
        match hO b with
        | .inl z => rw [q] at z; cases z
        | .inr ⟨ob, xs, z⟩ =>
          have h1 := (hok b _ z).1
          have h2 := (hok' b _ (un.frzs b ob _ z)).1
          rw [e] at h1
          cases h1
          exact h2
  match hk : K.lookup a with
  | some o =>
    have e := inK a o hk
    rw [ha] at e
    cases e
    apply key (fun _ => none) (fun _ => .inl rfl) (.inr ⟨_, vs.toArray, _, hk, rfl, rfl, rfl, by rw [List.size_toArray, lenV]; exact hl, by simpa using rv⟩)
    · intro b u z; exact nomatch z
    · intro b z; exact absurd rfl z
    · intro z; exact absurd rfl z
  | none =>
    let ob : Obj := { cls := .type "list", data := .seq vs.toArray }
    let Ha : Hp := fun b => if b = a then some (.frz ob (.lst (ns.map V.int))) else none
    have H1 : Ha a = some (.frz ob (.lst (ns.map V.int))) := if_pos rfl
    have H2 : ∀ b, b ≠ a → Ha b = none := fun b h => if_neg h
    apply key Ha
    · intro b
      by_cases hb : b = a
      · exact .inr ⟨ob, _, by rw [hb]; exact H1⟩
      · exact .inl (H2 b hb)
    · exact .inl (.inr ⟨ob, H1⟩)
    · intro b u z
      by_cases hb : b = a
      · subst hb
        rw [H1] at z
        cases z
        exact ⟨ha, by rw [List.length_map]; exact hl, vs, _, rv, ha⟩
      · rw [H2 b hb] at z; cases z
    · intro b z
      by_cases hb : b = a
      · exact hb
      · exact absurd (H2 b hb) z
    · intro _; exact hk
theorem walk_ofG {l : PySem.W.OpenLaw} {n k : Nat} {q : Program} {loose : List Str} {XP : (Str → Option Value) → Heap → Prop} {YP : World → Heap → Prop} {d : DefRec} {x : Str} {ev : Ev}
    (hn : l.most = some n) (hn2 : n ≤ sizeLine) (hdf : d.params.defaults = []) (hr : Room k callerA)
    (F : ∀ (w : World) (mg : Str → Option Value) (fa : Addr) (h : Heap), YP w h → h.Ns mainGlobals mg → mg d.name = some (.ref fa) →
      ∃ (K : PySem.W.Frag) (fd : FuncData), K.In h ∧ (∀ (s : Shared) (u : Value), BindsTo s fd ⟨[u], []⟩ [(x, u)]) ∧ ∀ base : Heap, K.In base → base.Ns mainGlobals mg → FnG l.prog w K mg base k fa fd [x] ev)
    (hev : ∀ ns : List Int, ns.length ≤ n → ∃ e', ev [.sh (.scr ns)] = .ok (.sh (.bl true), e')) :
    PySem.W.WalkO q loose XP YP l.row.toRowW d [] (fun f vs => PySem.call f vs) := by
  apply Att.attach_call hn hdf
  intro w s₀ t mg mb fa o pm cd doc a vs ns gr Y ho hd hcd hmg hobj hints hlen hg
  obtain ⟨K, fd, inK, hb, hF⟩ := F w mg fa _ Y gr.T.g hmg
  exact law_callG inK gr.T.g gr.T.b gr.T.builtins gr.T.nolimit hg hobj hints (Nat.le_trans hlen hn2) hr hF hb (hev ns hlen)
end Qv
namespace Qv
open PySem L2 PySem.Spec PyProof.Rows
open Evl (Ex)

def notCall : Expr → Bool
  | .Call (.Name id _) [] [] _ => id != ("super" : Str)
  | _ => true
theorem star_one {a : Expr} {env : Env} (h : notStar a = true) : starEach [a] env = [(false, eval a env)] := star_cons h
theorem base_of {o : Expr} {m : Str} {env : Env} {w : Sem Value} (h : notCall o = true) : attributeBase o m env w = w := by
  cases o with
  | Call f args kws p =>
    cases f with
    | Name id p2 =>
      cases args with
      | nil =>
        cases kws with
        | nil => exact abase_call h
        | cons => rfl
      | cons => rfl
    | _ => rfl
  | _ => rfl
/-! ### x.append(e) -/
def appD (d : D) : D → Option D
  | .lst l => if l.length < lenLim then some (.lst (l ++ [d])) else none
  | _ => none
def isLs : D → Bool
  | .lst _ => true
  | _ => false
def owL : Val → M Nat
  | .ow j => fun e => match e[j]? with
    | some (.ow _ d) => if isLs d then .ok (j, e) else .err
    | _ => .err
  | _ => fail
def appC (fo fa : M Val) : M Val := bnd fo fun vo => bnd (owL vo) fun j => bnd fa fun va => bnd (shr va) fun d => bnd (updS j (appD d)) fun _ => ret (.sh .non)
section
variable {γ δ : Type} {K : PySem.W.Frag} {W : WX} {rv' : Rv δ γ} {pn : Pn} {A A' : LA} {e e' : En} {σ : L2.St} {G G' R R' H H' : Hp} {v : V} {val : Val} {Q' : δ → Hp → Prop}
theorem oc_owL {k : Nat → M γ} (g : RelG K pn A e σ G R H) (r : RepVal K A G R H e σ v val) (oc : OcV K W rv' pn σ R Q' G (bnd (owL val) k e)) : ∃ j b l p, val = .ow j ∧ e[j]? = some (.ow b (.lst l)) ∧ v = .ref p ∧ σ[j]? = some (some (.ref p)) ∧ OwnR K G H p (.lst l) ∧ OcV K W rv' pn σ R Q' G (k j e) := by
  cases val with
  | ow j =>
    unfold bnd owL at oc
    dsimp only at oc
    cases q : e[j]? with
    | none => rw [q] at oc; exact False.elim oc
    | some s =>
      rw [q] at oc
      cases s with
      | ow b d =>
        cases d with
        | lst l =>
          obtain ⟨p, h1, _, _, _, h5⟩ := g.own_ow q
          have r1 := r.1
          rw [h1] at r1
          cases r1
          exact ⟨j, b, l, p, rfl, q, rfl, h1, h5, oc⟩
        | _ => exact False.elim oc
      | _ => exact False.elim oc
  | _ => exact False.elim oc
/-- the thing at slot j is written -/
theorem oc_updS {j : Nat} {f : D → Option D} {k : Unit → M γ} {p : Addr} (g : RelG K pn A e σ G R H) (hj : σ[j]? = some (some (.ref p))) (oc : OcV K W rv' pn σ R Q' G (bnd (updS j f) k e)) :
    ∃ b c c', e[j]? = some (.ow b c) ∧ f c = some c' ∧ OwnR K G H p c ∧ G p = none ∧ ∀ o, OwnR K G (upd H p o) p c' → RelG K pn (A.set j (A j)) (e.set j (.ow b c')) σ G R (upd H p o) ∧ OcV K W rv' pn σ R Q' G (k () (e.set j (.ow b c'))) := by
  unfold bnd at oc
  cases h : updS j f e with
  | err => rw [h] at oc; exact False.elim oc
  | ex x e' => exact absurd h updS_no
  | ok q =>
    rw [h] at oc
    obtain ⟨b, c, c', q1, q2, q3⟩ := updS_ok h
    obtain ⟨p', h1, h2, h3, h4, h5⟩ := g.own_ow q1
    rw [hj] at h1
    cases h1
    refine ⟨b, c, c', q1, q2, h5, h3, fun o ho => ⟨g.updO q1 hj ho, ?_⟩⟩
    rw [← q3]
    exact oc
end
section
variable {X : Cx} {W : WX} {pos : Pos} {a b : Expr} {fa fb : M Val}
theorem se_app {o : Expr} {apos cpos : Pos} {fo : M Val} (ho : PE X o (tEv X.K W fo)) (ha : PE X a (tEv X.K W fa)) (hn : notStar a = true) (hb : notCall o = true) (hl : (apos.endLine == cpos.line) = true) :
    PE X (.Call (.Attribute o "append" apos) [a] [] cpos) (tEv X.K W (appC fo fa)) :=
  PE_mono (pe_bm PySem.F.plainAttrs_list PySem.F.slot_list_append PySem.F.type_list_append mt_append ho (pa_cons ha pa_nil (star_cons hn)) (base_of hb) (by rw [star_one hn]; rfl) hl (star_cons hn) rfl) fun σ H Q q => by
    obtain ⟨pn, A, e, G, R, g, oc⟩ := q
    refine chain g oc fun x vo A1 e1 G1 H1 x1 g1 r1 oc1 => ?_
    obtain ⟨j, b, l, p, rfl, q1, rfl, hj, ow, oc2⟩ := oc_owL g1 r1 oc1
    obtain ⟨xs0, hx0, _⟩ := ow
    refine ⟨.inl ⟨rfl, xs0, SqL.of hx0⟩, chain g1 oc2 fun y va A2 e2 G2 H2 x2 g2 r2 oc3 => ?_⟩
    obtain ⟨d, A3, e3, G3, x3, g3, r3, oc4⟩ := oc_shr g2 r2 oc3
    obtain ⟨b', c, c', q4, q5, ow', _, fin⟩ := oc_updS g3 hj oc4
    cases c with
    | lst l' =>
      obtain ⟨xs, hx, rx⟩ := ow'
      have q5' : (if l'.length < lenLim then some (D.lst (l' ++ [d])) else none) = some c' := q5
      split at q5'
      · rename_i hlt
        cases q5'
        obtain ⟨g5, oc5⟩ := fin (.lst (xs ++ [y])) ⟨_, upd_same, rx.append (.cons r3 .nil)⟩
        exact ⟨p, xs, y, rfl, rfl, hx, by rw [← lim_eq, rx.length]; exact hlt, (oc_ret (rv := rvE X.K) oc5) .non _ G3 _ (Ex.refl _) g5 .non⟩
      · cases q5'
    | _ => cases q5
end
/-! ### a, b = x, y -/
def sol : Val → M Val
  | .sh d => ret (.sh d)
  | .fr d => ret (.fr d)
  | .fn d => ret (.fn d)
  | .ow i => bnd (shr (.ow i)) fun d => ret (.sh d)
  | .np i π => bnd (shr (.np i π)) fun d => ret (.sh d)
def Val.solo : Val → Bool
  | .sh _ => true
  | .fr _ => true
  | .fn _ => true
  | _ => false
def par2 (i j : Nat) (fa fb : M Val) : M Fl := bnd fa fun va => bnd (sol va) fun wa => bnd fb fun vb => bnd (sol vb) fun wb => bnd (asgN i wa) fun _ => bnd (asgN j wb) fun _ => ret .nx
section
variable {K : PySem.W.Frag} {W : WX} {pn : Pn} {A : LA} {e e' : En} {σ : L2.St} {G G' R R' H H' : Hp} {v : V} {val w : Val} {D : Ends} {n : Nat}
theorem sol_ok (g : RelG K pn A e σ G R H) (r : RepVal K A G R H e σ v val) (h : sol val e = .ok (w, e')) : ∃ A' G', Ex G G' ∧ RelG K pn A' e' σ G' R H ∧ RepVal K A' G' R H e' σ v w ∧ w.solo = true := by
  have via : ∀ val, RepVal K A G R H e σ v val → bnd (shr val) (fun d => ret (.sh d)) e = .ok (w, e') → ∃ A' G', Ex G G' ∧ RelG K pn A' e' σ G' R H ∧ RepVal K A' G' R H e' σ v w ∧ w.solo = true := fun val r h => by
    obtain ⟨d, e1, h1, k1⟩ := bnd_ok h
    cases k1
    obtain ⟨A', G', x, g', r'⟩ := g.shr r h1
    exact ⟨A', G', x, g', r', rfl⟩
  cases val with
  | sh d => cases h; exact ⟨A, G, Ex.refl G, g, r, rfl⟩
  | fr d => cases h; exact ⟨A, G, Ex.refl G, g, r, rfl⟩
  | fn d => cases h; exact ⟨A, G, Ex.refl G, g, r, rfl⟩
  | ow i => exact via _ r h
  | np i π => exact via _ r h
theorem sol_no {x : Xn} : sol val e ≠ .ex x e' := by
  intro h
  have via : ∀ val, bnd (shr val) (fun d => ret (Val.sh d)) e ≠ .ex x e' := fun val h => by
    unfold bnd at h
    cases hs : shr val e with
    | err => rw [hs] at h; cases h
    | ex x e1 => exact shr_no hs
    | ok p => rw [hs] at h; cases h
  cases val with
  | sh d => cases h
  | fr d => cases h
  | fn d => cases h
  | ow i => exact via _ h
  | np i π => exact via _ h
theorem ocs_sol {k : Val → M Fl} (g : RelG K pn A e σ G R' H) (r : RepVal K A G R' H e σ v val) (oc : OcS K W pn n R D G (bnd (sol val) k e)) : ∃ w A' e' G', Ex G G' ∧ RelG K pn A' e' σ G' R' H ∧ RepVal K A' G' R' H e' σ v w ∧ w.solo = true ∧ OcS K W pn n R D G' (k w e') := by
  unfold bnd at oc
  cases h : sol val e with
  | err => rw [h] at oc; exact False.elim oc
  | ex x e' => exact absurd h sol_no
  | ok p =>
    rw [h] at oc
    obtain ⟨A', G', x, g', r', s⟩ := sol_ok g r (w := p.1) (e' := p.2) h
    exact ⟨p.1, A', p.2, G', x, g', r', s, OcS.ext oc x⟩
/-- a fresh thing's addresses -/
def FrA (K : PySem.W.Frag) (A : LA) (G R H : Hp) (v : V) (B : Lb) : Val → Prop
  | .fr d => FrT K A G R H B v d ∧ ∃ p, v = .ref p ∧ B = one p ∧ OwnR K G H p d
  | .fn d => FrT K A G R H B v d
  | _ => B = fun _ => none
theorem FrA.of (g : RelG K pn A e σ G R H) (r : RepVal K A G R H e σ v w) (h : w.solo = true) : ∃ B, FrA K A G R H v B w ∧ ∀ τ a, B τ = some a → G a = none ∧ R a = none ∧ H a ≠ none ∧ ¬ Owd A a := by
  cases w with
  | sh d => exact ⟨fun _ => none, rfl, fun τ a z => nomatch z⟩
  | fr d =>
    obtain ⟨p, rfl, h1, h2, h3, h4⟩ := r
    have nw : ∀ τ a, one p τ = some a → G a = none ∧ R a = none ∧ H a ≠ none ∧ ¬ Owd A a := fun τ a h => by
      obtain ⟨_, rfl⟩ := one_eq h
      obtain ⟨o, ho⟩ := h4.isS
      exact ⟨h1, h2, by rw [ho]; simp, h3⟩
    exact ⟨one p, ⟨⟨h4.tr rfl, fun τ π a h h' => by rw [(one_eq h).1, (one_eq h').1], nw⟩, p, rfl, rfl, h4⟩, nw⟩
  | fn d => obtain ⟨B, fr⟩ := r; exact ⟨B, fr, fr.2.2⟩
  | ow i => cases h
  | np i π => cases h
/-- a fresh thing is stored: only its own objects are owned anew -/
theorem putW {i : Nat} {B : Lb} (g : RelG K pn A e σ G R H) (r : RepVal K A G R H e σ v w) (f : FrA K A G R H v B w) (h : w.solo = true) (hs : asgN i w e = .ok ((), e')) :
    ∃ A', RelG K pn A' e' (σ.set i (some v)) G R H ∧ ∀ a, Owd A' a → Owd A a ∨ ∃ τ, B τ = some a := by
  have key : ∀ (L : Lb) a, Owd (A.set i L) a → Owd A a ∨ ∃ τ, L τ = some a := fun L a ⟨j, τ, z⟩ => by
    by_cases hj : j = i
    · subst hj; rw [LA.set_eq] at z; exact .inr ⟨τ, z⟩
    · rw [LA.set_ne hj] at z; exact .inl ⟨j, τ, z⟩
  cases w with
  | sh d =>
    obtain ⟨h1, h2, h3⟩ := setN_ok hs
    simp only at h3
    subst h3
    have hi2 : i < σ.length := by rw [← g.len]; exact h1
    refine ⟨A.set i fun _ => none, g.slot h1 ⟨v, getElem?_setB hi2, r⟩ (by simp) (fun j hj => Qv.set_ne hj) (fun _ _ => rfl) (fun τ a z => nomatch z) (fun τ π a z => nomatch z) fun q hq z => ?_, fun a ha => ?_⟩
    · obtain ⟨_, s, b, c⟩ := g.pin q hq
      rw [z] at b
      rw [h2 s b] at c; cases c
    · rcases key _ a ha with z | ⟨τ, z⟩
      · exact .inl z
      · cases z
  | fr d =>
    obtain ⟨h1, h2, h3⟩ := setN_ok hs
    simp only at h3
    subst h3
    obtain ⟨_, p, rfl, rfl, _⟩ := f
    exact ⟨_, g.putO h1 h2 r, fun a ha => key _ a ha⟩
  | fn d =>
    obtain ⟨h1, h2, h3⟩ := setN_ok hs
    simp only at h3
    subst h3
    exact ⟨_, g.putN h1 h2 f, fun a ha => key _ a ha⟩
  | ow j => cases h
  | np j π => cases h
/-- still fresh, behind what framed it -/
theorem FrA.still {A2 : LA} {R2 G2 H2 : Hp} {e2 : En} {B : Lb} (f : FrA K A G R H v B w) (r : RepVal K A G R H e σ v w) (nw : ∀ τ a, B τ = some a → G a = none ∧ R a = none ∧ H a ≠ none ∧ ¬ Owd A a) (x : Ex G G2) (g2 : RelG K pn A2 e2 σ G2 R2 H2) (fr : ∀ τ a, B τ = some a → ∃ o, H a = some o ∧ R2 a = some o) (h : w.solo = true) :
    FrA K A2 G2 R H2 v B w ∧ RepVal K A2 G2 R H2 e2 σ v w ∧ ∀ τ a, B τ = some a → G2 a = none ∧ R a = none ∧ H2 a ≠ none ∧ ¬ Owd A2 a := by
  have nw2 : ∀ τ a, B τ = some a → G2 a = none ∧ R a = none ∧ H2 a ≠ none ∧ ¬ Owd A2 a := fun τ a z => by
    obtain ⟨o, h1, h2⟩ := fr τ a z
    refine ⟨g2.dj a (by rw [h2]; simp), (nw τ a z).2.1, by rw [g2.rh _ _ h2]; simp, fun ⟨j, π, w⟩ => ?_⟩
    have := (g2.own j π a w).2.1
    rw [h2] at this; cases this
  have same : ∀ τ a, B τ = some a → H2 a = H a := fun τ a z => by
    obtain ⟨o, h1, h2⟩ := fr τ a z
    rw [h1]; exact g2.rh _ _ h2
  have tr : ∀ {d : Qv.D}, FrT K A G R H B v d → FrT K A2 G2 R H2 B v d := fun ⟨t, ij, _⟩ => ⟨(t.frame fun τ a z => ⟨same τ a z, z⟩).monoG x, ij, nw2⟩
  cases w with
  | sh d => exact ⟨f, Rep.mono x r, nw2⟩
  | fr d =>
    obtain ⟨f1, p, rfl, rfl, f2⟩ := f
    have f3 : OwnR K G2 H2 p d := (f2.at (same [] p rfl)).monoG x
    obtain ⟨a1, a2, a3, a4⟩ := nw2 [] p rfl
    exact ⟨⟨tr f1, p, rfl, rfl, f3⟩, ⟨p, rfl, a1, a2, a4, f3⟩, nw2⟩
  | fn d => exact ⟨tr f, ⟨B, tr f⟩, nw2⟩
  | ow i => cases h
  | np i π => cases h
theorem par2_core {i j : Nat} {fa fb : M Val} (q : tSv K W (par2 i j fa fb) D σ H) :
    tEv K W fa σ H fun v H1 => tEv K W fb σ H1 fun w H3 => ∀ H', (H' = H3 ∨ ∃ p o, H3 p = none ∧ H' = upd H3 p o) → D.nx ((σ.set i (some v)).set j (some w)) H' := by
  obtain ⟨pn, A, e, G, R, g, oc⟩ := q
  refine chainS g oc fun v va A1 e1 G1 H1 x1 g1 r1 oc1 => ?_
  obtain ⟨wa, A2, e2, G2, x2, g2, r2, s2, oc2⟩ := ocs_sol g1 r1 oc1
  obtain ⟨B, f2, nw⟩ := FrA.of g2 r2 s2
  obtain ⟨gR, xR⟩ := g2.addB nw
  -- b is asked while a's thing is framed
  refine ⟨pn, A2, e2, G2, upB R H1 B, gR, ?_⟩
  have oc3 : OcS K W pn σ.length R D G2 (bnd fb (fun vb => bnd (sol vb) fun wb => bnd (asgN i wa) fun _ => bnd (asgN j wb) fun _ => ret .nx) e2) := oc2
  unfold bnd at oc3
  unfold OcV
  cases hf : fb e2 with
  | err => rw [hf] at oc3; exact False.elim oc3
  | ex x e' =>
    rw [hf] at oc3
    exact fun A' G' H' d y g' r => (show FinXS K W pn e' σ.length G2 R x from oc3) σ A' G' H' d y rfl (g'.weakR xR) r
  | ok p =>
    rw [hf] at oc3
    intro w A3 G3 H3 x3 g3 r3 H' hH'
    have oc4 : OcS K W pn σ.length R D G3 (bnd (sol p.1) (fun wb => bnd (asgN i wa) fun _ => bnd (asgN j wb) fun _ => ret .nx) p.2) := OcS.ext oc3 x3
    obtain ⟨wb, A4, e4, G4, x4, g4, r4, s4, oc5⟩ := ocs_sol g3 r3 oc4
    have frm : ∀ τ a, B τ = some a → ∃ o, H1 a = some o ∧ upB R H1 B a = some o := fun τ a z => by
      cases q : H1 a with
      | none => exact absurd q (nw τ a z).2.2.1
      | some o => exact ⟨o, rfl, by rw [upB_in z]; exact q⟩
    obtain ⟨f5, r5, nw5⟩ := FrA.still (e2 := e4) f2 r2 nw (x3.trans x4) g4 frm s2
    have g4' : RelG K pn A4 e4 σ G4 R H3 := g4.weakR xR
    unfold bnd at oc5
    cases ha : asgN i wa e4 with
    | err => rw [ha] at oc5; exact False.elim oc5
    | ex x e' => exact absurd ha asgN_no
    | ok pa =>
      obtain ⟨ua, ea⟩ := pa
      rw [ha] at oc5
      obtain ⟨A5, g5, o5⟩ := putW (e' := ea) g4' r5 f5 s2 ha
      have oc6 : OcS K W pn σ.length R D G4 (bnd (asgN j wb) (fun _ => ret .nx) ea) := oc5
      unfold bnd at oc6
      cases hb : asgN j wb ea with
      | err => rw [hb] at oc6; exact False.elim oc6
      | ex x e' => exact absurd hb asgN_no
      | ok pb =>
        rw [hb] at oc6
        -- b's thing is not a's
        have nB : ∀ a, upB R H1 B a = none → ¬ Owd A4 a → ¬ Owd A5 a := fun a h1 h2 z => by
          rcases o5 a z with z | ⟨τ, z⟩
          · exact h2 z
          · obtain ⟨o, _, q⟩ := frm τ a z
            rw [q] at h1; cases h1
        have r6 : RepVal K A5 G4 R H3 ea (σ.set i (some v)) w wb := by
          cases wb with
          | sh d => exact r4
          | fr d => obtain ⟨p', h1, h2, h3, h4, h5⟩ := r4; exact ⟨p', h1, h2, low xR h3, nB p' h3 h4, h5⟩
          | fn d => obtain ⟨C, t, ij, nwC⟩ := r4; exact ⟨C, t, ij, fun τ a z => ⟨(nwC τ a z).1, low xR (nwC τ a z).2.1, (nwC τ a z).2.2.1, nB a (nwC τ a z).2.1 (nwC τ a z).2.2.2⟩⟩
          | ow k => cases s4
          | np k π => cases s4
        obtain ⟨A6, G6, x6, g6⟩ := asgN_ok (e' := pb.2) g5 r6 hb
        have fin : FinS K pn pb.2 σ.length G4 R D .nx := oc6
        rcases hH' with rfl | ⟨p', o, hp, rfl⟩
        · exact fin _ A6 G6 _ x6 (by simp) g6
        · exact fin _ A6 G6 _ x6 (by simp) (g6.laidF hp).1
end
section
variable {X : Cx} {W : WX} {pos : Pos} {a b : Expr} {fa fb : M Val}
theorem ss_par2 {i j : Nat} {x y : Str} {px py pt : Pos} {kt k2 : Nat} {pt2 : Pos} (hc : X.calm = true) (hN : X.N.Nodup) (hi : X.N[i]? = some x) (hj : X.N[j]? = some y) (hij : i ≠ j)
    (hx : X.env.scope.names.lookup x = some .local) (hy : X.env.scope.names.lookup y = some .local) (ha : PE X a (tEv X.K W fa)) (hb : PE X b (tEv X.K W fb)) (hna : notStar a = true) (hnb : notStar b = true)
    (hw : swappedStores [.Tuple [.Name x px, .Name y py] kt pt] (.Tuple [a, b] k2 pt2) X.env = pure (some [x, y])) : PS X (.Assign [.Tuple [.Name x px, .Name y py] kt pt] (.Tuple [a, b] k2 pt2) pos) (tSv X.K W (par2 i j fa fb)) :=
  PS_mono (ps_par hc hN hi hj hij hx hy (pa_cons ha (pa_cons hb pa_nil (star_cons hnb)) (star_cons hna)) hw) fun D σ H q =>
    tG_mono (par2_core q) fun v H1 z => tG_mono z fun w H3 z2 => ⟨v, w, rfl, z2 H3 (.inl rfl)⟩
/-- .. where the tuple is made and taken apart -/
theorem ss_par2T {i j : Nat} {x y : Str} {px py pt : Pos} {kt k2 : Nat} {pt2 : Pos} (hc : X.calm = true) (hN : X.N.Nodup) (hi : X.N[i]? = some x) (hj : X.N[j]? = some y)
    (hx : L2.Loc X.env.scope x) (hxf : X.fn x = true ∨ X.env.scope.names.lookup x = some .local) (hy : L2.Loc X.env.scope y) (hyf : X.fn y = true ∨ X.env.scope.names.lookup y = some .local) (ha : PE X a (tEv X.K W fa)) (hb : PE X b (tEv X.K W fb)) (hna : notStar a = true) (hnb : notStar b = true)
    (hw : swappedStores [.Tuple [.Name x px, .Name y py] kt pt] (.Tuple [a, b] k2 pt2) X.env = pure none) : PS X (.Assign [.Tuple [.Name x px, .Name y py] kt pt] (.Tuple [a, b] k2 pt2) pos) (tSv X.K W (par2 i j fa fb)) :=
  PS_mono (ps_asg (pe_tup (pa_cons ha (pa_cons hb pa_nil (star_cons hnb)) (star_cons hna))) (pg_tup (n := 2) hc (pgs_cons (pg_name hN hi hx hxf) (pgs_cons (pg_name hN hj hy hyf) pgs_nil))) rfl hw rfl) fun D σ H q => by
    refine tG_mono (par2_core q) fun v H1 z => tG_mono z fun w H3 z2 => ?_
    refine ⟨by show 2 ≤ sizeLine; decide, fun p hp => ⟨p, [v, w], rfl, SqT.of upd_same, rfl, v, [w], rfl, w, [], rfl, rfl, ?_⟩⟩
    exact z2 _ (.inr ⟨p, _, hp, rfl⟩)
end
end Qv
namespace Qv.St
open PySem PySem.Spec PyProof.Rows L2

/-- is it one of the first -/
def inS (ks : List L2.Key) (i : Nat) : L2.Key → Bool := fun q => (ks.take i).any fun z => decide (z = q)
/-- met one by one: how many are new -/
def grown (xs : List L2.Key) : Nat → Nat
  | 0 => 0
  | i + 1 => grown xs i + (match xs[i]? with | some x => if inS xs i x then 0 else 1 | none => 0)
theorem grown_le (xs : List L2.Key) : ∀ i, grown xs i ≤ i
  | 0 => Nat.le_refl _
  | i + 1 => by
    have := grown_le xs i
    unfold grown
    split
    · split <;> omega
    · omega
theorem alike {prog : Program} {w : World} {K : Type} [DecidableEq K] {knd : KeyKind prog w K} {h : Heap} {a : Addr} {S T : K → Bool} {n m : Nat}
    (hS : h.SetOf knd a S n) (e : S = T) (en : n = m) : h.SetOf knd a T m := en ▸ e ▸ hS
/-- the keys that the values are -/
def KeysAre (us : List Value) (ks : List L2.Key) : Prop := Paired (fun k u => keyIs k u = true) ks us
theorem keys_at : ∀ {us : List Value} {ks : List L2.Key}, KeysAre us ks → ∀ (i : Nat) (v : Value), us[i]? = some v → ∃ k, ks[i]? = some k ∧ keyIs k v = true
  | _, _, .nil, i, v, h => by simp at h
  | _, _, .cons a r, 0, v, h => by simp at h; subst h; exact ⟨_, rfl, a⟩
  | _, _, .cons a r, i + 1, v, h => by
    obtain ⟨k, h1, h2⟩ := keys_at r i v (by simpa using h)
    exact ⟨k, by simpa using h1, h2⟩
theorem key_scan {k : L2.Key} {v : Value} (h : keyIs k v = true) : v.scannable = true := by
  rcases keyIs_shape h with ⟨i, t, rfl, rfl⟩ | ⟨x, t, rfl, rfl⟩ <;> rfl
section
variable {prog : Program} {w : World} {A : Around} {R : Result → Shared → Prop} {I : Addr} {fp wr : List Addr} {G : Array GenState → Array GenState → Prop} {n : Nat} {P : Nat → Value → Prop} {Sx : Nat → Shared → Prop}
theorem set_loop (W : WalksS prog w A.in1 I fp wr G n P Sx) (S : Addr) (hSf : S ∉ fp) (ks : List L2.Key) (hsz : ks.length = n) (hb : n + 1 < scanBound) (hval : ∀ i v, P i v → ∃ k, ks[i]? = some k ∧ keyIs k v = true) :
    ∀ (m i : Nat) (s : Shared), n - i = m → i ≤ n → Sx i s → s.heap.SetOf (mixKind prog w) S (inS ks i) (grown ks i) →
      (∀ s', Moved (S :: wr) G s s' → s'.heap.SetOf (mixKind prog w) S (inS ks n) (grown ks n) → R (.ok (.ret .none)) s') →
      codeAny (model prog w) A (.builtin "set.update.loop" ⟨[.ref S, .ref I], []⟩) R s := by
  have notw : S ∉ wr := fun h => hSf (W.sub _ h)
  have up : ∀ b ∈ wr, b ∈ S :: wr := fun b h => List.mem_cons_of_mem _ h
  have stays : ∀ {i : Nat} {s s' : Shared}, Moved wr G s s' → s.heap.SetOf (mixKind prog w) S (inS ks i) (grown ks i) → s'.heap.SetOf (mixKind prog w) S (inS ks i) (grown ks i) := fun {i s s'} hm ⟨o, es, ep, t, ho, rest⟩ => ⟨o, es, ep, t, hm.heap S _ notw ho, rest⟩
  intro m
  induction m with
  | zero =>
    intro i s hm hi st hS fin
    obtain rfl : i = n := by omega
    apply codeAny_builtin PyProof.Rows.F.entry_set_update_loop
    rw [Around.under_plainId PyProof.Rows.F.plain_set_update_loop _]
    show wpAny _ A.in1 (pyNext (.ref I) >>= _) _ _ s
    exact wpAny_bind (W.done s _ _ st fun s' mv => by
      show wpAny _ A.in1 (PySem.ret Value.none) _ _ s'
      exact wpAny_pure (fin s' (mv.mono up) (stays mv hS)))
  | succ m ih =>
    intro i s hm hi st hS fin
    have hlt : i < n := by omega
    apply codeAny_builtin PyProof.Rows.F.entry_set_update_loop
    rw [Around.under_plainId PyProof.Rows.F.plain_set_update_loop _]
    show wpAny _ A.in1 (pyNext (.ref I) >>= _) _ _ s
    refine wpAny_bind (W.item i s _ _ hlt st fun v s' hP st' mv => ?_)
    obtain ⟨k, hk, kv⟩ := hval i v hP
    have hS' := stays mv hS
    show wpAny _ A.in1 (holding [v] (setAdd S v) >>= _) _ _ s'
    apply wpAny_bind
    apply wpAny_holding
    unfold setAdd
    apply wpAny_holding
    refine wpAny_bind ((mixKind prog w).pyHash (k := k) kv ?_)
    have hg := grown_le ks i
    refine wpAny_setAddHashed_of (knd := mixKind prog w) (s := { s' with toks := s'.toks + 1 }) kv (key_scan kv) hS' (by omega) fun h' same hS2 => ?_
    have next : h'.SetOf (mixKind prog w) S (inS ks (i + 1)) (grown ks (i + 1)) := by
      refine alike hS2 (funext fun q => ?_) ?_
      · show (inS ks i q || decide (q = k)) = (ks.take (i + 1)).any _
        have e : ks.take (i + 1) = ks.take i ++ [k] := by rw [List.take_succ, hk]; rfl
        rw [e, List.any_append]
        show _ = (inS ks i q || _)
        congr 1
        show decide (q = k) = (decide (k = q) || false)
        rw [Bool.or_false]
        exact decide_eq_decide.mpr ⟨Eq.symm, Eq.symm⟩
      · show _ = grown ks i + _
        rw [hk]
        cases z : inS ks i k <;> simp [z]
    refine wpAny_pure ⟨plainId_quiet PyProof.Rows.F.plain_set_update_loop _, ih (i + 1) _ (by omega) hlt (W.frame _ s' _ _ st' (Nat.le_succ _) fun b hb' o e => ?_) next fun s2 mv2 hS3 => ?_⟩
    · rw [same.2 b (fun z : b = S => hSf (by rw [← z]; exact hb'))]; exact e
    · refine fin s2 (Moved.trans W.gtrans ((mv.mono up).then_heap (Nat.le_succ _) fun b o hb' e => ?_) mv2) hS3
      rw [same.2 b (fun z : b = S => hb' (by rw [z]; exact List.mem_cons_self))]; exact e
end
/-- a new set's object -/
abbrev newS (led : Bool) : Obj := { cls := .type "set", dict := none, data := .set #[] 0 (.fresh 0 0 led) }
/-- what stands behind set(x) -/
def Done (prog : Program) (w : World) (s : Shared) (ks : List L2.Key) (h' : Heap) : Prop :=
  h'.SetOf (mixKind prog w) s.heap.objs.size (inS ks ks.length) (grown ks ks.length) ∧ ∀ b o, b < s.heap.objs.size → s.heap.get? b = some o → h'.get? b = some o
def SqA (t : Bool) (h : Heap) (l : Addr) (items : Array Value) : Prop := if t then h.IsTuple l items else h.IsList l items
section
variable {prog : Program} {w : World} {A : Around} {E : Value → Shared → Prop} {s : Shared}
theorem set_of_tup {l : Addr} {items : Array Value} {ks : List L2.Key} {Q : Value → Shared → Prop} (hh : A.handled = none) (hl : s.heap.IsTuple l items) (hi : KeysAre items.toList ks) (hb : ks.length + 1 < scanBound)
    (fin : ∀ (h' : Heap) (tk : Nat), Done prog w s ks h' → Q (.ref s.heap.objs.size) { s with heap := h', toks := tk }) : wpAny (model prog w) A (call (.type "set") [.ref l]) Q E s := by
  obtain ⟨cc, tt, mm⟩ := PySem.F.called_set.mro
  have g1 := PySem.F.called_set.made
  have g2 := PySem.F.called_set.sub
  apply wpAny_call
  apply codeAny_of_tree
  show wpAny _ _ (callAny (.type "set") _) _ _ _
  apply wpAny_pure
  refine ⟨Code.quiet_builtin _ (by decide +kernel), ?_⟩
  apply codeAny_builtin PySem.F.entry_type_call
  rw [Around.under_plain (weight_type_call_type "set" [.ref l] []) rfl]
  have g3 := PySem.F.called_set.notType
  have g4 := PySem.F.called_set.canCreate
  have g5 := PySem.F.typeCall_set_1 (.ref l)
  repeat (any_goals (first | assumption | wp_step))
  apply codeAny_mono (code_set_new_1 (.ref l) (E := E) (Q₁ := fun ob s1 => ∃ led : Bool, ob = .ref s.heap.objs.size ∧ s1 = { s with heap := s.heap.push (newS led) }) fun led => ⟨led, rfl, rfl⟩)
  intro r s1 hr
  cases r with
  | error e => exact hr
  | ok fl =>
    cases fl with
    | ret ob =>
      obtain ⟨led, rfl, rfl⟩ := hr
      have at0 : (s.heap.push (newS led)).get? s.heap.objs.size = some (newS led) := Heap.get?_push_size _ rfl
      have ty0 : Shared.TypeIs { s with heap := s.heap.push (newS led) } (.ref s.heap.objs.size) "set" := ⟨_, at0, rfl⟩
      have g6 := PySem.F.called_set.init.lookup
      have g7 := PySem.F.called_set.init.bind (.ref s.heap.objs.size)
      repeat (any_goals (first | assumption | wp_step))
      refine codeAny_mono (codeAny_call_builtin (R := wants (fun r s2 => r = .none ∧ ∃ h' tk, s2 = { s with heap := h', toks := tk } ∧ Done prog w s ks h') E) PySem.F.called_set.init.plain PySem.F.entry_set_init (check_set_init_1 ty0 ?_)) fun r2 s2 hr2 => ?_
      · obtain ⟨⟨oc, od, odt, osl⟩, hol, hcl, nl, hdl⟩ := hl
        simp only at hcl hdl
        subst hcl hdl
        have at1 : (s.heap.push (newS led)).get? l = some { cls := .type "tuple", dict := od, data := .seq items nl, slots := osl } := Heap.get?_push_of_some _ hol
        have g8 := PySem.F.sub_tuple_set
        have g9 := PySem.F.sub_tuple_frozenset
        have g10 : (Value.type "tuple" == Value.type "dict") = false := by decide
        have tup1 : (s.heap.push (newS led)).IsTuple l items := ⟨_, at1, rfl, nl, rfl⟩
        unfold Builtin.«set.__init__» noKeywords Builtin.Frozenset.updateFrom
        generalize hPI : pyIter = PI
        wp_walk
        subst hPI
        apply wpAny_pyIter_tuple tup1
        apply wpAny_bind
        apply wpAny_runValue
        have lt : l < s.heap.objs.size := Heap.lt_size hol
        have hnd : A.in1.in1.in1.handled = none := by simp [hh]
        have ne1 : l ≠ (s.heap.push (newS led)).objs.size := by rw [Heap.size_push]; exact Nat.ne_of_lt (Nat.lt_succ_of_lt lt)
        have nf : s.heap.objs.size ∉ [(s.heap.push (newS led)).objs.size, l] := by
          rw [Heap.size_push]
          simp only [List.mem_cons, List.not_mem_nil, or_false, not_or]
          exact ⟨Nat.ne_of_lt (Nat.lt_succ_self _), Nat.ne_of_gt lt⟩
        have sz : ks.length = items.size := by rw [Paired.length hi, Array.length_toList]
        have val : ∀ (i : Nat) (v : Value), items[i]? = some v → ∃ k, ks[i]? = some k ∧ keyIs k v = true := fun i v hv => keys_at hi i v (by rw [Array.getElem?_toList]; exact hv)
        refine set_loop ((Walks.tuple hnd _ l ne1 items).toS) s.heap.objs.size nf ks sz (by rw [← sz]; exact hb) val (items.size - 0) 0 _ (by omega) (Nat.zero_le _) ⟨⟨_, Heap.get?_push_size _ rfl, rfl, rfl⟩, (tup1.push _)⟩ ?_ ?_
        · have at2 : ((s.heap.push (newS led)).push { cls := .type "tuple_iterator", data := .fields #[.ref l, .int 0 0] }).get? s.heap.objs.size = some (newS led) := Heap.get?_push_of_some _ at0
          letI : BEq L2.Key := instBEqOfDecidableEq
          exact alike ((setObjOf_fresh (knd := mixKind prog w) led).setOf at2 (by unfold scanBound; decide)) (funext fun q => by simp [inS]) rfl
        · intro s3 mv hS
          obtain ⟨h', g', d', tk', os'⟩ := s3
          obtain rfl : g' = s.gens := mv.gens
          obtain rfl : d' = s.drawn := mv.drawn
          obtain rfl : os' = s.os := mv.os
          show wpAny _ _ _ _ _ _
          apply wpAny_pure
          show wpAny _ _ (PySem.ret Value.none) _ _ _
          rw [← sz] at hS
          refine wpAny_pure ⟨rfl, h', tk', rfl, hS, fun b o lb e => ?_⟩
          refine mv.heap b o ?_ (Heap.get?_push_of_some _ (Heap.get?_push_of_some _ e))
          rw [Heap.size_push]
          simp only [List.mem_cons, List.not_mem_nil, or_false, not_or]
          exact ⟨Nat.ne_of_lt lb, Nat.ne_of_lt (Nat.lt_succ_of_lt lb)⟩
      · cases r2 with
        | error e => exact hr2
        | ok fl2 =>
          cases fl2 with
          | ret r =>
            obtain ⟨rfl, h', tk, rfl, hd⟩ := hr2
            repeat (any_goals (first | assumption | wp_step))
            exact fin _ _ hd
          | _ => exact hr2.elim
    | _ => exact hr.elim
end
end Qv.St
namespace Qv
open PySem L2
open Evl (Ex)
open PySem.Spec PyProof.Rows HT

/-! ### t[::-1] -/
section
variable {prog : Program} {w : World} {A : Around} {E : Value → Shared → Prop} {s : Shared}
theorem rv_adjust (n : Nat) : Builtin.Slice.sliceAdjust none none (-1) (n : Int) = ((n : Int) - 1, -1) := by
  have h : (-1 : Int) < 0 := by decide
  unfold Builtin.Slice.sliceAdjust
  simp only [h, if_true]
theorem rv_places (n : Nat) : Builtin.Slice.slicePlaces ((n : Int) - 1) (-1) (-1) = n := by
  unfold Builtin.Slice.slicePlaces
  rw [if_neg (by decide)]
  split
  · have : ((n : Int) - 1 - -1 - 1) / (- -1) = (n : Int) - 1 := by
      rw [show (- -1 : Int) = 1 by decide, Int.ediv_one]
      omega
    rw [this]
    omega
  · omega
theorem rv_applied {sl : Addr} {vl vu vs : Value} {n : Nat} {Q : Int × Int × Nat → Shared → Prop} (hs : s.heap.IsSliceOf sl vl vu vs) (pl : IsPart vl none) (pu : IsPart vu none) (ps : IsPart vs (some (-1)))
    (h : Q ((n : Int) - 1, -1, n) s) : wpAny (model prog w) A (Builtin.Slice.sliceApplied (.ref sl) (pure (n : Int))) Q E s := by
  obtain ⟨ob, e1, e2, e3⟩ := id hs
  unfold Builtin.Slice.sliceApplied Builtin.Slice.sliceFields
  refine wpAny_bind (wpAny_bind (wpAny_field e1 e3 (x := vl) rfl (wpAny_bind (wpAny_field e1 e3 (x := vu) rfl (wpAny_bind (wpAny_field e1 e3 (x := vs) rfl (wpAny_pure ?_)))))))
  refine wpAny_bind (slicePart_ ps ?_)
  show wpAny _ _ (if ((-1 : Int) == 0) = true then _ else _) _ _ s
  rw [if_neg (show ¬ ((-1 : Int) == 0) = true by decide)]
  refine wpAny_bind (slicePart_ pl (wpAny_bind (slicePart_ pu (wpAny_bind (wpAny_pure ?_)))))
  show wpAny _ _ (match Builtin.Slice.sliceAdjust none none (-1) (n : Int) with | (a, b) => pure (a, (-1 : Int), Builtin.Slice.slicePlaces a b (-1))) _ _ s
  rw [rv_adjust]
  show wpAny _ _ (pure ((n : Int) - 1, (-1 : Int), Builtin.Slice.slicePlaces ((n : Int) - 1) (-1) (-1))) _ _ s
  rw [rv_places]
  exact wpAny_pure h
theorem fm_congr {α β : Type} : ∀ (l : List α) (f g : α → Option β), (∀ m ∈ l, f m = g m) → l.filterMap f = l.filterMap g
  | [], _, _, _ => rfl
  | a :: r, f, g, h => by rw [List.filterMap_cons, List.filterMap_cons, h a (by simp), fm_congr r f g fun m hm => h m (List.mem_cons_of_mem _ hm)]
theorem rv_pick (xs : Array Value) : ((List.range xs.size).filterMap fun (m : Nat) => xs[(((xs.size : Nat) : Int) - 1 + (m : Int) * (-1)).toNat]?).toArray = xs.toList.reverse.toArray := by
  congr 1
  have e : (List.range xs.size).filterMap (fun (m : Nat) => xs[(((xs.size : Nat) : Int) - 1 + (m : Int) * (-1)).toNat]?) = (List.range xs.size).filterMap fun m => (xs.toList.reverse)[m]? := by
    refine fm_congr _ _ _ fun m hm => ?_
    have hl := List.mem_range.mp hm
    have e1 : (((xs.size : Nat) : Int) - 1 + (m : Int) * (-1)).toNat = xs.size - 1 - m := by omega
    rw [e1, List.getElem?_reverse (by simpa using hl)]
    simp
  rw [e]
  have k : ∀ l : List Value, (List.range l.length).filterMap (fun m => l[m]?) = l := by
    intro l
    induction l with
    | nil => rfl
    | cons a r ih =>
      rw [List.length_cons, List.range_succ_eq_map, List.filterMap_cons]
      simp only [List.getElem?_cons_zero]
      rw [List.filterMap_map]
      exact congrArg (a :: ·) ih
  have := k xs.toList.reverse
  rw [List.length_reverse, Array.length_toList] at this
  exact this
theorem rv_tuple {t sl : Addr} {items : Array Value} {vl vu vs : Value} {Q : Value → Shared → Prop} (ht : IsTup s.heap t items) (hs : s.heap.IsSliceOf sl vl vu vs) (pl : IsPart vl none) (pu : IsPart vu none) (ps : IsPart vs (some (-1)))
    (h : Q (.ref s.heap.objs.size) { s with heap := s.heap.push { cls := .type "tuple", data := .seq items.toList.reverse.toArray } }) (hsz : items.size ≤ sizeLine) : wpAny (model prog w) A (getItem (.ref t) (.ref sl)) Q E s := by
  have fits : sizeOk (.seq items.toList.reverse.toArray) := by
    show items.toList.reverse.toArray.size ≤ sizeLine
    simpa using hsz
  obtain ⟨ob, e1, e2, e3⟩ := id hs
  have tyS : s.TypeIs (.ref sl) "slice" := ⟨ob, e1, e2⟩
  unfold getItem
  try with_reducible refine wpAny_holding ?_
  first | refine wpAny_bind (wpAny_pure ?_) | skip
  refine wpAny_bind (wpAny_sequenceKey ht.typeIs (by decide) ?_)
  refine wpAny_bind (wpAny_callSpecial?_slot (name := Str.ofString "__getitem__") ht.typeIs PyProof.Rows.slot_tuple_getitem (wpAny_call_entry PyProof.Rows.slot_tuple_getitem ht.typeIs entry_tuple_getitem ?_ (args_tuple_getitem _ _)))
  show wpAny _ _ (Builtin.Tuple.tupleItemsOf (.ref t) >>= _) _ _ s
  refine wpAny_bind (tupleItemsOf_ ht ?_)
  refine wpAny_bind (wpAny_typeOf tyS ?_)
  rw [if_pos (by decide)]
  refine wpAny_bind (rv_applied hs pl pu ps ?_)
  have no : ¬ ((((items.size : Nat) : Int) - 1 == 0 && (-1 : Int) == 1 && items.size == items.size) = true) := by
    intro q
    rw [Bool.and_eq_true, Bool.and_eq_true] at q
    exact absurd q.1.2 (by decide)
  show wpAny _ _ (if (((items.size : Nat) : Int) - 1 == 0 && (-1 : Int) == 1 && items.size == items.size) = true then _ else _) _ _ s
  rw [if_neg no, rv_pick]
  first
    | exact wpAny_bind (m := Builtin.Tuple.tupleExact _) (wpAny_newObj_type (wpAny_pure ⟨_, rfl, wpAny_pure h⟩) fits)
    | exact wpAny_bind (m := Builtin.Tuple.tupleExact _) (wpAny_newObj_type (wpAny_bind (wpAny_pure (wpAny_pure ⟨_, rfl, wpAny_pure h⟩))) fits)
    | exact wpAny_bind (wpAny_bind (m := Builtin.Tuple.tupleExact _) (wpAny_newObj_type (wpAny_pure (wpAny_pure ⟨_, rfl, wpAny_pure h⟩)) fits))
    | exact wpAny_bind (wpAny_bind (m := Builtin.Tuple.tupleExact _) (wpAny_newObj_type (wpAny_pure ⟨_, rfl, wpAny_pure h⟩) fits))
end
section
variable {X : Cx}
def tRevA (K : PySem.W.Frag) (te : TE) : TE := fun σ H Q => te σ H fun x H1 => (∃ a xs, x = .ref a ∧ SqL K H1 a xs ∧ ∀ p, H1 p = none → Q (.ref p) (upd H1 p (.lst xs.reverse))) ∨ (∃ a xs, x = .ref a ∧ SqT K H1 a xs ∧ ∀ p, H1 p = none → Q (.ref p) (upd H1 p (.tup xs.reverse)))
theorem pe_revA {e : Expr} {te : TE} {k : Nat} {p1 p2 p3 pos : Pos} (he : PE X e te) : PE X (.Subscript e (.Slice none none (some (.UnaryOp .USub (.Constant (.int 1) k p1) p2)) p3) pos) (tRevA X.K te) := by
  refine ⟨fun pins s σ H Q I h => ?_⟩
  refine Subscript_ (thn (he.run pins s σ H _ I h) fun v s1 ⟨x, H1, I1, r1, q1⟩ => ?_)
  have step : PO X (some (.UnaryOp .USub (.Constant (.int 1) k p1) p2)) (tPart (tUn (rU fun i => .int (-i)) (tC (.int 1)))) := po_some (pe_un un_neg pe_int)
  refine wpAny_Slice (thn (po_none.run pins s1 σ H1 (fun o H2 => o = none ∧ H2 = H1) I1 ⟨rfl, rfl⟩) fun vl s2 ⟨l, H2, I2, pl, el, e2⟩ => ?_)
  subst el e2
  refine thn (po_none.run pins s2 σ H2 (fun o H3 => o = none ∧ H3 = H2) I2 ⟨rfl, rfl⟩) fun vu s3 ⟨u, H3, I3, pu, eu, e3⟩ => ?_
  subst eu e3
  refine thn (step.run pins s3 σ H3 (fun o H4 => o = some (-1) ∧ H4 = H3) I3 ⟨1, rfl, -1, rfl, rfl, rfl⟩) fun vs s4 ⟨o, H4, I4, ps, eo, e4⟩ => ?_
  subst eo e4
  have I5 : Inv X pins σ H4 { s4 with heap := s4.heap.push { cls := .type "slice", data := .fields #[vl, vu, vs] } } := I4.kept (t' := s4.toks) fun b ob z => Heap.get?_push_of_some _ z
  rcases q1 with ⟨a, xs, ex, hx, q⟩ | ⟨a, xs, ex, hx, q⟩
  · subst ex
    cases r1
    obtain ⟨its, r, ht, hz⟩ := I5.list hx
    have lens := r.length
    show wpAny (model X.prog X.w) X.A (subscriptTail e (.Slice none none (some (.UnaryOp .USub (.Constant (.int 1) k p1) p2)) p3) (.ref a) (.ref s4.heap.objs.size)) (EP X pins σ Q) X.xe { s4 with heap := s4.heap.push { cls := .type "slice", data := .fields #[vl, vu, vs] } }
    refine tail_any (ops := [.ref a, .ref s4.heap.objs.size]) ht.isList.typeIs (PySem.slot_list_getitem.lookup) ?_ (by with_unfolding_all rfl)
    refine wpAny_getItem_list_slice ht.isList (Heap.IsSliceOf.new _ vl vu vs) pl pu ps (by decide) ?_ (by rw [List.size_toArray]; omega)
    rw [PySem.W.krv_pick]
    exact ⟨.ref _, _, I5.laid (t' := s4.toks) (o := .lst xs.reverse) (fun b ob z => Heap.get?_push_of_some _ z) (Nat.le_refl _) ⟨by rw [List.length_reverse]; exact hz, _, 0, r.reverse, Heap.get?_push_size _ rfl⟩, rfl, q _ (I5.hok.fresh (Nat.le_refl _))⟩
  · subst ex
    cases r1
    obtain ⟨its, r, ht, hz⟩ := I5.tuple hx
    have lens := r.length
    show wpAny (model X.prog X.w) X.A (subscriptTail e (.Slice none none (some (.UnaryOp .USub (.Constant (.int 1) k p1) p2)) p3) (.ref a) (.ref s4.heap.objs.size)) (EP X pins σ Q) X.xe { s4 with heap := s4.heap.push { cls := .type "slice", data := .fields #[vl, vu, vs] } }
    refine tail_any (ops := [.ref a, .ref s4.heap.objs.size]) ht.typeIs PyProof.Rows.slot_tuple_getitem.lookup ?_ (by with_unfolding_all rfl)
    refine rv_tuple ht (Heap.IsSliceOf.new _ vl vu vs) pl pu ps ?_ (by rw [List.size_toArray]; omega)
    exact ⟨.ref _, _, I5.laid (t' := s4.toks) (o := .tup xs.reverse) (fun b ob z => Heap.get?_push_of_some _ z) (Nat.le_refl _) ⟨by rw [List.length_reverse]; exact hz, _, r.reverse, IsTup.new _ _⟩, rfl, q _ (I5.hok.fresh (Nat.le_refl _))⟩
end
end Qv
namespace Qv
open PySem L2 PySem.Spec PyProof.Rows
open Evl (Ex)

/-! ### a list from its end -/
def revD : D → Option Val
  | .lst l => some (.fr (.lst l.reverse))
  | .tup l => some (.sh (.tup l.reverse))
  | _ => none
def revC (f : M Val) : M Val := bnd f fun v => bnd (der v) fun d => opt (revD d)
section
variable {X : Cx} {W : WX} {pos : Pos}
theorem se_rev {a : Expr} {f : M Val} {k : Nat} {p1 p2 p3 : Pos} (ha : PE X a (tEv X.K W f)) : PE X (.Subscript a (.Slice none none (some (.UnaryOp .USub (.Constant (.int 1) k p1) p2)) p3) pos) (tEv X.K W (revC f)) :=
  PE_mono (pe_revA ha) fun σ H Q q => by
    obtain ⟨pn, A, e, G, R, g, oc⟩ := q
    refine chain g oc fun x v A1 e1 G1 H1 x1 g1 r1 oc1 => ?_
    obtain ⟨d, rd, oc2⟩ := oc_der g1 r1 oc1
    obtain ⟨val, q3, fin⟩ := oc_optE oc2
    cases d with
    | lst ds =>
      cases q3
      obtain ⟨p, xs, rfl, hp, ra⟩ := rd
      exact .inl ⟨p, xs, rfl, SqL.of hp, fin.newF g1 ra.rev⟩
    | tup ds =>
      cases q3
      have rd' : Rep X.K G1 x (.tup ds) := rd
      cases rd' with
      | @tup p xs _ sp ra => exact .inr ⟨p, xs, rfl, SqT.of (g1.gh _ _ sp), fin.newT g1 ra.rev⟩
    | _ => cases q3
/-! ### dict displays -/
def pairsC : List (M Val × M Val) → M (List (D × D))
  | [] => ret []
  | q :: r => bnd q.1 fun vk => bnd (der vk) fun dk => bnd (opt (keyS dk)) fun key => bnd q.2 fun vv => bnd (shr vv) fun d => bnd (pairsC r) fun ps => ret ((keyD key, d) :: ps)
def dictC (fs : List (M Val × M Val)) : M Val := bnd (pairsC fs) fun es => if es.length ≤ 15 then ret (.fr (.dct (es.foldl (fun acc q => kvSet acc q.1 q.2) []))) else fail
def dct0C : M Val := ret (.fr (.dct []))
theorem se_dct0 : PE X (.Dict [] [] pos) (tEv X.K W dct0C) := PE_mono pe_dnewK fun σ H Q q => by
  obtain ⟨pn, A, e, G, R, g, oc⟩ := q
  intro p hp
  obtain ⟨g', a, b, c⟩ := g.laidF (o := .dK []) hp
  exact (oc_ret oc) _ A G _ (Ex.refl G) g' ⟨p, rfl, a, b, c, .inl ⟨[], upd_same, .nil⟩⟩
abbrev rvP (K : PySem.W.Frag) : Rv (List (V × V)) (List (D × D)) := fun _ G _ _ _ _ ps es => ∃ kvs : List (L2.Key × V), ps = kvs.map (fun kv => (kV kv.1, kv.2)) ∧ RepK K G kvs es
theorem tpairs {K : PySem.W.Frag} {σ : L2.St} : ∀ {fs : List (M Val × M Val)} {H : Hp} {Q : List (V × V) → Hp → Prop}, tG K W (rvP K) (pairsC fs) σ H Q → tPairs (fs.map fun q => (tEv K W q.1, tEv K W q.2)) σ H Q
  | [], H, Q, h => by
    obtain ⟨pn, A, e, G, R, g, oc⟩ := h
    exact (oc_ret (rv := rvP K) oc) [] A G H (Ex.refl G) g ⟨[], rfl, .nil⟩
  | q :: r, H, Q, h => by
    obtain ⟨pn, A, e, G, R, g, oc⟩ := h
    refine chain g oc fun x vk A1 e1 G1 H1 x1 g1 r1 oc1 => ?_
    obtain ⟨dk, rd, oc2⟩ := oc_der g1 r1 oc1
    obtain ⟨key, hk, oc3⟩ := oc_opt oc2
    refine chain g1 oc3 fun y vv A4 e4 G4 H4 x4 g4 r4 oc4 => ?_
    obtain ⟨d, A5, e5, G5, x5, g5, r5, oc5⟩ := oc_shr g4 r4 oc4
    refine tpairs (fs := r) (chain g5 oc5 fun ps es A6 e6 G6 H6 x6 g6 ⟨kvs, r6, r7⟩ oc6 => ?_)
    have ex : x = kV key := by
      rw [keyS_ok hk] at rd
      cases key <;> (cases rd; rfl)
    subst ex r6
    exact (oc_ret (rv := rvP K) oc6) _ A6 G6 H6 (Ex.refl _) g6 ⟨(key, y) :: kvs, rfl, .cons (r5.mono x6) r7⟩
theorem RepK.merge {K : PySem.W.Frag} {H : Hp} : ∀ {kvs : List (L2.Key × V)} {es : List (D × D)} {acc : List (L2.Key × V)} {as : List (D × D)}, RepK K H kvs es → RepK K H acc as → RepK K H (mergeK acc kvs) (es.foldl (fun acc q => kvSet acc q.1 q.2) as)
  | _, _, acc, as, .nil, h => h
  | (k, v) :: kvs, _ :: es, acc, as, .cons a b, h => RepK.merge (kvs := kvs) (es := es) b (h.put (k := k) a)
theorem RepK.len {K : PySem.W.Frag} {H : Hp} {kvs : List (L2.Key × V)} {es : List (D × D)} (h : RepK K H kvs es) : kvs.length = es.length := by
  have := congrArg List.length h.keys
  simpa using this.symm
theorem se_dict {keys : List (Option Expr)} {values : List Expr} {fs : List (M Val × M Val)} (h : PPs X pos keys values (fs.map fun q => (tEv X.K W q.1, tEv X.K W q.2))) (hall : keys.all (·.isSome) = true) (hl : keys.length = values.length) (h0 : keys ≠ []) (h15 : keys.length ≤ 15) :
    PE X (.Dict keys values pos) (tEv X.K W (dictC fs)) := PE_mono (pe_disp h hall hl h0 h15) fun σ H Q q => by
  obtain ⟨pn, A, e, G, R, g, oc⟩ := q
  intro p hp
  obtain ⟨g1, nG, nR, nA⟩ := g.laidF (o := .dK []) hp
  have g2 := g1.addR nG upd_same nA
  refine tpairs (chainR (Ex.new nR) g2 oc fun ps es A3 e3 G3 H3 x3 g3 ⟨kvs, r3, r4⟩ oc3 => ?_)
  obtain ⟨c, oc4⟩ := oc_if oc3
  have fin := oc_ret oc4
  have ns : ¬ Owd A3 p := fun ⟨j, τ, z⟩ => by
    have := (g3.own j τ p z).2.1
    rw [upd_same] at this; cases this
  refine ⟨g3.rh _ _ upd_same, kvs, r3, by rw [r4.len]; exact c, ?_⟩
  exact fin _ A3 G3 _ (Ex.refl _) (g3.frameSet.weakR (Ex.new nR)) ⟨p, rfl, g3.dj p (by rw [upd_same]; simp), nR, ns, .inl ⟨_, upd_same, r4.merge .nil⟩⟩
/-! ### how many are different -/
def lenSetD : D → Option Val
  | .tup l => match keyL l with
    | some ks => if ks.length < 4000 then some (.sh (.int (St.grown ks ks.length))) else none
    | none => none
  | _ => none
def lenSetC (f : M Val) : M Val := bnd f fun v => bnd (der v) fun d => opt (lenSetD d)
def tLenSt (K : PySem.W.Frag) (te : TE) : TE := fun σ H Q => te σ H fun x H1 => ∃ l ks, x = .ref l ∧ SqT K H1 l (ks.map kV) ∧ ks.length + 1 < scanBound ∧ Q (.int (St.grown ks ks.length)) H1
theorem keys_are (P : Program) (w : World) : ∀ {ks : List L2.Key} {us : List Value}, Vals (ks.map kV) us → St.KeysAre us ks
  | [], _, r => by cases r; exact .nil
  | k :: ks, _, r => by
    cases r with
    | cons a b => exact .cons (kV_is (P := P) (w := w) a) (keys_are P w b)
theorem pe_lenSt {a : Expr} {te : TE} {p p2 q : Pos} (cal : X.calm = true) (h1 : Gl X "len") (m1 : X.mg "len" = none) (h2 : Gl X "set") (m2 : X.mg "set" = none) (ha : PE X a te) (ns : notStar a = true) :
    PE X (.Call (.Name "len" p) [.Call (.Name "set" p2) [a] [] q] [] pos) (tLenSt X.K te) := by
  have nb : starEach [a] X.env = (false, eval a X.env) :: starEach [] X.env := star_cons ns
  constructor
  intro pins s σ H Q I h
  refine Call_ (ld_blt I h1 m1 PySem.boot_len (PyProof.Rows.callWith_builtin1 (PyProof.Rows.args_cons ?_ rfl) rfl rfl))
  refine Call_ (ld_blt I h2 m2 PyProof.Rows.boot_set (PyProof.Rows.callWith_type1 (PyProof.Rows.args_cons (thn (ha.run pins s σ H _ I h) fun u t b => PyProof.Rows.args_nil ?_) nb) nb rfl))
  obtain ⟨x, H1, I1, rx, l, ks, rfl, hq, hb, fin⟩ := b
  cases rx
  obtain ⟨its, r, pl, hz⟩ := I1.tuple hq
  refine St.set_of_tup (I1.ok.hd cal) pl (by simpa using keys_are X.prog X.w r) hb fun h' tk dn => PyProof.Rows.args_nil ?_
  obtain ⟨⟨o, es, ep, t', ho, hex, hd, _, _, _, hf, hn⟩, keep⟩ := dn
  have I2 : Inv X pins σ H1 { t with heap := h', toks := tk } := I1.kept fun b o e => keep b o (Heap.lt_size e) e
  have gl := St.grown_le ks ks.length
  exact call_len_set ho hex hd hf (by rw [hn]; unfold scanBound at hb; omega) ⟨.int _, H1, I2.tok _, ⟨_, by rw [hn]⟩, fin⟩
theorem se_lenSt {a : Expr} {f : M Val} {p p2 q : Pos} (cal : X.calm = true) (h1 : Gl X "len") (m1 : X.mg "len" = none) (h2 : Gl X "set") (m2 : X.mg "set" = none) (ha : PE X a (tEv X.K W f)) (ns : notStar a = true) :
    PE X (.Call (.Name "len" p) [.Call (.Name "set" p2) [a] [] q] [] pos) (tEv X.K W (lenSetC f)) := PE_mono (pe_lenSt cal h1 m1 h2 m2 ha ns) fun σ H Q q => by
  obtain ⟨pn, A, e, G, R, g, oc⟩ := q
  refine chain g oc fun x v A1 e1 G1 H1 x1 g1 r1 oc1 => ?_
  obtain ⟨d, rd, oc2⟩ := oc_der g1 r1 oc1
  obtain ⟨val, q3, fin⟩ := oc_optE oc2
  cases d with
  | tup ds =>
    unfold lenSetD at q3
    dsimp only at q3
    split at q3
    · rename_i ks hk
      split at q3
      · rename_i hl
        cases q3
        rw [keyL_ok hk] at rd
        have rd' : Rep X.K G1 x (.tup (ks.map keyD)) := rd
        obtain ⟨p, e1', e2'⟩ := rep_keyT rd'
        subst e1'
        exact ⟨p, ks, rfl, SqT.of (g1.gh _ _ e2'), by unfold scanBound; omega, fin.sc g1 (.int _)⟩
      · cases q3
    · cases q3
  | _ => cases q3
end
end Qv
namespace Qv
open PySem L2 PySem.Spec PyProof.Rows
open Evl (Ex)

/-! ### calls by keywords, defaults -/
/-- where a parameter's value comes from: a place, a keyword, the lacking ones' list (and what it is) -/
inductive Src where
  | ps (i : Nat) | kw (j : Nat) | df (j : Nat) (d : D)
def dV : D → V
  | .int i => .int i
  | .str x => .str x
  | .bl b => .bl b
  | _ => .non
def dOk : D → Bool
  | .int _ => true
  | .str _ => true
  | .bl _ => true
  | .non => true
  | _ => false
theorem dV_rep {K : PySem.W.Frag} {G : Hp} : ∀ {d : D}, dOk d = true → Rep K G (dV d) d
  | .int _, _ => .int _
  | .str _, _ => .str _
  | .bl _, _ => .bl _
  | .non, _ => .non
def srcV (vs zs : List V) : Src → V
  | .ps i => vs.getD i .non
  | .kw j => zs.getD j .non
  | .df _ d => dV d
def srcU (us ws mv : List Value) : Src → Value
  | .ps i => us.getD i .none
  | .kw j => ws.getD j .none
  | .df j _ => mv.getD j .none
def srcL : List Src → List Val → List Val → Option (List Val)
  | [], _, _ => some []
  | .ps i :: r, vs, zs => match vs[i]?, srcL r vs zs with
    | some v, some l => some (v :: l)
    | _, _ => none
  | .kw i :: r, vs, zs => match zs[i]?, srcL r vs zs with
    | some v, some l => some (v :: l)
    | _, _ => none
  | .df _ d :: r, vs, zs => match dOk d, srcL r vs zs with
    | true, some l => some (.sh d :: l)
    | _, _ => none
/-- a call's shape: how many places, which keywords, what lacks -/
structure Shp where
  n : Nat
  ks : List Str
  ms : List (Str × D)
  srcs : List Src
def srcOk (ms : List (Str × D)) : Src → Bool
  | .df j d => decide ((ms[j]?).map Prod.snd = some d)
  | _ => true
structure KBs (K : PySem.W.Frag) (fd : FuncData) (ps : List Str) (q : Shp) : Prop where
  go : ∃ mv : List Value, KBn K fd ps q.n q.ks (fun us ws => q.srcs.map (srcU us ws mv)) (fun vs zs => q.srcs.map (srcV vs zs))
theorem vals_getD : ∀ {vs : List V} {us : List Value}, Vals vs us → ∀ i : Nat, RelV (vs.getD i .non) (us.getD i .none)
  | _, _, .nil, i => by simp; exact rfl
  | _, _, .cons a b, 0 => a
  | _, _, .cons a b, i + 1 => by simpa using vals_getD b i
theorem src_rel {ms : List (Str × D)} {mv : List Value} (hm : Vals (ms.map fun q => dV q.2) mv) {vs zs : List V} {us ws : List Value} (a : Vals vs us) (b : Vals zs ws) : ∀ {l : List Src}, l.all (srcOk ms) = true → Vals (l.map (srcV vs zs)) (l.map (srcU us ws mv))
  | [], _ => .nil
  | x :: l, h => by
    rw [List.all_cons, Bool.and_eq_true] at h
    refine .cons ?_ (src_rel hm a b h.2)
    cases x with
    | ps i => exact vals_getD a i
    | kw i => exact vals_getD b i
    | df j d =>
      have e := of_decide_eq_true (show decide ((ms[j]?).map Prod.snd = some d) = true from h.1)
      have r := vals_getD hm j
      obtain ⟨q, q1, q2⟩ := Option.map_eq_some_iff.mp e
      have e2 : (ms.map fun q => dV q.2).getD j .non = dV d := by
        rw [List.getD_eq_getElem?_getD, List.getElem?_map, q1]
        show dV q.2 = _
        rw [q2]
      rw [e2] at r
      exact r
theorem srcL_pn {K : PySem.W.Frag} {G : Hp} {σ : L2.St} {vs zs : List V} {vals wals : List Val} (a : PnVs K G σ vs vals) (b : PnVs K G σ zs wals) : ∀ {l : List Src} {r : List Val}, srcL l vals wals = some r → PnVs K G σ (l.map (srcV vs zs)) r
  | [], r, h => by cases h; exact .nil
  | .ps i :: l, r, h => by
    unfold srcL at h
    split at h
    · rename_i v l' h1 h2
      cases h
      obtain ⟨x, e1, e2⟩ := paired_get a h1
      refine .cons ?_ (srcL_pn a b h2)
      show PnV K G σ (vs.getD i .non) v
      rw [List.getD_eq_getElem?_getD, e1]
      exact e2
    · cases h
  | .kw i :: l, r, h => by
    unfold srcL at h
    split at h
    · rename_i v l' h1 h2
      cases h
      obtain ⟨x, e1, e2⟩ := paired_get b h1
      refine .cons ?_ (srcL_pn a b h2)
      show PnV K G σ (zs.getD i .non) v
      rw [List.getD_eq_getElem?_getD, e1]
      exact e2
    · cases h
  | .df j d :: l, r, h => by
    unfold srcL at h
    split at h
    · rename_i l' h1 h2
      cases h
      exact .cons (dV_rep h1) (srcL_pn a b h2)
    · cases h
def callK (bs : List Bool) (ev : Ev) (srcs : List Src) (n m : Nat) (fs gs : List (M Val)) : M Val := bnd (argsN fs) fun vs => bnd (argsN gs) fun zs => bnd (opt (if vs.length = n ∧ zs.length = m then srcL srcs vs zs else none)) fun vals => bnd (frzL bs vals) fun vals1 => goV ev vals1
def tClK (n m : Nat) (srcs : List Src) (sp : List V → Hp → VK → XK → Prop) (W : WX) (t tk : TA) : TE := fun σ H Q => t σ H fun vs H1 => tk σ H1 fun zs H2 => vs.length = n ∧ zs.length = m ∧ sp (srcs.map (srcV vs zs)) H2 Q fun cls d H3 => W cls d σ H3
def kwOk (k : Keyword) : Bool := k.arg.isSome
section
variable {X : Cx} {W : WX} {k : Nat} {f : Addr} {fd : FuncData} {ps : List Str} {ev : Ev} {x : Str} {p pos : Pos} {a : Expr} {es : List Expr} {kws : List Keyword} {t tk : TA} {fs gs : List (M Val)} {bs : List Bool} {q : Shp}
theorem sk_argsN : ∀ (l : List Keyword) (gs : List (M Val)), Paired (fun a f => PE X a (tEv X.K W f)) (l.map (·.value)) gs → PK X l (tNv X.K W (argsN gs))
  | [], _, .nil => ⟨fun pos pins s σ H Q I h => (pk_nil (X := X)).run pos pins s σ H Q I (by
      obtain ⟨pn, A, e, G, R, g, oc⟩ := h
      exact (oc_ret (rv := rvN X.K) oc) [] A G H (Ex.refl G) g .nil)⟩
  | ⟨nm, e, kp⟩ :: l, g0 :: gs, .cons h hr => ⟨fun pos pins s σ H Q I hq => (pk_cons (nm := nm) (kpos := kp) h (sk_argsN l gs hr)).run pos pins s σ H Q I (by
      obtain ⟨pn, A, e, G, R, g, oc⟩ := hq
      refine chain g oc fun x v A1 e1 G1 H1 x1 g1 r1 oc1 => ?_
      obtain ⟨w, G2, x2, g2, r2, oc2⟩ := oc_pend g1 r1 oc1
      refine chain g2 oc2 fun ws vs A3 e3 G3 H3 x3 g3 r3 oc3 => ?_
      exact (oc_ret (rv := rvN X.K) oc3) (x :: ws) A3 G3 H3 (Ex.refl _) g3 (.cons (r2.mono x3) r3))⟩
theorem runK {pins : List (Addr × Obj)} {σ : L2.St} {H : Hp} {s : Shared} {Q : VK} {us ws : List Value} {vs zs : List V} (F : FnG X.prog X.w X.K X.mg X.base k f fd ps ev) (hr : Room k X.A) (hgu : X.A.guards = some []) (hb : KBs X.K fd ps q) (tk : Takes X W)
    (I : Inv X pins σ H s) (r : Vals vs us) (rz : Vals zs ws) (l1 : vs.length = q.n) (l2 : zs.length = q.ks.length) (h : spG X.K ps.length ev (q.srcs.map (srcV vs zs)) H Q fun cls d H2 => W cls d σ H2) :
    wpAny (model X.prog X.w) X.A (call (.ref f) us (q.ks.zip ws)) (EP X pins σ Q) X.xe s := by
  obtain ⟨mv, hb⟩ := hb.go
  have bt := hb.to s us ws I.kIn (r.length.symm.trans l1) (rz.length.symm.trans l2)
  refine wpAny_call (codeAny_mono (F.go X.A X.stack s H ⟨us, q.ks.zip ws⟩ _ _ Q _ hr hgu I.env0 bt (hb.rel r rz) h) fun res s' hq => ?_)
  cases res with
  | error e => exact tk _ _ (XE.of_call I (fun _ _ _ h => h) hq)
  | ok fl =>
    cases fl with
    | ret u => exact I.after hq
    | next => exact False.elim hq
    | brk => exact False.elim hq
    | cont => exact False.elim hq
theorem kw_all {pos : Pos} {env : Env} : ∀ {kws : List Keyword}, kws.all kwOk = true → (backToKw pos (keywordEach kws env)).all (·.1.isSome) = true ∧ (backToKw pos (keywordEach kws env)).any (·.1.isNone) = false
  | [], _ => ⟨rfl, rfl⟩
  | ⟨nm, e, kp⟩ :: l, h => by
    rw [List.all_cons, Bool.and_eq_true] at h
    obtain ⟨a, b⟩ := kw_all (pos := pos) (env := env) h.2
    cases nm with
    | none => exact absurd h.1 Bool.false_ne_true
    | some x => exact ⟨(show (true && (backToKw pos (keywordEach l env)).all (·.1.isSome)) = true by rw [a]; rfl), (show (false || (backToKw pos (keywordEach l env)).any (·.1.isNone)) = false by rw [b]; rfl)⟩
theorem kw_names {pos : Pos} {env : Env} : ∀ {kws : List Keyword}, (backToKw pos (keywordEach kws env)).filterMap (·.1) = kws.filterMap (·.arg)
  | [] => rfl
  | ⟨nm, e, kp⟩ :: l => by
    have ih := kw_names (pos := pos) (env := env) (kws := l)
    cases nm with
    | none => exact ih
    | some x => exact congrArg (x :: ·) ih
theorem pe_clK (F : FnG X.prog X.w X.K X.mg X.base k f fd ps ev) (hr : Room k X.A) (hgu : X.A.guards = some []) (tk' : Takes X W) (hg : Gl X x) (hm : X.mg x = some (.ref f)) (hk : PySem.W.keepIn X.K (.ref f) = true) (hb : KBs X.K fd ps q)
    (ha : PA X (a :: es) t) (hkw : PK X kws tk) (hdb : (x == ("__debug__" : Str)) = false) (hs : (a :: es).all notStar = true) (hkn : kws.all kwOk = true) (hks : kws.filterMap (·.arg) = q.ks) : PE X (.Call (.Name x p) (a :: es) kws pos) (tClK q.n q.ks.length q.srcs (spG X.K ps.length ev) W t tk) := by
  constructor
  intro pins s σ H Q I h
  have hs' := hs
  rw [List.all_cons, Bool.and_eq_true] at hs'
  obtain ⟨k1, k2⟩ := kw_all (pos := pos) (env := X.env) hkn
  have k3 : ((backTo pos (starEach (a :: es) X.env)).any (·.1) || (backToKw pos (keywordEach kws X.env)).any (·.1.isNone)) = false := by rw [star_plain hs, k2]; rfl
  apply wpAny_Call_Name_kw
  apply ld_glob I hg hm _ hdb
  refine PySem.W.callWith_KW (h₀ := X.base) I.ok.mod.kin hk k1 (thn (ha.run pos pins s σ H _ I h) fun us s1 b => ?_) k3 (star_cons hs'.1)
  obtain ⟨vs, H1, I1, r, q1⟩ := b
  refine thn (hkw.run pos pins s1 σ H1 _ I1 q1) fun ws s2 b2 => ?_
  obtain ⟨zs, H2, I2, rz, l1, l2, q2⟩ := b2
  refine ⟨I2.kIn, ?_⟩
  rw [kw_names, hks]
  exact runK F hr hgu hb tk' I2 r rz l1 l2 q2
theorem tclK {K : PySem.W.Frag} {np : Nat} {σ : L2.St} {H : Hp} {Q : VK} {n m : Nat} {srcs : List Src} (hl : ∀ ss, ev ss ≠ .err → ss.length = np) (h : tEv K W (callK bs ev srcs n m fs gs) σ H Q) : tClK n m srcs (spG K np ev) W (tNv K W (argsN fs)) (tNv K W (argsN gs)) σ H Q := by
  obtain ⟨pn, A, e, G, R, g, oc⟩ := h
  refine chain g oc fun vs vals A1 e1 G1 H1 x1 g1 r1 oc1 => ?_
  refine chain g1 oc1 fun zs wals A2 e2 G2 H2 x2 g2 r2 oc2 => ?_
  obtain ⟨r, hr, oc3⟩ := oc_opt oc2
  split at hr
  · rename_i c
    have r1' := PnVs.mono x2 r1
    refine ⟨(paired_len r1').trans c.1, (paired_len r2).trans c.2, ?_⟩
    obtain ⟨r', A3, e3, G3, x3, g3, p3, oc4⟩ := oc_frzL g2 (srcL_pn r1' r2 hr) oc3
    exact go_sp hl g3 p3 oc4
  · cases hr
theorem se_callK (F : FnG X.prog X.w X.K X.mg X.base k f fd ps ev) (hr : Room k X.A) (hgu : X.A.guards = some []) (tk : Takes X W) (hg : Gl X x) (hm : X.mg x = some (.ref f)) (hk : PySem.W.keepIn X.K (.ref f) = true) (hb : KBs X.K fd ps q)
    (hl : ∀ ss, ev ss ≠ .err → ss.length = ps.length) (hdb : (x == ("__debug__" : Str)) = false) (hs : (a :: es).all notStar = true) (hkn : kws.all kwOk = true) (hks : kws.filterMap (·.arg) = q.ks) (h : Paired (fun a f => PE X a (tEv X.K W f)) (a :: es) fs)
    (h2 : Paired (fun a f => PE X a (tEv X.K W f)) (kws.map (·.value)) gs) : PE X (.Call (.Name x p) (a :: es) kws pos) (tEv X.K W (callK bs ev q.srcs q.n q.ks.length fs gs)) :=
  PE_mono (pe_clK F hr hgu tk hg hm hk hb (sa_argsN _ fs hs h) (sk_argsN _ gs h2) hdb hs hkn hks) fun _ _ _ z => tclK hl z
end
/-! ### how a def binds such a call -/
/-- what is to be seen of a def's text (by rfl): nothing lacks, or keyword-only ones lack -/
def KBp (x ql : Str) (N : List Str) (prm : Arguments) (body : List Stmt) (sc : Scope) (ps : List Str) (kwd : List (Str × D)) (q : Shp) : Prop :=
  (q.ms = [] ∧ ∀ (kV doc pm : Value) (an : Option Addr) (cdv ct : Value) (us ws : List Value), us.length = q.n → ws.length = q.ks.length → bindArgs (PySem.W.fnOf x ql prm body sc .none kV doc pm an cdv ct) ⟨us, q.ks.zip ws⟩ = pure (ps.zip (q.srcs.map (srcU us ws [])))) ∨
  (kwd ≠ [] ∧ (∀ m ∈ q.ms, m ∈ kwd) ∧ ∀ (Dd : Addr) (doc pm : Value) (an : Option Addr) (cdv ct : Value) (us ws mv : List Value), us.length = q.n → ws.length = q.ks.length → mv.length = q.ms.length →
    KwChain Dd ((q.ms.map (·.1)).zip mv) (bindArgs (PySem.W.fnOf x ql prm body sc .none (.ref Dd) doc pm an cdv ct) ⟨us, q.ks.zip ws⟩) (ps.zip (q.srcs.map (srcU us ws mv))))
theorem kbs_of {K : PySem.W.Frag} {x ql : Str} {N ps : List Str} {prm : Arguments} {body : List Stmt} {sc : Scope} {kwd : List (Str × D)} {f : Addr} {fd : FuncData} {q : Shp} (F : FunD K x ql prm body sc [] (kwd.map fun m => (m.1, dV m.2)) f fd) (ho : q.srcs.all (srcOk q.ms) = true) (h : KBp x ql N prm body sc ps kwd q) : KBs K fd ps q := by
  obtain ⟨oc, od, dV', kV', doc, pm, an, cdv, ct, osl, rfl, lk, hcd, hD, hK⟩ := F.ex
  rcases hD with ⟨_, rfl⟩ | ⟨e, _⟩
  · rcases h with ⟨h0, h1⟩ | ⟨h0, h1, h2⟩
    · refine ⟨[], ⟨fun s us ws X l1 l2 => .of_eq (h1 kV' doc pm an cdv ct us ws l1 l2), fun a b => src_rel (ms := q.ms) (by rw [h0]; exact .nil) a b ho⟩⟩
    · rcases hK with e | ⟨Dd, rfl, hq⟩
      · exact absurd (List.map_eq_nil_iff.mp e) h0
      · obtain ⟨mv, hl, rk, hks⟩ := kwd_vals (ms := q.ms.map fun m => (m.1, dV m.2)) fun z hz => by
          obtain ⟨m, m1, rfl⟩ := List.mem_map.mp hz
          exact hq _ (List.mem_map.mpr ⟨m, h1 m m1, rfl⟩)
        rw [List.length_map] at hl
        have e1 : (q.ms.map fun m => (m.1, dV m.2)).map (·.1) = q.ms.map (·.1) := by rw [List.map_map]; rfl
        have e2 : (q.ms.map fun m => (m.1, dV m.2)).map (·.2) = q.ms.map fun m => dV m.2 := by rw [List.map_map]; rfl
        rw [e1] at hks
        rw [e2] at rk
        exact ⟨mv, ⟨fun s us ws X l1 l2 => BindsTo.of_looks fun M => KwChain.looks X hks (h2 Dd doc pm an cdv ct us ws mv l1 l2 hl), fun a b => src_rel rk a b ho⟩⟩
  · exact absurd rfl e
end Qv
namespace Qv
open PySem L2 PySem.Spec PyProof.Rows
open Evl (Ex)

/-! ### instances: fields -/
def fldD (no : Str → Str → Bool) (f : Str) : D → Option Val
  | .ins c fs => if no c f then (fsGet fs f).map .sh else none
  | _ => none
def fldC (no : Str → Str → Bool) (f : Str) (fo : M Val) : M Val := bnd fo fun v => bnd (der v) fun d => opt (fldD no f d)
section
variable {X : Cx} {W : WX} {pos apos : Pos}
theorem rd_ins {K : PySem.W.Frag} {G H : Hp} {x : V} {c : Str} {fs : List (Str × D)} (h : RdV K G H x (.ins c fs)) : ∃ a dx vs, x = .ref a ∧ H a = some (.ins (He.ga K c) dx vs) ∧ (∀ f, (vs.lookup f).isSome = (fsGet fs f).isSome) ∧ ∀ f v d, vs.lookup f = some v → fsGet fs f = some d → Rep K G v d := by
  obtain ⟨a, dx, vs, h1, h2, _, h3, h4⟩ := h
  exact ⟨a, dx, vs, h1, h2, h3, h4⟩
theorem se_fld {no : Str → Str → Bool} (hno : ∀ c f, no c f = true → Cls X.K (He.ga X.K c) ∧ NoAttr X.K (He.ga X.K c) f) {o : Expr} {f : Str} {fo : M Val} (ho : PE X o (tEv X.K W fo)) (hn : notCall o = true) : PE X (.Attribute o f pos) (tEv X.K W (fldC no f fo)) :=
  PE_mono (pe_fld ho (base_of hn)) fun σ H Q q => by
    obtain ⟨pn, A, e, G, R, g, oc⟩ := q
    refine chain g oc fun x v A1 e1 G1 H1 x1 g1 r1 oc1 => ?_
    obtain ⟨d, rd, oc2⟩ := oc_der g1 r1 oc1
    obtain ⟨val, q3, fin⟩ := oc_optE oc2
    cases d with
    | ins c fs =>
      have q3' : (if no c f = true then (fsGet fs f).map Val.sh else none) = some val := q3
      split at q3'
      · rename_i hc
        obtain ⟨d', e1', rfl⟩ := Option.map_eq_some_iff.mp q3'
        obtain ⟨a, dx, vs, rfl, ha, hs, hv⟩ := rd_ins rd
        have z := hs f
        rw [e1'] at z
        obtain ⟨w, hw⟩ := Option.isSome_iff_exists.mp z
        exact ⟨a, _, dx, vs, w, rfl, ha, (hno c f hc).1, (hno c f hc).2, hw, fin.sc g1 (hv f w d' hw e1')⟩
      · cases q3'
    | _ => cases q3
end
/-! ### instances: methods -/
/-- what a class's method does: flags, evaluator -/
abbrev MTab := Str → Str → Option (List Bool × Ev)
def insM (tab : MTab) (m : Str) : D → Option (List Bool × Ev)
  | .ins c fs => if (fsGet fs m).isNone then tab c m else none
  | _ => none
def methC (tab : MTab) (m : Str) (fo : M Val) (fs : List (M Val)) : M Val := bnd fo fun v => bnd (pend v) fun w => bnd (der w) fun d => bnd (opt (insM tab m d)) fun p => bnd (argsN fs) fun vals => bnd (frzL p.1 (w :: vals)) fun vals1 => goV p.2 vals1
/-- what a table of methods rests on -/
structure MOk (X : Cx) (tab : MTab) : Prop where
  go : ∀ c m bs ev, tab c m = some (bs, ev) → Cls X.K (He.ga X.K c) ∧ ∃ (f : Addr) (k : Nat) (fd : FuncData) (ps : List Str), Meth X.K (He.ga X.K c) m f ∧ FnG X.prog X.w X.K X.mg X.base k f fd ps ev ∧ Room (k + 2) X.A ∧ Binds X.K fd ps [] ∧ ∀ ss, ev ss ≠ .err → ss.length = ps.length
def fewOk (o : Expr) (args : List Expr) (apos pos : Pos) : Bool := notCall o && (args.all notStar && ((apos.endLine == pos.line) && decide (args.length < 29)))
theorem meth_form {X : Cx} {o : Expr} {m : Str} {args : List Expr} {apos pos : Pos} (h : fewOk o args apos pos = true) : eval (.Call (.Attribute o m apos) args [] pos) X.env = (do
      let ov ← eval o X.env
      standAt apos.atName
      let (f, first) ← holding [ov] (getMethod ov m (plainOf o X.env))
      callWith pos f first (backTo pos (starEach args X.env)) (backToKw pos (keywordEach [] X.env))) := by
  unfold fewOk at h
  rw [Bool.and_eq_true, Bool.and_eq_true, Bool.and_eq_true] at h
  obtain ⟨h1, h2, h3, h4⟩ := h
  rw [arm_eval_Call, base_of h1]
  congr 1
  funext ov
  congr 1
  funext _
  refine mcall_line ?_ h3
  unfold methodCallForm
  have s := star_plain (pos := pos) (env := X.env) h2
  have s2 : (backTo pos (starEach args X.env)).all (fun x => !x.1) = true := by
    rw [List.all_eq_true]
    intro x hx
    cases q : x.1 with
    | false => rfl
    | true => exact absurd (List.any_eq_true.mpr ⟨x, hx, q⟩) (by rw [s]; exact Bool.false_ne_true)
  rw [s2]
  have h5 := of_decide_eq_true h4
  show (true && true && decide (args.length + 0 + (if ([] : List (Option Str × Sem Value)).isEmpty = true then 0 else 1) < 30)) = true
  simp
  omega
def tMt (X : Cx) (W : WX) (m : Str) (ta : TE) (t : TA) : TE := fun σ H Q => ta σ H fun x H1 => ∃ (C f a dx : Addr) (fs : List (Str × V)) (k : Nat) (fd : FuncData) (ps : List Str) (ev : Ev), x = .ref a ∧ H1 a = some (.ins C dx fs) ∧ fs.lookup m = none ∧ Cls X.K C ∧ Meth X.K C m f ∧ FnG X.prog X.w X.K X.mg X.base k f fd ps ev ∧ Room k X.A ∧ Binds X.K fd ps [] ∧
  t σ H1 fun vs H2 => spG X.K ps.length ev (x :: vs) H2 Q fun cls d H3 => W cls d σ H3
section
variable {X : Cx} {W : WX} {apos pos : Pos}
theorem pe_mt {o : Expr} {m : Str} {e : Expr} {es : List Expr} {ta : TE} {t : TA} (hgu : X.A.guards = some []) (tk : Takes X W) (ho : PE X o ta) (ha : PA X (e :: es) t) (hf : fewOk o (e :: es) apos pos = true) : PE X (.Call (.Attribute o m apos) (e :: es) [] pos) (tMt X W m ta t) := by
  have hs : (e :: es).all notStar = true := by
    unfold fewOk at hf
    rw [Bool.and_eq_true, Bool.and_eq_true] at hf
    exact hf.2.1
  constructor
  intro pins s σ H Q I h
  refine PySem.W.methodCall_KW (pl := plainOf o X.env) (thn (ho.run pins s σ H _ I h) fun u s1 b => ?_) (meth_form hf)
  obtain ⟨x, H1, I1, rx, C, f, a, dx, fs, k, fd, ps, ev, ex, ea, l, c, hm, F, hr, hb, q⟩ := b
  subst ex
  obtain rfl : u = Value.ref a := rx
  refine getmeth_ok I1 ea c hm l ?_
  rw [List.all_cons, Bool.and_eq_true] at hs
  refine PySem.W.callWith_K (first := [.ref a]) (h₀ := X.base) I.ok.mod.kin hm.kp (thn (ha.run pos pins s1 σ H1 _ I1 q) fun us s2 b => ?_) (star_cons hs.1) (star_plain hs.2)
  obtain ⟨vs, H2, I2, r, q2⟩ := b
  exact ⟨I2.kIn, runG (us := .ref a :: us) (vs := .ref a :: vs) F hr hgu hb tk I2 (.cons rfl r) q2⟩
theorem pe_mt0 {o : Expr} {m : Str} {ta : TE} (hgu : X.A.guards = some []) (tk : Takes X W) (ho : PE X o ta) (hf : fewOk o [] apos pos = true) : PE X (.Call (.Attribute o m apos) [] [] pos) (tMt X W m ta tNil) := by
  constructor
  intro pins s σ H Q I h
  refine PySem.W.methodCall_KW (pl := plainOf o X.env) (thn (ho.run pins s σ H _ I h) fun u s1 b => ?_) (meth_form hf)
  obtain ⟨x, H1, I1, rx, C, f, a, dx, fs, k, fd, ps, ev, ex, ea, l, c, hm, F, hr, hb, q⟩ := b
  subst ex
  obtain rfl : u = Value.ref a := rx
  refine getmeth_ok I1 ea c hm l ?_
  exact PySem.W.callWith_K0 (first := [.ref a]) I1.kIn hm.kp (runG (us := [.ref a]) (vs := [.ref a]) F hr hgu hb tk I1 (.cons rfl .nil) q)
theorem tmt {tab : MTab} {m : Str} {fo : M Val} {fs : List (M Val)} {σ : L2.St} {H : Hp} {Q : VK} (hM : MOk X tab) (h : tEv X.K W (methC tab m fo fs) σ H Q) : tMt X W m (tEv X.K W fo) (tNv X.K W (argsN fs)) σ H Q := by
  obtain ⟨pn, A, e, G, R, g, oc⟩ := h
  refine chain g oc fun x v A1 e1 G1 H1 x1 g1 r1 oc1 => ?_
  obtain ⟨w, G2, x2, g2, r2, oc2⟩ := oc_pend g1 r1 oc1
  obtain ⟨d, rd, oc3⟩ := oc_derP g2 r2 oc2
  obtain ⟨p, hp, oc4⟩ := oc_opt oc3
  obtain ⟨bs, ev⟩ := p
  cases d with
  | ins c fs' =>
    have hp' : (if (fsGet fs' m).isNone then tab c m else none) = some (bs, ev) := hp
    split at hp'
    · rename_i hn
      obtain ⟨hc, f, k, fd, ps, hm, F, hr, hb, hl⟩ := hM.go c m bs ev hp'
      obtain ⟨a, dx, vs, rfl, ha, hs, _⟩ := rd_ins rd
      have z := hs m
      have zn : vs.lookup m = none := by
        rw [Option.isNone_iff_eq_none.mp hn] at z
        cases q : vs.lookup m with
        | none => rfl
        | some _ => rw [q] at z; cases z
      refine ⟨_, f, a, dx, vs, k, fd, ps, ev, rfl, ha, zn, hc, hm, F, hr.mono (by omega), hb, ?_⟩
      refine chain g2 oc4 fun ys vals A5 e5 G5 H5 x5 g5 r5 oc5 => ?_
      obtain ⟨r, A6, e6, G6, x6, g6, p6, oc6⟩ := oc_frzL (vals := w :: vals) g5 (.cons (r2.mono x5) r5) oc5
      exact go_sp hl g6 p6 oc6
    · cases hp'
  | _ => cases hp
theorem se_mt {tab : MTab} {o : Expr} {m : Str} {es : List Expr} {fo : M Val} {fs : List (M Val)} (hM : MOk X tab) (hgu : X.A.guards = some []) (tk : Takes X W) (ho : PE X o (tEv X.K W fo)) (h : Paired (fun a f => PE X a (tEv X.K W f)) es fs) (hf : fewOk o es apos pos = true) :
    PE X (.Call (.Attribute o m apos) es [] pos) (tEv X.K W (methC tab m fo fs)) := by
  have hs : es.all notStar = true := by
    unfold fewOk at hf
    rw [Bool.and_eq_true, Bool.and_eq_true] at hf
    exact hf.2.1
  cases h with
  | nil =>
    refine PE_mono (pe_mt0 hgu tk ho hf) fun σ H Q q => ?_
    refine tG_mono (show tEv X.K W fo σ H _ from tmt hM q) fun x H1 b => ?_
    obtain ⟨C, f, a, dx, fs, k, fd, ps, ev, ex, ea, l, c, hm, F, hr, hb, q⟩ := b
    refine ⟨C, f, a, dx, fs, k, fd, ps, ev, ex, ea, l, c, hm, F, hr, hb, ?_⟩
    obtain ⟨pn, A, e, G, R, g, oc⟩ := q
    exact (oc_ret (rv := rvN X.K) oc) [] A G H1 (Ex.refl G) g .nil
  | cons h hr => exact PE_mono (pe_mt hgu tk ho (sa_argsN _ _ hs (.cons h hr)) hf) fun σ H Q q => tmt hM q
end
end Qv
namespace Qv
open PySem L2 PySem.Spec PyProof.Rows
open Evl (Ex)

/-! ### instances: attributes, properties among them -/
/-- nothing is raised -/
def goN (ev : Ev) (vals : List Val) : M Val := fun e => match goV ev vals e with
  | .ok r => .ok r
  | _ => .err
abbrev PTab := Str → Str → Option Ev
def atD (no : Str → Str → Bool) (pt : PTab) (f : Str) (w : Val) : D → M Val
  | .ins c fs => if no c f then opt ((fsGet fs f).map .sh) else match pt c f with
    | some ev => goN ev [w]
    | none => fail
  | _ => fail
def atC (no : Str → Str → Bool) (pt : PTab) (f : Str) (fo : M Val) : M Val := bnd fo fun v => bnd (pend v) fun w => bnd (der w) fun d => atD no pt f w d
structure POk (X : Cx) (pt : PTab) : Prop where
  go : ∀ c f ev, pt c f = some ev → Cls X.K (He.ga X.K c) ∧ ∃ (p g : Addr) (k : Nat) (fd : FuncData) (ps : List Str), PropOf X.K (He.ga X.K c) f p g ∧ FnG X.prog X.w X.K X.mg X.base k g fd ps ev ∧ Room (k + 1) X.A ∧ Binds X.K fd ps [] ∧ ∀ ss, ev ss ≠ .err → ss.length = ps.length
section
variable {X : Cx} {W : WX} {pos : Pos}
theorem getprG {pins : List (Addr × Obj)} {σ : L2.St} {H : Hp} {s : Shared} {Q : VK} {b : Bool} {E' : Value → Shared → Prop} {C p g a dx : Addr} {fs : List (Str × V)} {f : Str} {k : Nat} {fd : FuncData} {ps : List Str} {ev : Ev} (I : Inv X pins σ H s) (ea : H a = some (.ins C dx fs)) (c : Cls X.K C) (hp : PropOf X.K C f p g)
    (F : FnG X.prog X.w X.K X.mg X.base k g fd ps ev) (hr : Room (k + 1) X.A) (hgu : X.A.guards = some []) (hb : Binds X.K fd ps []) (h : spG X.K ps.length ev [.ref a] H Q fun _ _ _ => False) : wpAny (model X.prog X.w) X.A (getAttr (.ref a) f b) (EP X pins σ Q) E' s := by
  obtain ⟨mA, O, _, _, _, _⟩ := ins_get I.hok ea
  obtain ⟨od, J, _⟩ := O.look
  obtain ⟨rest, hrec⟩ := hp.rec_
  obtain ⟨cd, cls, _⟩ := PySem.W.any_some c.hd
  have I1 := I.tok (s.toks + 1)
  have lu : ([Value.ref a] ++ []).length = ps.length := by rw [← h.1]; rfl
  have bt := hb { s with toks := s.toks + 1 } [.ref a] I1.kIn lu
  rw [List.append_nil] at bt
  refine PySem.W.get_bind I.kIn J (PySem.W.plainGet_of (c.get f)).1 (PySem.W.findObj_data (by rw [cls]; rfl) hp.at_ hp.get hp.tak) (PySem.W.plainGet_of (c.get f)).2 (wpAny_call (PySem.W.prop_get (s := { s with toks := s.toks + 1 }) I.kIn hrec ?_))
  refine codeAny_mono (F.go X.A.in1 X.stack { s with toks := s.toks + 1 } H ⟨[.ref a], []⟩ [.ref a] [.ref a] Q (fun _ _ _ => False) hr.in1 hgu I1.env0.in1 bt (.cons rfl .nil) h) fun res s' hq => ?_
  cases res with
  | error e =>
    obtain ⟨_, _, _, _, _, _, _, _, _, _, _, _, z⟩ := (show CX X.prog X.w X.stack H _ (fun _ _ _ => False) e s' from hq)
    exact z.elim
  | ok fl =>
    cases fl with
    | ret u =>
      obtain ⟨v, H', I3, rv, q3⟩ := I1.after hq
      show wpAny _ _ (handedOut u) _ _ _
      rw [PySem.W.handedOut_of (handed_of rv)]
      exact wpAny_pure ⟨v, H', I3, rv, q3⟩
    | next => exact False.elim hq
    | brk => exact False.elim hq
    | cont => exact False.elim hq
def tAt (X : Cx) (f : Str) (ta : TE) : TE := fun σ H Q => ta σ H fun x H1 => ∃ (a C dx : Addr) (fs : List (Str × V)), x = .ref a ∧ H1 a = some (.ins C dx fs) ∧ Cls X.K C ∧ ((∃ v, NoAttr X.K C f ∧ fs.lookup f = some v ∧ Q v H1) ∨
  ∃ (p g : Addr) (k : Nat) (fd : FuncData) (ps : List Str) (ev : Ev), PropOf X.K C f p g ∧ FnG X.prog X.w X.K X.mg X.base k g fd ps ev ∧ Room (k + 1) X.A ∧ Binds X.K fd ps [] ∧ spG X.K ps.length ev [.ref a] H1 Q fun _ _ _ => False)
theorem pe_at {o : Expr} {f : Str} {ta : TE} (hgu : X.A.guards = some []) (ho : PE X o ta) (hn : notCall o = true) : PE X (.Attribute o f pos) (tAt X f ta) := by
  constructor
  intro pins s σ H Q I h
  refine attr_of (base_of hn) (thn (ho.run pins s σ H _ I h) fun u s1 b => ?_)
  obtain ⟨x, H1, I1, rx, a, C, dx, fs, ex, ea, c, q⟩ := b
  subst ex
  obtain rfl : u = Value.ref a := rx
  rcases q with ⟨v, n, l, q⟩ | ⟨p, g, k, fd, ps, ev, hp, F, hr, hb, q⟩
  · exact getattr_ok I1 ea c n l fun u' s2 I2 ru => ⟨v, H1, I2, ru, q⟩
  · exact getprG I1 ea c hp F hr hgu hb q
theorem goN_ok {ev : Ev} {vals : List Val} {K : PySem.W.Frag} {pn : Pn} {σ : L2.St} {G R : Hp} {Q : VK} {e : En} (oc : OcV K W (rvE K) pn σ R Q G (goN ev vals e)) : OcV K W0 (rvE K) pn σ R Q G (goV ev vals e) := by
  unfold goN at oc
  cases h : goV ev vals e with
  | ok r => rw [h] at oc; exact oc
  | ex x e' => rw [h] at oc; exact False.elim oc
  | err => rw [h] at oc; exact False.elim oc
theorem se_at {no : Str → Str → Bool} {pt : PTab} (hno : ∀ c f, no c f = true → Cls X.K (He.ga X.K c) ∧ NoAttr X.K (He.ga X.K c) f) (hP : POk X pt) {o : Expr} {f : Str} {fo : M Val} (hgu : X.A.guards = some []) (ho : PE X o (tEv X.K W fo)) (hn : notCall o = true) :
    PE X (.Attribute o f pos) (tEv X.K W (atC no pt f fo)) := PE_mono (pe_at hgu ho hn) fun σ H Q q => by
  obtain ⟨pn, A, e, G, R, g, oc⟩ := q
  refine chain g oc fun x v A1 e1 G1 H1 x1 g1 r1 oc1 => ?_
  obtain ⟨w, G2, x2, g2, r2, oc2⟩ := oc_pend g1 r1 oc1
  obtain ⟨d, rd, oc3⟩ := oc_derP g2 r2 oc2
  cases d with
  | ins c fs =>
    obtain ⟨a, dx, vs, rfl, ha, hs, hv⟩ := rd_ins rd
    have oc4 : OcV X.K W (rvE X.K) pn σ R Q G2 ((if no c f = true then opt ((fsGet fs f).map .sh) else match pt c f with
      | some ev => goN ev [w]
      | none => fail) e1) := oc3
    by_cases hc : no c f = true
    · rw [if_pos hc] at oc4
      obtain ⟨val, q3, fin⟩ := oc_optE oc4
      obtain ⟨d', e1', rfl⟩ := Option.map_eq_some_iff.mp q3
      have z := hs f
      rw [e1'] at z
      obtain ⟨y, hw⟩ := Option.isSome_iff_exists.mp z
      exact ⟨a, _, dx, vs, rfl, ha, (hno c f hc).1, .inl ⟨y, (hno c f hc).2, hw, fin.sc g2 (hv f y d' hw e1')⟩⟩
    · rw [if_neg hc] at oc4
      cases hp : pt c f with
      | none => rw [hp] at oc4; exact False.elim oc4
      | some ev =>
        rw [hp] at oc4
        obtain ⟨cl, p, gg, k, fd, ps, h1, F, hr, hb, hl⟩ := hP.go c f ev hp
        exact ⟨a, _, dx, vs, rfl, ha, cl, .inr ⟨p, gg, k, fd, ps, ev, h1, F, hr, hb, go_sp hl g2 (.cons r2 .nil) (goN_ok oc4)⟩⟩
  | _ => exact False.elim oc3
end
end Qv
namespace Qv
open PySem L2 PySem.Spec PyProof.Rows
open Evl (Ex)

/-! ### one slot more, one slot less -/
section
variable {K : PySem.W.Frag} {pn : Pn} {A : LA} {e : En} {σ : L2.St} {G G' R H H' : Hp} {v : V}
theorem app_lt {α : Type} {l : List α} {x : α} {i : Nat} (h : i < l.length) : (l ++ [x])[i]? = l[i]? := List.getElem?_append_left h
theorem app_eq {α : Type} {l : List α} {x : α} {i : Nat} (h : i = l.length) : (l ++ [x])[i]? = some x := by subst h; simp
theorem RelG.push {B : Lb} {d : D} (g : RelG K pn A e σ G R H) (t : FrT K A G R H B v d) : RelG K pn (A.set e.length B) (e ++ [.nt false d]) (σ ++ [some v]) G R H := by
  obtain ⟨tr, ij, nw⟩ := t
  refine ⟨g.gh, g.rh, g.dj, by rw [List.length_append, List.length_append, g.len]; rfl, fun i τ a h => ?_, fun i τ j π a h h2 => ?_, fun i s h => ?_, fun q hq => ?_⟩
  · by_cases hi : i = e.length
    · subst hi
      rw [LA.set_eq] at h
      exact ⟨(nw τ a h).1, (nw τ a h).2.1, (nw τ a h).2.2.1⟩
    · rw [LA.set_ne hi] at h
      exact g.own i τ a h
  · by_cases hi : i = e.length
    · subst hi
      rw [LA.set_eq] at h
      by_cases hj : j = e.length
      · subst hj
        rw [LA.set_eq] at h2
        exact ⟨rfl, ij τ π a h h2⟩
      · rw [LA.set_ne hj] at h2
        exact absurd ⟨j, π, h2⟩ (nw τ a h).2.2.2
    · rw [LA.set_ne hi] at h
      by_cases hj : j = e.length
      · subst hj
        rw [LA.set_eq] at h2
        exact absurd ⟨i, τ, h⟩ (nw π a h2).2.2.2
      · rw [LA.set_ne hj] at h2
        exact g.inj i τ j π a h h2
  · by_cases hi : i = e.length
    · subst hi
      rw [app_eq rfl] at h
      cases h
      rw [LA.set_eq, app_eq g.len]
      exact ⟨v, rfl, tr⟩
    · have hl : i < e.length := by
        have := (List.getElem?_eq_some_iff.mp h).1
        rw [List.length_append] at this
        simp at this
        omega
      rw [app_lt hl] at h
      rw [LA.set_ne hi, app_lt (by rw [← g.len]; exact hl)]
      exact g.sl i s h
  · obtain ⟨h1, s, h2, h3⟩ := g.pin q hq
    have hl : q.1 < e.length := (List.getElem?_eq_some_iff.mp h2).1
    exact ⟨by rw [app_lt (by rw [← g.len]; exact hl)]; exact h1, s, by rw [app_lt hl]; exact h2, h3⟩
theorem RelG.pop {d : D} {b : Bool} (g : RelG K pn A (e ++ [.nt b d]) (σ ++ [some v]) G R H) (hp : ∀ q ∈ pn, q.1 < e.length) : RelG K pn (A.set e.length fun _ => none) e σ G R H ∧ FrT K (A.set e.length fun _ => none) G R H (A e.length) v d := by
  have hl : e.length = σ.length := by
    have := g.len
    rw [List.length_append, List.length_append] at this
    simpa using this
  refine ⟨⟨g.gh, g.rh, g.dj, hl, fun i τ a h => ?_, fun i τ j π a h h2 => ?_, fun i s h => ?_, fun q hq => ?_⟩, ?_⟩
  · by_cases hi : i = e.length
    · subst hi; rw [LA.set_eq] at h; cases h
    · rw [LA.set_ne hi] at h; exact g.own i τ a h
  · by_cases hi : i = e.length
    · subst hi; rw [LA.set_eq] at h; cases h
    · by_cases hj : j = e.length
      · subst hj; rw [LA.set_eq] at h2; cases h2
      · rw [LA.set_ne hi] at h
        rw [LA.set_ne hj] at h2
        exact g.inj i τ j π a h h2
  · have hi : i < e.length := (List.getElem?_eq_some_iff.mp h).1
    have z := g.sl i s (by rw [app_lt hi]; exact h)
    rw [app_lt (by rw [← hl]; exact hi)] at z
    rw [LA.set_ne (by omega)]
    exact z
  · obtain ⟨h1, s, h2, h3⟩ := g.pin q hq
    have hi := hp q hq
    rw [app_lt (by rw [← hl]; exact hi)] at h1
    rw [app_lt hi] at h2
    exact ⟨h1, s, h2, h3⟩
  · obtain ⟨w, h1, tr⟩ := g.sl e.length (.nt b d) (app_eq rfl)
    rw [app_eq hl] at h1
    cases h1
    refine ⟨tr, fun τ π a h h2 => (g.inj _ _ _ _ _ h h2).2, fun τ a h => ?_⟩
    obtain ⟨q1, q2, q3⟩ := g.own _ _ _ h
    refine ⟨q1, q2, q3, fun ⟨j, π, w⟩ => ?_⟩
    by_cases hj : j = e.length
    · subst hj; rw [LA.set_eq] at w; cases w
    · rw [LA.set_ne hj] at w
      exact hj (g.inj _ _ _ _ _ w h).1
theorem PnV.push {o : Option V} {val : Val} (h : PnV K G σ v val) : PnV K G (σ ++ [o]) v val := by
  have go : ∀ i : Nat, σ[i]? = some (some v) → (σ ++ [o])[i]? = some (some v) := fun i h => by
    rw [app_lt (List.getElem?_eq_some_iff.mp h).1]; exact h
  cases val with
  | sh d => exact h
  | fr d => exact h
  | fn d => exact h
  | ow i => exact go i h
  | np i π => cases π with
    | nil => exact go i h
    | cons => exact h
theorem PnVs.push {o : Option V} : ∀ {vs : List V} {vals : List Val}, PnVs K G σ vs vals → PnVs K G (σ ++ [o]) vs vals
  | _, _, .nil => .nil
  | _, _, .cons a b => .cons (PnV.push a) (PnVs.push b)
end
/-! ### instances made -/
def lbI (x dx : Addr) : Lb
  | [] => some x
  | [.dx] => some dx
  | _ => none
theorem lbI_some {x dx a : Addr} : ∀ {τ : List Pt}, lbI x dx τ = some a → (τ = [] ∧ a = x) ∨ (τ = [.dx] ∧ a = dx)
  | [], h => by cases h; exact .inl ⟨rfl, rfl⟩
  | [.dx], h => by cases h; exact .inr ⟨rfl, rfl⟩
  | [.ix _], h => by cases h
  | [.fd _], h => by cases h
  | _ :: _ :: _, h => by simp [lbI] at h
def mkV (c : Str) (ev : Ev) (vals : List Val) : M Val := fun e => match goV ev (.np e.length [] :: vals) (e ++ [.nt false (.ins c [])]) with
  | .ok (.sh .non, e2) => match e2[e.length]? with
    | some (.nt false d) => .ok (.fn d, e2.take e.length)
    | _ => .err
  | .ex y e2 => match e2[e.length]? with
    | some (.nt false _) => .ex y (e2.take e.length)
    | _ => .err
  | _ => .err
def mkC (c : Str) (bs : List Bool) (ev : Ev) (fs : List (M Val)) : M Val := bnd (argsN fs) fun vals => bnd (frzL bs vals) fun vals1 => mkV c ev vals1
theorem cut_one {e2 : En} {s : Slot} {n : Nat} (h : e2[n]? = some s) (hl : e2.length = n + 1) : e2 = e2.take n ++ [s] := by
  apply List.ext_getElem?
  intro k
  have hn : (e2.take n).length = n := by rw [List.length_take]; omega
  by_cases hk : k < n
  · rw [app_lt (by rw [hn]; exact hk), List.getElem?_take, if_pos hk]
  · by_cases hk2 : k = n
    · subst hk2
      rw [app_eq hn.symm, h]
    · rw [List.getElem?_eq_none (by omega), List.getElem?_eq_none (by rw [List.length_append, hn]; simp; omega)]
theorem mkV_sp {K : PySem.W.Frag} {W : WX} {np : Nat} {pn : Pn} {A : LA} {e : En} {σ : L2.St} {G R H : Hp} {vals : List Val} {vs : List V} {Q : VK} {c : Str} {ev : Ev} {x dx : Addr} (hl : ∀ ss, ev ss ≠ .err → ss.length = np) (g : RelG K pn A e σ G R H) (r : PnVs K G σ vs vals) (hx : H x = none) (hdx : H dx = none) (hne : dx ≠ x)
    (oc : OcV K W (rvE K) pn σ R Q G (mkV c ev vals e)) : spG K np ev (.ref x :: vs) (upd (upd H dx (.own x)) x (.ins (He.ga K c) dx [])) (fun v H2 => v = .non ∧ Q (.ref x) H2) fun cls d H2 => W cls d σ H2 := by
  obtain ⟨g1, a1, b1, c1⟩ := g.laidF (o := .own x) hdx
  have hx2 : upd H dx (.own x) x = none := by rw [upd_ne (Ne.symm hne)]; exact hx
  obtain ⟨g2, a2, b2, c2⟩ := g1.laidF (o := .ins (He.ga K c) dx []) hx2
  have hd3 : upd (upd H dx (.own x)) x (.ins (He.ga K c) dx []) dx = some (.own x) := by rw [upd_ne hne]; exact upd_same
  have t : FrT K A G R (upd (upd H dx (.own x)) x (.ins (He.ga K c) dx [])) (lbI x dx) (.ref x) (.ins c []) := by
    refine ⟨.ins rfl rfl upd_same hd3 ⟨fun _ => rfl, rfl⟩ (fun f y d h _ => by cases h) (fun f y d h _ => by cases h), fun τ π a h h2 => ?_, fun τ a h => ?_⟩
    · rcases lbI_some h with ⟨rfl, rfl⟩ | ⟨rfl, rfl⟩ <;> rcases lbI_some h2 with ⟨rfl, z⟩ | ⟨rfl, z⟩
      · rfl
      · exact absurd z.symm hne
      · exact absurd z hne
      · rfl
    · rcases lbI_some h with ⟨rfl, rfl⟩ | ⟨rfl, rfl⟩
      · exact ⟨a2, b2, by rw [upd_same]; simp, c2⟩
      · exact ⟨a1, b1, by rw [hd3]; simp, c1⟩
  have g3 := g2.push t
  have hpn : ∀ q ∈ pn, q.1 < e.length := fun q hq => by
    obtain ⟨_, s, h2, _⟩ := g.pin q hq
    exact (List.getElem?_eq_some_iff.mp h2).1
  have pv : PnVs K G (σ ++ [some (V.ref x)]) (V.ref x :: vs) (.np e.length [] :: vals) := .cons (show (σ ++ [some (V.ref x)])[e.length]? = some (some (V.ref x)) from app_eq g.len) (PnVs.push r)
  refine go_sp (W := fun cls d _ H2 => W cls d σ H2) hl g3 pv ?_
  unfold mkV at oc
  unfold OcV
  cases hv : goV ev (.np e.length [] :: vals) (e ++ [.nt false (.ins c [])]) with
  | err => rw [hv] at oc; exact oc
  | ex y e2 =>
    rw [hv] at oc
    intro A' G' H' d x' g' rx
    have len2 : e2.length = e.length + 1 := by rw [g'.len, List.length_append, ← g.len]; rfl
    try dsimp only at oc
    split at oc
    · rename_i d2 hs
      have ec := cut_one hs len2
      have hn : (e2.take e.length).length = e.length := by rw [List.length_take]; omega
      rw [ec] at g'
      obtain ⟨g4, _⟩ := g'.pop fun q hq => by rw [hn]; exact hpn q hq
      exact (show FinX K W pn (e2.take e.length) σ G R y from oc) _ G' H' d x' g4 rx
    · exact False.elim oc
  | ok p =>
    obtain ⟨vr, e2⟩ := p
    rw [hv] at oc
    intro b A' G' H' x' g' rb
    have len2 : e2.length = e.length + 1 := by rw [g'.len, List.length_append, ← g.len]; rfl
    try dsimp only at oc
    split at oc
    · rename_i _ _ hz
      cases hz
      cases rb
      split at oc
      · rename_i d2 hs
        have ec := cut_one hs len2
        have hn : (e2.take e.length).length = e.length := by rw [List.length_take]; omega
        rw [ec] at g'
        obtain ⟨g4, fr⟩ := g'.pop fun q hq => by rw [hn]; exact hpn q hq
        exact ⟨rfl, (show FinV K (rvE K) pn (e2.take e.length) σ G R (.fn d2) Q from oc) _ _ G' H' x' g4 ⟨_, fr⟩⟩
      · exact False.elim oc
    · rename_i hz
      cases hz
    · exact False.elim oc
end Qv
namespace Qv
open PySem L2 PySem.Spec PyProof.Rows
open Evl (Ex)

/-! ### a new instance -/
section
variable {X : Cx} {W : WX} {k : Nat} {C f : Addr} {fd : FuncData} {ps : List Str} {ev : Ev} {x : Str} {p pos : Pos} {a : Expr} {es : List Expr} {t : TA} {fs : List (M Val)} {bs : List Bool}
theorem runMk {pins : List (Addr × Obj)} {σ : L2.St} {H : Hp} {s : Shared} {Q : VK} {us : List Value} {vs : List V} (M : Mk X.K C f) (F : FnG X.prog X.w X.K X.mg X.base k f fd ps ev) (hr : Room (k + 1) X.A) (hgu : X.A.guards = some []) (hb : Binds X.K fd ps []) (tk : Takes X W)
    (I : Inv X pins σ H s) (r : Vals vs us) (h : ∀ x dx, H x = none → H dx = none → dx ≠ x → spG X.K ps.length ev (.ref x :: vs) (upd (upd H dx (.own x)) x (.ins C dx [])) (fun v H2 => v = .non ∧ Q (.ref x) H2) fun cls d H2 => W cls d σ H2) :
    wpAny (model X.prog X.w) X.A (call (.ref C) us) (EP X pins σ Q) X.xe s := by
  let n := s.heap.objs.size
  have hq := h (n + 1) n (I.hok.fresh (Nat.le_succ _)) (I.hok.fresh (Nat.le_refl _)) (Nat.ne_of_lt (Nat.lt_succ_self _))
  have J := Inv.made (C := C) I
  have rr : Vals (V.ref (n + 1) :: vs) (Value.ref (n + 1) :: us) := .cons rfl r
  have lu : ((Value.ref (n + 1) :: us) ++ []).length = ps.length := by rw [List.append_nil, ← rr.length]; exact hq.1
  have bt := hb _ (Value.ref (n + 1) :: us) J.kIn lu
  rw [List.append_nil] at bt
  refine wpAny_call (make_map (f := f) I.kIn M.makes M.init (beq_iff_eq.mp M.fn) (codeAny_mono (F.go _ X.stack _ _ ⟨Value.ref (n + 1) :: us, []⟩ (Value.ref (n + 1) :: us) _ _ _ (hr.make C us []) hgu (J.env0.make C us []) bt rr hq) fun res s' h' => ?_))
  cases res with
  | error e => exact tk _ _ (XE.of_call J (fun _ _ _ h => h) h')
  | ok fl =>
    cases fl with
    | ret u =>
      obtain ⟨v, H', I3, rv, q3⟩ := J.after h'
      obtain ⟨e1, q3⟩ := q3
      subst e1
      exact ⟨rv, V.ref (n + 1), H', I3, rfl, q3⟩
    | next => exact False.elim h'
    | brk => exact False.elim h'
    | cont => exact False.elim h'
def tMk (X : Cx) (W : WX) (C : Addr) (np : Nat) (ev : Ev) (t : TA) : TE := fun σ H Q => t σ H fun vs H1 => ∀ x dx, H1 x = none → H1 dx = none → dx ≠ x → spG X.K np ev (.ref x :: vs) (upd (upd H1 dx (.own x)) x (.ins C dx [])) (fun v H2 => v = .non ∧ Q (.ref x) H2) fun cls d H2 => W cls d σ H2
theorem pe_mk (M : Mk X.K C f) (F : FnG X.prog X.w X.K X.mg X.base k f fd ps ev) (hr : Room (k + 1) X.A) (hgu : X.A.guards = some []) (tk : Takes X W) (hg : Gl X x) (hm : X.mg x = some (.ref C)) (hb : Binds X.K fd ps [])
    (ha : PA X (a :: es) t) (hdb : (x == ("__debug__" : Str)) = false) (hs : (a :: es).all notStar = true) : PE X (.Call (.Name x p) (a :: es) [] pos) (tMk X W C ps.length ev t) := by
  constructor
  intro pins s σ H Q I h
  rw [List.all_cons, Bool.and_eq_true] at hs
  apply wpAny_Call_Name_kw
  apply ld_glob I hg hm _ hdb
  refine PySem.W.callWith_K (h₀ := X.base) I.ok.mod.kin M.kp (thn (ha.run pos pins s σ H _ I h) fun us s1 b => ?_) (star_cons hs.1) (star_plain hs.2)
  obtain ⟨vs, H1, I1, r, q⟩ := b
  exact ⟨I1.kIn, runMk M F hr hgu hb tk I1 r q⟩
theorem se_mk {c : Str} (M : Mk X.K (He.ga X.K c) f) (F : FnG X.prog X.w X.K X.mg X.base k f fd ps ev) (hr : Room (k + 1) X.A) (hgu : X.A.guards = some []) (tk : Takes X W) (hg : Gl X x) (hm : X.mg x = some (.ref (He.ga X.K c))) (hb : Binds X.K fd ps [])
    (hl : ∀ ss, ev ss ≠ .err → ss.length = ps.length) (hdb : (x == ("__debug__" : Str)) = false) (hs : (a :: es).all notStar = true) (h : Paired (fun a f => PE X a (tEv X.K W f)) (a :: es) fs) : PE X (.Call (.Name x p) (a :: es) [] pos) (tEv X.K W (mkC c bs ev fs)) :=
  PE_mono (pe_mk M F hr hgu tk hg hm hb (sa_argsN _ fs hs h) hdb hs) fun σ H Q q => by
    obtain ⟨pn, A, e, G, R, g, oc⟩ := q
    refine chain g oc fun vs vals A1 e1 G1 H1 x1 g1 r1 oc1 => ?_
    obtain ⟨r, A2, e2, G2, x2, g2, p2, oc2⟩ := oc_frzL g1 r1 oc1
    exact fun x dx h1 h2 h3 => mkV_sp hl g2 p2 h1 h2 h3 oc2
end
/-! ### an attribute is stored -/
theorem lk_fsSet {f : Str} {x : D} : ∀ (fs : List (Str × D)) (g : Str), fsGet (fsSet fs f x) g = if f = g then some x else fsGet fs g
  | [], g => by
    unfold fsSet fsGet
    split
    · rfl
    · rfl
  | (k, y) :: r, g => by
    have ih := lk_fsSet (f := f) (x := x) r g
    unfold fsSet
    split
    · rename_i hk
      subst hk
      unfold fsGet
      split <;> rfl
    · rename_i hk
      unfold fsGet
      split
      · rename_i hg
        subst hg
        rw [if_neg (Ne.symm hk)]
      · exact ih
theorem len_fsNew {f : Str} {x : D} : ∀ {fs : List (Str × D)}, fsGet fs f = none → (fsSet fs f x).length = fs.length + 1
  | [], _ => rfl
  | (k, y) :: r, h => by
    unfold fsGet at h
    unfold fsSet
    split
    · rename_i hk
      rw [if_pos hk] at h
      cases h
    · rename_i hk
      rw [if_neg hk] at h
      rw [List.length_cons, List.length_cons, len_fsNew h]
theorem len_putS {f : Str} {y : V} : ∀ {vs : List (Str × V)}, (vs.lookup f).isSome = true → (putF f y vs).length = vs.length
  | [], h => by cases h
  | (k, z) :: r, h => by
    rw [List.lookup_cons] at h
    show (if k = f then (k, y) :: r else (k, z) :: putF f y r).length = _
    split
    · rfl
    · rename_i hk
      have hb : (f == k) = false := by simpa using Ne.symm hk
      rw [hb] at h
      rw [List.length_cons, List.length_cons, len_putS h]
theorem len_putN {f : Str} {y : V} : ∀ {vs : List (Str × V)}, (vs.lookup f).isSome = false → (putF f y vs).length = vs.length + 1
  | [], _ => rfl
  | (k, z) :: r, h => by
    rw [List.lookup_cons] at h
    show (if k = f then (k, y) :: r else (k, z) :: putF f y r).length = _
    split
    · rename_i hk
      subst hk
      simp at h
    · rename_i hk
      have hb : (f == k) = false := by simpa using Ne.symm hk
      rw [hb] at h
      rw [List.length_cons, List.length_cons, len_putN h]
section
variable {K : PySem.W.Frag} {pn : Pn} {A : LA} {e : En} {σ : L2.St} {G R H : Hp}
/-- a field of the instance at slot i is written -/
theorem RelG.field {i : Nat} {b : Bool} {c f : Str} {fs : List (Str × D)} {d : D} {y : V} (g : RelG K pn A e σ G R H) (hi : e[i]? = some (.nt b (.ins c fs))) (hd : Rep K G y d) :
    ∃ p dx vs, σ[i]? = some (some (.ref p)) ∧ H p = some (.ins (He.ga K c) dx vs) ∧ vs.length = fs.length ∧ RelG K pn A (e.set i (.nt b (.ins c (fsSet fs f d)))) σ G R (upd H p (.ins (He.ga K c) dx (putF f y vs))) := by
  obtain ⟨p, hs, ha, tr⟩ := g.tree (.inr hi)
  cases tr with
  | @ins _ _ dx _ vs _ a a2 h1 h2 l e1 e2 =>
    have hne : dx ≠ p := ne_of h2 h1 (fun z => by cases z)
    have far : ∀ {j : Nat} {τ : List Pt} {x : Addr}, A j τ = some x → ¬ (j = i ∧ τ = []) → x ≠ p := fun hx hn z => by
      subst z
      exact hn (g.inj _ _ _ _ _ hx ha)
    have hp0 := g.own _ _ _ ha
    refine ⟨p, dx, vs, hs, h1, l.2, ?_⟩
    have z := g.slot (i := i) (s := .nt b (.ins c (fsSet fs f d))) (L := A i) (σ' := σ) (H' := upd H p (.ins (He.ga K c) dx (putF f y vs))) (List.getElem?_eq_some_iff.mp hi).1 ?_ rfl (fun _ _ => rfl) (fun x hx => ?_) (fun τ x hx => ?_) (fun τ π x h h' => (g.inj _ _ _ _ _ h h').2) fun q hq hqi => ?_
    · rw [LA.set_self] at z; exact z
    · refine ⟨.ref p, hs, .ins ha a2 upd_same (by rw [upd_ne hne]; exact h2) ⟨fun g' => ?_, ?_⟩ (fun g' x d2 hx hd2 hb => ?_) fun g' x d2 hx hd2 => ?_⟩
      · rw [lookup_putF, lk_fsSet]
        by_cases hg : g' = f
        · rw [if_pos hg, if_pos hg.symm]; rfl
        · rw [if_neg hg, if_neg (Ne.symm hg)]; exact l.1 g'
      · cases q : fsGet fs f with
        | none => rw [len_fsNew q, len_putN (by rw [l.1 f, q]; rfl), l.2]
        | some w => rw [len_fsSet q, len_putS (by rw [l.1 f, q]; rfl), l.2]
      · rw [lookup_putF] at hx
        rw [lk_fsSet] at hd2
        by_cases hg : g' = f
        · rw [if_pos hg] at hx
          rw [if_pos hg.symm] at hd2
          cases hx; cases hd2
          exact hd
        · rw [if_neg hg] at hx
          rw [if_neg (Ne.symm hg)] at hd2
          exact e1 g' x d2 hx hd2 hb
      · rw [lookup_putF] at hx
        rw [lk_fsSet] at hd2
        by_cases hg : g' = f
        · rw [if_pos hg] at hx
          rw [if_pos hg.symm] at hd2
          cases hx; cases hd2
          cases hd
        · rw [if_neg hg] at hx
          rw [if_neg (Ne.symm hg)] at hd2
          exact (e2 g' x d2 hx hd2).frame fun τ a' h => ⟨upd_ne (far (show A i (.fd g' :: τ) = some a' from h) fun z => by cases z.2), h⟩
    · refine upd_ne fun zz => ?_
      subst zz
      rcases hx with h | h | ⟨j, τ, hj, h⟩
      · exact h hp0.1
      · exact h hp0.2.1
      · exact hj (g.inj _ _ _ _ _ h ha).1
    · obtain ⟨q1, q2, q3⟩ := g.own _ _ _ hx
      refine ⟨q1, q2, ?_, fun j π hj h => hj (g.inj _ _ _ _ _ h hx).1⟩
      by_cases hxp : x = p
      · subst hxp; rw [upd_same]; simp
      · rw [upd_ne hxp]; exact q3
    · obtain ⟨k1, s, k2, k3⟩ := g.pin q hq
      rw [hqi] at k1 k2
      rw [hi] at k2
      cases k2
      exact ⟨k1, by cases b <;> exact k3⟩
end
def stF (no : Str → Str → Bool) (f : Str) (d : D) : Val → M Fl
  | .np i [] => fun e => match e[i]? with
    | some (.nt b (.ins c fs)) => if no c f = true ∧ fs.length < 900 then .ok (.nx, e.set i (.nt b (.ins c (fsSet fs f d)))) else .err
    | _ => .err
  | _ => fail
def fldS (no : Str → Str → Bool) (f : Str) (fv fo : M Val) : M Fl := bnd fv fun v => bnd (shr v) fun d => bnd fo fun o => stF no f d o
theorem ss_fld {X : Cx} {W : WX} {no : Str → Str → Bool} (hno : ∀ c f, no c f = true → Cls X.K (He.ga X.K c) ∧ NoAttr X.K (He.ga X.K c) f) {o v : Expr} {f : Str} {fo fv : M Val} {p pos : Pos} (ho : PE X o (tEv X.K W fo)) (hv : PE X v (tEv X.K W fv))
    (hs : swapsWith v (some (.Attribute o f p)) pos.line X.env = pure false) : PS X (.Assign [.Attribute o f p] v pos) (tSv X.K W (fldS no f fv fo)) := PS_mono (ps_fld ho hv hs) fun D σ H q => by
  obtain ⟨pn, A, e, G, R, g, oc⟩ := q
  refine chainS g oc fun y vv A1 e1 G1 H1 x1 g1 r1 oc1 => ?_
  unfold bnd at oc1
  cases hq : shr vv e1 with
  | err => rw [hq] at oc1; exact False.elim oc1
  | ex z e' => exact absurd hq shr_no
  | ok pr =>
    obtain ⟨d, e2⟩ := pr
    rw [hq] at oc1
    obtain ⟨A2, G2, x2, g2, r2⟩ := g1.shr r1 hq
    refine chainS g2 (OcS.ext oc1 x2) fun x vo A3 e3 G3 H3 x3 g3 r3 oc3 => ?_
    cases vo with
    | np i π =>
      cases π with
      | cons => exact False.elim oc3
      | nil =>
        have oc4 : OcS X.K W pn σ.length R D G3 (match e3[i]? with
          | some (.nt b (.ins c fs)) => if no c f = true ∧ fs.length < 900 then .ok (.nx, e3.set i (.nt b (.ins c (fsSet fs f d)))) else .err
          | _ => .err) := oc3
        split at oc4
        · rename_i b c fs hi
          split at oc4
          · rename_i hc
            obtain ⟨pp, dx, vs, h1, h2, h3, g4⟩ := g3.field (f := f) hi (r2.mono x3)
            obtain ⟨b', d', c', p', k1, k2, k3, k4⟩ := r3
            obtain ⟨p2, m1, m2, _⟩ := g3.tree (.inr hi)
            rw [k4] at m2
            cases m2
            rw [h1] at m1
            cases m1
            exact ⟨pp, _, dx, vs, k3, h2, (hno c f hc.1).1, (hno c f hc.1).2, by omega, (show FinS X.K pn _ σ.length G3 R D .nx from oc4) σ A3 G3 _ (Ex.refl _) rfl g4⟩
          · exact False.elim oc4
        · exact False.elim oc4
    | _ => exact False.elim oc3
end Qv
namespace Qv
open PySem L2 PySem.Spec PyProof.Rows ClX
open Evl (Ex)

/-! ### static methods, by the class's name -/
structure SMet (K : PySem.W.Frag) (C : Addr) (mc : Value) (m : Str) (p g : Addr) : Prop where
  look : PySem.W.findCls K (.ref C) mc m = some (.get (.builtin "staticmethod.__get__") (.ref p) .none (.ref C))
  made : ∃ rest, PySem.W.recIn K p "staticmethod" = some (.ref g :: rest)
  held : PySem.W.keepIn K (.ref g) = true
section
variable {X : Cx} {W : WX} {k : Nat} {C g p0 : Addr} {mc : Value} {fd : FuncData} {ps : List Str} {ev : Ev} {c m : Str} {p apos pos : Pos} {a : Expr} {es : List Expr} {t : TA} {fs : List (M Val)} {bs : List Bool}
theorem getSm {pins : List (Addr × Obj)} {σ : L2.St} {H : Hp} {s : Shared} {A : Around} {E : Value → Shared → Prop} {pl : Sem Bool} {Q : Value × List Value → Shared → Prop} (I : Inv X pins σ H s) (r : CRead X.K C mc) (z : SMet X.K C mc m p0 g) (h : ∀ s', Inv X pins σ H s' → Q (.ref g, []) s') :
    wpAny (model X.prog X.w) A (getMethod (.ref C) m pl) Q E s := by
  obtain ⟨rest, hp⟩ := z.made
  refine PySem.W.method_cls I.kIn r.ga (PySem.W.cls_bind I.kIn r.rd z.look (wpAny_call (PySem.W.sm_get (s := { s with toks := s.toks + 1 }) I.kIn hp (PySem.W.handed_on rfl ?_))))
  exact h _ (I.tok _)
theorem pe_sm (F : FnG X.prog X.w X.K X.mg X.base k g fd ps ev) (hr : Room k X.A) (hgu : X.A.guards = some []) (tk : Takes X W) (hg : Gl X c) (hm : X.mg c = some (.ref C)) (r : CRead X.K C mc) (z : SMet X.K C mc m p0 g) (hb : Binds X.K fd ps [])
    (ha : PA X (a :: es) t) (hdb : (c == ("__debug__" : Str)) = false) (hf : fewOk (.Name c p) (a :: es) apos pos = true) : PE X (.Call (.Attribute (.Name c p) m apos) (a :: es) [] pos) (tCl (spG X.K ps.length ev) W t) := by
  have hs : (a :: es).all notStar = true := by
    unfold fewOk at hf
    rw [Bool.and_eq_true, Bool.and_eq_true] at hf
    exact hf.2.1
  rw [List.all_cons, Bool.and_eq_true] at hs
  constructor
  intro pins s σ H Q I h
  refine PySem.W.methodCall_KW (pl := plainOf (.Name c p) X.env) ?_ (meth_form hf)
  apply ld_glob I hg hm _ hdb
  refine getSm I r z fun s1 I1 => ?_
  refine PySem.W.callWith_K (first := []) (h₀ := X.base) I.ok.mod.kin z.held (thn (ha.run pos pins s1 σ H _ I1 h) fun us s2 b => ?_) (star_cons hs.1) (star_plain hs.2)
  obtain ⟨vs, H2, I2, rv, q⟩ := b
  exact ⟨I2.kIn, runG F hr hgu hb tk I2 rv q⟩
theorem pe_sm0 (F : FnG X.prog X.w X.K X.mg X.base k g fd ps ev) (hr : Room k X.A) (hgu : X.A.guards = some []) (tk : Takes X W) (hg : Gl X c) (hm : X.mg c = some (.ref C)) (r : CRead X.K C mc) (z : SMet X.K C mc m p0 g) (hb : Binds X.K fd ps [])
    (hdb : (c == ("__debug__" : Str)) = false) (hf : fewOk (.Name c p) [] apos pos = true) : PE X (.Call (.Attribute (.Name c p) m apos) [] [] pos) (tCl (spG X.K ps.length ev) W tNil) := by
  constructor
  intro pins s σ H Q I h
  refine PySem.W.methodCall_KW (pl := plainOf (.Name c p) X.env) ?_ (meth_form hf)
  apply ld_glob I hg hm _ hdb
  refine getSm I r z fun s1 I1 => ?_
  exact PySem.W.callWith_K0 I1.kIn z.held (runG F hr hgu hb tk (us := []) I1 .nil h)
theorem se_sm (F : FnG X.prog X.w X.K X.mg X.base k g fd ps ev) (hr : Room k X.A) (hgu : X.A.guards = some []) (tk : Takes X W) (hg : Gl X c) (hm : X.mg c = some (.ref C)) (r : CRead X.K C mc) (z : SMet X.K C mc m p0 g) (hb : Binds X.K fd ps [])
    (hl : ∀ ss, ev ss ≠ .err → ss.length = ps.length) (hdb : (c == ("__debug__" : Str)) = false) (hf : fewOk (.Name c p) es apos pos = true) (h : Paired (fun a f => PE X a (tEv X.K W f)) es fs) : PE X (.Call (.Attribute (.Name c p) m apos) es [] pos) (tEv X.K W (callV bs ev fs)) := by
  have hs : es.all notStar = true := by
    unfold fewOk at hf
    rw [Bool.and_eq_true, Bool.and_eq_true] at hf
    exact hf.2.1
  cases h with
  | nil =>
    refine PE_mono (pe_sm0 F hr hgu tk hg hm r z hb hdb hf) fun σ H Q q => ?_
    obtain ⟨pn, A, e, G, R, g, oc⟩ := tcl hl q
    exact (oc_ret (rv := rvN X.K) oc) [] A G H (Ex.refl G) g .nil
  | cons h hr2 => exact PE_mono (pe_sm F hr hgu tk hg hm r z hb (sa_argsN _ _ hs (.cons h hr2)) hdb hf) fun _ _ _ q => tcl hl q
end
end Qv
namespace Qv
open PySem L2 PySem.Spec PyProof.Rows ClX
open Evl (Ex)

/-! ### calls by shapes: a starred parameter, keywords, a first argument -/
def spK (K : PySem.W.Frag) (np : Nat) (ev : Ev) (q : Shp) (vs zs : List V) (H : Hp) (Q : VK) (E : XK) : Prop := vs.length = q.n ∧ zs.length = q.ks.length ∧ spG K np ev (q.srcs.map (srcV vs zs)) H Q E
def spQ (K : PySem.W.Frag) (np : Nat) (ev : Ev) (st : Option Nat) (q : Shp) (vs zs : List V) (H : Hp) (Q : VK) (E : XK) : Prop := match st with
  | none => spK K np ev q vs zs H Q E
  | some i => i ≤ vs.length ∧ (vs.drop i).length ≤ sizeLine ∧ ∀ p, H p = none → spK K np ev q (vs.take i ++ [.ref p]) zs (upd H p (.tup (vs.drop i))) Q E
structure FnQ (P : Program) (w : World) (K : PySem.W.Frag) (mg : Str → Option Value) (base : Heap) (k : Nat) (f : Addr) (np : Nat) (ev : Ev) (st : Option Nat) (q : Shp) : Prop where
  go : ∀ (A : Around) (out : List Env) (s : Shared) (H : Hp) (us ws : List Value) (vs zs : List V) (Q : VK) (E : XK), Room k A → A.guards = some [] → Env0 P w K mg base A out s H → Vals vs us → Vals zs ws → spQ K np ev st q vs zs H Q E →
    codeAny (model P w) A (.call (.ref f) ⟨us, q.ks.zip ws⟩) (CR (CX P w) out P w H s Q E) s
section
variable {P : Program} {w : World} {K : PySem.W.Frag} {mg : Str → Option Value} {base : Heap} {k : Nat} {f : Addr} {fd : FuncData} {ps : List Str} {ev : Ev} {q : Shp}
theorem FnQ.of (F : FnG P w K mg base k f fd ps ev) (hb : KBs K fd ps q) : FnQ P w K mg base k f ps.length ev none q :=
  ⟨fun A out s H us ws vs zs Q E hr hgu e0 r rz h => by
    obtain ⟨l1, l2, h⟩ := h
    obtain ⟨mv, hb⟩ := hb.go
    have inK : K.In s.heap := e0.mod.kin.keeps fun b o z => (e0.bs b o z).1
    exact F.go A out s H _ _ _ Q E hr hgu e0 (hb.to s us ws inK (r.length.symm.trans l1) (rz.length.symm.trans l2)) (hb.rel r rz) h⟩
/-- what is to be seen of a starred def's text -/
def StP (nm qual : Str) (prm : Arguments) (body : List Stmt) (sc : Scope) (ps : List Str) (i : Nat) (q : Shp) : Prop :=
  ∀ (kV doc pm : Value) (an : Option Addr) (cdv ct : Value) (us rest ws : List Value), us.length = i → ws.length = q.ks.length → bindArgs (PySem.W.fnOf nm qual prm body sc .none kV doc pm an cdv ct) ⟨us ++ rest, q.ks.zip ws⟩ = (newTuple rest >>= fun t => pure (ps.zip (q.srcs.map (srcU (us ++ [t]) ws []))))
theorem vals_take {vs : List V} {us : List Value} (r : Vals vs us) (i : Nat) : Vals (vs.take i) (us.take i) ∧ Vals (vs.drop i) (us.drop i) := by
  induction r generalizing i with
  | nil => simp; exact .nil
  | cons a b ih =>
    cases i with
    | zero => exact ⟨.nil, .cons a b⟩
    | succ i => exact ⟨.cons a (ih i).1, (ih i).2⟩
theorem FnQ.star {nm qual : Str} {prm : Arguments} {body : List Stmt} {sc : Scope} {kV doc pm cdv ct oc : Value} {an od : Option Addr} {osl : Array (Option Value)} {N : List Str} {fb : M Fl} {i : Nat}
    (lk : K.lookup f = some ⟨oc, od, .func (PySem.W.fnOf nm qual prm body sc .none kV doc pm an cdv ct), osl⟩) (hcd : PySem.W.codeIn K cdv qual = true) (S : FnScope N ps sc) (hb : StP nm qual prm body sc ps i q) (hm : q.ms = []) (ho : q.srcs.all (srcOk q.ms) = true) (hlen : q.srcs.length = ps.length)
    (hbody : ∀ (A : Around) (out : List Env) (s : Shared) (H : Hp) (E : XK), Room k (A.deeper (envOfC qual sc s.heap.objs.size f cdv)) → A.guards = some [] → PSs (cxG P w K mg base N qual sc f cdv A out s H E) body (tSv K (wxG E) fb)) :
    FnQ P w K mg base (k + 1) f ps.length (evF N.length ps.length fb) (some i) q :=
  ⟨fun A out s H us ws vs zs Q E hr hgu e0 r rz h => by
    obtain ⟨hi, hz, hq⟩ := h
    obtain ⟨r1, r2⟩ := vals_take r i
    have hl1 : (us.take i).length = i := by rw [List.length_take, ← r.length]; omega
    have hl2 : (us.drop i).length ≤ sizeLine := by rw [← r2.length]; exact hz
    have hn : H s.heap.objs.size = none := e0.hok.fresh (Nat.le_refl _)
    have e1 : us = us.take i ++ us.drop i := (List.take_append_drop i us).symm
    refine StX.run_bnd lk hcd S hr e0 (G := fun xs H2 => ∃ p, H p = none ∧ xs = q.srcs.map (srcV (vs.take i ++ [V.ref p]) zs) ∧ H2 = upd H p (.tup (vs.drop i))) (fun A' Ex Q' hk => ?_) fun s2 H2 xs gx hr' => ?_
    · have lz : ws.length = q.ks.length := rz.length.symm.trans (hq _ hn).2.1
      have be := hb kV doc pm an cdv ct (us.take i) (us.drop i) ws hl1 lz
      rw [← e1] at be
      rw [be]
      refine wpAny_bind (wpAny_newTuple (wpAny_pure ?_) hl2)
      let ob : Obj := { cls := .type "tuple", data := .seq (us.drop i).toArray }
      have new : ObjOk P w (upd H s.heap.objs.size (.tup (vs.drop i))) (s.heap.push ob) s.heap.objs.size (.tup (vs.drop i)) := ⟨hz, us.drop i, r2, ⟨_, Heap.get?_push_size _ rfl, rfl, _, rfl⟩⟩
      have un := StX.un_laid (fs := frs out) (s := s) (o := ob) (u := .tup (vs.drop i)) hn
      have rr : Vals (vs.take i ++ [V.ref s.heap.objs.size]) (us.take i ++ [Value.ref s.heap.objs.size]) := r1.append (.cons rfl .nil)
      exact hk _ _ _ _ (StX.env0_laid e0 new) un rfl (fun e s' => StX.cxUp out s H _ _ E e s' un (fun b o z => Heap.get?_push_of_some _ z) rfl) (src_rel (ms := q.ms) (by rw [hm]; exact .nil) rr rz ho) (by rw [List.length_map]; exact hlen) ⟨_, hn, rfl, rfl⟩
    · obtain ⟨p, hp, rfl, rfl⟩ := gx
      exact ⟨_, hbody A out s2 _ E hr' hgu, sp_body (by rw [List.length_map]; exact hlen) (hq p hp).2.2⟩⟩
end
/-! ### data -/
/-- the rest, one tuple -/
def restC (st : Option Nat) (vals : List Val) : M (List Val) := match st with
  | none => ret vals
  | some i => bnd (shrAll (vals.drop i)) fun ds => if i ≤ vals.length ∧ ds.length ≤ lenLim then ret (vals.take i ++ [.sh (.tup ds)]) else fail
def parC (st : Option Nat) (q : Shp) (vs zs : List Val) : M (List Val) := bnd (restC st vs) fun vs' => opt (if vs'.length = q.n ∧ zs.length = q.ks.length then srcL q.srcs vs' zs else none)
def goQ (bs : List Bool) (ev : Ev) (st : Option Nat) (q : Shp) (vs zs : List Val) : M Val := bnd (parC st q vs zs) fun vals => bnd (frzL bs vals) fun vals1 => goV ev vals1
section
variable {γ δ : Type} {K : PySem.W.Frag} {W : WX} {rv' : Rv δ γ} {pn : Pn} {A : LA} {e : En} {σ : L2.St} {G R H : Hp} {Q' : δ → Hp → Prop}
theorem PnVs.take {vs : List V} {vals : List Val} (r : PnVs K G σ vs vals) (i : Nat) : PnVs K G σ (vs.take i) (vals.take i) ∧ PnVs K G σ (vs.drop i) (vals.drop i) := by
  induction r generalizing i with
  | nil => simp; exact .nil
  | cons a b ih =>
    cases i with
    | zero => exact ⟨.nil, .cons a b⟩
    | succ i => exact ⟨.cons a (ih i).1, (ih i).2⟩
theorem PnVs.append {vs ws : List V} {vals wals : List Val} (r : PnVs K G σ vs vals) (r2 : PnVs K G σ ws wals) : PnVs K G σ (vs ++ ws) (vals ++ wals) := by
  induction r with
  | nil => exact r2
  | cons a b ih => exact .cons a ih
/-- from the arguments to the parameters -/
theorem parC_ok {st : Option Nat} {q : Shp} {vs zs : List V} {vals wals : List Val} {k : List Val → M γ} (g : RelG K pn A e σ G R H) (r : PnVs K G σ vs vals) (rz : PnVs K G σ zs wals) (oc : OcV K W rv' pn σ R Q' G (bnd (parC st q vals wals) k e)) :
    match st with
    | none => vs.length = q.n ∧ zs.length = q.ks.length ∧ ∃ r', PnVs K G σ (q.srcs.map (srcV vs zs)) r' ∧ OcV K W rv' pn σ R Q' G (k r' e)
    | some i => i ≤ vs.length ∧ (vs.drop i).length ≤ sizeLine ∧ ∀ p, H p = none → (vs.take i ++ [V.ref p]).length = q.n ∧ zs.length = q.ks.length ∧ ∃ r' A' e' G', Ex G G' ∧ RelG K pn A' e' σ G' R (upd H p (.tup (vs.drop i))) ∧ PnVs K G' σ (q.srcs.map (srcV (vs.take i ++ [V.ref p]) zs)) r' ∧ OcV K W rv' pn σ R Q' G' (k r' e') := by
  have oc1 := oc_assoc oc
  cases st with
  | none =>
    obtain ⟨r', hr, oc2⟩ := oc_opt (show OcV K W rv' pn σ R Q' G (bnd (opt (if vals.length = q.n ∧ wals.length = q.ks.length then srcL q.srcs vals wals else none)) k e) from oc1)
    split at hr
    · rename_i c
      exact ⟨(paired_len r).trans c.1, (paired_len rz).trans c.2, r', srcL_pn r rz hr, oc2⟩
    · cases hr
  | some i =>
    have oc2 := oc_assoc oc1
    obtain ⟨r1, r2⟩ := PnVs.take r i
    obtain ⟨ds, A1, e1, G1, x1, g1, r3, oc3⟩ := oc_shrN g r2 oc2
    unfold bnd at oc3
    split at oc3
    · rename_i p hp
      split at hp
      · rename_i c
        cases hp
        have hl : (vs.drop i).length = ds.length := r3.length
        refine ⟨by rw [paired_len r]; exact c.1, by rw [hl, ← lim_eq]; exact c.2, fun p hp => ?_⟩
        obtain ⟨g2, x2⟩ := g1.laid (o := .tup (vs.drop i)) hp
        have rt : Rep K (upd G1 p (.tup (vs.drop i))) (.ref p) (.tup ds) := .tup upd_same (r3.mono x2)
        have rr : PnVs K (upd G1 p (.tup (vs.drop i))) σ (vs.take i ++ [V.ref p]) (vals.take i ++ [.sh (.tup ds)]) := PnVs.append (PnVs.mono (x1.trans x2) r1) (.cons rt .nil)
        have rz' := PnVs.mono (x1.trans x2) rz
        obtain ⟨r', hr, oc4⟩ := oc_opt (show OcV K W rv' pn σ R Q' G1 (bnd (opt (if (vals.take i ++ [Val.sh (.tup ds)]).length = q.n ∧ wals.length = q.ks.length then srcL q.srcs (vals.take i ++ [.sh (.tup ds)]) wals else none)) k e1) from oc3)
        split at hr
        · rename_i c2
          exact ⟨(paired_len rr).trans c2.1, (paired_len rz).trans c2.2, r', A1, e1, _, x1.trans x2, g2, srcL_pn rr rz' hr, oc4.ext x2⟩
        · cases hr
      · cases hp
    · rename_i p hp
      split at hp <;> cases hp
    · exact False.elim oc3
theorem goQ_sp {bs : List Bool} {ev : Ev} {np : Nat} {st : Option Nat} {q : Shp} {vs zs : List V} {vals wals : List Val} {Q : VK} (hl : ∀ ss, ev ss ≠ .err → ss.length = np) (g : RelG K pn A e σ G R H) (r : PnVs K G σ vs vals) (rz : PnVs K G σ zs wals)
    (oc : OcV K W (rvE K) pn σ R Q G (goQ bs ev st q vals wals e)) : spQ K np ev st q vs zs H Q fun cls d H2 => W cls d σ H2 := by
  have z := parC_ok g r rz oc
  cases st with
  | none =>
    obtain ⟨l1, l2, r', p', oc1⟩ := z
    obtain ⟨r2, A2, e2, G2, x2, g2, p2, oc2⟩ := oc_frzL g p' oc1
    exact ⟨l1, l2, go_sp hl g2 p2 oc2⟩
  | some i =>
    obtain ⟨l1, l2, h⟩ := z
    refine ⟨l1, l2, fun p hp => ?_⟩
    obtain ⟨l3, l4, r', A1, e1, G1, x1, g1, p1, oc1⟩ := h p hp
    obtain ⟨r2, A2, e2, G2, x2, g2, p2, oc2⟩ := oc_frzL g1 p1 oc1
    exact ⟨l3, l4, go_sp hl g2 p2 oc2⟩
end
/-! ### the caller's side -/
section
variable {X : Cx} {W : WX} {k np : Nat} {f : Addr} {ev : Ev} {st : Option Nat} {q : Shp} {pos apos p : Pos} {es : List Expr} {kws : List Keyword} {fs gs : List (M Val)} {bs : List Bool}
theorem runQ {pins : List (Addr × Obj)} {σ : L2.St} {H : Hp} {s : Shared} {Q : VK} {us ws : List Value} {vs zs : List V} (F : FnQ X.prog X.w X.K X.mg X.base k f np ev st q) (hr : Room k X.A) (hgu : X.A.guards = some []) (tk : Takes X W)
    (I : Inv X pins σ H s) (r : Vals vs us) (rz : Vals zs ws) (h : spQ X.K np ev st q vs zs H Q fun cls d H2 => W cls d σ H2) : wpAny (model X.prog X.w) X.A (call (.ref f) us (q.ks.zip ws)) (EP X pins σ Q) X.xe s := by
  refine wpAny_call (codeAny_mono (F.go X.A X.stack s H us ws vs zs Q _ hr hgu I.env0 r rz h) fun res s' hq => ?_)
  cases res with
  | error e => exact tk _ _ (XE.of_call I (fun _ _ _ h => h) hq)
  | ok fl =>
    cases fl with
    | ret u => exact I.after hq
    | next => exact False.elim hq
    | brk => exact False.elim hq
    | cont => exact False.elim hq
/-- arguments and keywords, then the call -/
def tAK (np : Nat) (t : List (M Val)) (g : List (M Val)) (K : PySem.W.Frag) (W : WX) (σ : L2.St) (H : Hp) (Z : List V → List V → Hp → Prop) : Prop := tNv K W (argsN t) σ H fun vs H1 => tNv K W (argsN g) σ H1 fun zs H2 => Z vs zs H2
theorem cwQ {pins : List (Addr × Obj)} {σ : L2.St} {H : Hp} {s : Shared} {Q : VK} {fv : Value} {first : List Value} {Z : List V → List V → Hp → Prop} (hk : PySem.W.keepIn X.K fv = true) (h1 : Paired (fun a f => PE X a (tEv X.K W f)) es fs) (h2 : Paired (fun a f => PE X a (tEv X.K W f)) (kws.map (·.value)) gs)
    (hs : es.all notStar = true) (hkn : kws.all kwOk = true) (I : Inv X pins σ H s) (h : tAK 0 fs gs X.K W σ H Z)
    (fin : ∀ (us ws : List Value) (vs zs : List V) (H2 : Hp) (s2 : Shared), Inv X pins σ H2 s2 → Vals vs us → Vals zs ws → Z vs zs H2 → wpAny (model X.prog X.w) X.A (call fv (first ++ us) ((kws.filterMap (·.arg)).zip ws)) (EP X pins σ Q) X.xe s2) :
    wpAny (model X.prog X.w) X.A (callWith pos fv first (backTo pos (starEach es X.env)) (backToKw pos (keywordEach kws X.env))) (EP X pins σ Q) X.xe s := by
  obtain ⟨k1, k2⟩ := kw_all (pos := pos) (env := X.env) hkn
  have k3 : ((backTo pos (starEach es X.env)).any (·.1) || (backToKw pos (keywordEach kws X.env)).any (·.1.isNone)) = false := by rw [star_plain hs, k2]; rfl
  have hkw := sk_argsN kws gs h2
  cases h1 with
  | nil =>
    refine PySem.W.callWith_KW0 (h₀ := X.base) I.ok.mod.kin hk k1 ?_ k3
    obtain ⟨pn, A, e, G, R, g, oc⟩ := h
    have q1 := (oc_ret (rv := rvN X.K) oc) [] A G H (Ex.refl G) g .nil
    refine thn (hkw.run pos pins s σ H _ I q1) fun ws s2 b2 => ?_
    obtain ⟨zs, H2, I2, rz, q2⟩ := b2
    refine ⟨I2.kIn, ?_⟩
    rw [kw_names]
    exact fin [] ws [] zs H2 s2 I2 .nil rz q2
  | @cons a f es fs ha0 hr0 =>
    have hs' := hs
    rw [List.all_cons, Bool.and_eq_true] at hs'
    have ha := sa_argsN _ _ hs (.cons ha0 hr0)
    refine PySem.W.callWith_KW (h₀ := X.base) I.ok.mod.kin hk k1 (thn (ha.run pos pins s σ H _ I h) fun us s1 b => ?_) k3 (star_cons hs'.1)
    obtain ⟨vs, H1, I1, r, q1⟩ := b
    refine thn (hkw.run pos pins s1 σ H1 _ I1 q1) fun ws s2 b2 => ?_
    obtain ⟨zs, H2, I2, rz, q2⟩ := b2
    refine ⟨I2.kIn, ?_⟩
    rw [kw_names]
    exact fin us ws vs zs H2 s2 I2 r rz q2
/-- a def of the module -/
def callQ (bs : List Bool) (ev : Ev) (st : Option Nat) (q : Shp) (fs gs : List (M Val)) : M Val := bnd (argsN fs) fun vs => bnd (argsN gs) fun zs => goQ bs ev st q vs zs
theorem tAK_of {Z : List V → List V → Hp → Prop} {kk : List Val → List Val → M Val} {Q : VK} {pn : Pn} {A : LA} {e : En} {σ : L2.St} {G R H : Hp} (g : RelG X.K pn A e σ G R H) (oc : OcV X.K W (rvE X.K) pn σ R Q G (bnd (argsN fs) (fun vs => bnd (argsN gs) fun zs => kk vs zs) e))
    (fin : ∀ vs zs vals wals A1 e1 G1 H1, Ex G G1 → RelG X.K pn A1 e1 σ G1 R H1 → PnVs X.K G1 σ vs vals → PnVs X.K G1 σ zs wals → OcV X.K W (rvE X.K) pn σ R Q G1 (kk vals wals e1) → Z vs zs H1) : tAK 0 fs gs X.K W σ H Z :=
  chain g oc fun vs vals A1 e1 G1 H1 x1 g1 r1 oc1 => chain g1 oc1 fun zs wals A2 e2 G2 H2 x2 g2 r2 oc2 => fin vs zs vals wals A2 e2 G2 H2 (x1.trans x2) g2 (PnVs.mono x2 r1) r2 oc2
theorem se_fnQ {x : Str} (F : FnQ X.prog X.w X.K X.mg X.base k f np ev st q) (hr : Room k X.A) (hgu : X.A.guards = some []) (tk : Takes X W) (hg : Gl X x) (hm : X.mg x = some (.ref f)) (hk : PySem.W.keepIn X.K (.ref f) = true) (hl : ∀ ss, ev ss ≠ .err → ss.length = np)
    (hdb : (x == ("__debug__" : Str)) = false) (hs : es.all notStar = true) (hkn : kws.all kwOk = true) (hks : kws.filterMap (·.arg) = q.ks) (h1 : Paired (fun a f => PE X a (tEv X.K W f)) es fs) (h2 : Paired (fun a f => PE X a (tEv X.K W f)) (kws.map (·.value)) gs) :
    PE X (.Call (.Name x p) es kws pos) (tEv X.K W (callQ bs ev st q fs gs)) := by
  constructor
  intro pins s σ H Q I h
  apply wpAny_Call_Name_kw
  apply ld_glob I hg hm _ hdb
  obtain ⟨pn, A, e, G, R, g, oc⟩ := h
  refine cwQ (first := []) (Z := fun vs zs H2 => spQ X.K np ev st q vs zs H2 Q fun cls d H3 => W cls d σ H3) hk h1 h2 hs hkn I (tAK_of g oc fun vs zs vals wals A1 e1 G1 H1 x1 g1 r1 rz1 oc1 => goQ_sp hl g1 r1 rz1 oc1) fun us ws vs zs H2 s2 I2 r rz z => ?_
  rw [hks]
  exact runQ F hr hgu tk I2 r rz z
/-! ### methods by shapes -/
def fewQ (o : Expr) (args : List Expr) (kws : List Keyword) (apos pos : Pos) : Bool := notCall o && (args.all notStar && (kws.all kwOk && ((apos.endLine == pos.line) && decide (args.length + kws.length < 29))))
theorem methQ_form {o : Expr} {m : Str} {args : List Expr} (h : fewQ o args kws apos pos = true) : eval (.Call (.Attribute o m apos) args kws pos) X.env = (do
      let ov ← eval o X.env
      standAt apos.atName
      let (f, first) ← holding [ov] (getMethod ov m (plainOf o X.env))
      callWith pos f first (backTo pos (starEach args X.env)) (backToKw pos (keywordEach kws X.env))) := by
  unfold fewQ at h
  simp only [Bool.and_eq_true] at h
  obtain ⟨h1, h2, hk, h3, h4⟩ := h
  rw [arm_eval_Call, base_of h1]
  congr 1
  funext ov
  congr 1
  funext _
  refine mcall_line ?_ h3
  unfold methodCallForm
  have s := star_plain (pos := pos) (env := X.env) h2
  have s2 : (backTo pos (starEach args X.env)).all (fun x => !x.1) = true := by
    rw [List.all_eq_true]
    intro x hx
    cases q : x.1 with
    | false => rfl
    | true => exact absurd (List.any_eq_true.mpr ⟨x, hx, q⟩) (by rw [s]; exact Bool.false_ne_true)
  have s3 := (kw_all (pos := pos) (env := X.env) hk).1
  rw [s2, s3]
  have h5 := of_decide_eq_true h4
  show (true && true && decide (args.length + kws.length + (if (backToKw pos (keywordEach kws X.env)).isEmpty = true then 0 else 1) < 30)) = true
  simp
  split <;> omega
abbrev MTabQ := Str → Str → Nat → List Str → Option (List Bool × Ev × Option Nat × Shp)
def insQ (tab : MTabQ) (m : Str) (n : Nat) (ks : List Str) : D → Option (List Bool × Ev × Option Nat × Shp)
  | .ins c fs => if (fsGet fs m).isNone then tab c m n ks else none
  | _ => none
def methQ (tab : MTabQ) (m : Str) (ks : List Str) (fo : M Val) (fs gs : List (M Val)) : M Val := bnd fo fun v => bnd (pend v) fun w => bnd (der w) fun d => bnd (opt (insQ tab m fs.length ks d)) fun p => bnd (argsN fs) fun vals => bnd (argsN gs) fun wals => goQ p.1 p.2.1 p.2.2.1 p.2.2.2 (w :: vals) wals
structure MOkQ (X : Cx) (tab : MTabQ) : Prop where
  go : ∀ c m n ks bs ev st q, tab c m n ks = some (bs, ev, st, q) → q.ks = ks ∧ Cls X.K (He.ga X.K c) ∧ ∃ (f : Addr) (k np : Nat), Meth X.K (He.ga X.K c) m f ∧ FnQ X.prog X.w X.K X.mg X.base k f np ev st q ∧ Room k X.A ∧ ∀ ss, ev ss ≠ .err → ss.length = np
theorem se_mtQ {tab : MTabQ} {o : Expr} {m : Str} {fo : M Val} (hM : MOkQ X tab) (hgu : X.A.guards = some []) (tk : Takes X W) (ho : PE X o (tEv X.K W fo)) (h1 : Paired (fun a f => PE X a (tEv X.K W f)) es fs) (h2 : Paired (fun a f => PE X a (tEv X.K W f)) (kws.map (·.value)) gs)
    (hf : fewQ o es kws apos pos = true) : PE X (.Call (.Attribute o m apos) es kws pos) (tEv X.K W (methQ tab m (kws.filterMap (·.arg)) fo fs gs)) := by
  have hf' := hf
  unfold fewQ at hf'
  simp only [Bool.and_eq_true] at hf'
  obtain ⟨f1, f2, f3, f4, f5⟩ := hf'
  constructor
  intro pins s σ H Q I h
  obtain ⟨pn, A, e, G, R, g, oc⟩ := h
  refine PySem.W.methodCall_KW (pl := plainOf o X.env) (thn (ho.run pins s σ H (fun x H1 => ∃ (C f a dx : Addr) (vs : List (Str × V)) (k np : Nat) (ev : Ev) (st : Option Nat) (q : Shp), x = .ref a ∧ H1 a = some (.ins C dx vs) ∧ vs.lookup m = none ∧ Cls X.K C ∧ Meth X.K C m f ∧ FnQ X.prog X.w X.K X.mg X.base k f np ev st q ∧ Room k X.A ∧ q.ks = kws.filterMap (·.arg) ∧
    tAK 0 fs gs X.K W σ H1 fun vs zs H2 => spQ X.K np ev st q (x :: vs) zs H2 Q fun cls d H3 => W cls d σ H3) I (chain g oc fun x v A1 e1 G1 H1 x1 g1 r1 oc1 => ?_)) fun u s1 b => ?_) (methQ_form hf)
  · obtain ⟨w, G2, x2, g2, r2, oc2⟩ := oc_pend g1 r1 oc1
    obtain ⟨d, rd, oc3⟩ := oc_derP g2 r2 oc2
    obtain ⟨pr, hp, oc4⟩ := oc_opt oc3
    obtain ⟨bs, ev, st, q⟩ := pr
    cases d with
    | ins c fs' =>
      have hp' : (if (fsGet fs' m).isNone then tab c m fs.length (kws.filterMap (·.arg)) else none) = some (bs, ev, st, q) := hp
      split at hp'
      · rename_i hn
        obtain ⟨hq, hc, f, k, np, hm, F, hr, hl⟩ := hM.go c m _ _ bs ev st q hp'
        obtain ⟨a, dx, vs, rfl, ha, hs, _⟩ := rd_ins rd
        have z := hs m
        have zn : vs.lookup m = none := by
          rw [Option.isNone_iff_eq_none.mp hn] at z
          cases q : vs.lookup m with
          | none => rfl
          | some _ => rw [q] at z; cases z
        refine ⟨_, f, a, dx, vs, k, np, ev, st, q, rfl, ha, zn, hc, hm, F, hr, hq, tAK_of g2 oc4 fun vs zs vals wals A5 e5 G5 H5 x5 g5 r5 rz5 oc5 => ?_⟩
        exact goQ_sp hl g5 (.cons (r2.mono x5) r5) rz5 oc5
      · cases hp'
    | _ => cases hp
  · obtain ⟨x, H1, I1, rx, C, f, a, dx, vs, k, np, ev, st, q, rfl, ea, l, c, hm, F, hr, hq, z⟩ := b
    obtain rfl : u = Value.ref a := rx
    refine getmeth_ok I1 ea c hm l ?_
    refine cwQ (first := [.ref a]) hm.kp h1 h2 f2 f3 I1 z fun us ws vs zs H2 s2 I2 r rz z2 => ?_
    rw [← hq]
    exact runQ (us := .ref a :: us) (vs := .ref a :: vs) F hr hgu tk I2 (.cons rfl r) rz z2
/-! ### constructors by shapes -/
def Src.up : Src → Src
  | .ps i => .ps (i + 1)
  | s => s
/-- the new instance comes first -/
def Shp.self (q : Shp) : Shp := { q with n := q.n + 1, srcs := .ps 0 :: q.srcs.map Src.up }
def upS : Option Nat → Option Nat
  | some i => some (i + 1)
  | none => none
def mkQC (c : Str) (bs : List Bool) (ev : Ev) (st : Option Nat) (q : Shp) (fs gs : List (M Val)) : M Val := bnd (argsN fs) fun vs => bnd (argsN gs) fun zs => bnd (parC st q vs zs) fun vals => bnd (frzL bs vals) fun vals1 => mkV c ev vals1
theorem up_map {x : V} {vs zs : List V} : ∀ l : List Src, (l.map Src.up).map (srcV (x :: vs) zs) = l.map (srcV vs zs)
  | [] => rfl
  | .ps i :: r => by rw [List.map_cons, List.map_cons, List.map_cons, up_map r]; rfl
  | .kw i :: r => by rw [List.map_cons, List.map_cons, List.map_cons, up_map r]; rfl
  | .df i d :: r => by rw [List.map_cons, List.map_cons, List.map_cons, up_map r]; rfl
theorem spK_self {K : PySem.W.Frag} {x : V} {vs zs : List V} {H : Hp} {Q : VK} {E : XK} (l1 : vs.length = q.n) (l2 : zs.length = q.ks.length) (h : spG K np ev (x :: q.srcs.map (srcV vs zs)) H Q E) : spK K np ev q.self (x :: vs) zs H Q E :=
  ⟨congrArg Nat.succ l1, l2, by show spG K np ev (x :: (q.srcs.map Src.up).map (srcV (x :: vs) zs)) H Q E; rw [up_map]; exact h⟩
theorem runMkQ {pins : List (Addr × Obj)} {σ : L2.St} {H : Hp} {s : Shared} {Q : VK} {C : Addr} {us ws : List Value} {vs zs : List V} (M : Mk X.K C f) (F : FnQ X.prog X.w X.K X.mg X.base k f np ev st q) (hr : Room (k + 1) X.A) (hgu : X.A.guards = some []) (tk : Takes X W)
    (I : Inv X pins σ H s) (r : Vals vs us) (rz : Vals zs ws) (h : ∀ x dx, H x = none → H dx = none → dx ≠ x → spQ X.K np ev st q (.ref x :: vs) zs (upd (upd H dx (.own x)) x (.ins C dx [])) (fun v H2 => v = .non ∧ Q (.ref x) H2) fun cls d H2 => W cls d σ H2) :
    wpAny (model X.prog X.w) X.A (call (.ref C) us (q.ks.zip ws)) (EP X pins σ Q) X.xe s := by
  let n := s.heap.objs.size
  have hq := h (n + 1) n (I.hok.fresh (Nat.le_succ _)) (I.hok.fresh (Nat.le_refl _)) (Nat.ne_of_lt (Nat.lt_succ_self _))
  have J := Inv.made (C := C) I
  have rr : Vals (V.ref (n + 1) :: vs) (Value.ref (n + 1) :: us) := .cons rfl r
  refine wpAny_call (make_map (f := f) I.kIn M.makes M.init (beq_iff_eq.mp M.fn) (codeAny_mono (F.go _ X.stack _ _ (Value.ref (n + 1) :: us) ws _ zs _ _ (hr.make C us (q.ks.zip ws)) hgu (J.env0.make C us (q.ks.zip ws)) rr rz hq) fun res s' h' => ?_))
  cases res with
  | error e => exact tk _ _ (XE.of_call J (fun _ _ _ h => h) h')
  | ok fl =>
    cases fl with
    | ret u =>
      obtain ⟨v, H', I3, rv, q3⟩ := J.after h'
      obtain ⟨e1, q3⟩ := q3
      subst e1
      exact ⟨rv, V.ref (n + 1), H', I3, rfl, q3⟩
    | next => exact False.elim h'
    | brk => exact False.elim h'
    | cont => exact False.elim h'
theorem mkQ_sp {c : Str} {vs zs : List V} {vals wals : List Val} {pn : Pn} {A : LA} {e : En} {σ : L2.St} {G R H : Hp} {Q : VK} {K : PySem.W.Frag} {x dx : Addr} (hl : ∀ ss, ev ss ≠ .err → ss.length = np) (g : RelG K pn A e σ G R H) (r : PnVs K G σ vs vals) (rz : PnVs K G σ zs wals) (hx : H x = none) (hdx : H dx = none) (hne : dx ≠ x)
    (oc : OcV K W (rvE K) pn σ R Q G (bnd (parC st q vals wals) (fun vals => bnd (frzL bs vals) fun vals1 => mkV c ev vals1) e)) : spQ K np ev (upS st) q.self (.ref x :: vs) zs (upd (upd H dx (.own x)) x (.ins (He.ga K c) dx [])) (fun v H2 => v = .non ∧ Q (.ref x) H2) fun cls d H2 => W cls d σ H2 := by
  have z := parC_ok g r rz oc
  cases st with
  | none =>
    obtain ⟨l1, l2, r', p', oc1⟩ := z
    obtain ⟨r2, A2, e2, G2, x2, g2, p2, oc2⟩ := oc_frzL g p' oc1
    exact spK_self l1 l2 (mkV_sp hl g2 p2 hx hdx hne oc2)
  | some i =>
    obtain ⟨l1, l2, h⟩ := z
    refine ⟨Nat.succ_le_succ l1, l2, fun p hp => ?_⟩
    have hp0 : H p = none ∧ p ≠ x ∧ p ≠ dx := by
      by_cases e1 : p = x
      · subst e1; rw [upd_same] at hp; cases hp
      · rw [upd_ne e1] at hp
        by_cases e2 : p = dx
        · subst e2; rw [upd_same] at hp; cases hp
        · rw [upd_ne e2] at hp; exact ⟨hp, e1, e2⟩
    obtain ⟨l3, l4, r', A1, e1, G1, x1, g1, p1, oc1⟩ := h p hp0.1
    obtain ⟨r2, A2, e2, G2, x2, g2, p2, oc2⟩ := oc_frzL g1 p1 oc1
    have z2 := mkV_sp (x := x) (dx := dx) hl g2 p2 (by rw [upd_ne (Ne.symm hp0.2.1)]; exact hx) (by rw [upd_ne (Ne.symm hp0.2.2)]; exact hdx) hne oc2
    have eH : upd (upd (upd H p (.tup (vs.drop i))) dx (.own x)) x (.ins (He.ga K c) dx []) = upd (upd (upd H dx (.own x)) x (.ins (He.ga K c) dx [])) p (.tup (vs.drop i)) := by
      funext b
      unfold upd
      by_cases b1 : b = x
      · subst b1; rw [if_pos rfl, if_neg (Ne.symm hp0.2.1), if_pos rfl]
      · by_cases b2 : b = dx
        · subst b2; rw [if_neg b1, if_pos rfl, if_neg (Ne.symm hp0.2.2), if_neg b1, if_pos rfl]
        · by_cases b3 : b = p
          · subst b3; rw [if_neg b1, if_neg b2, if_pos rfl, if_pos rfl]
          · rw [if_neg b1, if_neg b2, if_neg b3, if_neg b3, if_neg b1, if_neg b2]
    rw [eH] at z2
    exact spK_self (q := q) (vs := vs.take i ++ [V.ref p]) l3 l4 z2
theorem se_mkQ {c x : Str} (M : Mk X.K (He.ga X.K c) f) (F : FnQ X.prog X.w X.K X.mg X.base k f np ev (upS st) q.self) (hr : Room (k + 1) X.A) (hgu : X.A.guards = some []) (tk : Takes X W) (hg : Gl X x) (hm : X.mg x = some (.ref (He.ga X.K c))) (hl : ∀ ss, ev ss ≠ .err → ss.length = np)
    (hdb : (x == ("__debug__" : Str)) = false) (hs : es.all notStar = true) (hkn : kws.all kwOk = true) (hks : kws.filterMap (·.arg) = q.ks) (h1 : Paired (fun a f => PE X a (tEv X.K W f)) es fs) (h2 : Paired (fun a f => PE X a (tEv X.K W f)) (kws.map (·.value)) gs) :
    PE X (.Call (.Name x p) es kws pos) (tEv X.K W (mkQC c bs ev st q fs gs)) := by
  constructor
  intro pins s σ H Q I h
  apply wpAny_Call_Name_kw
  apply ld_glob I hg hm _ hdb
  obtain ⟨pn, A, e, G, R, g, oc⟩ := h
  refine cwQ (first := []) (Z := fun vs zs H2 => ∀ x dx, H2 x = none → H2 dx = none → dx ≠ x → spQ X.K np ev (upS st) q.self (.ref x :: vs) zs (upd (upd H2 dx (.own x)) x (.ins (He.ga X.K c) dx [])) (fun v H2 => v = .non ∧ Q (.ref x) H2) fun cls d H2 => W cls d σ H2) M.kp h1 h2 hs hkn I
    (tAK_of g oc fun vs zs vals wals A1 e1 G1 H1 x1 g1 r1 rz1 oc1 => fun x dx a1 a2 a3 => mkQ_sp hl g1 r1 rz1 a1 a2 a3 oc1) fun us ws vs zs H2 s2 I2 r rz z => ?_
  rw [hks]
  exact runMkQ (q := q.self) M F hr hgu tk I2 r rz z
end
end Qv
namespace Qv
open PySem L2 PySem.Spec PyProof.Rows ClX
open Evl (Ex)

/-! ### ==, !=, in by a class's own methods; isinstance with own classes; str(x) -/
/-- a type's name -/
inductive TyN where
  | bt (n : String) | ow (c : Str)
deriving DecidableEq
def TyN.val (K : PySem.W.Frag) : TyN → Value
  | .bt n => .type n
  | .ow c => .ref (He.ga K c)
def tyN : D → Option TyN
  | .ins c _ => some (.ow c)
  | d => (tyD d).map .bt
/-- what isinstance asks of an instance's class -/
structure InsC (K : PySem.W.Frag) (C : Addr) : Prop where
  cl : Cls K C
  ca : PySem.W.findIn K (.ref C) "__class__" = some (some (.builtin "object.__class__"))
  cn : PySem.W.specialIn K (.builtin "object.__class__") "__get__" = some (some (.builtin "getset_descriptor.__get__"))
  ct : PySem.W.takesIn K (.builtin "object.__class__") = some true
  cm : PySem.W.mroIn K C (.type "object") = some true
/-- its own ==, and object's != -/
structure NeC (K : PySem.W.Frag) (C : Addr) : Prop where
  ne : PySem.W.findIn K (.ref C) "__ne__" = some (some (.builtin "object.__ne__"))
  cm : PySem.W.mroIn K C (.type "object") = some true
structure Du where
  ic : Str → Bool := fun _ => false
  nf : Str → TyN → Bool := fun _ _ => false
  ne : Str → Bool := fun _ => false
  is : TyN → TyN → Option Bool := fun _ _ => none
structure DuOk (K : PySem.W.Frag) (du : Du) : Prop where
  ic : ∀ c, du.ic c = true → InsC K (He.ga K c)
  nf : ∀ c t, du.nf c t = true → PySem.W.notFirst K (He.ga K c) (t.val K) = true
  ne : ∀ c, du.ne c = true → NeC K (He.ga K c)
  is : ∀ t u b, du.is t u = some b → PySem.W.kitOne K (t.val K) (u.val K) = some b
def tyOk (du : Du) : TyN → Bool
  | .bt _ => true
  | .ow c => du.ic c
theorem tyN_ok {K : PySem.W.Frag} {du : Du} (hd : DuOk K du) {G H : Hp} {v : V} {d : D} {t : TyN} (x : Ex G H) (h : RdV K G H v d) (q : tyN d = some t) (ok : tyOk du t = true) : TyX K H v (t.val K) := by
  have base : ∀ d : D, RdV K G H v d → (tyD d).map .bt = some t → TyX K H v (t.val K) := fun d h q => by
    obtain ⟨n, h1, rfl⟩ := Option.map_eq_some_iff.mp q
    exact tyX_of x h h1
  cases d with
  | ins c fs =>
    cases q
    obtain ⟨a, dx, vs, rfl, h1, _⟩ := rd_ins h
    have z := hd.ic c ok
    exact .base (.ins h1 z.cl z.ca z.cn z.ct z.cm)
  | _ => exact base _ h q

/-! ### != by the own == -/
section
variable {prog : Program} {w : World} {A : Around} {E : Value → Shared → Prop} {s : Shared} {K : PySem.W.Frag} {x C L f : Addr} {h₀ : Heap} {m : Str → Option Value} {ox : Obj} {od : Option Obj} {b tb : Value}
theorem bound_blt {M : Model} {name : Str} {id : String} {args : List Value} {Q : Option Value → Shared → Prop} (X : K.In s.heap) (I : PySem.W.InstAt s.heap x ox C od) (hs : PySem.W.findIn K (.ref C) name = some (some (.builtin id))) (hb : ∀ self, bindSpecial (.builtin id) self = pure (.builtin id, [self]))
    (h : wpAny M A (call (.builtin id) (.ref x :: args)) (fun v => Q (some v)) E s) : wpAny M A (callSpecialIfBound? (.ref x) name args) Q E s := by
  simp only [callSpecialIfBound?, bindSpecialIfBound?]
  refine wpAny_holding (wpAny_bind (wpAny_bind (wpAny_bind (I.type.here ((PySem.W.looks_findIn X hs).here ?_)))))
  refine wpAny_bind (wpAny_askSetting (wpAny_ite ?_))
  have last : wpAny M A (call (.builtin id) ([.ref x] ++ args) >>= fun v => pure (some v)) Q E s := wpAny_bind (wpAny_mono h (fun v s' z => wpAny_pure z) fun _ _ z => z)
  split
  · exact wpAny_bind ((PySem.W.Looks.of_pure (hb _)).here (wpAny_pure (by exact last)))
  · exact wpAny_tryCatch (wpAny_bind ((PySem.W.Looks.of_pure (hb _)).here (wpAny_pure (by exact last))))
theorem ne_entry (hu : A.units < cLine) (X : K.In s.heap) (I : PySem.W.InstAt s.heap x ox C od) (hs : PySem.W.findIn K (.ref C) "__eq__" = some (some (.ref f))) (hf : PySem.W.isFn K (.ref f) = true) {Q : Fin → Shared → Prop}
    (h : wpAny (model prog w) A (call (.ref f) [.ref x, b]) (fun v s' => ∃ r, v = .bool r ∧ Q (.done (.ret (.bool (!r)))) s') E s) : wpAny (model prog w) A (Builtin.«object.__ne__» ⟨[.ref x, b], []⟩) Q E s := by
  unfold Builtin.«object.__ne__»
  repeat (first
    | with_reducible refine wpAny_cRoomFor hu ?_
    | (refine wpAny_bind (m := callSpecialIfBound? (.ref x) (Str.ofString "__eq__") [b]) (PySem.W.ifBound_K X I hs hf (wpAny_mono h (fun r s' hr => by
        obtain ⟨r, rfl, hq⟩ := hr
        repeat (first | exact hq | exact wpAny_pure hq | exact wpAny_truthy_bool hq | (refine wpAny_bind (m := truthy (.bool _)) (wpAny_truthy_bool ?_)) | wp_step)) fun _ _ z => z)))
    | wp_step)
theorem ne_K {Q : Value → Shared → Prop} (hu : A.units + 1 < cLine) (F : Fr h₀ L s.heap m) (X₀ : K.In h₀) (I : PySem.W.InstAt s.heap x ox C od) (hb : PySem.W.Looks (model prog w) s.heap (typeOf b) tb) (hn : PySem.W.notFirst K C tb = true)
    (hs : PySem.W.findIn K (.ref C) "__eq__" = some (some (.ref f))) (hf : PySem.W.isFn K (.ref f) = true) (n : NeC K C)
    (h : wpAny (model prog w) A.in1 (call (.ref f) [.ref x, b]) (fun v s' => ∃ r, v = .bool r ∧ Q (.bool (!r)) s') E s) : wpAny (model prog w) A (richCompare .NotEq (.ref x) b) Q E s := by
  have X := X₀.keeps F.keep
  have one : wpAny (model prog w) A (tryCompare (.ref x) "__ne__" b) (fun r s' => ∃ v, r = some v ∧ Q v s') E s := by
    unfold tryCompare
    refine wpAny_bind (bound_blt X I n.ne PySem.F.cmp_object.ne.bind (wpAny_call (codeAny_call_builtin PySem.F.cmp_object.ne.plain PySem.F.cmpEntry_ne
      (PySem.W.check_slot (i := "object.__ne__") (owner := "object") (n := "__ne__") PySem.F.cmpKind_ne PySem.F.cmpSplit_ne (I.type.andThen (PySem.W.looks_mroIn X n.cm)) (PySem.F.cmpArgs_ne _ _) (ne_entry (A := A.in1) hu X I hs hf (wpAny_mono h (fun v s' z => ?_) fun _ _ z => z))))))
    obtain ⟨r, rfl, hq⟩ := z
    exact ⟨r, rfl, wpAny_pure ⟨_, rfl, hq⟩⟩
  unfold richCompare
  simp only [oneThing_ref]
  refine wpAny_holding (wpAny_bind (wpAny_cRoomFor (Nat.lt_of_succ_lt hu) ?_))
  refine wpAny_bind (I.type.here (wpAny_bind (hb.here ?_)))
  split
  · rename_i q
    have e : PySem.W.subIn K tb (.ref C) = some false := by
      rcases Bool.or_eq_true_iff.mp hn with e | e
      · rw [beq_iff_eq.mp e] at q; simp at q
      · exact beq_iff_eq.mp e
    refine wpAny_bind ((PySem.W.looks_subIn X e).here ?_)
    simp only [Bool.false_eq_true, if_false]
    refine wpAny_bind (wpAny_mono one (fun r s' z => ?_) fun _ _ z => z)
    obtain ⟨v, rfl, hq⟩ := z
    exact wpAny_pure hq
  · refine wpAny_bind (wpAny_pure ?_)
    simp only [Bool.false_eq_true, if_false]
    refine wpAny_bind (wpAny_mono one (fun r s' z => ?_) fun _ _ z => z)
    obtain ⟨v, rfl, hq⟩ := z
    exact wpAny_pure hq
end

/-! ### the operator -/
def dnFin (ng : Bool) (r : Val) : M Val := bnd (asBl r) fun b => ret (.sh (.bl (b != ng)))
def dnIn (tab : MTab) (ng : Bool) (wa vb : Val) (d : D) : M Val := bnd (pend vb) fun wb => bnd (opt (insM tab "__contains__" d)) fun p => bnd (frzL p.1 [wb, wa]) fun vals => bnd (goV p.2 vals) (dnFin ng)
def dnOk (du : Du) (ng : Bool) (c : Str) (d : D) : Option Unit := match tyN d with
  | some t => if du.nf c t = true ∧ tyOk du t = true ∧ (ng = true → du.ne c = true) then some () else none
  | none => none
def dnEq (tab : MTab) (du : Du) (ng : Bool) (wa vb : Val) (c : Str) (fs : List (Str × D)) (d : D) : M Val := bnd (opt (dnOk du ng c d)) fun _ => bnd (pend vb) fun wb => bnd (opt (insM tab "__eq__" (.ins c fs))) fun p => bnd (frzL p.1 [wa, wb]) fun vals => bnd (goV p.2 vals) (dnFin ng)
def dnOp (tab : MTab) (du : Du) (wa vb : Val) : CmpOp → D → D → M Val
  | .In, da, db => match db with
    | .ins c fs => dnIn tab false wa vb (.ins c fs)
    | db => opt (inD false da db)
  | .NotIn, da, db => match db with
    | .ins c fs => dnIn tab true wa vb (.ins c fs)
    | db => opt (inD true da db)
  | .Eq, da, db => match da with
    | .ins c fs => dnEq tab du false wa vb c fs db
    | da => opt (eqD da db)
  | .NotEq, da, db => match da with
    | .ins c fs => dnEq tab du true wa vb c fs db
    | da => opt (neD da db)
  | op, da, db => opt (cmpOf op da db)
def opC (tab : MTab) (du : Du) (op : CmpOp) (fa fb : M Val) : M Val := bnd fa fun va => bnd (pend va) fun wa => bnd fb fun vb => bnd (der wa) fun da => bnd (der vb) fun db => dnOp tab du wa vb op da db
/-- what the rule is of the values -/
def InR (X : Cx) (W : WX) (σ : L2.St) (x y : V) (H : Hp) (R : Bool → Hp → Prop) : Prop := ∃ (C f a dx : Addr) (fs : List (Str × V)) (k : Nat) (fd : FuncData) (ps : List Str) (ev : Ev), y = .ref a ∧ H a = some (.ins C dx fs) ∧ Meth X.K C "__contains__" f ∧ FnG X.prog X.w X.K X.mg X.base k f fd ps ev ∧ Room (k + 1) X.A ∧ Binds X.K fd ps [] ∧
  spG X.K ps.length ev [y, x] H (fun v H' => ∃ b, v = .bl b ∧ R b H') fun cls d H' => W cls d σ H'
def EqR (X : Cx) (W : WX) (σ : L2.St) (ng : Bool) (x y : V) (H : Hp) (R : Bool → Hp → Prop) : Prop := ∃ (C f a dx : Addr) (fs : List (Str × V)) (k : Nat) (fd : FuncData) (ps : List Str) (ev : Ev) (t : Value), x = .ref a ∧ H a = some (.ins C dx fs) ∧ Meth X.K C "__eq__" f ∧ FnG X.prog X.w X.K X.mg X.base k f fd ps ev ∧ Room (k + 1) X.A ∧ Binds X.K fd ps [] ∧
  TyX X.K H y t ∧ PySem.W.notFirst X.K C t = true ∧ (ng = true → NeC X.K C) ∧ spG X.K ps.length ev [x, y] H (fun v H' => ∃ b, v = .bl b ∧ R b H') fun cls d H' => W cls d σ H'
def DnR (X : Cx) (W : WX) (σ : L2.St) (op : CmpOp) (r : R2) (x y : V) (H : Hp) (Q : VK) : Prop := match op with
  | .In => r x y H Q ∨ InR X W σ x y H fun b H' => Q (.bl b) H'
  | .NotIn => r x y H Q ∨ InR X W σ x y H fun b H' => Q (.bl (!b)) H'
  | .Eq => r x y H Q ∨ EqR X W σ false x y H fun b H' => Q (.bl b) H'
  | .NotEq => r x y H Q ∨ EqR X W σ true x y H fun b H' => Q (.bl (!b)) H'
  | _ => r x y H Q
section
variable {X : Cx} {W : WX} {pos : Pos}
theorem runA {k : Nat} {f : Addr} {fd : FuncData} {ps : List Str} {ev : Ev} {A : Around} {pins : List (Addr × Obj)} {σ : L2.St} {H : Hp} {s : Shared} {Q : VK} {us : List Value} {vs : List V} (F : FnG X.prog X.w X.K X.mg X.base k f fd ps ev) (hr : Room k A) (hgu : A.guards = some []) (hb : Binds X.K fd ps []) (tk : Takes X W)
    (e0 : Env0 X.prog X.w X.K X.mg X.base A X.stack s H) (I : Inv X pins σ H s) (r : Vals vs us) (h : spG X.K ps.length ev vs H Q fun cls d H2 => W cls d σ H2) : wpAny (model X.prog X.w) A (call (.ref f) us) (EP X pins σ Q) X.xe s := by
  have lu : (us ++ []).length = ps.length := by rw [List.append_nil, ← r.length]; exact h.1
  have bt := hb s us I.kIn lu
  rw [List.append_nil] at bt
  refine wpAny_call (codeAny_mono (F.go A X.stack s H ⟨us, []⟩ us vs Q _ hr hgu e0 bt r h) fun res s' hq => ?_)
  cases res with
  | error e => exact tk _ _ (XE.of_call I (fun _ _ _ h => h) hq)
  | ok fl =>
    cases fl with
    | ret u => exact I.after hq
    | next => exact False.elim hq
    | brk => exact False.elim hq
    | cont => exact False.elim hq
theorem rel_bl {b : Bool} {u : Value} (h : RelV (.bl b) u) : u = .bool b := h
theorem dn_run {op : CmpOp} {r : R2} (hgu : X.A.guards = some []) (tk : Takes X W) (ho : OpR X (compareOp op) r) {pins : List (Addr × Obj)} {s : Shared} {σ : L2.St} {H : Hp} {x y : V} {v u : Value} {Q : VK} (I : Inv X pins σ H s) (rx : RelV x v) (ry : RelV y u) (h : DnR X W σ op r x y H Q) :
    wpAny (model X.prog X.w) X.A (compareOp op v u) (EP X pins σ Q) X.xe s := by
  have hin : ∀ R : Bool → Hp → Prop, InR X W σ x y H R → ∃ a ox od C f, u = .ref a ∧ PySem.W.InstAt s.heap a ox C od ∧ PySem.W.findIn X.K (.ref C) "__contains__" = some (some (.ref f)) ∧ PySem.W.isFn X.K (.ref f) = true ∧ wpAny (model X.prog X.w) X.A (call (.ref f) [.ref a, v]) (EP X pins σ fun v H' => ∃ b, v = .bl b ∧ R b H') X.xe s := fun R ⟨C, f, a, dx, fs, k, fd, ps, ev, ey, ea, hm, F, hr, hb, sp⟩ => by
    subst ey
    obtain rfl : u = Value.ref a := ry
    obtain ⟨mA, O, _, _, _, _⟩ := ins_get I.hok ea
    obtain ⟨od, J, _⟩ := O.look
    exact ⟨a, _, _, C, f, rfl, J, hm.at_, hm.fn, runA (us := [.ref a, v]) (vs := [.ref a, x]) F (hr.mono (Nat.le_succ k)) hgu hb tk I.env0 I (.cons rfl (.cons rx .nil)) sp⟩
  obtain ⟨mm, hF⟩ := I.fr
  cases op with
  | In =>
    rcases h with h | h
    · exact ho pins s σ H x y v u Q I rx ry h
    · obtain ⟨a, ox, od, C, f, rfl, J, h1, h2, h3⟩ := hin _ h
      refine PySem.W.in_K hF I.ok.mod.kin J h1 h2 (wpAny_mono h3 (fun w s' z => ?_) fun _ _ z => z)
      obtain ⟨z, H', I', rz, b, rfl, q⟩ := z
      rw [rel_bl rz]
      exact wpAny_truthy_bool ⟨.bl b, H', I', rfl, q⟩
  | NotIn =>
    rcases h with h | h
    · exact ho pins s σ H x y v u Q I rx ry h
    · obtain ⟨a, ox, od, C, f, rfl, J, h1, h2, h3⟩ := hin _ h
      refine PySem.W.notIn_K hF I.ok.mod.kin J h1 h2 (wpAny_mono h3 (fun w s' z => ?_) fun _ _ z => z)
      obtain ⟨z, H', I', rz, b, rfl, q⟩ := z
      rw [rel_bl rz]
      exact wpAny_truthy_bool ⟨.bl (!b), H', I', rfl, q⟩
  | Eq =>
    rcases h with h | ⟨C, f, a, dx, fs, k, fd, ps, ev, t, rfl, ea, hm, F, hr, hb, ty, hn, _, sp⟩
    · exact ho pins s σ H x y v u Q I rx ry h
    · obtain rfl : v = Value.ref a := rx
      obtain ⟨mA, O, _, _, _, _⟩ := ins_get I.hok ea
      obtain ⟨od, J, _⟩ := O.look
      obtain ⟨P, Z, pz, _⟩ := kit_of I ry ty
      refine PySem.W.cmp_K (op := .Eq) hr.units0 hF I.ok.mod.kin J (Z.ty _ _ I.kIn pz) hn hm.at_ hm.fn (wpAny_mono (runA (us := [.ref a, u]) (vs := [.ref a, y]) F (hr.mono (Nat.le_succ k)) hgu hb tk I.env0 I (.cons rfl (.cons ry .nil)) sp) (fun w s' z => ?_) fun _ _ z => z)
      obtain ⟨z, H', I', rz, b, rfl, q⟩ := z
      rw [rel_bl rz]
      exact ⟨.bl b, H', I', rfl, q⟩
  | NotEq =>
    rcases h with h | ⟨C, f, a, dx, fs, k, fd, ps, ev, t, rfl, ea, hm, F, hr, hb, ty, hn, ne, sp⟩
    · exact ho pins s σ H x y v u Q I rx ry h
    · obtain rfl : v = Value.ref a := rx
      obtain ⟨mA, O, _, _, _, _⟩ := ins_get I.hok ea
      obtain ⟨od, J, _⟩ := O.look
      obtain ⟨P, Z, pz, _⟩ := kit_of I ry ty
      refine ne_K (by have := hr.un; omega) hF I.ok.mod.kin J (Z.ty _ _ I.kIn pz) hn hm.at_ hm.fn (ne rfl) (wpAny_mono (runA (A := X.A.in1) (us := [.ref a, u]) (vs := [.ref a, y]) F hr.in1 hgu hb tk I.env0.in1 I (.cons rfl (.cons ry .nil)) sp) (fun w s' z => ?_) fun _ _ z => z)
      obtain ⟨z, H', I', rz, b, rfl, q⟩ := z
      rw [rel_bl rz]
      exact ⟨b, rfl, .bl (!b), H', I', rfl, q⟩
  | _ => exact ho pins s σ H x y v u Q I rx ry h
theorem dnFin_ok {pn : Pn} {A : LA} {e : En} {σ : L2.St} {G R H : Hp} {Q : VK} {ev : Ev} {vals : List Val} {ng : Bool} {np : Nat} {vs : List V} (hl : ∀ ss, ev ss ≠ .err → ss.length = np) (g : RelG X.K pn A e σ G R H) (p : PnVs X.K G σ vs vals) (oc : OcV X.K W (rvE X.K) pn σ R Q G (bnd (goV ev vals) (dnFin ng) e)) :
    spG X.K np ev vs H (fun v H' => ∃ b, v = .bl b ∧ Q (.bl (b != ng)) H') fun cls d H' => W cls d σ H' := by
  refine go_sp hl g p ?_
  unfold bnd at oc
  unfold OcV
  cases hg : goV ev vals e with
  | err => rw [hg] at oc; exact oc
  | ex x e' => rw [hg] at oc; exact oc
  | ok pr =>
    obtain ⟨r, e'⟩ := pr
    rw [hg] at oc
    intro b A' G' H' x' g' rb
    have oc2 : OcV X.K W (rvE X.K) pn σ R Q G (bnd (asBl r) (fun b => ret (.sh (.bl (b != ng)))) e') := oc
    obtain ⟨k, rfl, oc3⟩ := oc_asBl oc2
    have rb' : Rep X.K G' b (.bl k) := rb
    cases rb'
    exact ⟨k, rfl, oc_ret (rv := rvE X.K) oc3 (.bl (k != ng)) A' G' H' x' g' (.bl _)⟩
theorem ins_none {K : PySem.W.Frag} {fs : List (Str × D)} {vs : List (Str × V)} {m : Str} (hs : (vs.lookup m).isSome = (fsGet fs m).isSome) (hn : (fsGet fs m).isNone = true) : vs.lookup m = none := by
  rw [Option.isNone_iff_eq_none.mp hn] at hs
  cases q : vs.lookup m with
  | none => rfl
  | some _ => rw [q] at hs; cases hs
theorem tdn {tab : MTab} {du : Du} {op : CmpOp} {r : R2} {fa fb : M Val} (hM : MOk X tab) (hd : DuOk X.K du) (hr : ROK X.K r (cmpOf op)) {σ : L2.St} {H : Hp} {Q : VK} (h : tEv X.K W (opC tab du op fa fb) σ H Q) : tEv X.K W fa σ H fun x H1 => tEv X.K W fb σ H1 fun y H2 => DnR X W σ op r x y H2 Q := by
  obtain ⟨pn, A, e, G, R, g0, oc⟩ := h
  refine chain g0 oc fun x va A1 e1 G1 H1 x1 g1 r1 oc1 => ?_
  obtain ⟨wa, G2, x2, g2, r2, oc2⟩ := oc_pend g1 r1 oc1
  refine chain g2 oc2 fun y vb A3 e3 G3 H3 x3 g3 r3 oc3 => ?_
  obtain ⟨da, d1, oc4⟩ := oc_derP g3 (r2.mono x3) oc3
  obtain ⟨db, d2, oc5⟩ := oc_der g3 r3 oc4
  have plain : ∀ (gg : D → D → Option Val), cmpOf op = gg → OcV X.K W (rvE X.K) pn σ R Q G3 (opt (gg da db) e3) → r x y H3 Q := fun gg hg oc => by
    obtain ⟨val, q5, fin⟩ := oc_optE oc
    subst hg
    exact hr pn A3 e3 σ G3 R H3 x y da db val g3 d1 d2 q5 Q fin
  have isIn : ∀ ng, ∀ c fs, db = .ins c fs → OcV X.K W (rvE X.K) pn σ R Q G3 (dnIn tab ng wa vb (.ins c fs) e3) → InR X W σ x y H3 fun b H' => Q (.bl (b != ng)) H' := fun ng c fs hdb oc => by
    subst hdb
    obtain ⟨wb, G5, x5, g5, r5, oc6⟩ := oc_pend g3 r3 oc
    obtain ⟨⟨bs, ev⟩, hp, oc7⟩ := oc_opt oc6
    have hp' : (if (fsGet fs "__contains__").isNone then tab c "__contains__" else none) = some (bs, ev) := hp
    split at hp'
    · obtain ⟨hc, f, k, fd, ps, hm, F, hrm, hb, hl⟩ := hM.go c _ bs ev hp'
      obtain ⟨a, dx, vs, rfl, ha, hs, _⟩ := rd_ins d2
      obtain ⟨vals, A6, e6, G6, x6, g6, p6, oc8⟩ := oc_frzL g5 (.cons r5 (.cons ((r2.mono x3).mono x5) .nil)) oc7
      exact ⟨_, f, a, dx, vs, k, fd, ps, ev, rfl, ha, hm, F, hrm.mono (by omega), hb, dnFin_ok hl g6 p6 oc8⟩
    · cases hp'
  have isEq : ∀ ng, ∀ c fs, da = .ins c fs → OcV X.K W (rvE X.K) pn σ R Q G3 (dnEq tab du ng wa vb c fs db e3) → EqR X W σ ng x y H3 fun b H' => Q (.bl (b != ng)) H' := fun ng c fs hda oc => by
    subst hda
    obtain ⟨_, hok, oc6⟩ := oc_opt oc
    obtain ⟨wb, G5, x5, g5, r5, oc7⟩ := oc_pend g3 r3 oc6
    obtain ⟨⟨bs, ev⟩, hp, oc8⟩ := oc_opt oc7
    have hp' : (if (fsGet fs "__eq__").isNone then tab c "__eq__" else none) = some (bs, ev) := hp
    unfold dnOk at hok
    split at hok
    · rename_i t ht
      split at hok
      · rename_i hcc
        split at hp'
        · obtain ⟨hc, f, k, fd, ps, hm, F, hrm, hb, hl⟩ := hM.go c _ bs ev hp'
          obtain ⟨a, dx, vs, rfl, ha, hs, _⟩ := rd_ins d1
          obtain ⟨vals, A6, e6, G6, x6, g6, p6, oc9⟩ := oc_frzL g5 (.cons ((r2.mono x3).mono x5) (.cons r5 .nil)) oc8
          exact ⟨_, f, a, dx, vs, k, fd, ps, ev, t.val X.K, rfl, ha, hm, F, hrm.mono (by omega), hb, tyN_ok hd g3.gh d2 ht hcc.2.1, hd.nf c t hcc.1, fun z => hd.ne c (hcc.2.2 z), dnFin_ok hl g6 p6 oc9⟩
        · cases hp'
      · cases hok
    · cases hok
  have xf : ∀ b : Bool, (b != false) = b := fun b => by cases b <;> rfl
  have xt : ∀ b : Bool, (b != true) = !b := fun b => by cases b <;> rfl
  cases op with
  | In =>
    cases db with
    | ins c fs => exact .inr (by have z := isIn false c fs rfl oc5; simp only [xf] at z; exact z)
    | _ => exact .inl (plain _ rfl oc5)
  | NotIn =>
    cases db with
    | ins c fs => exact .inr (by have z := isIn true c fs rfl oc5; simp only [xt] at z; exact z)
    | _ => exact .inl (plain _ rfl oc5)
  | Eq =>
    cases da with
    | ins c fs => exact .inr (by have z := isEq false c fs rfl oc5; simp only [xf] at z; exact z)
    | _ => exact .inl (plain _ rfl oc5)
  | NotEq =>
    cases da with
    | ins c fs => exact .inr (by have z := isEq true c fs rfl oc5; simp only [xt] at z; exact z)
    | _ => exact .inl (plain _ rfl oc5)
  | _ => exact plain _ rfl oc5
theorem se_dn {tab : MTab} {du : Du} {op : CmpOp} {r : R2} {a b : Expr} {fa fb : M Val} (hM : MOk X tab) (hd : DuOk X.K du) (hgu : X.A.guards = some []) (tk : Takes X W) (ho : OpR X (compareOp op) r) (hr : ROK X.K r (cmpOf op)) (ha : PE X a (tEv X.K W fa)) (hb : PE X b (tEv X.K W fb)) (hm : behindInMarks op b = false) :
    PE X (.Compare a [op] [b] pos) (tEv X.K W (opC tab du op fa fb)) :=
  ⟨fun pins s σ H Q I h => wpAny_Compare1 (binT ha hb I (tdn hM hd hr h) fun v u s2 x y H2 I2 rx ry q => dn_run hgu tk ho I2 rx ry q) hm⟩
theorem st_dn {tab : MTab} {du : Du} {op : CmpOp} {r : R2} {a b : Expr} {fa fb : M Val} (hM : MOk X tab) (hd : DuOk X.K du) (hgu : X.A.guards = some []) (tk : Takes X W) (ho : OpR X (compareOp op) r) (hr : ROK X.K r (cmpOf op)) (ha : PE X a (tEv X.K W fa)) (hb : PE X b (tEv X.K W fb)) (hm : behindInMarks op b = false) :
    PT X (.Compare a [op] [b] pos) (tTv X.K W (cmpT (opC tab du op fa fb))) := by
  refine ⟨fun pins s σ H Q I h => ?_⟩
  have h2 := tdn hM hd hr (cmp_fin h)
  refine wpAny_isTrue_Compare1 (thn (ha.run pins s σ H _ I h2) fun v s1 ⟨x, H1, I1, r1, q1⟩ => thn (hb.run pins s1 σ H1 _ I1 q1) fun u s2 ⟨y, H2, I2, r2, q2⟩ => thn (dn_run hgu tk ho I2 r1 r2 q2) fun c s3 ⟨z, H3, I3, r3, k, e, q3⟩ => ?_) hm
  subst e
  cases r3
  exact wpAny_truthy_bool ⟨H3, I3, q3⟩
end
end Qv
namespace Qv
open PySem L2
open Evl (Ex)

/-! ### a, b, c = x, y, z, whatever the targets: fresh things stay one's own -/
def evS : List (M Val) → M (List Val)
  | [] => ret []
  | f :: r => bnd f fun v => bnd (sol v) fun w => bnd (evS r) fun ws => ret (w :: ws)
def asgV : List (Val → M Unit) → List Val → M Unit
  | [], [] => ret ()
  | g :: gs, w :: ws => bnd (g w) fun _ => asgV gs ws
  | _, _ => fail
def parN (fs : List (M Val)) (gs : List (Val → M Unit)) : M Fl := bnd (evS fs) fun ws => bnd (asgV gs ws) fun _ => ret .nx
/-- values, each fresh or shared, apart from one another -/
inductive Frs (K : PySem.W.Frag) (A : LA) (G H : Hp) (e : En) (σ : L2.St) : Hp → List V → List Val → Prop
  | nil {R : Hp} : Frs K A G H e σ R [] []
  | cons {R : Hp} {v : V} {vs : List V} {w : Val} {ws : List Val} {B : Lb} : w.solo = true → FrA K A G R H v B w → RepVal K A G R H e σ v w → (∀ τ a, B τ = some a → G a = none ∧ R a = none ∧ H a ≠ none ∧ ¬ Owd A a) →
      Frs K A G H e σ (upB R H B) vs ws → Frs K A G H e σ R (v :: vs) (w :: ws)
/-- .. all of them framed by Rt -/
inductive FrsT (K : PySem.W.Frag) (A : LA) (G H : Hp) (e : En) (σ : L2.St) (Rt : Hp) : Hp → List V → List Val → Prop
  | nil {R : Hp} : FrsT K A G H e σ Rt R [] []
  | cons {R : Hp} {v : V} {vs : List V} {w : Val} {ws : List Val} {B : Lb} : w.solo = true → FrA K A G R H v B w → RepVal K A G R H e σ v w → (∀ τ a, B τ = some a → G a = none ∧ R a = none ∧ H a ≠ none ∧ ¬ Owd A a) →
      (∀ τ a, B τ = some a → ∃ o, H a = some o ∧ Rt a = some o) → FrsT K A G H e σ Rt (upB R H B) vs ws → FrsT K A G H e σ Rt R (v :: vs) (w :: ws)
section
variable {K : PySem.W.Frag} {W : WX} {pn : Pn} {A : LA} {e e' : En} {σ : L2.St} {G G' R R' H H' : Hp} {v : V} {val w : Val} {D : Ends} {n : Nat} {vs : List V} {ws : List Val} {B : Lb}
open Classical in
theorem upB_mono (x : Ex R R') : Ex (upB R H B) (upB R' H B) := fun a u q => by
  by_cases h : ∃ τ, B τ = some a
  · obtain ⟨τ, hτ⟩ := h
    rw [upB_in hτ] at q ⊢
    exact q
  · have h' : ∀ τ, B τ ≠ some a := fun τ z => h ⟨τ, z⟩
    rw [upB_out h'] at q ⊢
    exact x _ _ q
theorem FrA.low (x : Ex R R') (f : FrA K A G R' H v B w) : FrA K A G R H v B w := by
  cases w with
  | fr d =>
    obtain ⟨⟨t, ij, nw⟩, p, h⟩ := f
    exact ⟨⟨t, ij, fun τ a z => ⟨(nw τ a z).1, Qv.low x (nw τ a z).2.1, (nw τ a z).2.2⟩⟩, p, h⟩
  | fn d =>
    obtain ⟨t, ij, nw⟩ := f
    exact ⟨t, ij, fun τ a z => ⟨(nw τ a z).1, Qv.low x (nw τ a z).2.1, (nw τ a z).2.2⟩⟩
  | sh d => exact f
  | ow i => exact f
  | np i π => exact f
theorem Frs.low (h : Frs K A G H e σ R' vs ws) : ∀ {R : Hp}, Ex R R' → Frs K A G H e σ R vs ws := by
  induction h with
  | nil => exact fun _ => .nil
  | cons s f r nw t ih =>
    exact fun x => .cons s (f.low x) (r.weakR x) (fun τ a z => ⟨(nw τ a z).1, Qv.low x (nw τ a z).2.1, (nw τ a z).2.2⟩) (ih (upB_mono x))
theorem FrsT.frs {Rt : Hp} (h : FrsT K A G H e σ Rt R vs ws) : Frs K A G H e σ R vs ws := by
  induction h with
  | nil => exact .nil
  | cons s f r nw fr t ih => exact .cons s f r nw ih
/-- all framed -/
theorem Frs.tot (h : Frs K A G H e σ R' vs ws) : ∀ {R : Hp}, Ex R R' → RelG K pn A e σ G R H → ∃ Rt, Ex R Rt ∧ RelG K pn A e σ G Rt H ∧ FrsT K A G H e σ Rt R vs ws ∧ ∀ a, Rt a ≠ none → R a ≠ none ∨ R' a = none := by
  induction h with
  | nil => exact fun {R} x g => ⟨R, Ex.refl R, g, .nil, fun a h => .inl h⟩
  | @cons R1 v vs w ws B s f r nw t ih =>
    intro R x g
    have nw' : ∀ τ a, B τ = some a → G a = none ∧ R a = none ∧ H a ≠ none ∧ ¬ Owd A a := fun τ a z => ⟨(nw τ a z).1, Qv.low x (nw τ a z).2.1, (nw τ a z).2.2⟩
    obtain ⟨gB, xB⟩ := g.addB nw'
    obtain ⟨Rt, xt, gt, ft, ht⟩ := ih (R := upB R H B) (upB_mono x) gB
    refine ⟨Rt, xB.trans xt, gt, .cons s (f.low x) (r.weakR x) nw' (fun τ a z => ?_) ft, fun a ha => ?_⟩
    · cases q : H a with
      | none => exact absurd q (nw τ a z).2.2.1
      | some o => exact ⟨o, rfl, xt _ _ (by rw [upB_in z]; exact q)⟩
    · by_cases hB : ∃ τ, B τ = some a
      · obtain ⟨τ, hτ⟩ := hB
        exact .inr (nw τ a hτ).2.1
      · have hB' : ∀ τ, B τ ≠ some a := fun τ z => hB ⟨τ, z⟩
        rcases ht a ha with z | z
        · rw [upB_out hB'] at z; exact .inl z
        · rw [upB_out hB'] at z; exact .inr z
/-- they stay, behind what framed them -/
theorem FrsT.still {Rt G2 H2 : Hp} {A2 : LA} {e2 : En} {σ2 : L2.St} (h : FrsT K A G H e σ Rt R vs ws) (x : Ex G G2) (g2 : RelG K pn A2 e2 σ2 G2 Rt H2) : Frs K A2 G2 H2 e2 σ2 R vs ws := by
  induction h with
  | nil => exact .nil
  | @cons R v vs w ws B s f r nw fr t ih =>
    have eB : upB R H B = upB R H2 B := by
      funext a
      by_cases hB : ∃ τ, B τ = some a
      · obtain ⟨τ, hτ⟩ := hB
        obtain ⟨o, h1, h2⟩ := fr τ a hτ
        rw [upB_in hτ, upB_in hτ, h1, g2.rh _ _ h2]
      · have hB' : ∀ τ, B τ ≠ some a := fun τ z => hB ⟨τ, z⟩
        rw [upB_out hB', upB_out hB']
    have r' : RepVal K A G R H e σ2 v w := by cases w <;> first | exact r | cases s
    obtain ⟨f2, r2, nw2⟩ := FrA.still (e2 := e2) f r' nw x g2 fr s
    refine .cons s f2 ?_ nw2 (by rw [← eB]; exact ih)
    cases w with
    | sh d => exact r2
    | fr d => exact r2
    | fn d => exact r2
    | ow i => cases s
    | np i π => cases s
def tAll (K : PySem.W.Frag) (W : WX) : List (M Val) → L2.St → Hp → (List V → Hp → Prop) → Prop
  | [], _, H, Z => Z [] H
  | f :: r, σ, H, Z => tEv K W f σ H fun v H1 => tAll K W r σ H1 fun vs H2 => Z (v :: vs) H2
theorem tAll_mono : ∀ {fs : List (M Val)} {H : Hp} {Z Z' : List V → Hp → Prop}, tAll K W fs σ H Z → (∀ vs H', Z vs H' → Z' vs H') → tAll K W fs σ H Z'
  | [], _, _, _, h, m => m _ _ h
  | _ :: _, _, _, _, h, m => tG_mono h fun v H1 z => tAll_mono z fun vs H' z => m _ _ z
theorem evs_core : ∀ {fs : List (M Val)} {k : List Val → M Fl} {A : LA} {e : En} {G R R0 H : Hp} {Z : List V → Hp → Prop}, Ex R0 R → RelG K pn A e σ G R H → OcS K W pn σ.length R0 D G (bnd (evS fs) k e) →
    (∀ vs ws A' e' G' H', Ex G G' → RelG K pn A' e' σ G' R H' → Frs K A' G' H' e' σ R vs ws → OcS K W pn σ.length R0 D G' (k ws e') → Z vs H') → tAll K W fs σ H Z
  | [], k, A, e, G, R, R0, H, Z, x0, g, oc, fin => fin [] [] A e G H (Ex.refl G) g .nil oc
  | f :: fs, k, A, e, G, R, R0, H, Z, x0, g, oc, fin => by
    have oc0 : OcS K W pn σ.length R0 D G (bnd f (fun v => bnd (bnd (sol v) fun w => bnd (evS fs) fun ws => ret (w :: ws)) k) e) := by
      have e1 : bnd (evS (f :: fs)) k e = bnd f (fun v => bnd (bnd (sol v) fun w => bnd (evS fs) fun ws => ret (w :: ws)) k) e := by
        show bnd (bnd f _) k e = _
        unfold bnd
        cases f e with
        | err => rfl
        | ex x e => rfl
        | ok p => rfl
      rw [e1] at oc
      exact oc
    refine ⟨pn, A, e, G, R, g, ?_⟩
    unfold bnd at oc0
    unfold OcV
    cases hf : f e with
    | err => rw [hf] at oc0; exact False.elim oc0
    | ex x e' =>
      rw [hf] at oc0
      exact fun A' G' H' d y g' r => (show FinXS K W pn e' σ.length G R0 x from oc0) σ A' G' H' d y rfl (g'.weakR x0) r
    | ok p =>
      rw [hf] at oc0
      intro v A1 G1 H1 x1 g1 r1
      have oc1 : OcS K W pn σ.length R0 D G1 (bnd (bnd (sol p.1) fun w => bnd (evS fs) fun ws => ret (w :: ws)) k p.2) := OcS.ext oc0 x1
      have oc2 : OcS K W pn σ.length R0 D G1 (bnd (sol p.1) (fun w => bnd (bnd (evS fs) fun ws => ret (w :: ws)) k) p.2) := by
        have e1 : bnd (bnd (sol p.1) fun w => bnd (evS fs) fun ws => ret (w :: ws)) k p.2 = bnd (sol p.1) (fun w => bnd (bnd (evS fs) fun ws => ret (w :: ws)) k) p.2 := by
          unfold bnd
          cases sol p.1 p.2 with
          | err => rfl
          | ex x e => rfl
          | ok p => rfl
        rw [e1] at oc1
        exact oc1
      obtain ⟨w, A2, e2, G2, x2, g2, r2, s2, oc3⟩ := ocs_sol g1 r1 oc2
      obtain ⟨B, f2, nw⟩ := FrA.of g2 r2 s2
      obtain ⟨gR, xR⟩ := g2.addB nw
      have oc4 : OcS K W pn σ.length R0 D G2 (bnd (evS fs) (fun ws => k (w :: ws)) e2) := by
        have e1 : bnd (bnd (evS fs) fun ws => ret (w :: ws)) k e2 = bnd (evS fs) (fun ws => k (w :: ws)) e2 := by
          unfold bnd
          cases evS fs e2 with
          | err => rfl
          | ex x e => rfl
          | ok p => rfl
        have oc3' : OcS K W pn σ.length R0 D G2 (bnd (bnd (evS fs) fun ws => ret (w :: ws)) k e2) := oc3
        rw [e1] at oc3'
        exact oc3'
      refine evs_core (x0.trans xR) gR oc4 fun vs ws A' e' G' H' x3 g3 fr oc5 => ?_
      have frm : ∀ τ a, B τ = some a → ∃ o, H1 a = some o ∧ upB R H1 B a = some o := fun τ a z => by
        cases q : H1 a with
        | none => exact absurd q (nw τ a z).2.2.1
        | some o => exact ⟨o, rfl, by rw [upB_in z]; exact q⟩
      obtain ⟨f5, r5, nw5⟩ := FrA.still (e2 := e') f2 r2 nw x3 g3 frm s2
      have eB : upB R H1 B = upB R H' B := by
        funext a
        by_cases hB : ∃ τ, B τ = some a
        · obtain ⟨τ, hτ⟩ := hB
          obtain ⟨o, h1, h2⟩ := frm τ a hτ
          rw [upB_in hτ, upB_in hτ, h1, g3.rh _ _ h2]
        · have hB' : ∀ τ, B τ ≠ some a := fun τ z => hB ⟨τ, z⟩
          rw [upB_out hB', upB_out hB']
      refine fin (v :: vs) (w :: ws) A' e' G' H' (x2.trans x3 |> x1.trans) (g3.weakR xR) (.cons s2 f5 ?_ nw5 (by rw [← eB]; exact fr)) oc5
      cases w with
      | sh d => exact r5
      | fr d => exact r5
      | fn d => exact r5
      | ow i => cases s2
      | np i π => cases s2
/-- the head, the rest framed -/
theorem Frs.head (h : Frs K A G H e σ R (v :: vs) (w :: ws)) (g : RelG K pn A e σ G R H) : ∃ Rt, Ex R Rt ∧ RelG K pn A e σ G Rt H ∧ RepVal K A G Rt H e σ v w ∧ FrsT K A G H e σ Rt R vs ws := by
  cases h with
  | @cons _ _ _ _ _ B s f r nw t =>
    have xB : Ex R (upB R H B) := upB_ex fun τ a z => (nw τ a z).2.1
    obtain ⟨Rt, x, gt, ft, ht⟩ := t.tot xB g
    have off : ∀ τ a, B τ = some a → Rt a = none := fun τ a z => by
      cases q : Rt a with
      | none => rfl
      | some o =>
        rcases ht a (by rw [q]; simp) with y | y
        · exact absurd (nw τ a z).2.1 y
        · rw [upB_in z] at y; exact absurd y (nw τ a z).2.2.1
    refine ⟨Rt, x, gt, ?_, ft⟩
    cases w with
    | sh d => exact r
    | fr d =>
      obtain ⟨f1, p, rfl, rfl, f2⟩ := f
      obtain ⟨a1, a2, a3, a4⟩ := nw [] p rfl
      exact ⟨p, rfl, a1, off [] p rfl, a4, f2⟩
    | fn d =>
      obtain ⟨t, ij, n0⟩ := f
      exact ⟨B, t, ij, fun τ a z => ⟨(n0 τ a z).1, off τ a z, (n0 τ a z).2.2⟩⟩
    | ow i => cases s
    | np i π => cases s
def tGsF (K : PySem.W.Frag) (W : WX) (ixs : List Nat) (gs : List (Val → M Unit)) : TGs := fun vs σ H Q => ∃ pn A e G R ws, RelG K pn A e σ G R H ∧ Frs K A G H e σ R vs ws ∧ OcG K W ixs pn σ R Q G (asgV gs ws e)
end
section
variable {X : Cx} {W : WX} {pos : Pos}
theorem sgF {ixs : List Nat} : ∀ (es : List Expr) (fs : List (Val → M Unit)), es.all notStar = true → Paired (fun a f => PG X a (tGv X.K W ixs f)) es fs → PGs X es (tGsF X.K W ixs fs)
  | _, _, _, .nil => PGs_mono pgs_nil fun vs σ H Q q => by
    obtain ⟨pn, A, e, G, R, ws, g, r, oc⟩ := q
    cases r with
    | nil => exact ⟨rfl, (show FinG X.K ixs pn e σ G R Q from oc) σ A G H (Ex.refl G) Same.refl g⟩
    | cons => exact oc.elim
  | a :: es, f :: fs, hn, .cons h hr => by
    rw [List.all_cons, Bool.and_eq_true] at hn
    refine PGs_mono (pgs_cons h (sgF es fs hn.2 hr) ?_) fun vs σ H Q q => ?_
    · cases a <;> first | rfl | cases hn.1
    · obtain ⟨pn, A, e, G, R, ws, g, r, oc⟩ := q
      cases vs with
      | nil => cases r; exact oc.elim
      | cons v vs =>
        cases ws with
        | nil => cases r
        | cons w ws =>
          obtain ⟨Rt, xt, gt, rt, ft⟩ := r.head g
          refine ⟨v, vs, rfl, pn, A, e, G, Rt, w, gt, rt, ?_⟩
          have oc' : OcG X.K W ixs pn σ R Q G (bnd (f w) (fun _ => asgV fs ws) e) := oc
          unfold bnd at oc'
          unfold OcG
          cases hf : f w e with
          | err => rw [hf] at oc'; exact oc'.elim
          | ex x e1 =>
            rw [hf] at oc'
            exact fun σ' A' G' H' d y l g' r' => (show FinXS X.K W pn e1 σ.length G R x from oc') σ' A' G' H' d y l (g'.weakR xt) r'
          | ok p =>
            rw [hf] at oc'
            intro σ1 A1 G1 H1 x1 s1 g1
            refine ⟨pn, A1, p.2, G1, R, ws, g1.weakR xt, ft.still x1 g1, ?_⟩
            have oc2 : OcG X.K W ixs pn σ R Q G (asgV fs ws p.2) := oc'
            unfold OcG at *
            cases hk : asgV fs ws p.2 with
            | err => rw [hk] at oc2; exact oc2.elim
            | ex x e1 => rw [hk] at oc2; exact fun σ' A' G' H' d y l g r => (oc2 : FinXS X.K W pn e1 σ.length G R x) σ' A' G' H' d (x1.trans y) (l.trans s1.1) g r
            | ok p2 => rw [hk] at oc2; exact fun σ2 A2 G2 H2 x2 s2 g2 => (oc2 : FinG X.K ixs pn p2.2 σ G R Q) σ2 A2 G2 H2 (x1.trans x2) (s1.trans s2) g2
/-- all the values, as arguments -/
theorem sa_all : ∀ (es : List Expr) (fs : List (M Val)), es.all notStar = true → Paired (fun a f => PE X a (tEv X.K W f)) es fs → PA X es (tAll X.K W fs)
  | _, _, _, .nil => ⟨fun pos pins s σ H Q I h => (pa_nil (X := X)).run pos pins s σ H Q I h⟩
  | a :: es, f :: fs, hn, .cons h hr => by
    rw [List.all_cons, Bool.and_eq_true] at hn
    exact ⟨fun pos pins s σ H Q I hq => (pa_cons h (sa_all es fs hn.2 hr) (star_cons hn.1)).run pos pins s σ H Q I hq⟩
theorem asgV_fin {gs : List (Val → M Unit)} {ws : List Val} {ixs : List Nat} {K : PySem.W.Frag} {pn : Pn} {σ : L2.St} {R G : Hp} {D : Ends} {e : En} (oc : OcS K W pn σ.length R D G (bnd (asgV gs ws) (fun _ => ret .nx) e)) : OcG K W ixs pn σ R D.nx G (asgV gs ws e) := by
  unfold bnd at oc
  unfold OcG
  cases h : asgV gs ws e with
  | err => rw [h] at oc; exact False.elim oc
  | ex x e1 => rw [h] at oc; exact oc
  | ok p =>
    rw [h] at oc
    exact fun σ' A' G' H' x s g' => (show FinS K pn p.2 σ.length G R D .nx from oc) σ' A' G' H' x s.1 g'
theorem tAll_len {K : PySem.W.Frag} : ∀ {fs : List (M Val)} {σ : L2.St} {H : Hp} {Z : List V → Hp → Prop}, tAll K W fs σ H Z → tAll K W fs σ H fun vs H' => vs.length = fs.length ∧ Z vs H'
  | [], _, _, _, h => ⟨rfl, h⟩
  | _ :: _, _, _, _, h => tG_mono h fun v H1 z => tAll_mono (tAll_len z) fun vs H' z => ⟨congrArg Nat.succ z.1, z.2⟩
/-- the tuple is made and taken apart -/
theorem ss_parN {k k2 : Nat} {pt pt2 : Pos} {ts es : List Expr} {fs : List (M Val)} {gs : List (Val → M Unit)} {ixs : List Nat} (hc : X.calm = true) (hn : es.all notStar = true) (ht : ts.all notStar = true) (he : Paired (fun a f => PE X a (tEv X.K W f)) es fs) (hg : Paired (fun a f => PG X a (tGv X.K W ixs f)) ts gs)
    (hl : es.length = ts.length) (h8 : es.length ≤ 1000) (hw : swappedStores [.Tuple ts k pt] (.Tuple es k2 pt2) X.env = pure none) (hs : swapsWithSole [.Tuple ts k pt] (.Tuple es k2 pt2) pos.line X.env = pure false) : PS X (.Assign [.Tuple ts k pt] (.Tuple es k2 pt2) pos) (tSv X.K W (parN fs gs)) :=
  PS_mono (ps_asg (pe_tup (sa_all es fs hn he)) (pg_tup (n := ts.length) hc (sgF ts gs ht hg) (each_len ht).1 (each_len ht).2) hs hw rfl) fun D σ H q => by
    obtain ⟨pn, A, e, G, R, g, oc⟩ := q
    refine tAll_mono (tAll_len (evs_core (Z := fun vs H' => ∀ p, H' p = none → tGsF X.K W ixs gs vs σ (upd H' p (.tup vs)) D.nx) (Ex.refl R) g oc fun vs ws A' e' G' H' x g' fr oc2 => ?_)) fun vs H' z => ?_
    · exact fun p (hp : H' p = none) => (show tGsF X.K W ixs gs vs σ (upd H' p (.tup vs)) D.nx from by
        obtain ⟨Rt, xt, gt, ft, _⟩ := fr.tot (Ex.refl R) g'
        have gp := (gt.laidF (o := .tup vs) hp).1
        exact ⟨pn, A', e', G', R, ws, gp.weakR xt, ft.still (Ex.refl _) gp, asgV_fin oc2⟩)
    · obtain ⟨l, z⟩ := z
      have l2 : vs.length = ts.length := by rw [l, ← paired_len he, hl]
      refine ⟨by rw [l2, ← hl]; exact Nat.le_trans h8 (by decide), fun p hp => ⟨p, vs, rfl, SqT.of upd_same, l2, z p hp⟩⟩
/-- names one behind the other -/
def setL : L2.St → List Nat → List V → L2.St
  | σ, i :: is, v :: vs => setL (σ.set i (some v)) is vs
  | σ, _, _ => σ
theorem asg_names {K : PySem.W.Frag} {pn : Pn} {D : Ends} {R0 : Hp} {n : Nat} : ∀ {is : List Nat} {vs : List V} {ws : List Val} {A : LA} {e : En} {σ : L2.St} {G R H : Hp}, Ex R0 R → σ.length = n → RelG K pn A e σ G R H → Frs K A G H e σ R vs ws → OcS K W pn n R0 D G (bnd (asgV (is.map asgN) ws) (fun _ => ret .nx) e) → is.length = vs.length ∧ D.nx (setL σ is vs) H
  | [], _, _, A, e, σ, G, R, H, x, hl, g, .nil, oc => ⟨rfl, (show FinS K pn e n G R0 D .nx from oc) σ A G H (Ex.refl _) hl (g.weakR x)⟩
  | _ :: _, _, _, A, e, σ, G, R, H, x, hl, g, .nil, oc => False.elim oc
  | [], _, _, A, e, σ, G, R, H, x, hl, g, .cons .., oc => False.elim oc
  | i :: is, v :: vs, w :: ws, A, e, σ, G, R, H, x, hl, g, fr, oc => by
    obtain ⟨Rt, xt, gt, rt, ft⟩ := fr.head g
    have oc1 : OcS K W pn n R0 D G (bnd (bnd (asgN i w) fun _ => asgV (is.map asgN) ws) (fun _ => ret .nx) e) := oc
    unfold bnd at oc1
    cases ha : asgN i w e with
    | err => rw [ha] at oc1; exact False.elim oc1
    | ex x e' => exact absurd ha asgN_no
    | ok pa =>
      obtain ⟨u, ea⟩ := pa
      rw [ha] at oc1
      obtain ⟨A5, G5, x5, g5⟩ := asgN_ok (e' := ea) gt rt ha
      have z := asg_names (σ := σ.set i (some v)) (G := G5) x (by simp [hl]) (g5.weakR xt) (ft.still x5 g5) (OcS.ext (show OcS K W pn n R0 D G (bnd (asgV (is.map asgN) ws) (fun _ => ret .nx) ea) from oc1) x5)
      exact ⟨congrArg Nat.succ z.1, z.2⟩
/-- three names, swapped -/
theorem ss_par3 {i j l : Nat} {x y z : Str} {px py pz pt : Pos} {kt k2 : Nat} {pt2 : Pos} {a b c : Expr} {fa fb fc : M Val} (hc : X.calm = true) (hN : X.N.Nodup) (hi : X.N[i]? = some x) (hj : X.N[j]? = some y) (hl : X.N[l]? = some z) (hij : i ≠ j) (hil : i ≠ l) (hjl : j ≠ l)
    (hx : X.env.scope.names.lookup x = some .local) (hy : X.env.scope.names.lookup y = some .local) (hz : X.env.scope.names.lookup z = some .local) (ha : PE X a (tEv X.K W fa)) (hb : PE X b (tEv X.K W fb)) (hcc : PE X c (tEv X.K W fc)) (hn : [a, b, c].all notStar = true)
    (hw : swappedStores [.Tuple [.Name x px, .Name y py, .Name z pz] kt pt] (.Tuple [a, b, c] k2 pt2) X.env = pure (some [x, y, z])) (hs : swapsWithSole [.Tuple [.Name x px, .Name y py, .Name z pz] kt pt] (.Tuple [a, b, c] k2 pt2) pos.line X.env = pure false) :
    PS X (.Assign [.Tuple [.Name x px, .Name y py, .Name z pz] kt pt] (.Tuple [a, b, c] k2 pt2) pos) (tSv X.K W (parN [fa, fb, fc] ([i, j, l].map asgN))) :=
  PS_mono (ps_par3 hc hN hi hj hl hij hil hjl hx hy hz (sa_all [a, b, c] [fa, fb, fc] hn (.cons ha (.cons hb (.cons hcc .nil)))) hw hs) fun D σ H q => by
    obtain ⟨pn, A, e, G, R, g, oc⟩ := q
    refine evs_core (Ex.refl R) g oc fun vs ws A' e' G' H' x g' fr oc2 => ?_
    obtain ⟨hl2, z⟩ := asg_names (Ex.refl R) rfl g' fr oc2
    match vs, hl2, z with
    | [u, v, w], _, z => exact ⟨u, v, w, rfl, z⟩
end
/-! ### lists unpacked -/
section
variable {X : Cx} {W : WX} {pos : Pos}
/-- a tuple or a list, taken apart -/
def asgU (fs : List (Val → M Unit)) (val : Val) : M Unit := bnd (shr val) fun d => match d with
  | .tup ds => if ds.length = fs.length then asgL fs ds else fail
  | .lst ds => if ds.length = fs.length then asgL fs ds else fail
  | _ => fail
theorem pg_both {es : List Expr} {k : Nat} {t : TGs} {n : Nat} (hc : X.calm = true) (h : PGs X es t) (hn : (assignEach es X.env).length = n) (hst : (assignEach es X.env).findIdx? (·.1) = none) : PG X (.Tuple es k pos) (fun v σ H Q => gTup X.K n t v σ H Q ∨ gUnl X.K n t v σ H Q) :=
  ⟨fun pins s σ H v u Q I r q => q.elim ((pg_tup (n := n) hc h hn hst).run pins s σ H v u Q I r) ((pg_unl (n := n) hc h hn hst).run pins s σ H v u Q I r)⟩
theorem sg_unp {ixs : List Nat} {k : Nat} {es : List Expr} {fs : List (Val → M Unit)} (hc : X.calm = true) (hn : es.all notStar = true) (h : Paired (fun a f => PG X a (tGv X.K W ixs f)) es fs) : PG X (.Tuple es k pos) (tGv X.K W ixs (asgU fs)) :=
  PG_mono (pg_both (n := es.length) hc (sgs es fs hn h) (each_len hn).1 (each_len hn).2) fun v σ H Q q => by
    obtain ⟨pn, A, e, G, R, val, g, r, oc⟩ := q
    have oc' := oc
    unfold asgU bnd at oc'
    cases hs : shr val e with
    | err => rw [hs] at oc'; exact oc'.elim
    | ex x e1 => exact absurd hs shr_no
    | ok p =>
      rw [hs] at oc'
      obtain ⟨d, e1⟩ := p
      obtain ⟨A2, G2, x2, g2, r2⟩ := g.shr r hs
      cases d with
      | tup ds =>
        have oc2 : OcG X.K W ixs pn σ R Q G ((if ds.length = fs.length then asgL fs ds else fail) e1) := oc'
        by_cases hl : ds.length = fs.length
        · rw [if_pos hl] at oc2
          cases r2 with
          | tup hp ra => exact .inl ⟨_, _, rfl, SqT.of (g2.gh _ _ hp), by rw [ra.length, hl, paired_len h], pn, A2, e1, G2, R, ds, g2, ra, oc2.ext x2⟩
        · rw [if_neg hl] at oc2; exact False.elim oc2
      | lst ds =>
        have oc2 : OcG X.K W ixs pn σ R Q G ((if ds.length = fs.length then asgL fs ds else fail) e1) := oc'
        by_cases hl : ds.length = fs.length
        · rw [if_pos hl] at oc2
          cases r2 with
          | lst hp ra => exact .inr ⟨_, _, rfl, SqL.of (g2.gh _ _ hp), by rw [ra.length, hl, paired_len h], pn, A2, e1, G2, R, ds, g2, ra, oc2.ext x2⟩
        · rw [if_neg hl] at oc2; exact False.elim oc2
      | _ => exact False.elim oc'
end
end Qv
namespace Qv
open PySem L2 PySem.Spec PyProof.Rows ClX
open Evl (Ex)

/-! ### x += e -/
def augD : Operator → D → D → Option D
  | .Add, .int i, .int j => some (.int (i + j))
  | .Sub, .int i, .int j => some (.int (i - j))
  | _, _, _ => none
def augS (op : Operator) (i : Nat) (f : M Val) : M Fl := fun e0 => match e0[i]? with
  | some (.sh d0) => bnd f (fun v => bnd (der v) fun d => bnd (opt (augD op d0 d)) fun k => bnd (setN i (.sh k)) fun _ => ret .nx) e0
  | _ => .err
def rAug (op : Operator) : R2 := fun x y H Q => ∃ i j, x = .int i ∧ y = .int j ∧ ((op = .Add ∧ Q (.int (i + j)) H) ∨ (op = .Sub ∧ Q (.int (i - j)) H))
section
variable {X : Cx} {W : WX} {pos : Pos}
theorem ip_aug (op : Operator) : PIp X op (rAug op) := by
  intro pins s σ H x y v u Q I r1 r2 h
  obtain ⟨i, j, ex, ey, ⟨rfl, q⟩ | ⟨rfl, q⟩⟩ := h
  · exact iop_add pins s σ H x y v u Q I r1 r2 ⟨i, j, ex, ey, q⟩
  · exact iop_sub pins s σ H x y v u Q I r1 r2 ⟨i, j, ex, ey, q⟩
theorem ss_aug {i : Nat} {x : Str} {op : Operator} {p : Pos} {a : Expr} {f : M Val} (hN : X.N.Nodup) (hi : X.N[i]? = some x) (hx : L2.Loc X.env.scope x) (hf : X.fn x = true ∨ X.env.scope.names.lookup x = some .local) (ha : PE X a (tEv X.K W f)) : PS X (.AugAssign (.Name x p) op a pos) (tSv X.K W (augS op i f)) :=
  PS_mono (ps_aug hN hi hx ha (ip_aug op) hf) fun D σ H q => by
    obtain ⟨pn, A, e, G, R, g, oc⟩ := q
    have oc0 : OcS X.K W pn σ.length R D G (match e[i]? with
      | some (.sh d0) => bnd f (fun v => bnd (der v) fun d => bnd (opt (augD op d0 d)) fun k => bnd (setN i (.sh k)) fun _ => ret .nx) e
      | _ => .err) := oc
    split at oc0
    · rename_i d0 hd0
      obtain ⟨v0, hv0, rv0⟩ := g.sl i _ hd0
      refine ⟨v0, hv0, chainS g oc0 fun y vv A1 e1 G1 H1 x1 g1 r1 oc1 => ?_⟩
      have oc1' : OcS X.K W pn σ.length R D G1 (bnd (der vv) (fun d => bnd (opt (augD op d0 d)) fun k => bnd (setN i (.sh k)) fun _ => ret .nx) e1) := oc1
      unfold bnd at oc1'
      cases hd : der vv e1 with
      | err => rw [hd] at oc1'; exact False.elim oc1'
      | ex z e' => exact absurd hd der_no
      | ok pr =>
        obtain ⟨d2, e2⟩ := pr
        obtain ⟨h1, h2⟩ := g1.rd r1 hd
        subst h1
        rw [hd] at oc1'
        have oc1'' : OcS X.K W pn σ.length R D G1 (bnd (opt (augD op d0 d2)) (fun k => bnd (setN i (.sh k)) fun _ => ret .nx) e2) := oc1'
        cases ha : augD op d0 d2 with
        | none => rw [ha] at oc1''; exact False.elim oc1''
        | some k =>
          rw [ha] at oc1''
          have oc2 : OcS X.K W pn σ.length R D G1 (bnd (setN i (.sh k)) (fun _ => ret .nx) e2) := oc1''
          unfold bnd at oc2
          cases hs : setN i (.sh k) e2 with
          | err => rw [hs] at oc2; exact False.elim oc2
          | ex z e' => exact absurd hs setN_no
          | ok p2 =>
            rw [hs] at oc2
            obtain ⟨s1, s2, s3⟩ := setN_ok hs
            have fin : FinS X.K pn p2.2 σ.length G1 R D .nx := oc2
            have put : ∀ (w : Int), k = .int w → D.nx (σ.set i (some (.int w))) H1 := fun w ew => by
              subst ew
              obtain ⟨A3, g3⟩ := g1.putS (v := .int w) s1 s2 (.int w)
              rw [s3] at fin
              exact fin _ A3 G1 H1 (Ex.refl _) (by simp) g3
            cases op with
            | Add =>
              cases d0 with
              | int a =>
                cases d2 with
                | int b =>
                  cases rv0; cases h2; cases ha
                  exact ⟨a, b, rfl, rfl, .inl ⟨rfl, put _ rfl⟩⟩
                | _ => cases ha
              | _ => cases ha
            | Sub =>
              cases d0 with
              | int a =>
                cases d2 with
                | int b =>
                  cases rv0; cases h2; cases ha
                  exact ⟨a, b, rfl, rfl, .inr ⟨rfl, put _ rfl⟩⟩
                | _ => cases ha
              | _ => cases ha
            | _ => cases ha
    · exact False.elim oc0
end
/-! ### range(i, j, c) -/
def rngCD (lo c : Int) (n : Nat) : List D := (List.range n).map fun i => .int (lo + (i : Nat) * c)
@[irreducible] def rng3B : List D → Option (List D)
  | [.int i, .int j, .int c] => if 0 < c ∧ c < 1073741824 ∧ Builtin.Range.small i j c = true then some (rngCD i c (Builtin.Range.rangeSize i j c).toNat) else none
  | _ => none
theorem rsize_nn {i j c : Int} (h : 0 < c) : 0 ≤ Builtin.Range.rangeSize i j c := by
  unfold Builtin.Range.rangeSize
  rw [if_pos h]
  split
  · have := Int.ediv_nonneg (show 0 ≤ j - i - 1 by omega) (Int.le_of_lt h)
    omega
  · exact Int.le_refl 0
theorem it_rngC {K : PySem.W.Frag} {G : Hp} {lo c : Int} {n : Nat} : ItOk K (Itc lo c n) G (rngCD lo c n) := by
  intro pn A e σ G1 R H1 i x1 g
  refine ⟨fun hi => ?_, fun hi => ?_, fun v H2 d hy hd => ?_⟩
  · have hi' : i < n := by simpa [rngCD] using hi
    exact hi'
  · show n ≤ i
    simp [rngCD] at hi
    omega
  · obtain ⟨rfl, rfl⟩ := hy
    have hi : i < n := by
      have := (List.getElem?_eq_some_iff.mp hd).1
      simpa [rngCD] using this
    unfold rngCD at hd
    rw [List.getElem?_map, List.getElem?_range hi] at hd
    cases hd
    exact ⟨G1, Ex.refl _, g, .int _⟩
section
variable {X : Cx} {W : WX} {tg : Expr}
theorem rd3 {K : PySem.W.Frag} {G H : Hp} {xs : List V} {d d2 d3 : D} (h : RdVs K G H xs [d, d2, d3]) : ∃ x y z, xs = [x, y, z] ∧ RdV K G H x d ∧ RdV K G H y d2 ∧ RdV K G H z d3 := by
  cases h with
  | cons a b =>
    cases b with
    | cons b c =>
      cases c with
      | cons c d => cases d; exact ⟨_, _, _, rfl, a, b, c⟩
theorem si_rng3 {x y z : Expr} {f f2 f3 : M Val} {p pos : Pos} (hg : Gl X "range") (hm : X.mg "range" = none) (hn : [x, y, z].all notStar = true) (ha : PE X x (tEv X.K W f)) (hb : PE X y (tEv X.K W f2)) (hc : PE X z (tEv X.K W f3)) :
    PI X tg (.Call (.Name "range" p) [x, y, z] [] pos) (tIv X.K W (rngC rng3B [f, f2, f3])) := by
  have hn' := hn
  rw [List.all_cons, Bool.and_eq_true] at hn'
  exact PI_mono (pi_range3 hg hm (sa_args [x, y, z] [f, f2, f3] hn (.cons ha (.cons hb (.cons hc .nil)))) (star_cons hn'.1) (star_plain hn'.2)) fun σ H Rr q => by
    obtain ⟨pn, A, e, G, R, g, oc⟩ := q
    refine chain g oc fun ws vs A1 e1 G1 H1 x1 g1 r1 oc1 => ?_
    obtain ⟨es, r2, oc2⟩ := oc_derA g1 r1 oc1
    obtain ⟨ds, q3, fin⟩ := oc_optE oc2
    unfold rng3B at q3
    split at q3
    · rename_i i j c
      split at q3
      · rename_i cc
        cases q3
        obtain ⟨x, y, z, rfl, rx, ry, rz⟩ := rd3 r2
        cases rx
        cases ry
        cases rz
        have nn := rsize_nn (i := i) (j := j) cc.1
        exact ⟨_, _, _, _, rfl, ⟨by omega, by omega, cc.2.2, (Int.toNat_of_nonneg nn).symm⟩, fin _ A1 G1 H1 (Ex.refl _) g1 it_rngC⟩
      · cases q3
    · cases q3
end
/-! ### f-strings -/
def fmtI (i : Int) : Str := toString i
def fmtD : D → Option Str
  | .str y => if y.length ≤ lenLim then some y else none
  | .int i => if i.natAbs.log2 < 1920 then some (fmtI i) else none
  | _ => none
def fmtC (f : M Val) : M Val := bnd f fun v => bnd (der v) fun d => bnd (opt (fmtD d)) fun x => ret (.sh (.str x))
def strV : Val → Option Str
  | .sh (.str y) => some y
  | _ => none
def joinC : List (M Val) → Str → M Val
  | [], acc => ret (.sh (.str acc))
  | f :: r, acc => bnd f fun v => bnd (opt (strV v)) fun y => if (acc ++ y).length ≤ lenLim then joinC r (acc ++ y) else fail
section
variable {X : Cx} {W : WX} {pos : Pos}
theorem se_fmt {a : Expr} {f : M Val} (ha : PE X a (tEv X.K W f)) : PE X (.FormattedValue a (-1) none pos) (tEv X.K W (fmtC f)) := PE_mono (pe_fmt ha) fun σ H Q q => by
  obtain ⟨pn, A, e, G, R, g, oc⟩ := q
  refine chain g oc fun x v A1 e1 G1 H1 x1 g1 r1 oc1 => ?_
  obtain ⟨d, rd, oc2⟩ := oc_der g1 r1 oc1
  obtain ⟨t, ht, oc3⟩ := oc_opt oc2
  have fin := oc_ret oc3
  cases d with
  | str y =>
    have ht' : (if y.length ≤ lenLim then some y else none) = some t := ht
    split at ht'
    · rename_i c
      cases ht'
      cases rd
      exact .inl ⟨_, rfl, by rw [← lim_eq]; exact c, fin.sc g1 (.str _)⟩
    · cases ht'
  | int i =>
    have ht' : (if i.natAbs.log2 < 1920 then some (fmtI i) else none) = some t := ht
    split at ht'
    · cases ht'
      cases rd
      exact .inr ⟨i, rfl, by assumption, fin.sc g1 (.str _)⟩
    · cases ht'
  | _ => cases ht
theorem tjoin : ∀ {fs : List (M Val)} {acc : Str} {σ : L2.St} {H : Hp} {Q : VK}, tEv X.K W (joinC fs acc) σ H Q → tJs (fs.map fun f => tEv X.K W f) acc σ H fun out H1 => Q (.str out) H1
  | [], acc, σ, H, Q, h => by
    obtain ⟨pn, A, e, G, R, g, oc⟩ := h
    exact (oc_ret oc).sc g (.str acc)
  | f :: fs, acc, σ, H, Q, h => by
    obtain ⟨pn, A, e, G, R, g, oc⟩ := h
    refine chain g oc fun x v A1 e1 G1 H1 x1 g1 r1 oc1 => ?_
    obtain ⟨y, hy, oc2⟩ := oc_opt oc1
    cases v with
    | sh d =>
      cases d with
      | str z =>
        cases hy
        have r1' : Rep X.K G1 x (.str y) := r1
        cases r1'
        obtain ⟨c, oc3⟩ := oc_if oc2
        exact ⟨y, rfl, by rw [← lim_eq]; exact c, tjoin (fs := fs) ⟨pn, A1, e1, G1, R, g1, oc3⟩⟩
      | _ => cases hy
    | _ => cases hy
theorem pj_of : ∀ {es : List Expr} {fs : List (M Val)}, Paired (fun a f => PE X a (tEv X.K W f)) es fs → PJ X es (fs.map fun f => tEv X.K W f)
  | _, _, .nil => .nil
  | _, _, .cons h r => .cons h (pj_of r)
theorem se_join {a b : Expr} {es : List Expr} {fs : List (M Val)} (h : Paired (fun a f => PE X a (tEv X.K W f)) (a :: b :: es) fs) : PE X (.JoinedStr (a :: b :: es) pos) (tEv X.K W (joinC fs Str.empty)) := PE_mono (pe_joined (pj_of h)) fun σ H Q q => tjoin q
theorem se_join1 {a : Expr} {f : M Val} (h : PE X a (tEv X.K W f)) : PE X (.JoinedStr [a] pos) (tEv X.K W f) := pe_joined1 h
end
/-! ### isinstance with own classes -/
def isXD (du : Du) (u : TyN) (d : D) : Option Bool := (tyN d).bind fun t => if tyOk du t = true then (match t, u with
  | .bt a, .bt b => kitB a b
  | t, u => du.is t u) else none
def isX (du : Du) (u : TyN) (f : M Val) : M Val := bnd f fun v => bnd (der v) fun d => bnd (opt (isXD du u d)) fun b => ret (.sh (.bl b))
def u2V (K : PySem.W.Frag) : TyN → V
  | .bt n => .ty n
  | .ow c => .ref (He.ga K c)
section
variable {X : Cx} {W : WX} {pos : Pos}
theorem isXD_ok {du : Du} (hd : DuOk X.K du) {u : TyN} {G H : Hp} {x : V} {d : D} {b : Bool} (xx : Ex G H) (h : RdV X.K G H x d) (q : isXD du u d = some b) : ∃ t, TyX X.K H x t ∧ PySem.W.kitOne X.K t (u.val X.K) = some b := by
  unfold isXD at q
  obtain ⟨t, h1, h2⟩ := Option.bind_eq_some_iff.mp q
  split at h2
  · rename_i ok
    refine ⟨t.val X.K, tyN_ok hd xx h h1 ok, ?_⟩
    split at h2
    · exact kit_ty h2
    · exact hd.is _ _ _ h2
  · cases h2
theorem se_isX {du : Du} (hd : DuOk X.K du) {y : Str} {p p2 : Pos} {a : Expr} {f : M Val} {u : TyN} (ha : PE X a (tEv X.K W f)) (hg : Gl X "isinstance") (hm : X.mg "isinstance" = none) (hy : PE X (.Name y p2) (fun σ H Q => Q (u2V X.K u) H)) (hs : notStar a = true) :
    PE X (.Call (.Name "isinstance" p) [a, .Name y p2] [] pos) (tEv X.K W (isX du u f)) := by
  refine PE_mono (pe_callB (t := tCons (tEv X.K W f) (tCons (fun σ H Q => Q (u2V X.K u) H) tNil)) call_isi hg hm (by rfl) (pa_cons ha (pa_cons hy pa_nil rfl) (star_cons hs)) (by decide) (by decide) (star_cons hs) rfl) fun σ H Q q => ?_
  obtain ⟨pn, A, e, G, R, g, oc⟩ := q
  refine chain g oc fun x v A1 e1 G1 H1 x1 g1 r1 oc1 => ?_
  obtain ⟨d, rd, oc2⟩ := oc_der g1 r1 oc1
  obtain ⟨b, q3, oc3⟩ := oc_opt oc2
  have fin := oc_ret oc3
  obtain ⟨t, ty, hk⟩ := isXD_ok hd g1.gh rd q3
  refine ⟨x, _, t, _, b, rfl, ?_, ty, hk, fin.sc g1 (.bl _)⟩
  cases u with
  | bt n => exact .ty n
  | ow c => exact .own _
theorem pe_tyN {y : Str} {n : String} {p : Pos} (hy : Gl X y) (hmy : X.mg y = none) (hv : bootBuiltins y = some (.type n)) (hn : y ≠ "__name__") (hdb : (y == ("__debug__" : Str)) = false) : PE X (.Name y p) (fun σ H Q => Q (u2V X.K (.bt n)) H) :=
  ⟨fun pins s σ H Q I h => ld_blt I hy hmy hv (show EP X pins σ Q (.type n) s from ⟨.ty n, H, I, rfl, h⟩) hn hdb⟩
theorem pe_clN {y : Str} {p : Pos} (hy : Gl X y) (hmy : X.mg y = some (.ref (He.ga X.K y))) (hdb : (y == ("__debug__" : Str)) = false) : PE X (.Name y p) (fun σ H Q => Q (u2V X.K (.ow y)) H) :=
  ⟨fun pins s σ H Q I h => ld_glob I hy hmy (show EP X pins σ Q (.ref (He.ga X.K y)) s from ⟨.ref _, H, I, rfl, h⟩) hdb⟩
end
/-! ### str(x), len(x) by a class's own methods -/
def ownC (tab : MTab) (m : Str) (ok : Val → Bool) (g : List D → Option Val) (f : M Val) : M Val := bnd f fun v => bnd (pend v) fun w => bnd (der w) fun d => match d with
  | .ins c fs => bnd (opt (insM tab m (.ins c fs))) fun p => bnd (frzL p.1 [w]) fun vals => bnd (goN p.2 vals) fun r => if ok r then ret r else fail
  | d => opt (g [d])
def OwnB (X : Cx) (m : Str) (P : V → Prop) (xs : List V) (H : Hp) (Q : VK) : Prop := ∃ (C f a dx : Addr) (fs : List (Str × V)) (k : Nat) (fd : FuncData) (ps : List Str) (ev : Ev), xs = [.ref a] ∧ H a = some (.ins C dx fs) ∧ Meth X.K C m f ∧ FnG X.prog X.w X.K X.mg X.base k f fd ps ev ∧ Room (k + 2) X.A ∧ Binds X.K fd ps [] ∧
  spG X.K ps.length ev xs H (fun v H' => P v ∧ Q v H') fun _ _ _ => False
section
variable {X : Cx} {W : WX} {pos : Pos}
theorem tks0 {E : WX} (h : ∀ c d σ H, ¬ E c d σ H) : Takes X E := fun u s' ⟨_, _, _, _, _, _, _, _, _, _, _, _, _, _, _, _, z⟩ => (h _ _ _ _ z).elim
/-- the method's call, at a place further in -/
theorem ownB_run {m : Str} {P : V → Prop} (hgu : X.A.guards = some []) {pins : List (Addr × Obj)} {σ : L2.St} {H : Hp} {s : Shared} {xs : List V} {us : List Value} {Q : VK} (I : Inv X pins σ H s) (r : Vals xs us) (h : OwnB X m P xs H Q) :
    ∃ a ox od C f, us = [.ref a] ∧ PySem.W.InstAt s.heap a ox C od ∧ PySem.W.findIn X.K (.ref C) m = some (some (.ref f)) ∧ PySem.W.isFn X.K (.ref f) = true ∧ Room 2 X.A ∧
      (∀ A : Around, (A = X.A ∨ A = X.A.in1 ∨ A = X.A.in1.in1) → wpAny (model X.prog X.w) A (call (.ref f) [.ref a]) (EP X pins σ fun v H' => P v ∧ Q v H') X.xe s) := by
  obtain ⟨C, f, a, dx, fs, k, fd, ps, ev, rfl, ea, hm, F, hr, hb, sp⟩ := h
  obtain ⟨u, rfl, ru⟩ := r.one
  obtain rfl : u = Value.ref a := ru
  obtain ⟨mA, O, _, _, _, _⟩ := ins_get I.hok ea
  obtain ⟨od, J, _⟩ := O.look
  refine ⟨a, _, _, C, f, rfl, J, hm.at_, hm.fn, hr.mono (by omega), fun A hA => ?_⟩
  have tk : Takes X (fun _ _ _ _ => False) := tks0 fun _ _ _ _ z => z
  have sp' : spG X.K ps.length ev [.ref a] H (fun v H' => P v ∧ Q v H') (fun cls d H' => (fun _ _ _ _ => False : WX) cls d σ H') := sp
  rcases hA with rfl | rfl | rfl
  · exact runA (us := [.ref a]) (vs := [.ref a]) F (hr.mono (by omega)) hgu hb tk I.env0 I (.cons rfl .nil) sp'
  · exact runA (us := [.ref a]) (vs := [.ref a]) F (Room.mono (Room.in1 hr) (by omega)) hgu hb tk I.env0.in1 I (.cons rfl .nil) sp'
  · exact runA (us := [.ref a]) (vs := [.ref a]) F (Room.in1 (Room.in1 hr)) hgu hb tk I.env0.in1.in1 I (.cons rfl .nil) sp'
def isStrV (v : V) : Prop := ∃ y, v = .str y
theorem call_strO {r : List V → Hp → VK → Prop} (hgu : X.A.guards = some []) (h0 : CallR X (.type "str") r) : CallR X (.type "str") (fun xs H Q => r xs H Q ∨ OwnB X "__str__" isStrV xs H Q) := by
  intro pins s σ H xs us Q I rr h
  rcases h with h | h
  · exact h0 pins s σ H xs us Q I rr h
  · obtain ⟨a, ox, od, C, f, rfl, J, h1, h2, h3, h4⟩ := ownB_run hgu I rr h
    refine PySem.W.kso_call (Room.units0 (Room.in1 (Room.in1 h3))) I.kIn J h1 h2 (wpAny_mono (h4 _ (.inr (.inr rfl))) (fun w s' z => ?_) fun _ _ z => z)
    obtain ⟨v, H', I', rz, ⟨y, rfl⟩, q⟩ := z
    obtain ⟨t, rfl⟩ := rz
    exact ⟨.str y, H', I', ⟨t, rfl⟩, q⟩
theorem goN_no {ev : Ev} {vals : List Val} {e e' : En} {x : Xn} : goN ev vals e ≠ .ex x e' := by
  unfold goN
  split
  · exact fun z => nomatch z
  · exact fun z => nomatch z
theorem town {tab : MTab} {m : Str} {ok : Val → Bool} {P : V → Prop} {g : List D → Option Val} {f : M Val} {r : List V → Hp → VK → Prop} (hM : ∀ c m bs ev, tab c m = some (bs, ev) → Cls X.K (He.ga X.K c) ∧ ∃ (f : Addr) (k : Nat) (fd : FuncData) (ps : List Str), Meth X.K (He.ga X.K c) m f ∧ FnG X.prog X.w X.K X.mg X.base k f fd ps ev ∧ Room (k + 2) X.A ∧ Binds X.K fd ps [] ∧ ∀ ss, ev ss ≠ .err → ss.length = ps.length)
    (hr : COK X.K r g) (hP : ∀ A G R H e σ v val, ok val = true → RepVal X.K A G R H e σ v val → P v) {σ : L2.St} {H : Hp} {Q : VK} (h : tEv X.K W (ownC tab m ok g f) σ H Q) : tEv X.K W f σ H fun x H1 => r [x] H1 Q ∨ OwnB X m P [x] H1 Q := by
  obtain ⟨pn, A, e, G, R, g0, oc⟩ := h
  refine chain g0 oc fun x va A1 e1 G1 H1 x1 g1 r1 oc1 => ?_
  obtain ⟨wa, G2, x2, g2, r2, oc2⟩ := oc_pend g1 r1 oc1
  obtain ⟨d, d1, oc3⟩ := oc_derP g2 r2 oc2
  have plain : ∀ d, RdV X.K G2 H1 x d → OcV X.K W (rvE X.K) pn σ R Q G2 (opt (g [d]) e1) → r [x] H1 Q := fun d d1 oc => by
    obtain ⟨val, q5, fin⟩ := oc_optE oc
    exact hr pn A1 e1 σ G2 R H1 [x] [d] val g2 (.cons d1 .nil) q5 Q fin
  cases d with
  | ins c fs =>
    obtain ⟨⟨bs, ev⟩, hp, oc4⟩ := oc_opt oc3
    have hp' : (if (fsGet fs m).isNone then tab c m else none) = some (bs, ev) := hp
    split at hp'
    · obtain ⟨hc, fa, k, fd, ps, hm, F, hrm, hb, hl⟩ := hM c m bs ev hp'
      obtain ⟨a, dx, vs, rfl, ha, hs, _⟩ := rd_ins d1
      obtain ⟨vals, A6, e6, G6, x6, g6, p6, oc5⟩ := oc_frzL g2 (.cons r2 .nil) oc4
      refine .inr ⟨_, fa, a, dx, vs, k, fd, ps, ev, rfl, ha, hm, F, hrm, hb, ?_⟩
      refine go_sp (W := fun _ _ _ _ => False) hl g6 p6 ?_
      have oc6 : OcV X.K W (rvE X.K) pn σ R Q G6 (bnd (goN ev vals) (fun r => if ok r then ret r else fail) e6) := oc5
      unfold bnd at oc6
      unfold OcV
      cases hg : goV ev vals e6 with
      | err => unfold goN at oc6; rw [hg] at oc6; exact oc6
      | ex z e' => unfold goN at oc6; rw [hg] at oc6; exact False.elim oc6
      | ok pr =>
        obtain ⟨rv, e'⟩ := pr
        unfold goN at oc6
        rw [hg] at oc6
        have oc7 : OcV X.K W (rvE X.K) pn σ R Q G6 ((if ok rv then ret rv else fail) e') := oc6
        by_cases hk : ok rv = true
        · rw [if_pos hk] at oc7
          exact fun b A' G' H' x' g' rb => ⟨hP _ _ _ _ _ _ _ _ hk rb, oc_ret (rv := rvE X.K) oc7 b A' G' H' x' g' rb⟩
        · rw [if_neg hk] at oc7
          exact False.elim oc7
    · cases hp'
  | _ => exact .inl (plain _ d1 oc3)
def okStr : Val → Bool
  | .sh (.str _) => true
  | _ => false
theorem se_strO {tab : MTab} {p : Pos} {a : Expr} {f : M Val} {r : List V → Hp → VK → Prop} (hM : ∀ c m bs ev, tab c m = some (bs, ev) → Cls X.K (He.ga X.K c) ∧ ∃ (f : Addr) (k : Nat) (fd : FuncData) (ps : List Str), Meth X.K (He.ga X.K c) m f ∧ FnG X.prog X.w X.K X.mg X.base k f fd ps ev ∧ Room (k + 2) X.A ∧ Binds X.K fd ps [] ∧ ∀ ss, ev ss ≠ .err → ss.length = ps.length)
    (hgu : X.A.guards = some []) (h0 : CallR X (.type "str") r) (hr : COK X.K r strB) (hg : Gl X "str") (hm : X.mg "str" = none) (hs : notStar a = true) (ha : PE X a (tEv X.K W f)) : PE X (.Call (.Name "str" p) [a] [] pos) (tEv X.K W (ownC tab "__str__" okStr strB f)) :=
  PE_mono (pe_callTy (t := tCons (tEv X.K W f) tNil) (call_strO hgu h0) hg hm (by rfl) (pa_cons ha pa_nil (star_cons hs)) (by decide) (by decide) (star_cons hs) rfl) fun σ H Q q => town hM hr (fun A G R H e σ v val hk rb => by
    cases val with
    | sh d =>
      cases d with
      | str y =>
        have rb' : Rep X.K G v (.str y) := rb
        cases rb'
        exact ⟨y, rfl⟩
      | _ => cases hk
    | _ => cases hk) q
end
end Qv
namespace Qv
open PySem L2
open Evl (Ex)
open PyProof.Rows

/-! ### d[k] of a dict -/
def ixKD : D → D → Option D
  | .dct es, k => kvGet es k
  | a, b => ixD a b
def rIxK : R2 := fun x y H Q => ∃ a v, x = .ref a ∧ DGet H a y (some v) ∧ Q v H
def rIxA (K : PySem.W.Frag) : R2 := fun x y H Q => rIx K x y H Q ∨ rIxK x y H Q
section
variable {X : Cx} {W : WX} {K : PySem.W.Frag} {pos : Pos}
theorem ix_dict (hu : X.A.units + 1 < cLine) : IxR X rIxK := fun value slice pins s σ H x y v u Q I rx ry q hs => by
  obtain ⟨a, w, ex, g, q⟩ := q
  subst ex
  obtain rfl : v = Value.ref a := rx
  exact tail_any (dict_typeIs I g) PySem.F.slot_dict_getitem.lookup (d_getItem hu I g ry fun w' s3 I3 rw' => ⟨w, H, I3, rw', q⟩) hs
theorem ix_all (hu : X.A.units + 1 < cLine) : IxR X (rIxA X.K) := ix_seq.or (ix_dict hu)
theorem RepK.key {H : Hp} : ∀ {kvs : List (Key × V)} {es : List (D × D)} {x d : D}, RepK K H kvs es → kvGet es x = some d → ∃ k, x = keyD k := by
  intro kvs es x d r h
  obtain ⟨q, h1, _⟩ := Option.map_eq_some_iff.mp h
  have h2 := List.mem_of_find?_eq_some h1
  have h3 := List.find?_some h1
  simp only [decide_eq_true_eq] at h3
  clear h h1
  induction kvs generalizing es with
  | nil => cases r; cases h2
  | cons p kvs ih =>
    cases r with
    | cons a b =>
      rcases List.mem_cons.mp h2 with rfl | h2
      · exact ⟨_, h3.symm⟩
      · exact ih b h2
theorem RepT.key {H : Hp} : ∀ {kvs : List (List Key × V)} {es : List (D × D)} {x d : D}, RepT K H kvs es → kvGet es x = some d → ∃ k : List Key, x = .tup (k.map keyD) := by
  intro kvs es x d r h
  obtain ⟨q, h1, _⟩ := Option.map_eq_some_iff.mp h
  have h2 := List.mem_of_find?_eq_some h1
  have h3 := List.find?_some h1
  simp only [decide_eq_true_eq] at h3
  clear h h1
  induction kvs generalizing es with
  | nil => cases r; cases h2
  | cons p kvs ih =>
    cases r with
    | cons a b =>
      rcases List.mem_cons.mp h2 with rfl | h2
      · exact ⟨_, h3.symm⟩
      · exact ih b h2
theorem ok_ixA : ROK K (rIxA K) fun a b => (ixKD a b).map Val.sh := by
  intro pn A e σ G R H x y dx dy val g rx ry h Q f
  cases dx with
  | dct es =>
    obtain ⟨d, h', rfl⟩ := Option.map_eq_some_iff.mp (show (kvGet es dy).map Val.sh = some val from h)
    obtain ⟨a, rfl, rd⟩ := rx
    rcases rd with ⟨kvs, h1, r⟩ | ⟨kvs, h1, r⟩
    · obtain ⟨k, rfl⟩ := r.key h'
      have := r.at (k := k)
      rw [h'] at this
      obtain ⟨v, h2, h3⟩ := this
      have ey : y = kV k := rep_keyS (by cases k <;> exact ry)
      exact .inr ⟨a, v, rfl, .inl ⟨kvs, k, .inl h1, ey, h2.symm⟩, f.sc g h3⟩
    · obtain ⟨k, rfl⟩ := r.key h'
      have := r.at (k := k)
      rw [h'] at this
      obtain ⟨v, h2, h3⟩ := this
      obtain ⟨b, rfl, hb⟩ := rep_keyT (K := K) (H := G) (ks := k) (v := y) ry
      exact .inr ⟨a, v, rfl, .inr ⟨kvs, k, b, .inl h1, rfl, g.gh _ _ hb, h2.symm⟩, f.sc g h3⟩
  | _ => exact .inl (ok_ix _ _ _ _ _ _ _ _ _ _ _ _ g rx ry h Q f)
def ixE (fa fb : M Val) : M Val := binC (fun a b => (ixKD a b).map Val.sh) fa fb
theorem se_ixE {a b : Expr} {fa fb : M Val} (hu : X.A.units + 1 < cLine) (ha : PE X a (tEv X.K W fa)) (hb : PE X b (tEv X.K W fb)) (hs : notSlice b = true) : PE X (.Subscript a b pos) (tEv X.K W (ixE fa fb)) :=
  PE_mono (pe_ix (ix_all hu) ha hb (plainIx_of hs)) fun _ _ _ h => tbin ok_ixA h
end
end Qv
namespace Qv
open PySem L2
open Evl (Ex)

/-! ### a comprehension over an own list, which stays owned -/
def chkS (k : Nat) (ds : List D) : M Unit := fun e => match e[k]? with
  | some (.ow _ (.lst l)) => if l = ds then .ok ((), e) else .err
  | _ => .err
theorem chkS_ok {k : Nat} {ds : List D} {e e' : En} {u : Unit} (h : chkS k ds e = .ok (u, e')) : e' = e ∧ ∃ b, e[k]? = some (.ow b (.lst ds)) := by
  unfold chkS at h
  split at h
  · rename_i b l hk
    split at h
    · rename_i c
      cases h
      subst c
      exact ⟨rfl, b, hk⟩
    · cases h
  · cases h
def lcLO (own : List Nat) (k : Nat) (ds : List D) (g : Val → M Unit) (t : M Bool) (f : M Val) : List D → M (List D)
  | [] => bnd (wipE own) fun _ => bnd (chkS k ds) fun _ => ret []
  | d :: r => bnd (wipE own) fun _ => bnd (chkS k ds) fun _ => bnd (g (.sh d)) fun _ => bnd t fun c =>
    if c = true then bnd f fun v => bnd (shr v) fun x => bnd (lcLO own k ds g t f r) fun xs => ret (x :: xs) else lcLO own k ds g t f r
def lcO (own : List Nat) (k : Nat) (g : Val → M Unit) (t : M Bool) (f : M Val) : M Val := fun e0 => match e0[k]? with
  | some (.ow _ (.lst ds)) => match lcLO own k ds g t f ds e0 with
    | .ok (xs, e1) => if xs.length ≤ lenLim then .ok (.fr (.lst xs), putE own e0 e1) else .err
    | _ => .err
  | _ => .err
theorem lcLO_env {own : List Nat} {k : Nat} {ds0 : List D} {g : Val → M Unit} {t : M Bool} {f : M Val} : ∀ {ds : List D} {e : En} {r : List D × En}, lcLO own k ds0 g t f ds e = .ok r → (∀ k ∈ own, r.2[k]? = some .em) ∧ ∃ e1, wipE own e = .ok ((), e1)
  | [], e, r, h => by
    obtain ⟨_, e1, h1, k1⟩ := bnd_ok h
    obtain ⟨_, e2, h2, k2⟩ := bnd_ok k1
    obtain ⟨rfl, _⟩ := chkS_ok h2
    cases k2
    exact ⟨(wipE_env h1).2.2, _, h1⟩
  | d :: ds, e, r, h => by
    obtain ⟨_, e1, h1, k0⟩ := bnd_ok h
    refine ⟨?_, e1, h1⟩
    obtain ⟨_, e1', h1', k1⟩ := bnd_ok k0
    obtain ⟨_, e2, h2, k2⟩ := bnd_ok k1
    obtain ⟨k, e3, h3, k3⟩ := bnd_ok k2
    cases k with
    | false =>
      rw [if_neg Bool.false_ne_true] at k3
      exact (lcLO_env k3).1
    | true =>
      rw [if_pos rfl] at k3
      obtain ⟨v, e4, h4, k4⟩ := bnd_ok k3
      obtain ⟨x, e5, h5, k5⟩ := bnd_ok k4
      obtain ⟨xs, e6, h6, k6⟩ := bnd_ok k5
      cases k6
      exact (lcLO_env h6).1
def tIo (K : PySem.W.Frag) (k : Nat) : TI := fun σ H R => ∃ p, σ[k]? = some (some (.ref p)) ∧ (∃ xs, SqL K H p xs) ∧ R (Itl K p) H
theorem tlcO {K : PySem.W.Frag} {W : WX} {own ixs : List Nat} {kk : Nat} {g : Val → M Unit} {t : M Bool} {f : M Val} (hix : ∀ i ∈ ixs, i ∈ own) (hkk : kk ∉ own) (σ : L2.St) (H1 : Hp) (Q : VK) (q : tEv K W (lcO own kk g t f) σ H1 Q) : tLc (tIo K kk) (tGv K W0 ixs g) (tTv K W0 t) (tEv K W0 f) own σ H1 Q := by
  obtain ⟨pn, A1, e1, G1, R, g1, oc⟩ := q
  unfold lcO at oc
  split at oc
  case h_2 => exact False.elim oc
  rename_i bb ds hk1
  obtain ⟨p, hp1, _, xs0, hp2, hp3⟩ := g1.sl kk _ hk1
  have oc1 := oc
  have own_at : ∀ {A4 e4 G3 R3 H3 i}, RelG K pn A4 e4 (wipe σ own) G3 R3 H3 → (∃ b, e4[kk]? = some (.ow b (.lst ds))) → (i < ds.length → (Itl K p).go i H3) ∧ (i = ds.length → (Itl K p).stop i H3) ∧ ∀ x H2 d, (Itl K p).yld i H3 x H2 → ds[i]? = some d → ∃ G2, Ex G3 G2 ∧ RelG K pn A4 e4 (wipe σ own) G2 R3 H2 ∧ Rep K G2 x d := by
    intro A4 e4 G3 R3 H3 i g4 hb
    obtain ⟨b, hb⟩ := hb
    obtain ⟨p', q1, _, xs, q2, r⟩ := g4.sl kk _ hb
    rw [wipe_ne hkk, hp1] at q1
    cases q1
    have hq : SqL K H3 p xs := SqL.of q2
    refine ⟨fun hi => ?_, fun hi => ⟨xs, hq, by rw [r.length]; omega⟩, fun v H2 d hy hd => ?_⟩
    · have hi' : i < xs.length := by rw [r.length]; exact hi
      exact ⟨xs, xs[i], hq, by simp [hi']⟩
    · obtain ⟨rfl, hy⟩ := hy
      obtain ⟨w, hw, rw'⟩ := r.get hd
      have e2 := hy xs hq
      rw [hw] at e2
      cases e2
      exact ⟨G3, Ex.refl _, g4, rw'⟩
  refine ⟨p, hp1, ⟨xs0, SqL.of hp2⟩, ?_⟩
  intro D hD
  cases k2 : lcLO own kk ds g t f ds e1 with
  | err => rw [k2] at oc1; exact False.elim oc1
  | ex x e2 => rw [k2] at oc1; exact False.elim oc1
  | ok p =>
    obtain ⟨xs, e2⟩ := p
    rw [k2] at oc1
    have oc2 : OcV K W (rvE K) pn σ R Q G1 (if xs.length ≤ lenLim then Out.ok (Val.fr (.lst xs), putE own e1 e2) else Out.err) := oc1
    by_cases hlen : xs.length ≤ lenLim
    · rw [if_pos hlen] at oc2
      have fin : FinV K (rvE K) pn (putE own e1 e2) σ G1 R (.fr (.lst xs)) Q := oc2
      obtain ⟨hem, ew, hw⟩ := lcLO_env k2
      obtain ⟨gD, GD, RD, oD⟩ := g1.laidF (o := .lst []) hD
      have gA : RelG K pn A1 e1 σ G1 (upd R D (.lst [])) (upd H1 D (.lst [])) := gD.addR GD upd_same oD
      refine ⟨fun i m H' => m = ds.length - i ∧ i ≤ ds.length ∧ ∃ A3 e3 σ3 G3 acc as xs', Ex G1 G3 ∧ Same own σ σ3 ∧ RelG K pn A3 e3 σ3 G3 (upd R D (.lst acc)) H' ∧ RepL K G3 acc as ∧ xs = as ++ xs' ∧ lcLO own kk ds g t f (ds.drop i) e3 = .ok (xs', e2), ⟨_, rfl, Nat.zero_le _, A1, e1, σ, G1, [], [], xs, Ex.refl _, Same.refl, gA, .nil, rfl, k2⟩, ?_⟩
      rintro i m H3 ⟨rfl, hi, A3, e3, σ3, G3, acc, as, xs', x3, s3, g3, ra, hx, k3⟩
      have ws : wipe σ3 own = wipe σ own := wipe_same s3
      by_cases hlt : i < ds.length
      · rw [List.drop_eq_getElem_cons hlt] at k3
        obtain ⟨_, e4, h4, k4'⟩ := bnd_ok k3
        obtain ⟨_, e4', h4', k4⟩ := bnd_ok k4'
        obtain ⟨rfl, hbb⟩ := chkS_ok h4'
        obtain ⟨A4, g4⟩ := wipE_ok g3 h4
        rw [ws] at g4
        obtain ⟨ok1, ok2, ok3⟩ := own_at (i := i) g4 hbb
        obtain ⟨_, e5, h5, k5⟩ := bnd_ok k4
        obtain ⟨kb, e6, h6, k6⟩ := bnd_ok k5
        refine .inr ⟨ok1 hlt, fun H' => ∃ A3 e3 σ3 G3 acc as xs', Ex G1 G3 ∧ Same own σ σ3 ∧ RelG K pn A3 e3 σ3 G3 (upd R D (.lst acc)) H' ∧ RepL K G3 acc as ∧ xs = as ++ xs' ∧ lcLO own kk ds g t f (ds.drop (i + 1)) e3 = .ok (xs', e2), fun H' z => ⟨_, by omega, rfl, hlt, z⟩, fun x H5 y5 => ?_⟩
        have hd : ds[i]? = some ds[i] := by simp [hlt]
        obtain ⟨G5, x5, g5, r5⟩ := ok3 x H5 _ y5 hd
        refine ⟨pn, A4, e4', G5, _, .sh ds[i], g5, r5, ?_⟩
        unfold OcG
        rw [h5]
        intro σ6 A6 G6 H6 x6 s6 g6
        have s6' : Same own (wipe σ own) σ6 := s6.of hix
        have s7 : Same own σ σ6 := same_wipe.trans s6'
        refine ⟨wipe_same s7, pn, A6, e5, G6, _, g6, ?_⟩
        unfold OcV
        rw [h6]
        intro kb' A7 G7 H7 x7 g7 hkb
        subst hkb
        have y := x3.trans (x5.trans (x6.trans x7))
        have y0 := x5.trans (x6.trans x7)
        cases kb' with
        | false =>
          rw [if_neg Bool.false_ne_true] at k6
          show ∃ A3 e3 σ3 G3 acc as xs', _
          exact ⟨A7, e6, σ6, G7, acc, as, xs', y, s7, g7, ra.mono y0, hx, k6⟩
        | true =>
          rw [if_pos rfl] at k6
          show tEv K W0 f σ6 H7 _
          obtain ⟨v, e8, h8, k8⟩ := bnd_ok k6
          obtain ⟨xd, e9, h9, k9⟩ := bnd_ok k8
          obtain ⟨xs2, e10, h10, k10⟩ := bnd_ok k9
          cases k10
          refine ⟨pn, A7, e6, G7, _, g7, ?_⟩
          unfold OcV
          rw [h8]
          intro z A8 G8 H8 x8 g8 r8
          obtain ⟨A9, G9, x9, g9, r9⟩ := g8.shr r8 h9
          have ra9 := ra.mono (y0.trans (x8.trans x9))
          refine ⟨acc, g9.rh _ _ upd_same, ?_, A9, e9, σ6, G9, acc ++ [z], as ++ [xd], xs2, y.trans (x8.trans x9), s7, g9.frameSet, ra9.append (.cons r9 .nil), by rw [hx, List.append_assoc]; rfl, h10⟩
          rw [← lim_eq, ra.length]
          rw [hx, List.length_append, List.length_cons] at hlen
          omega
      · have e0 : i = ds.length := by omega
        rw [List.drop_eq_nil_of_le (by omega)] at k3
        obtain ⟨_, e4, h4, k4'⟩ := bnd_ok k3
        obtain ⟨_, e4', h4', k4⟩ := bnd_ok k4'
        obtain ⟨rfl, hbb⟩ := chkS_ok h4'
        cases k4
        obtain ⟨A4, g4⟩ := wipE_ok g3 h4
        rw [ws] at g4
        obtain ⟨ok1, ok2, ok3⟩ := own_at (i := i) g4 hbb
        refine .inl ⟨ok2 e0, ?_⟩
        have hno := wipE_not hw
        have g5 : RelG K pn A4 (putE own e1 e2) σ G3 (upd R D (.lst acc)) H3 := RelG.unwip g1 hno x3 g4 (wipE_env h4).2.2
        have RD' : R D = none := RD
        have ns : ¬ Owd A4 D := fun ⟨j, τ, z⟩ => by
          have := (g5.own j τ D z).2.1
          rw [upd_same] at this; cases this
        have g6 : RelG K pn A4 (putE own e1 e2) σ G3 R H3 := g5.weakR (Ex.new RD')
        rw [List.append_nil] at hx
        subst hx
        exact fin _ A4 G3 H3 x3 g6 ⟨D, rfl, g5.dj D (by rw [upd_same]; simp), RD', ns, ⟨acc, g5.rh _ _ upd_same, ra⟩⟩
    · rw [if_neg hlen] at oc2; exact False.elim oc2
/-- by the slot as it is: an own list stays owned -/
def ownL (k : Nat) (e : En) : Bool := match e[k]? with
  | some (.ow _ (.lst _)) => true
  | _ => false
def lcN (k : Nat) (own : List Nat) (it : M (List D)) (g : Val → M Unit) (t : M Bool) (f : M Val) : M Val := fun e => if ownL k e = true ∧ k ∉ own then lcO own k g t f e else lcC own it g t f e
theorem tlcN {K : PySem.W.Frag} {W : WX} {own ixs : List Nat} {k : Nat} {it : M (List D)} {g : Val → M Unit} {t : M Bool} {f : M Val} (hix : ∀ i ∈ ixs, i ∈ own) (σ : L2.St) (H : Hp) (Q : VK) (q : tEv K W (lcN k own it g t f) σ H Q) :
    tLc (tIo K k) (tGv K W0 ixs g) (tTv K W0 t) (tEv K W0 f) own σ H Q ∨ tLc (tIv K W it) (tGv K W0 ixs g) (tTv K W0 t) (tEv K W0 f) own σ H Q := by
  obtain ⟨pn, A, e, G, R, g0, oc⟩ := q
  unfold lcN at oc
  split at oc
  · rename_i h
    exact .inl (tlcO hix h.2 σ H Q ⟨pn, A, e, G, R, g0, oc⟩)
  · exact .inr (tlc hix σ H Q ⟨pn, A, e, G, R, g0, oc⟩)
theorem PE_or {X : Cx} {a : Expr} {t t' : TE} (h : PE X a t) (h' : PE X a t') : PE X a (fun σ H Q => t σ H Q ∨ t' σ H Q) := ⟨fun pins s σ H Q I q => q.elim (h.run pins s σ H Q I) (h'.run pins s σ H Q I)⟩
theorem PS_or {X : Cx} {a : Stmt} {t t' : TS} (h : PS X a t) (h' : PS X a t') : PS X a (fun D σ H => t D σ H ∨ t' D σ H) := ⟨fun pins s σ H D I q => q.elim (h.run pins s σ H D I) (h'.run pins s σ H D I)⟩
theorem pi_own {X : Cx} {tg : Expr} {i : Nat} {x : Str} {pos : Pos} (hN : X.N[i]? = some x) (hv : Vis X.env.scope x) (hd : (x == ("__debug__" : Str)) = false) (hcd : (x == ("__classdict__" : Str)) = false) : PI X tg (.Name x pos) (tIo X.K i) :=
  PI_mono (pi_list (pe_var hN hv hd hcd)) fun σ H R q => by
    obtain ⟨p, h1, h2, h3⟩ := q
    exact ⟨.ref p, h1, p, rfl, h2, h3⟩
end Qv
namespace Qv
open PySem L2
open Evl (Ex)
open PyProof.Rows

/-! ### a op b op' c op'' d -/
section
variable {X : Cx} {a b c d : Expr} {ta tb tc td : TE} {pos : Pos}
def tChain3 (r r' r'' : R2) (ta tb tc td : TE) : TE := fun σ H Q => ta σ H fun x H1 => tb σ H1 fun y H2 => r x y H2 fun z H3 => ∃ k, z = .bl k ∧
  (if k = true then tc σ H3 fun w' H4 => r' y w' H4 fun z' H5 => ∃ k', z' = .bl k' ∧ (if k' = true then td σ H5 fun u H6 => r'' w' u H6 Q else Q (.bl false) H5) else Q (.bl false) H3)
theorem pe_chain3 {op op' op'' : CmpOp} {r r' r'' : R2} (ho : OpR X (compareOp op) r) (ho' : OpR X (compareOp op') r') (ho'' : OpR X (compareOp op'') r'') (ha : PE X a ta) (hb : PE X b tb) (hc : PE X c tc) (hd : PE X d td)
    (hm : lastMarks [op, op', op''] [b, c, d] = false) : PE X (.Compare a [op, op', op''] [b, c, d] pos) (tChain3 r r' r'' ta tb tc td) := by
  refine ⟨fun pins s σ H Q I h => ?_⟩
  refine Compare_chain (thn (ha.run pins s σ H _ I h) fun v s1 ⟨x, H1, I1, r1, q1⟩ => chain_link (thn (hb.run pins s1 σ H1 _ I1 q1) fun u s2 ⟨y, H2, I2, r2, q2⟩ =>
    thn (ho pins s2 σ H2 x y v u _ I2 r1 r2 q2) fun d s3 ⟨z, H3, I3, r3, k, e, q3⟩ => ?_)) hm
  subst e
  cases r3
  refine wpAny_truthy_bool ?_
  cases k with
  | false => exact ite_ff ⟨.bl false, H3, I3, rfl, q3⟩
  | true =>
    refine ite_tt (chain_link (thn (hc.run pins s3 σ H3 _ I3 q3) fun w' s4 ⟨z', H4, I4, r4, q4⟩ => thn (ho' pins s4 σ H4 y z' u w' _ I4 r2 r4 q4) fun d' s5 ⟨z'', H5, I5, r5, k', e', q5⟩ => ?_))
    subst e'
    cases r5
    refine wpAny_truthy_bool ?_
    cases k' with
    | false => exact ite_ff ⟨.bl false, H5, I5, rfl, q5⟩
    | true => exact ite_tt (chain_last (thn (hd.run pins s5 σ H5 _ I5 q5) fun w'' s6 ⟨z3, H6, I6, r6, q6⟩ => ho'' pins s6 σ H6 z' z3 w' w'' Q I6 r4 r6 q6))
end
section
variable {K : PySem.W.Frag} {W : WX}
def chn3T (g' g'' : D → D → Option Val) (vb : Val) (fc fd : M Val) : M Val :=
  bnd fc fun vc => bnd (pend vc) fun vc => bnd (der vb) fun db => bnd (der vc) fun dc => bnd (opt (g' db dc)) fun z => bnd (asBl z) fun k =>
    if k = true then bnd fd fun vd => bnd (der vc) fun dc' => bnd (der vd) fun dd => opt (g'' dc' dd) else ret (.sh (.bl false))
def chn3C (g g' g'' : D → D → Option Val) (fa fb fc fd : M Val) : M Val :=
  bnd fa fun va => bnd (pend va) fun va => bnd fb fun vb => bnd (pend vb) fun vb => bnd (der va) fun da => bnd (der vb) fun db => bnd (opt (g da db)) fun z => bnd (asBl z) fun k =>
    if k = true then chn3T g' g'' vb fc fd else ret (.sh (.bl false))
theorem tchn3 {r r' r'' : R2} {g g' g'' : D → D → Option Val} {fa fb fc fd : M Val} (hr : ROK K r g) (hr' : ROK K r' g') (hr'' : ROK K r'' g'') {σ : L2.St} {H : Hp} {Q : VK} (h : tEv K W (chn3C g g' g'' fa fb fc fd) σ H Q) :
    tChain3 r r' r'' (tEv K W fa) (tEv K W fb) (tEv K W fc) (tEv K W fd) σ H Q := by
  obtain ⟨pn, A, e, G, R, g0, oc⟩ := h
  refine chain g0 oc fun x va A1 e1 G1 H1 x1 g1 r1 oc1 => ?_
  obtain ⟨wa, G2, x2, g2, r2, oc2⟩ := oc_pend g1 r1 oc1
  refine chain g2 oc2 fun y vb A3 e3 G3 H3 x3 g3 r3 oc3 => ?_
  obtain ⟨wb, G4, x4, g4, r4, oc4⟩ := oc_pend g3 r3 oc3
  obtain ⟨da, d1, oc5⟩ := oc_derP g4 (r2.mono (x3.trans x4)) oc4
  obtain ⟨db, d2, oc6⟩ := oc_derP g4 r4 oc5
  obtain ⟨z, q5, oc7⟩ := oc_opt oc6
  refine hr pn A3 e3 σ G4 R H3 x y da db z g4 d1 d2 q5 _ fun zv A5 G5 H5 x5 g5 r5 => ?_
  obtain ⟨b, rfl, oc8⟩ := oc_asBl oc7
  have r5' : Rep K G5 zv (.bl b) := r5
  cases r5'
  refine ⟨_, rfl, ?_⟩
  cases b with
  | false =>
    rw [if_neg Bool.false_ne_true] at oc8 ⊢
    exact ((oc_ret oc8).ext x5).sc g5 (.bl _)
  | true =>
    rw [if_pos rfl] at oc8 ⊢
    refine chain g5 (oc8.ext x5) fun w vc A6 e6 G6 H6 x6 g6 r6 oc9 => ?_
    obtain ⟨wc, G7, x7, g7, r7, oc9⟩ := oc_pend g6 r6 oc9
    obtain ⟨db', d3, oc10⟩ := oc_derP g7 (r4.mono (x5.trans (x6.trans x7))) oc9
    obtain ⟨dc, d4, oc11⟩ := oc_derP g7 r7 oc10
    obtain ⟨z', q8, oc12⟩ := oc_opt oc11
    refine hr' pn A6 e6 σ G7 R H6 y w db' dc z' g7 d3 d4 q8 _ fun zv' A8 G8 H8 x8 g8 r8 => ?_
    obtain ⟨b, rfl, oc13⟩ := oc_asBl oc12
    have r8' : Rep K G8 zv' (.bl b) := r8
    cases r8'
    refine ⟨_, rfl, ?_⟩
    cases b with
    | false =>
      rw [if_neg Bool.false_ne_true] at oc13 ⊢
      exact ((oc_ret oc13).ext x8).sc g8 (.bl _)
    | true =>
      rw [if_pos rfl] at oc13 ⊢
      refine chain g8 (oc13.ext x8) fun u vd A9 e9 G9 H9 x9 g9 r9 oc14 => ?_
      obtain ⟨dc', d5, oc15⟩ := oc_derP g9 (r7.mono (x8.trans x9)) oc14
      obtain ⟨dd, d6, oc16⟩ := oc_der g9 r9 oc15
      obtain ⟨val, q10, fin⟩ := oc_optE oc16
      exact hr'' pn A9 e9 σ G9 R H9 w u dc' dd val g9 d5 d6 q10 Q fin
end
section
variable {X : Cx} {W : WX} {pos : Pos} {a b c d : Expr} {fa fb fc fd : M Val}
theorem se_chn3 {op op' op'' : CmpOp} {r r' r'' : R2} {g g' g'' : D → D → Option Val} (ho : OpR X (compareOp op) r) (ho' : OpR X (compareOp op') r') (ho'' : OpR X (compareOp op'') r'') (hr : ROK X.K r g) (hr' : ROK X.K r' g') (hr'' : ROK X.K r'' g'') (ha : PE X a (tEv X.K W fa)) (hb : PE X b (tEv X.K W fb)) (hc : PE X c (tEv X.K W fc)) (hd : PE X d (tEv X.K W fd))
    (hm : lastMarks [op, op', op''] [b, c, d] = false) : PE X (.Compare a [op, op', op''] [b, c, d] pos) (tEv X.K W (chn3C g g' g'' fa fb fc fd)) := PE_mono (pe_chain3 ho ho' ho'' ha hb hc hd hm) fun _ _ _ h => tchn3 hr hr' hr'' h
end
end Qv
namespace Qv
open PySem L2
open Evl (Ex)
open PySem.Spec PyProof.Rows

/-! ### l.count(x) -/
def rCntD (K : PySem.W.Frag) : V → List V → Hp → VK → Prop := fun x xs H Q => ∃ (a : Addr) (y : V) (d : PyData) (ds : List PyData), x = V.ref a ∧ xs = [y] ∧ Dp K H (V.ref a) (.list ds) ∧ Dp K H y d ∧ SeqAt.shaped (.list ds) = true ∧ SeqAt.shaped d = true ∧
  Q (.int ((ds.countP fun z => PyData.eqv z d : Nat) : Int)) H
theorem mt_cntD {X : Cx} (hu : X.A.units + 65 < cLine) : MtR X "list.count" (rCntD X.K) := by
  intro pins s σ H x xs v us Q I rx rxs h
  obtain ⟨a, y, d, ds, rfl, rfl, hl, hy, sl, sd, q⟩ := h
  cases rx
  obtain ⟨u, rfl, ru⟩ := rxs.one
  obtain ⟨bs, r1⟩ := Dp.reads I d y u hy ru
  have lay : PyData.canLayAll0 ds = true := SeqAt.canLay_of_shaped sl
  cases hl with
  | lst hs ha =>
    obtain ⟨its, rv, ⟨⟨cls, dd, data, sls⟩, n, ho, hc, hdn, hdt⟩, hlen⟩ := I.list hs
    simp only at hc hdt
    subst hc hdt
    obtain ⟨as, r2⟩ := Dp.readsAll I ds _ its ha rv
    have em : its.map (SeqAt.readOf s.heap) = ds := SeqAt.readsAll_map ds its as lay r2
    have ec : its.toArray.toList.countP (fun w => PyData.eqv (SeqAt.readOf s.heap w) d) = ds.countP fun z => PyData.eqv z d := by
      rw [← em, List.countP_map]
      rfl
    refine call_meets PySem.F.slot_list_count ⟨_, ho, rfl⟩ PySem.F.entry_list_count (PySem.F.args_list_count_2 _ _) (SeqAt.list_countAt a its.toArray n dd sls u fun w => PyData.eqv (SeqAt.readOf s.heap w) d)
      ⟨ho, SeqAt.items_eqAt (vs := its.toArray) (show ReadsAll s.heap its.toArray.toList ds as from r2) r1 lay (SeqAt.canLay_of_shaped sd) (PyProof.Rows.room_in_shaped sd hu), ?_⟩
    rw [ec]
    exact ⟨.int _, H, I.tok _, ⟨_, rfl⟩, q⟩
def cntD : D → D → Option Val
  | .lst l, x => if eqOk (.lst l) && eqOk x then some (.sh (.int ((pyL l).countP fun z => PyData.eqv z x.py : Nat))) else none
  | _, _ => none
def isLst : D → M Unit
  | .lst _ => ret ()
  | _ => fail
def cntC (fo fa : M Val) : M Val := bnd fo fun vo => bnd (pend vo) fun wo => bnd (der wo) fun d0 => bnd (isLst d0) fun _ => bnd fa fun va => bnd (der wo) fun d => bnd (der va) fun x => opt (cntD d x)
section
variable {X : Cx} {W : WX} {a : Expr} {fa : M Val}
theorem se_cnt (hu : X.A.units + 65 < cLine) {o : Expr} {apos cpos : Pos} {fo : M Val} (ho : PE X o (tEv X.K W fo)) (ha : PE X a (tEv X.K W fa)) (hn : notStar a = true) (hb : notCall o = true) (hl : (apos.endLine == cpos.line) = true) :
    PE X (.Call (.Attribute o "count" apos) [a] [] cpos) (tEv X.K W (cntC fo fa)) :=
  PE_mono (pe_bm PySem.F.plainAttrs_list PySem.F.slot_list_count PySem.F.type_list_count (mt_cntD hu) ho (pa_cons ha pa_nil (star_cons hn)) (base_of hb) (by rw [star_one hn]; rfl) hl (star_cons hn) rfl) fun σ H Q q => by
    obtain ⟨pn, A, e, G, R, g, oc⟩ := q
    refine chain g oc fun x vo A1 e1 G1 H1 x1 g1 r1 oc1 => ?_
    obtain ⟨wo, G2, x2, g2, r2, oc2⟩ := oc_pend g1 r1 oc1
    obtain ⟨d0, rd0, oc3⟩ := oc_derP g2 r2 oc2
    cases d0 with
    | lst l0 =>
      have rd0' := rd0
      obtain ⟨p, xs0, rfl, hp0, _⟩ := rd0'
      refine ⟨.inl ⟨rfl, xs0, SqL.of hp0⟩, ?_⟩
      have oc4 : OcV X.K W (rvE X.K) pn σ R Q G2 (bnd fa (fun va => bnd (der wo) fun d => bnd (der va) fun x => opt (cntD d x)) e1) := oc3
      refine chain g2 oc4 fun y va A2 e2 G3 H2 x3 g3 r3 oc5 => ?_
      obtain ⟨d, rd, oc6⟩ := oc_derP g3 (r2.mono x3) oc5
      obtain ⟨dx, rx, oc7⟩ := oc_der g3 r3 oc6
      obtain ⟨val, q8, fin⟩ := oc_optE oc7
      cases d with
      | lst l =>
        have q8' : (if (eqOk (.lst l) && eqOk dx) = true then some (Val.sh (.int ((pyL l).countP fun z => PyData.eqv z dx.py : Nat))) else none) = some val := q8
        split at q8'
        · rename_i c
          cases q8'
          rw [Bool.and_eq_true] at c
          obtain ⟨c1, c2⟩ := c
          unfold eqOk at c1 c2
          rw [Bool.and_eq_true] at c1 c2
          exact ⟨p, y, dx.py, pyL l, rfl, rfl, Rep.dp c1.1 c1.2 (rd.rep g3.gh), Rep.dp c2.1 c2.2 (rx.rep g3.gh), c1.2, c2.2, fin.sc g3 (.int _)⟩
        · cases q8'
      | _ => cases q8
    | _ => exact False.elim oc3
end
end Qv
namespace Qv
open PySem L2 PySem.Spec PyProof.Rows ClX
open Evl (Ex)

/-! ### the evaluator on the text -/
structure Ct where
  N : List Str
  sc : Scope
  fn : Str → Bool
structure Tb where
  gl : Str → Option D
  fr : Str → Bool
  fns : Str → Option (List Bool × Ev)
  fnk : Str → Nat → List Str → Option (List Bool × Ev × Shp)
  no : Str → Str → Bool := fun _ _ => false
  mt : MTab := fun _ _ => none
  pt : PTab := fun _ _ => none
  mkr : Str → Option (Str × List Bool × Ev) := fun _ => none
  sm : Str → Str → Option (List Bool × Ev) := fun _ _ => none
  dn : Bool := false
  du : Du := {}
  mqn : Str → Bool := fun _ => false
  mq : MTabQ := fun _ _ _ _ => none
  mkq : Str → Nat → List Str → Option (Str × List Bool × Ev × Option Nat × Shp) := fun _ _ _ => none
  clg : Str → Bool := fun _ => false
structure EvX where
  E : Ct → Expr → M Val
  T : Ct → Expr → M Bool
def ixOf (N : List Str) (x : Str) : Option Nat := match N.findIdx? (· == x) with
  | some i => if N[i]? = some x then some i else none
  | none => none
theorem ixOf_ok {N : List Str} {x : Str} {i : Nat} (h : ixOf N x = some i) : N[i]? = some x := by
  unfold ixOf at h
  split at h
  · split at h
    · cases h; assumption
    · cases h
  · cases h
def isGl (C : Ct) (x : Str) : Bool := decide (C.sc.names.lookup x = some .globalImplicit)
def isVis (C : Ct) (x : Str) : Bool := match C.sc.names.lookup x with
  | some .local => true | some .cell => true | some .free => true | _ => false
def isLoc (C : Ct) (x : Str) : Bool := decide (C.sc.names.lookup x = some .local)
def okSt (C : Ct) (x : Str) : Bool := isLoc C x || (decide (C.sc.names.lookup x = some .cell) && C.fn x)
def noDbg (x : Str) : Bool := !(x == ("__debug__" : Str)) && !(x == ("__classdict__" : Str))
def nameE (T : Tb) (C : Ct) (x : Str) : M Val := if noDbg x then (if isVis C x then match ixOf C.N x with
      | some i => nameC i
      | none => fail
    else if isGl C x then match T.gl x with
      | some d => conC d
      | none => fail
    else fail)
  else fail
def isiOf (y : Str) : Option String :=
  if y = ("int" : Str) then some "int" else if y = ("str" : Str) then some "str" else if y = ("bool" : Str) then some "bool" else if y = ("tuple" : Str) then some "tuple" else if y = ("list" : Str) then some "list" else if y = ("dict" : Str) then some "dict" else none
def bltC2 (f : Str) (fs : List (M Val)) : M Val := if f = ("sorted" : Str) then callC sortedB fs else fail
def bltC (f : Str) (fs : List (M Val)) : M Val :=
  if f = ("len" : Str) then callC lenB fs else if f = ("abs" : Str) then callC absB fs else if f = ("max" : Str) then callC maxB fs else if f = ("min" : Str) then callC minB fs
  else if f = ("int" : Str) then callC intB fs else if f = ("all" : Str) then callC allB fs else if f = ("any" : Str) then callC anyB fs else if f = ("sum" : Str) then callC sumB fs
  else if f = ("list" : Str) then callC listB fs else if f = ("tuple" : Str) then callC tupleB fs else if f = ("repr" : Str) then callC reprB fs else if f = ("str" : Str) then callC strB fs else bltC2 f fs
def lenSt (T : Tb) (r : EvX) (C : Ct) (f : Str) : List Expr → Option (M Val)
  | [.Call (.Name y _) [a] [] _] => if f = ("len" : Str) ∧ y = ("set" : Str) ∧ isGl C y = true ∧ T.fr y = true ∧ notStar a = true then some (lenSetC (r.E C a)) else none
  | _ => none
def isiE (T : Tb) (r : EvX) (C : Ct) : List Expr → M Val
  | [a, .Name y _] => if isGl C y && (T.fr y && noDbg y) then (match isiOf y with
    | some t => if T.dn then isX T.du (.bt t) (r.E C a) else isiC t (r.E C a)
    | none => fail) else if isGl C y && (T.clg y && noDbg y) then isX T.du (.ow y) (r.E C a) else fail
  | _ => fail
def blE (T : Tb) (r : EvX) (C : Ct) (f : Str) (args : List Expr) : M Val := match lenSt T r C f args with
  | some m => m
  | none => match args with
    | [] => fail
    | [a] => if T.dn && decide (f = ("str" : Str)) then ownC T.mt "__str__" okStr strB (r.E C a) else bltC f ([a].map (r.E C))
    | a :: es => bltC f ((a :: es).map (r.E C))
def frE (T : Tb) (r : EvX) (C : Ct) (f : Str) (args : List Expr) : M Val := if T.fr f then (if f = ("isinstance" : Str) then isiE T r C args else blE T r C f args) else fail
def shE (T : Tb) (r : EvX) (C : Ct) (f : Str) : List Expr → M Val
  | [] => frE T r C f []
  | a :: es => match T.fnk f (es.length + 1) [] with
    | some (bs, ev, q) => callK bs ev q.srcs q.n q.ks.length ((a :: es).map (r.E C)) []
    | none => frE T r C f (a :: es)
def mkqE (T : Tb) (r : EvX) (C : Ct) (f : Str) (args : List Expr) (kws : List Keyword) : Option (M Val) := match T.mkq f args.length (kws.filterMap (·.arg)) with
  | some (c, bs, ev, st, q) => some (mkQC c bs ev st q (args.map (r.E C)) ((kws.map (·.value)).map (r.E C)))
  | none => none
def mkE (T : Tb) (r : EvX) (C : Ct) (f : Str) (args : List Expr) : M Val := match T.mkr f with
  | some (c, bs, ev) => (match args with
    | [] => fail
    | a :: es => mkC c bs ev ((a :: es).map (r.E C)))
  | none => match mkqE T r C f args [] with
    | some m => m
    | none => shE T r C f args
def callE (T : Tb) (r : EvX) (C : Ct) (f : Str) (args : List Expr) : M Val :=
  if isGl C f && (noDbg f && args.all notStar) then match T.fns f with
    | some (bs, ev) => callV bs ev (args.map (r.E C))
    | none => mkE T r C f args
  else fail
def smOf (T : Tb) (C : Ct) (m : Str) : Expr → Option (List Bool × Ev)
  | .Name c _ => if isGl C c && noDbg c then T.sm c m else none
  | _ => none
def apE (r : EvX) (C : Ct) (o : Expr) (ap : Pos) (args : List Expr) (cp : Pos) : M Val := match args with
  | [a] => if notStar a && (notCall o && (ap.endLine == cp.line)) then appC (r.E C o) (r.E C a) else fail
  | _ => fail
def cnE (r : EvX) (C : Ct) (o : Expr) (ap : Pos) (args : List Expr) (cp : Pos) : M Val := match args with
  | [a] => if notStar a && (notCall o && (ap.endLine == cp.line)) then cntC (r.E C o) (r.E C a) else fail
  | _ => fail
def mqE (T : Tb) (r : EvX) (C : Ct) (o : Expr) (m : Str) (ap : Pos) (args : List Expr) (kws : List Keyword) (cp : Pos) : M Val :=
  if fewQ o args kws ap cp then methQ T.mq m (kws.filterMap (·.arg)) (r.E C o) (args.map (r.E C)) ((kws.map (·.value)).map (r.E C)) else fail
def mthE (T : Tb) (r : EvX) (C : Ct) (o : Expr) (m : Str) (ap : Pos) (args : List Expr) (cp : Pos) : M Val :=
  if m = ("append" : Str) then apE r C o ap args cp
  else if m = ("count" : Str) then cnE r C o ap args cp
  else if T.mqn m then mqE T r C o m ap args [] cp
  else if fewOk o args ap cp then (match smOf T C m o with
    | some (bs, ev) => callV bs ev (args.map (r.E C))
    | none => methC T.mt m (r.E C o) (args.map (r.E C)))
  else fail
def kwE (T : Tb) (r : EvX) (C : Ct) (f : Str) (args : List Expr) (kws : List Keyword) : M Val :=
  if isGl C f && (noDbg f && (args.all notStar && kws.all kwOk)) then match mkqE T r C f args kws with
    | some m => m
    | none => match args, T.fnk f args.length (kws.filterMap (·.arg)) with
      | a :: es, some (bs, ev, q) => callK bs ev q.srcs q.n q.ks.length ((a :: es).map (r.E C)) ((kws.map (·.value)).map (r.E C))
      | _, _ => fail
  else fail
def dctE (r : EvX) (C : Ct) : List (Option Expr) → List Expr → List (M Val × M Val)
  | some k :: ks, v :: vs => (r.E C k, r.E C v) :: dctE r C ks vs
  | _, _ => []
def wkE (r : EvX) (C : Ct) (f : Str) (args : List Expr) (tg : Expr) : M (List D) :=
  if f = ("range" : Str) then (match args with
    | [x] => rngC rng1B [r.E C x]
    | [x, y] => rngC rng2B [r.E C x, r.E C y]
    | [x, y, z] => rngC rng3B [r.E C x, r.E C y, r.E C z]
    | _ => fail)
  else match tg with
    | .Tuple _ _ _ => if f = ("enumerate" : Str) then (match args with
        | [x] => walkC enB [r.E C x]
        | _ => fail)
      else (match args with
        | [x, y] => walkC zp2B [r.E C x, r.E C y]
        | [x, y, z] => walkC zp3B [r.E C x, r.E C y, r.E C z]
        | _ => fail)
    | _ => fail
def isWk (f : Str) : Bool := decide (f = ("range" : Str)) || (decide (f = ("enumerate" : Str)) || decide (f = ("zip" : Str)))
def itE (T : Tb) (r : EvX) (C : Ct) (tg : Expr) (iter : Expr) : M (List D) := match iter with
  | .Call (.Name f _) args [] _ => if isGl C f && (T.fr f && (args.all notStar && isWk f)) then wkE r C f args tg else iterC (r.E C iter)
  | _ => iterC (r.E C iter)
def tgtE (r : EvX) (C : Ct) : Expr → Val → M Unit
  | .Name x _ => if okSt C x then (match ixOf C.N x with
    | some i => asgN i
    | none => fun _ => fail) else fun _ => fail
  | .Subscript o i _ => if notSlice i then asgI (r.E C o) (r.E C i) else fun _ => fail
  | _ => fun _ => fail
def tgE1 (r : EvX) (C : Ct) : Expr → Val → M Unit
  | .Tuple es _ _ => if es.all notStar then asgU (es.map (tgtE r C)) else fun _ => fail
  | e => tgtE r C e
def tgE (r : EvX) (C : Ct) : Expr → Val → M Unit
  | .Tuple es _ _ => if es.all notStar then asgU (es.map (tgE1 r C)) else fun _ => fail
  | e => tgtE r C e
def tgIx0 (C : Ct) : Expr → List Nat
  | .Name x _ => (ixOf C.N x).toList
  | _ => []
def tgIx1 (C : Ct) : Expr → List Nat
  | .Tuple es _ _ => es.flatMap (tgIx0 C)
  | e => tgIx0 C e
def tgIx (C : Ct) : Expr → List Nat
  | .Tuple es _ _ => es.flatMap (tgIx1 C)
  | e => tgIx0 C e
def tsE (r : EvX) (C : Ct) : List Expr → M Bool
  | [] => ret true
  | [c] => r.T C c
  | _ => fail
def notSet : Expr → Bool
  | .Set .. => false
  | _ => true
def ownOf (C : Ct) (scope : Scope) : List (Str × Nat) := scope.names.filterMap fun y => match y.2 with
  | .local => (ixOf C.N y.1).map fun i => (y.1, i)
  | .cell => (ixOf C.N y.1).map fun i => (y.1, i)
  | _ => none
def blkCt (C : Ct) (scope : Scope) : Ct := { N := C.N, sc := relS scope C.sc, fn := fun x => scope.names.lookup x == some .cell }
def itNm (C : Ct) : Expr → Option Nat
  | .Name x _ => if noDbg x && isVis C x then ixOf C.N x else none
  | _ => none
def lcE (T : Tb) (r : EvX) (C : Ct) (elt tg iter : Expr) (ifs : List Expr) (scope : Scope) : M Val :=
  if blkC C.N C.sc scope (ownOf C scope) && ((tgIx C tg).all (fun i => decide (i ∈ (ownOf C scope).map Prod.snd)) && notSet iter) then
    match itNm C iter with
    | some k => lcN k ((ownOf C scope).map Prod.snd) (itE T r C tg iter) (tgE r (blkCt C scope) tg) (tsE r (blkCt C scope) ifs) (r.E (blkCt C scope) elt)
    | none => lcC ((ownOf C scope).map Prod.snd) (itE T r C tg iter) (tgE r (blkCt C scope) tg) (tsE r (blkCt C scope) ifs) (r.E (blkCt C scope) elt)
  else fail
def ptE (r : EvX) (C : Ct) : Option Expr → M (Option Int)
  | none => noC
  | some a => partC (r.E C a)
def opOk : Operator → Bool
  | .Add => true | .Sub => true | .Mult => true | .FloorDiv => true | .Mod => true | .Pow => true
  | _ => false
def isDn : CmpOp → Bool
  | .Eq => true | .NotEq => true | .In => true | .NotIn => true
  | _ => false
def cmpE (T : Tb) (op : CmpOp) (fa fb : M Val) : M Val := if T.dn && isDn op then opC T.mt T.du op fa fb else binC (cmpOf op) fa fb
def stepE (T : Tb) (r : EvX) (C : Ct) : Expr → M Val
  | .Constant (.int i) _ _ => conC (.int i)
  | .Constant (.bool b) _ _ => conC (.bl b)
  | .Constant .none _ _ => conC .non
  | .Constant (.str x) _ _ => conC (.str x)
  | .Name x _ => nameE T C x
  | .BinOp a op b _ => if opOk op then binC (binOf op) (r.E C a) (r.E C b) else fail
  | .UnaryOp .Not a _ => notC (truC (r.E C a))
  | .UnaryOp .USub a _ => negC (r.E C a)
  | .Compare a [op] [b] _ => if behindInMarks op b then fail else cmpE T op (r.E C a) (r.E C b)
  | .Compare a [op, op'] [b, c] _ => if lastMarks [op, op'] [b, c] then fail else chnC (cmpOf op) (cmpOf op') (r.E C a) (r.E C b) (r.E C c)
  | .Compare a [op, op', op''] [b, c, d] _ => if lastMarks [op, op', op''] [b, c, d] then fail else chn3C (cmpOf op) (cmpOf op') (cmpOf op'') (r.E C a) (r.E C b) (r.E C c) (r.E C d)
  | .BoolOp op es _ => bopC (op == .Or) (es.map (r.E C))
  | .IfExp c a b _ => ifC (r.T C c) (r.E C a) (r.E C b)
  | .Tuple es _ _ => if es.all notStar then tupC (es.map (r.E C)) else fail
  | .List es _ => if es.all notStar then lstC (es.map (r.E C)) else fail
  | .Subscript a (.Slice lo hi none _) _ => sliC (r.E C a) (ptE r C lo) (ptE r C hi)
  | .Subscript a (.Slice none none (some (.UnaryOp .USub (.Constant (.int i) _ _) _)) _) _ => if i = 1 then revC (r.E C a) else fail
  | .Dict [] [] _ => dct0C
  | .Dict keys values _ => if keys.all (·.isSome) = true ∧ keys.length = values.length ∧ keys ≠ [] ∧ keys.length ≤ 15 then dictC (dctE r C keys values) else fail
  | .Subscript a b _ => if notSlice b then ixE (r.E C a) (r.E C b) else fail
  | .Call (.Name f _) args [] _ => callE T r C f args
  | .Call (.Name f _) args kws _ => kwE T r C f args kws
  | .Call (.Attribute o m ap) args [] cp => mthE T r C o m ap args cp
  | .Call (.Attribute o m ap) args kws cp => mqE T r C o m ap args kws cp
  | .FormattedValue a (-1) none _ => fmtC (r.E C a)
  | .JoinedStr [a] _ => r.E C a
  | .JoinedStr (a :: b :: es) _ => joinC ((a :: b :: es).map (r.E C)) Str.empty
  | .Attribute o f _ => if notCall o then atC T.no T.pt f (r.E C o) else fail
  | .ListComp elt [⟨tg, iter, ifs, 0⟩] scope _ => lcE T r C elt tg iter ifs scope
  | _ => fail
def plainT : Expr → Bool
  | .UnaryOp .Not _ _ => false
  | .BoolOp .. => false
  | .IfExp .. => false
  | .Compare .. => false
  | _ => true
def stepT (T : Tb) (r : EvX) (C : Ct) : Expr → M Bool
  | .UnaryOp .Not a _ => notT (r.T C a)
  | .BoolOp op es _ => bopT (op == .Or) (es.map (r.T C))
  | .Compare a [op] [b] _ => if behindInMarks op b then fail else cmpT (cmpE T op (r.E C a) (r.E C b))
  | .Compare a [op, op'] [b, c] _ => if lastMarks [op, op'] [b, c] then fail else cmpT (chnC (cmpOf op) (cmpOf op') (r.E C a) (r.E C b) (r.E C c))
  | e => if plainT e then truC (r.E C e) else fail
def evN (T : Tb) : Nat → EvX
  | 0 => ⟨fun _ _ => fail, fun _ _ => fail⟩
  | n + 1 => ⟨stepE T (evN T n), stepT T (evN T n)⟩

/-! ### it says what the program does -/
structure XOk (T : Tb) (X : Cx) (C : Ct) (W : WX) : Prop where
  calm : X.calm = true
  tk : Takes X W
  po : PassesOwn (model X.prog X.w) X.A X.env X.xe
  N : X.N = C.N
  nd : C.N.Nodup
  sc : X.env.scope = C.sc
  fn : ∀ x, C.fn x = true → X.fn x = true
  gu : X.A.guards = some []
  un : X.A.units + 200 < cLine
  gl : ∀ x d, T.gl x = some d → ∃ u v, X.mg x = some u ∧ RelV v u ∧ ∀ G, Rep X.K G v d
  fr : ∀ x, T.fr x = true → X.mg x = none
  fns : ∀ x bs ev, T.fns x = some (bs, ev) → ∃ (k : Nat) (f : Addr) (fd : FuncData) (ps : List Str), FnG X.prog X.w X.K X.mg X.base k f fd ps ev ∧ Room k X.A ∧ X.mg x = some (.ref f) ∧ PySem.W.keepIn X.K (.ref f) = true ∧ Binds X.K fd ps [] ∧ ∀ ss, ev ss ≠ .err → ss.length = ps.length
  fnk : ∀ x n ks bs ev q, T.fnk x n ks = some (bs, ev, q) → q.ks = ks ∧ ∃ (k : Nat) (f : Addr) (fd : FuncData) (ps : List Str), FnG X.prog X.w X.K X.mg X.base k f fd ps ev ∧ Room k X.A ∧ X.mg x = some (.ref f) ∧ PySem.W.keepIn X.K (.ref f) = true ∧ KBs X.K fd ps q ∧ ∀ ss, ev ss ≠ .err → ss.length = ps.length
  no : ∀ c f, T.no c f = true → Cls X.K (He.ga X.K c) ∧ NoAttr X.K (He.ga X.K c) f
  mt : MOk X T.mt
  pt : POk X T.pt
  mkr : ∀ x c bs ev, T.mkr x = some (c, bs, ev) → ∃ (k : Nat) (f : Addr) (fd : FuncData) (ps : List Str), Mk X.K (He.ga X.K c) f ∧ FnG X.prog X.w X.K X.mg X.base k f fd ps ev ∧ Room (k + 1) X.A ∧ X.mg x = some (.ref (He.ga X.K c)) ∧ Binds X.K fd ps [] ∧ ∀ ss, ev ss ≠ .err → ss.length = ps.length
  sm : ∀ c m bs ev, T.sm c m = some (bs, ev) → ∃ (k : Nat) (g C p0 : Addr) (mc : Value) (fd : FuncData) (ps : List Str), FnG X.prog X.w X.K X.mg X.base k g fd ps ev ∧ Room k X.A ∧ X.mg c = some (.ref C) ∧ CRead X.K C mc ∧ SMet X.K C mc m p0 g ∧ Binds X.K fd ps [] ∧ ∀ ss, ev ss ≠ .err → ss.length = ps.length
  du : DuOk X.K T.du
  mq : MOkQ X T.mq
  mkq : ∀ x n ks c bs ev st q, T.mkq x n ks = some (c, bs, ev, st, q) → q.ks = ks ∧ ∃ (k np : Nat) (f : Addr), Mk X.K (He.ga X.K c) f ∧ FnQ X.prog X.w X.K X.mg X.base k f np ev (upS st) q.self ∧ Room (k + 1) X.A ∧ X.mg x = some (.ref (He.ga X.K c)) ∧ ∀ ss, ev ss ≠ .err → ss.length = np
  clg : ∀ x, T.clg x = true → X.mg x = some (.ref (He.ga X.K x))
theorem takes0 {X : Cx} : Takes X W0 := fun u s' ⟨_, _, _, _, _, _, _, _, _, _, _, _, _, _, _, _, z⟩ => z.elim
theorem XOk.blk {T : Tb} {X : Cx} {C : Ct} {W : WX} {scope : Scope} (k : XOk T X C W) (s : Shared) (H : Hp) (A : Addr) (cl : List (Str × Addr)) (fp : List Addr) : XOk T (X.blk s H scope (compEnvC scope cl A X.env) fp) (blkCt C scope) W0 where
  calm := k.calm
  tk := takes0
  po := PassesOwn.never
  N := k.N
  nd := k.nd
  sc := by show relS scope X.env.scope = relS scope C.sc; rw [k.sc]
  fn := fun x h => h
  gu := k.gu
  un := k.un
  gl := k.gl
  fr := k.fr
  fns := k.fns
  fnk := k.fnk
  no := k.no
  mt := ⟨k.mt.go⟩
  pt := ⟨k.pt.go⟩
  mkr := k.mkr
  sm := k.sm
  du := k.du
  mq := ⟨k.mq.go⟩
  mkq := k.mkq
  clg := k.clg
structure Snd (T : Tb) (r : EvX) : Prop where
  E : ∀ X C W e, XOk T X C W → PE X e (tEv X.K W (r.E C e))
  T : ∀ X C W e, XOk T X C W → PT X e (tTv X.K W (r.T C e))
theorem pe_fail {X : Cx} {W : WX} {e : Expr} : PE X e (tEv X.K W fail) := ⟨fun pins s σ H Q I h => by obtain ⟨_, _, _, _, _, _, oc⟩ := h; exact False.elim oc⟩
theorem pt_fail {X : Cx} {W : WX} {e : Expr} : PT X e (tTv X.K W fail) := ⟨fun pins s σ H Q I h => by obtain ⟨_, _, _, _, _, _, oc⟩ := h; exact False.elim oc⟩
theorem pi_fail {X : Cx} {W : WX} {tg e : Expr} : PI X tg e (tIv X.K W fail) := ⟨fun pins s σ H Q I h => by obtain ⟨_, _, _, _, _, _, oc⟩ := h; exact False.elim oc⟩
theorem pg_fail {X : Cx} {W : WX} {e : Expr} {ixs : List Nat} : PG X e (tGv X.K W ixs fun _ => fail) := ⟨fun pins s σ H v u Q I r h => by obtain ⟨_, _, _, _, _, _, _, _, oc⟩ := h; exact False.elim oc⟩
theorem ps_fail {X : Cx} {W : WX} {e : Stmt} : PS X e (tSv X.K W fail) := ⟨fun pins s σ H D I h => by obtain ⟨_, _, _, _, _, _, oc⟩ := h; exact False.elim oc⟩
theorem pss_fail {X : Cx} {W : WX} {e : List Stmt} : PSs X e (tSv X.K W fail) := ⟨fun pins s σ H D I h => by obtain ⟨_, _, _, _, _, _, oc⟩ := h; exact False.elim oc⟩
theorem po_fail {X : Cx} {W : WX} {e : Option Expr} : PO X e (tOv X.K W fail) := ⟨fun pins s σ H Q I h => by obtain ⟨_, _, _, _, _, _, oc⟩ := h; exact False.elim oc⟩
theorem paired_map {α β : Type} {p : α → β → Prop} {f : α → β} (h : ∀ a, p a (f a)) : ∀ l : List α, Paired p l (l.map f)
  | [] => .nil
  | a :: r => .cons (h a) (paired_map h r)
theorem sndEs {T : Tb} {r : EvX} {X : Cx} {C : Ct} {W : WX} (sr : Snd T r) (k : XOk T X C W) : ∀ l : List Expr, Paired (fun a f => PE X a (tEv X.K W f)) l (l.map (r.E C))
  | [] => .nil
  | a :: l => .cons (sr.E X C W a k) (sndEs sr k l)
theorem sndTs {T : Tb} {r : EvX} {X : Cx} {C : Ct} {W : WX} (sr : Snd T r) (k : XOk T X C W) : ∀ l : List Expr, Paired (fun a f => PT X a (tTv X.K W f)) l (l.map (r.T C))
  | [] => .nil
  | a :: l => .cons (sr.T X C W a k) (sndTs sr k l)
theorem plain_is : ∀ {e : Expr}, plainT e = true → ∀ (env : Env) (whole : Sem Value), isTrue e env whole = (do let v ← whole; standAt e.pos; holding [v] (truthy v)) := by
  intro e h env whole
  cases e <;> first
    | rfl
    | cases h
    | (rename_i op _ _; cases op <;> first | rfl | cases h)
theorem tGv_wide {X : Cx} {W : WX} {e : Expr} {ixs jxs : List Nat} {f : Val → M Unit} (h : PG X e (tGv X.K W ixs f)) (s : ∀ i ∈ ixs, i ∈ jxs) : PG X e (tGv X.K W jxs f) :=
  PG_mono h fun v σ H Q ⟨pn, A, e, G, R, val, g, r, oc⟩ => ⟨pn, A, e, G, R, val, g, r, by
    unfold OcG at *
    cases q : f val e with
    | err => rw [q] at oc; exact oc
    | ex x e' => rw [q] at oc; exact oc
    | ok p => rw [q] at oc; exact fun σ' A' G' H' x s' g' => (oc : FinG X.K jxs pn p.2 σ G R Q) σ' A' G' H' x (s'.of s) g'⟩
section
variable {T : Tb} {r : EvX} {X : Cx} {C : Ct} {W : WX}
theorem noDbg_ok {x : Str} (h : noDbg x = true) : (x == ("__debug__" : Str)) = false ∧ (x == ("__classdict__" : Str)) = false := by
  unfold noDbg at h
  rw [Bool.and_eq_true] at h
  exact ⟨by simpa using h.1, by simpa using h.2⟩
theorem gl_ok (k : XOk T X C W) {x : Str} (h : isGl C x = true) : Gl X x := by
  show X.env.scope.names.lookup x = _
  rw [k.sc]
  exact of_decide_eq_true h
theorem snd_name (k : XOk T X C W) {x : Str} {p : Pos} : PE X (.Name x p) (tEv X.K W (nameE T C x)) := by
  unfold nameE
  split
  · rename_i hd
    obtain ⟨d1, d2⟩ := noDbg_ok hd
    split
    · rename_i hv
      split
      · rename_i i hi
        refine se_name (by rw [k.N]; exact ixOf_ok hi) ?_ d1 d2
        unfold isVis at hv
        unfold Vis
        rw [k.sc]
        split at hv
        · exact .inl (by assumption)
        · exact .inr (.inl (by assumption))
        · exact .inr (.inr (by assumption))
        · cases hv
      · exact pe_fail
    · split
      · rename_i hg
        split
        · rename_i d hd
          obtain ⟨u, v, m, rv, rp⟩ := k.gl _ _ hd
          exact se_glob (gl_ok k hg) m rv rp d1
        · exact pe_fail
      · exact pe_fail
  · exact pe_fail
theorem snd_blt2 (k : XOk T X C W) {f : Str} {p pos : Pos} {a : Expr} {es : List Expr} {fs : List (M Val)} (hg : Gl X f) (hm : X.mg f = none) (hs : (a :: es).all notStar = true) (h : Paired (fun a f => PE X a (tEv X.K W f)) (a :: es) fs) (hd : (f == ("__debug__" : Str)) = false) :
    PE X (.Call (.Name f p) (a :: es) [] pos) (tEv X.K W (bltC2 f fs)) := by
  unfold bltC2
  split; · rename_i z; subst z; exact se_callB cr_srt ok_srt hg hm (by decide +kernel) (by decide +kernel) hd hs h
  exact pe_fail
theorem snd_blt (k : XOk T X C W) {f : Str} {p pos : Pos} {a : Expr} {es : List Expr} {fs : List (M Val)} (hg : Gl X f) (hm : X.mg f = none) (hs : (a :: es).all notStar = true) (h : Paired (fun a f => PE X a (tEv X.K W f)) (a :: es) fs) (hd : (f == ("__debug__" : Str)) = false) :
    PE X (.Call (.Name f p) (a :: es) [] pos) (tEv X.K W (bltC f fs)) := by
  unfold bltC
  split; · rename_i z; subst z; exact se_callB call_len ok_len hg hm (by decide +kernel) (by decide +kernel) hd hs h
  split; · rename_i z; subst z; exact se_callB call_abs ok_abs hg hm (by decide +kernel) (by decide +kernel) hd hs h
  split; · rename_i z; subst z; exact se_callB (call_max2 k.calm) ok_max hg hm (by decide +kernel) (by decide +kernel) hd hs h
  split; · rename_i z; subst z; exact se_callB (call_min2 k.calm) ok_min hg hm (by decide +kernel) (by decide +kernel) hd hs h
  split; · rename_i z; subst z; exact se_callTy call_int1 ok_int hg hm (by decide +kernel) (by decide +kernel) hd hs h
  split; · rename_i z; subst z; exact se_callB (cr_all k.calm) ok_all hg hm (by decide +kernel) (by decide +kernel) hd hs h
  split; · rename_i z; subst z; exact se_callB (cr_any k.calm) ok_any hg hm (by decide +kernel) (by decide +kernel) hd hs h
  split; · rename_i z; subst z; exact se_callB (cr_sum k.calm) ok_sum hg hm (by decide +kernel) (by decide +kernel) hd hs h
  split; · rename_i z; subst z; exact se_callTy call_list_of ok_list hg hm (by decide +kernel) (by decide +kernel) hd hs h
  split; · rename_i z; subst z; exact se_callTy call_tuple_of ok_tuple hg hm (by decide +kernel) (by decide +kernel) hd hs h
  split; · rename_i z; subst z; exact se_callB (call_reprA k.gu k.un) ok_repr hg hm (by decide +kernel) (by decide +kernel) hd hs h
  split; · rename_i z; subst z; exact se_callTy call_strA ok_str hg hm (by decide +kernel) (by decide +kernel) hd hs h
  exact snd_blt2 k hg hm hs h hd
theorem isiOf_ok {y : Str} {t : String} (h : isiOf y = some t) : bootBuiltins y = some (.type t) ∧ y ≠ "__name__" := by
  unfold isiOf at h
  split at h; · rename_i z; subst z; cases h; exact ⟨by decide +kernel, by decide +kernel⟩
  split at h; · rename_i z; subst z; cases h; exact ⟨by decide +kernel, by decide +kernel⟩
  split at h; · rename_i z; subst z; cases h; exact ⟨by decide +kernel, by decide +kernel⟩
  split at h; · rename_i z; subst z; cases h; exact ⟨by decide +kernel, by decide +kernel⟩
  split at h; · rename_i z; subst z; cases h; exact ⟨by decide +kernel, by decide +kernel⟩
  split at h; · rename_i z; subst z; cases h; exact ⟨by decide +kernel, by decide +kernel⟩
  cases h
theorem snd_isi (sr : Snd T r) (k : XOk T X C W) {p pos : Pos} {args : List Expr} (hg : Gl X "isinstance") (hm : X.mg "isinstance" = none) (h3 : args.all notStar = true) : PE X (.Call (.Name "isinstance" p) args [] pos) (tEv X.K W (isiE T r C args)) := by
  unfold isiE
  split
  · split
    · rename_i a y p2 hy
      rw [Bool.and_eq_true, Bool.and_eq_true] at hy
      split
      · rename_i t ht
        rw [List.all_cons, Bool.and_eq_true] at h3
        obtain ⟨b1, b2⟩ := isiOf_ok ht
        split
        · exact se_isX k.du (sr.E X C W a k) hg hm (pe_tyN (gl_ok k hy.1) (k.fr _ hy.2.1) b1 b2 (noDbg_ok hy.2.2).1) h3.1
        · exact se_isi (sr.E X C W a k) hg hm (gl_ok k hy.1) (k.fr _ hy.2.1) b1 b2 (noDbg_ok hy.2.2).1 h3.1
      · exact pe_fail
    · split
      · rename_i hy
        rw [Bool.and_eq_true, Bool.and_eq_true] at hy
        rw [List.all_cons, Bool.and_eq_true] at h3
        exact se_isX k.du (sr.E X C W _ k) hg hm (pe_clN (gl_ok k hy.1) (k.clg _ hy.2.1) (noDbg_ok hy.2.2).1) h3.1
      · exact pe_fail
  · exact pe_fail
theorem snd_bl (sr : Snd T r) (k : XOk T X C W) {f : Str} {p pos : Pos} {args : List Expr} (hg : Gl X f) (hm : X.mg f = none) (h3 : args.all notStar = true) (hd : (f == ("__debug__" : Str)) = false) : PE X (.Call (.Name f p) args [] pos) (tEv X.K W (blE T r C f args)) := by
  unfold blE
  split
  · rename_i m hq
    unfold lenSt at hq
    split at hq
    · split at hq
      · rename_i c
        obtain ⟨rfl, rfl, c3, c4, c5⟩ := c
        cases hq
        exact se_lenSt k.calm hg hm (gl_ok k c3) (k.fr _ c4) (sr.E X C W _ k) c5
      · cases hq
    · cases hq
  · split
    · exact pe_fail
    · split
      · rename_i h
        rw [Bool.and_eq_true, decide_eq_true_eq] at h
        obtain ⟨_, rfl⟩ := h
        rw [List.all_cons, Bool.and_eq_true] at h3
        exact se_strO k.mt.go k.gu call_strA ok_str hg hm h3.1 (sr.E X C W _ k)
      · exact snd_blt k hg hm h3 (sndEs sr k _) hd
    · exact snd_blt k hg hm h3 (sndEs sr k _) hd
theorem snd_fr (sr : Snd T r) (k : XOk T X C W) {f : Str} {p pos : Pos} {args : List Expr} (hg : Gl X f) (h3 : args.all notStar = true) (hd : (f == ("__debug__" : Str)) = false) : PE X (.Call (.Name f p) args [] pos) (tEv X.K W (frE T r C f args)) := by
  unfold frE
  split
  · rename_i hf
    split
    · rename_i z
      subst z
      exact snd_isi sr k hg (k.fr _ hf) h3
    · exact snd_bl sr k hg (k.fr _ hf) h3 hd
  · exact pe_fail
theorem snd_sh (sr : Snd T r) (k : XOk T X C W) {f : Str} {p pos : Pos} {args : List Expr} (hg : Gl X f) (h3 : args.all notStar = true) (hd : (f == ("__debug__" : Str)) = false) : PE X (.Call (.Name f p) args [] pos) (tEv X.K W (shE T r C f args)) := by
  cases args with
  | nil => exact snd_fr sr k hg h3 hd
  | cons a es =>
    have e0 : shE T r C f (a :: es) = (match T.fnk f (es.length + 1) [] with
      | some (bs, ev, q) => callK bs ev q.srcs q.n q.ks.length ((a :: es).map (r.E C)) []
      | none => frE T r C f (a :: es)) := rfl
    rw [e0]
    cases hf : T.fnk f (es.length + 1) [] with
    | none => exact snd_fr sr k hg h3 hd
    | some z =>
      obtain ⟨bs, ev, q⟩ := z
      obtain ⟨e, kk, fa, fd, ps, F, hr, hm, hk, hb, hl⟩ := k.fnk _ _ _ _ _ _ hf
      exact se_callK (kws := []) (gs := []) F hr k.gu k.tk hg hm hk hb hl hd h3 rfl e.symm (sndEs sr k _) .nil
theorem snd_mkq (sr : Snd T r) (k : XOk T X C W) {f : Str} {p pos : Pos} {args : List Expr} {kws : List Keyword} {m : M Val} (hg : Gl X f) (h3 : args.all notStar = true) (h4 : kws.all kwOk = true) (hd : (f == ("__debug__" : Str)) = false) (h : mkqE T r C f args kws = some m) : PE X (.Call (.Name f p) args kws pos) (tEv X.K W m) := by
  unfold mkqE at h
  split at h
  · rename_i c bs ev st q hm
    cases h
    obtain ⟨e, kk, np, fa, M, F, hr, hx, hl⟩ := k.mkq _ _ _ _ _ _ _ _ hm
    exact se_mkQ M F hr k.gu k.tk hg hx hl hd h3 h4 e.symm (sndEs sr k _) (sndEs sr k _)
  · cases h
theorem snd_call (sr : Snd T r) (k : XOk T X C W) {f : Str} {p pos : Pos} {args : List Expr} : PE X (.Call (.Name f p) args [] pos) (tEv X.K W (callE T r C f args)) := by
  unfold callE
  split
  · rename_i h
    rw [Bool.and_eq_true, Bool.and_eq_true] at h
    obtain ⟨h1, h2, h3⟩ := h
    have hg := gl_ok k h1
    have hd := (noDbg_ok h2).1
    split
    · rename_i bs ev hf
      obtain ⟨kk, fa, fd, ps, F, hr, hm, hk, hb, hl⟩ := k.fns _ _ _ hf
      cases args with
      | nil => exact se_call0 F hr k.gu k.tk hg hm hk hb hl hd
      | cons a es => exact se_call F hr k.gu k.tk hg hm hk hb hl hd h3 (sndEs sr k _)
    · unfold mkE
      split
      · rename_i c bs ev hm
        obtain ⟨kk, fa, fd, ps, M, F, hr, hx, hb, hl⟩ := k.mkr _ _ _ _ hm
        cases args with
        | nil => exact pe_fail
        | cons a es => exact se_mk M F hr k.gu k.tk hg hx hb hl hd h3 (sndEs sr k _)
      · split
        · rename_i m hm; exact snd_mkq sr k hg h3 rfl hd hm
        · exact snd_sh sr k hg h3 hd
  · exact pe_fail
theorem snd_ap (sr : Snd T r) (k : XOk T X C W) {o : Expr} {ap cp : Pos} {args : List Expr} : PE X (.Call (.Attribute o "append" ap) args [] cp) (tEv X.K W (apE r C o ap args cp)) := by
  unfold apE
  split
  · split
    · rename_i h
      simp only [Bool.and_eq_true] at h
      exact se_app (sr.E X C W _ k) (sr.E X C W _ k) h.1 h.2.1 h.2.2
    · exact pe_fail
  · exact pe_fail
theorem snd_cn (sr : Snd T r) (k : XOk T X C W) {o : Expr} {ap cp : Pos} {args : List Expr} : PE X (.Call (.Attribute o "count" ap) args [] cp) (tEv X.K W (cnE r C o ap args cp)) := by
  unfold cnE
  split
  · split
    · rename_i h
      simp only [Bool.and_eq_true] at h
      exact se_cnt (by have := k.un; omega) (sr.E X C W _ k) (sr.E X C W _ k) h.1 h.2.1 h.2.2
    · exact pe_fail
  · exact pe_fail
theorem snd_mq (sr : Snd T r) (k : XOk T X C W) {o : Expr} {m : Str} {ap cp : Pos} {args : List Expr} {kws : List Keyword} : PE X (.Call (.Attribute o m ap) args kws cp) (tEv X.K W (mqE T r C o m ap args kws cp)) := by
  unfold mqE
  split
  · rename_i h; exact se_mtQ k.mq k.gu k.tk (sr.E X C W _ k) (sndEs sr k _) (sndEs sr k _) h
  · exact pe_fail
theorem snd_mth (sr : Snd T r) (k : XOk T X C W) {o : Expr} {m : Str} {ap cp : Pos} {args : List Expr} : PE X (.Call (.Attribute o m ap) args [] cp) (tEv X.K W (mthE T r C o m ap args cp)) := by
  unfold mthE
  split
  · rename_i z
    subst z
    exact snd_ap sr k
  split
  · rename_i z
    subst z
    exact snd_cn sr k
  · split
    · exact snd_mq sr k
    split
    · rename_i hf
      split
      · rename_i bs ev hs
        unfold smOf at hs
        split at hs
        · split at hs
          · rename_i hc
            rw [Bool.and_eq_true] at hc
            obtain ⟨kk, g, Cc, p0, mc, fd, ps, F, hr, hx, rd, sm, hb, hl⟩ := k.sm _ _ _ _ hs
            exact se_sm F hr k.gu k.tk (gl_ok k hc.1) hx rd sm hb hl (noDbg_ok hc.2).1 hf (sndEs sr k _)
          · cases hs
        · cases hs
      · exact se_mt k.mt k.gu k.tk (sr.E X C W _ k) (sndEs sr k _) hf
    · exact pe_fail
theorem snd_kw (sr : Snd T r) (k : XOk T X C W) {f : Str} {p pos : Pos} {args : List Expr} {kws : List Keyword} : PE X (.Call (.Name f p) args kws pos) (tEv X.K W (kwE T r C f args kws)) := by
  unfold kwE
  split
  · rename_i h
    simp only [Bool.and_eq_true] at h
    obtain ⟨h1, h2, h3, h4⟩ := h
    have hg := gl_ok k h1
    have hd := (noDbg_ok h2).1
    split
    · rename_i m hm; exact snd_mkq sr k hg h3 h4 hd hm
    · split
      · rename_i a es bs ev q hf
        obtain ⟨e, kk, fa, fd, ps, F, hr, hm, hk, hb, hl⟩ := k.fnk _ _ _ _ _ _ hf
        exact se_callK F hr k.gu k.tk hg hm hk hb hl hd h3 h4 e.symm (sndEs sr k _) (sndEs sr k _)
      · exact pe_fail
  · exact pe_fail
theorem snd_ps (sr : Snd T r) (k : XOk T X C W) {pos : Pos} : ∀ (keys : List (Option Expr)) (values : List Expr), keys.all (·.isSome) = true → keys.length = values.length → PPs X pos keys values ((dctE r C keys values).map fun q => (tEv X.K W q.1, tEv X.K W q.2))
  | [], [], _, _ => pps_nil
  | [], _ :: _, _, h => by cases h
  | _ :: _, [], _, h => by cases h
  | none :: _, _ :: _, h, _ => by cases h
  | some a :: ks, v :: vs, h, l => by
    rw [List.all_cons, Bool.and_eq_true] at h
    exact pps_cons (sr.E X C W a k) (sr.E X C W v k) (snd_ps sr k ks vs h.2 (by simpa using l))
theorem snd_it (sr : Snd T r) (k : XOk T X C W) {tg iter : Expr} : PI X tg iter (tIv X.K W (itE T r C tg iter)) := by
  have dflt : PI X tg iter (tIv X.K W (iterC (r.E C iter))) := si_iter (sr.E X C W iter k)
  unfold itE
  split
  · split
    · rename_i f p args pos h
      simp only [Bool.and_eq_true] at h
      obtain ⟨h1, h2, h3, h4⟩ := h
      have hg := gl_ok k h1
      have hm := k.fr _ h2
      unfold wkE
      split
      · rename_i z
        subst z
        split
        · rw [List.all_cons, Bool.and_eq_true] at h3
          exact si_rng1 hg hm h3.1 (sr.E X C W _ k)
        · simp only [List.all_cons, Bool.and_eq_true] at h3
          exact si_rng2 hg hm h3.1 h3.2.1 (sr.E X C W _ k) (sr.E X C W _ k)
        · exact si_rng3 hg hm h3 (sr.E X C W _ k) (sr.E X C W _ k) (sr.E X C W _ k)
        · exact pi_fail
      · rename_i hz
        split
        · split
          · rename_i z
            subst z
            split
            · rw [List.all_cons, Bool.and_eq_true] at h3
              exact si_en hg hm h3.1 (sr.E X C W _ k)
            · exact pi_fail
          · rename_i hz2
            have hf : f = ("zip" : Str) := by
              unfold isWk at h4
              simpa [hz, hz2] using h4
            subst hf
            split
            · simp only [List.all_cons, Bool.and_eq_true] at h3
              exact si_zp2 hg hm h3.1 h3.2.1 (sr.E X C W _ k) (sr.E X C W _ k)
            · simp only [List.all_cons, Bool.and_eq_true] at h3
              exact si_zp3 hg hm h3.1 h3.2.1 h3.2.2.1 (sr.E X C W _ k) (sr.E X C W _ k) (sr.E X C W _ k)
            · exact pi_fail
        · exact pi_fail
    · exact dflt
  · exact dflt
theorem okSt_ok (k : XOk T X C W) {x : Str} (h : okSt C x = true) : L2.Loc X.env.scope x ∧ (X.fn x = true ∨ X.env.scope.names.lookup x = some .local) := by
  unfold okSt at h
  unfold L2.Loc
  rw [k.sc]
  rw [Bool.or_eq_true] at h
  rcases h with h | h
  · have := of_decide_eq_true h
    exact ⟨.inl this, .inr this⟩
  · rw [Bool.and_eq_true] at h
    have := of_decide_eq_true h.1
    exact ⟨.inr this, .inl (k.fn _ h.2)⟩
theorem snd_tgt (sr : Snd T r) (k : XOk T X C W) {tg : Expr} : PG X tg (tGv X.K W (tgIx0 C tg) (tgtE r C tg)) := by
  unfold tgtE
  split
  · split
    · rename_i h
      obtain ⟨h1, h2⟩ := okSt_ok k h
      split
      · rename_i i hi
        unfold tgIx0
        simp only [hi]
        exact sg_name (by rw [k.N]; exact k.nd) (by rw [k.N]; exact ixOf_ok hi) h1 h2
      · exact pg_fail
    · exact pg_fail
  · split
    · rename_i h
      exact sg_sub (by have := k.un; omega) (sr.E X C W _ k) (sr.E X C W _ k) h
    · exact pg_fail
  · exact pg_fail
theorem sgs_map {es : List Expr} {fx : Expr → List Nat} {fg : Expr → Val → M Unit} (h : ∀ a, PG X a (tGv X.K W (fx a) (fg a))) : Paired (fun a f => PG X a (tGv X.K W (es.flatMap fx) f)) es (es.map fg) := by
  have : ∀ l : List Expr, (∀ a ∈ l, a ∈ es) → Paired (fun a f => PG X a (tGv X.K W (es.flatMap fx) f)) l (l.map fg) := by
    intro l
    induction l with
    | nil => intro _; exact .nil
    | cons a l ih => intro hl; exact .cons (tGv_wide (h a) fun i hi => List.mem_flatMap.mpr ⟨a, hl a List.mem_cons_self, hi⟩) (ih fun b hb => hl b (List.mem_cons_of_mem _ hb))
  exact this es fun _ h => h
theorem snd_tg1 (sr : Snd T r) (k : XOk T X C W) {tg : Expr} : PG X tg (tGv X.K W (tgIx1 C tg) (tgE1 r C tg)) := by
  unfold tgE1
  split
  · rename_i es _ _
    split
    · rename_i h
      exact sg_unp k.calm h (sgs_map fun a => snd_tgt sr k)
    · exact pg_fail
  · rename_i hne
    have e : tgIx1 C tg = tgIx0 C tg := by
      unfold tgIx1
      split
      · rename_i es kk pp; exact absurd rfl (hne es kk pp)
      · rfl
    rw [e]
    exact snd_tgt sr k
theorem snd_tg (sr : Snd T r) (k : XOk T X C W) {tg : Expr} : PG X tg (tGv X.K W (tgIx C tg) (tgE r C tg)) := by
  unfold tgE
  split
  · rename_i es _ _
    split
    · rename_i h
      exact sg_unp k.calm h (sgs_map fun a => snd_tg1 sr k)
    · exact pg_fail
  · rename_i hne
    have e : tgIx C tg = tgIx0 C tg := by
      unfold tgIx
      split
      · rename_i es kk pp; exact absurd rfl (hne es kk pp)
      · rfl
    rw [e]
    exact snd_tgt sr k
theorem notSet_ok {iter : Expr} {env : Env} (h : notSet iter = true) (x : Value) : foldedSetIterable iter env x = pure x := by
  cases iter <;> first | rfl | cases h
theorem snd_ts (sr : Snd T r) (k : XOk T X C W) {ifs : List Expr} : PTs X ifs (tTv X.K W (tsE r C ifs)) := by
  unfold tsE
  split
  · exact ⟨fun pins s σ H Q I h => pts_nil.run pins s σ H Q I (by
      obtain ⟨pn, A, e, G, R, g, oc⟩ := h
      exact (oc_ret oc) _ A G H (Ex.refl G) g rfl)⟩
  · exact pts_one (sr.T X C W _ k)
  · exact ⟨fun pins s σ H Q I h => by obtain ⟨_, _, _, _, _, _, oc⟩ := h; exact False.elim oc⟩
theorem lc_parts {elt tg iter : Expr} {ifs : List Expr} {scope : Scope} (h : (blkC C.N C.sc scope (ownOf C scope) && ((tgIx C tg).all (fun i => decide (i ∈ (ownOf C scope).map Prod.snd)) && notSet iter)) = true) (k : XOk T X C W) :
    BlkOk X.N X.env.scope scope (ownOf C scope) ∧ (∀ i ∈ tgIx (blkCt C scope) tg, i ∈ (ownOf C scope).map Prod.snd) ∧ notSet iter = true := by
  rw [Bool.and_eq_true, Bool.and_eq_true] at h
  refine ⟨by rw [k.N, k.sc]; exact blkOk_by h.1, fun i hi => ?_, h.2.2⟩
  have hi' : i ∈ tgIx C tg := hi
  exact of_decide_eq_true (List.all_eq_true.mp h.2.1 i hi')
theorem blkE (sr : Snd T r) (k : XOk T X C W) {elt : Expr} {scope : Scope} (s : Shared) (H : Hp) (A : Addr) (cl : List (Str × Addr)) (fp : List Addr) : PE (X.blk s H scope (compEnvC scope cl A X.env) fp) elt (tEv X.K W0 (r.E (blkCt C scope) elt)) := sr.E _ _ _ _ (k.blk s H A cl fp)
theorem blkG (sr : Snd T r) (k : XOk T X C W) {tg : Expr} {scope : Scope} (s : Shared) (H : Hp) (A : Addr) (cl : List (Str × Addr)) (fp : List Addr) : PG (X.blk s H scope (compEnvC scope cl A X.env) fp) tg (tGv X.K W0 (tgIx (blkCt C scope) tg) (tgE r (blkCt C scope) tg)) := snd_tg sr (k.blk s H A cl fp)
theorem blkT (sr : Snd T r) (k : XOk T X C W) {ifs : List Expr} {scope : Scope} (s : Shared) (H : Hp) (A : Addr) (cl : List (Str × Addr)) (fp : List Addr) : PTs (X.blk s H scope (compEnvC scope cl A X.env) fp) ifs (tTv X.K W0 (tsE r (blkCt C scope) ifs)) := snd_ts sr (k.blk s H A cl fp)
theorem pi_itNm (k : XOk T X C W) {tg iter : Expr} {j : Nat} (h : itNm C iter = some j) : PI X tg iter (tIo X.K j) := by
  cases iter <;> first | cases h | skip
  rename_i x p
  have h' : (if (noDbg x && isVis C x) = true then ixOf C.N x else none) = some j := h
  clear h
  split at h'
  · rename_i hd
    have h := h'
    rw [Bool.and_eq_true] at hd
    obtain ⟨d1, d2⟩ := noDbg_ok hd.1
    have hv := hd.2
    refine pi_own (by rw [k.N]; exact ixOf_ok h) ?_ d1 d2
    unfold isVis at hv
    unfold Vis
    rw [k.sc]
    split at hv
    · exact .inl (by assumption)
    · exact .inr (.inl (by assumption))
    · exact .inr (.inr (by assumption))
    · cases hv
  · cases h'
theorem snd_lc (sr : Snd T r) (k : XOk T X C W) {elt tg iter : Expr} {ifs : List Expr} {scope : Scope} {pos : Pos} : PE X (.ListComp elt [⟨tg, iter, ifs, 0⟩] scope pos) (tEv X.K W (lcE T r C elt tg iter ifs scope)) := by
  unfold lcE
  split
  · rename_i h
    obtain ⟨h1, h2, h3⟩ := lc_parts (elt := elt) (ifs := ifs) h k
    split
    · rename_i j hj
      exact PE_mono (PE_or (pe_lc k.calm (by rw [k.N]; exact k.nd) (pi_itNm k hj) h1 (blkG sr k) (blkT sr k) (blkE sr k) (notSet_ok h3)) (pe_lc k.calm (by rw [k.N]; exact k.nd) (snd_it sr k) h1 (blkG sr k) (blkT sr k) (blkE sr k) (notSet_ok h3))) (tlcN h2)
    · exact PE_mono (pe_lc k.calm (by rw [k.N]; exact k.nd) (snd_it sr k) h1 (blkG sr k) (blkT sr k) (blkE sr k) (notSet_ok h3)) (tlc h2)
  · exact pe_fail
theorem ss_setLc (sr : Snd T r) (k : XOk T X C W) {y : Str} {i : Nat} {py : Pos} {elt tg iter : Expr} {ifs : List Expr} {scope : Scope} {pos spos : Pos} (hy : C.N[i]? = some y) (hl : isLoc C y = true)
    (hk : C.sc.kind = .function) (hp : (py.line == pos.line) = true) (ha : (scope.names.any fun (n, k) => n == y && (k == .local || k == .cell)) = false) :
    PS X (.Assign [.Name y py] (.ListComp elt [⟨tg, iter, ifs, 0⟩] scope pos) spos) (tSv X.K W (asS (lcE T r C elt tg iter ifs scope) (asgN i))) := by
  unfold lcE
  split
  · rename_i h
    obtain ⟨h1, h2, h3⟩ := lc_parts (elt := elt) (ifs := ifs) h k
    have hyl : X.env.scope.names.lookup y = some .local := by rw [k.sc]; exact of_decide_eq_true hl
    have fin : ∀ {x : V} {v : Val} {pn : Pn} {A1 : LA} {e1 : En} {σ : L2.St} {G1 R H1 : Hp} {D : Ends}, RelG X.K pn A1 e1 σ G1 R H1 → RepVal X.K A1 G1 R H1 e1 σ x v → OcS X.K W pn σ.length R D G1 (bnd (asgN i v) (fun _ => ret .nx) e1) → gName i x σ H1 fun σ' H' => D.nx σ' H' := by
      intro x v pn A1 e1 σ G1 R H1 D g1 r1 oc1
      have z : tGv X.K W [i] (asgN i) x σ H1 fun σ' H' => D.nx σ' H' := chainT g1 r1 oc1 rfl fun σ2 A2 e2 G2 H2 x2 s2 g2 oc2 => (show FinS X.K pn e2 σ.length G2 R D .nx from oc2) σ2 A2 G2 H2 (Ex.refl _) s2.1 g2
      obtain ⟨pn', A', e', G', R', val', g', r', oc'⟩ := z
      exact ocg_asgN g' r' oc' (List.mem_singleton.mpr rfl)
    split
    · rename_i j hj
      refine PS_mono (PS_or (ps_setLc k.calm (by rw [k.N]; exact k.nd) (by rw [k.N]; exact hy) hyl (sw_true (by rw [k.sc]; exact hk) hyl hp ha) (pi_itNm k hj) h1 (blkG sr k) (blkT sr k) (blkE sr k) (notSet_ok h3)) (ps_setLc k.calm (by rw [k.N]; exact k.nd) (by rw [k.N]; exact hy) hyl (sw_true (by rw [k.sc]; exact hk) hyl hp ha) (snd_it sr k) h1 (blkG sr k) (blkT sr k) (blkE sr k) (notSet_ok h3))) fun D σ H q => ?_
      obtain ⟨pn, A, e, G, R, g, oc⟩ := q
      exact tlcN h2 _ _ _ (chainS g oc fun x v A1 e1 G1 H1 x1 g1 r1 oc1 => fin g1 r1 oc1)
    · refine PS_mono (ps_setLc k.calm (by rw [k.N]; exact k.nd) (by rw [k.N]; exact hy) hyl (sw_true (by rw [k.sc]; exact hk) hyl hp ha) (snd_it sr k) h1 (blkG sr k) (blkT sr k) (blkE sr k) (notSet_ok h3)) fun D σ H q => ?_
      obtain ⟨pn, A, e, G, R, g, oc⟩ := q
      exact tlc h2 _ _ _ (chainS g oc fun x v A1 e1 G1 H1 x1 g1 r1 oc1 => fin g1 r1 oc1)
  · refine PS_mono (ps_fail (W := W)) fun D σ H q => ?_
    obtain ⟨pn, A, e, G, R, g, oc⟩ := q
    exact False.elim oc
theorem snd_pt (sr : Snd T r) (k : XOk T X C W) {o : Option Expr} : PO X o (tOv X.K W (ptE r C o)) := by
  cases o with
  | none => exact so_no
  | some a => exact so_part (sr.E X C W a k)
end
theorem snd_bin {X : Cx} {W : WX} {op : Operator} {a b : Expr} {pos : Pos} {fa fb : M Val} (ho : opOk op = true) (ha : PE X a (tEv X.K W fa)) (hb : PE X b (tEv X.K W fb)) : PE X (.BinOp a op b pos) (tEv X.K W (binC (binOf op) fa fb)) := by
  cases op with
  | Add => exact se_bin op_addA ok_add ha hb
  | Sub => exact se_bin op_sub ok_sub ha hb
  | Mult => exact se_bin op_mulA ok_mul ha hb
  | FloorDiv => exact se_bin op_fdivW ok_fdiv ha hb
  | Mod => exact se_bin op_mod ok_mod ha hb
  | Pow => exact se_bin op_powW ok_pow ha hb
  | _ => cases ho
theorem cmp_ops {X : Cx} (hu : X.A.units + 200 < cLine) (op : CmpOp) : ∃ r, OpR X (compareOp op) r ∧ ROK X.K r (cmpOf op) := by
  cases op with
  | Eq => exact ⟨_, op_eq.or ((op_eqD (by omega)).or (op_eqLen (by omega))), ok_eq⟩
  | NotEq => exact ⟨_, op_ne.or ((op_neD (by omega)).or (op_neLen (by omega))), ok_ne⟩
  | Lt => exact ⟨_, op_ltA (by omega), ok_lt⟩
  | LtE => exact ⟨_, op_leA, ok_le⟩
  | Gt => exact ⟨_, op_gtA, ok_gt⟩
  | GtE => exact ⟨_, op_geA, ok_ge⟩
  | In => exact ⟨_, op_inA (by omega), ok_in false⟩
  | NotIn => exact ⟨_, op_ninA (by omega), ok_in true⟩
  | Is => exact ⟨_, op_isA, ok_is false⟩
  | IsNot => exact ⟨_, op_nisA, ok_is true⟩
theorem snd_step {T : Tb} {r : EvX} (sr : Snd T r) : Snd T ⟨stepE T r, stepT T r⟩ where
  E := fun X C W e k => by
    show PE X e (tEv X.K W (stepE T r C e))
    unfold stepE
    split
    · exact se_int
    · exact se_bl
    · exact se_non
    · exact se_str
    · exact snd_name k
    · split
      · rename_i h; exact snd_bin h (sr.E X C W _ k) (sr.E X C W _ k)
      · exact pe_fail
    · exact se_not (sr.E X C W _ k)
    · exact se_neg (sr.E X C W _ k)
    · split
      · exact pe_fail
      · rename_i h
        obtain ⟨q, h1, h2⟩ := cmp_ops (X := X) k.un ‹CmpOp›
        unfold cmpE
        split
        · exact se_dn k.mt k.du k.gu k.tk h1 h2 (sr.E X C W _ k) (sr.E X C W _ k) (by simpa using h)
        · exact se_cmp h1 h2 (sr.E X C W _ k) (sr.E X C W _ k) (by simpa using h)
    · split
      · exact pe_fail
      · rename_i op op' b c _ h
        obtain ⟨q, h1, h2⟩ := cmp_ops (X := X) k.un op
        obtain ⟨q', h1', h2'⟩ := cmp_ops (X := X) k.un op'
        exact se_chn h1 h1' h2 h2' (sr.E X C W _ k) (sr.E X C W _ k) (sr.E X C W _ k) (by simpa using h)
    · split
      · exact pe_fail
      · rename_i op op' op'' b c d _ h
        obtain ⟨q, h1, h2⟩ := cmp_ops (X := X) k.un op
        obtain ⟨q', h1', h2'⟩ := cmp_ops (X := X) k.un op'
        obtain ⟨q'', h1'', h2''⟩ := cmp_ops (X := X) k.un op''
        exact se_chn3 h1 h1' h1'' h2 h2' h2'' (sr.E X C W _ k) (sr.E X C W _ k) (sr.E X C W _ k) (sr.E X C W _ k) (by simpa using h)
    · exact se_bop _ _ _ (sndEs sr k _)
    · exact se_if (sr.T X C W _ k) (sr.E X C W _ k) (sr.E X C W _ k)
    · split
      · rename_i h; exact se_tup h (sndEs sr k _)
      · exact pe_fail
    · split
      · rename_i h; exact se_lst h (sndEs sr k _)
      · exact pe_fail
    · exact se_sli (sr.E X C W _ k) (snd_pt sr k) (snd_pt sr k)
    · split
      · rename_i z; subst z; exact se_rev (sr.E X C W _ k)
      · exact pe_fail
    · exact se_dct0
    · split
      · rename_i h; exact se_dict (snd_ps sr k _ _ h.1 h.2.1) h.1 h.2.1 h.2.2.1 h.2.2.2
      · exact pe_fail
    · split
      · rename_i h; exact se_ixE (by have := k.un; omega) (sr.E X C W _ k) (sr.E X C W _ k) h
      · exact pe_fail
    · exact snd_call sr k
    · exact snd_kw sr k
    · exact snd_mth sr k
    · exact snd_mq sr k
    · exact se_fmt (sr.E X C W _ k)
    · exact se_join1 (sr.E X C W _ k)
    · exact se_join (sndEs sr k _)
    · split
      · rename_i h; exact se_at k.no k.pt k.gu (sr.E X C W _ k) h
      · exact pe_fail
    · exact snd_lc sr k
    · exact pe_fail
  T := fun X C W e k => by
    show PT X e (tTv X.K W (stepT T r C e))
    unfold stepT
    split
    · exact st_not (sr.T X C W _ k)
    · exact (st_bop _ _ _ (sndTs sr k _)).pt
    · split
      · exact pt_fail
      · rename_i h
        obtain ⟨q, h1, h2⟩ := cmp_ops (X := X) k.un ‹CmpOp›
        unfold cmpE
        split
        · exact st_dn k.mt k.du k.gu k.tk h1 h2 (sr.E X C W _ k) (sr.E X C W _ k) (by simpa using h)
        · exact st_cmp h1 h2 (sr.E X C W _ k) (sr.E X C W _ k) (by simpa using h)
    · split
      · exact pt_fail
      · rename_i op op' b c _ h
        obtain ⟨q, h1, h2⟩ := cmp_ops (X := X) k.un op
        obtain ⟨q', h1', h2'⟩ := cmp_ops (X := X) k.un op'
        exact st_chn h1 h1' h2 h2' (sr.E X C W _ k) (sr.E X C W _ k) (sr.E X C W _ k) (by simpa using h)
    · split
      · rename_i h
        exact st_tru (sr.E X C W e k) fun whole => plain_is h X.env whole
      · exact pt_fail
theorem snd_evN (T : Tb) : ∀ n, Snd T (evN T n)
  | 0 => ⟨fun _ _ _ _ _ => pe_fail, fun _ _ _ _ _ => pt_fail⟩
  | n + 1 => snd_step (snd_evN T n)
end Qv
namespace Qv
open PySem L2 PySem.Spec PyProof.Rows ClX
open Evl (Ex)

/-! ### statements of the text -/
def isComp : Expr → Bool
  | .ListComp .. => true | .SetComp .. => true | .DictComp .. => true
  | _ => false
def noSwap : Expr → Expr → Bool
  | .Tuple .., .Tuple .. => false
  | .List .., _ => false
  | _, _ => true
def isStar : Expr → Bool
  | .Starred .. => true
  | _ => false
def parOk (C : Ct) (x y : Str) (px py : Pos) (a b : Expr) : Bool := decide (C.sc.kind = .function) && (isLoc C x && (isLoc C y && (decide (py.line = px.line) && (decide (x ≠ y) && (notStar a && (notStar b && (!([a, b].all (foldedForSure 8)) && !([a, b].all (constantsAlone 8)))))))))
def parNo (C : Ct) (x y : Str) (a b : Expr) : Bool := (!isLoc C x || !isLoc C y) && (okSt C x && (okSt C y && (notStar a && notStar b)))
def lcOk (C : Ct) (y : Str) (py lp : Pos) (scope : Scope) : Bool := isLoc C y && (decide (C.sc.kind = .function) && ((py.line == lp.line) && !(scope.names.any fun (n, k) => n == y && (k == .local || k == .cell))))
def par3Ok (C : Ct) (x y z : Str) (px py pz : Pos) (a b c : Expr) : Bool := decide (C.sc.kind = .function) && (isLoc C x && (isLoc C y && (isLoc C z && (decide (py.line = px.line) && (decide (pz.line = px.line) && (decide (x ≠ y) && (decide (x ≠ z) && (decide (y ≠ z) && ([a, b, c].all notStar && (!([a, b, c].all (foldedForSure 8)) && !([a, b, c].all (constantsAlone 8))))))))))))
def notNm (C : Ct) : Expr → Bool
  | .Name x _ => !isLoc C x
  | _ => true
def parF (C : Ct) (ts es : List Expr) : Bool := (ts.all notStar && (es.all notStar && (decide (es.length = ts.length) && decide (es.length ≤ 1000)))) && (!(ts.length == 2 || ts.length == 3) || (ts.any (notNm C) || es.all (foldedForSure 8)))
def parE (r : EvX) (C : Ct) (ts es : List Expr) : M Fl := if parF C ts es then parN (es.map (r.E C)) (ts.map (tgE1 r C)) else fail
def isLN (C : Ct) : Expr → Bool
  | .Name y _ => isLoc C y
  | _ => false
def asgG (r : EvX) (C : Ct) (tg e : Expr) : M Fl := if isComp e && isLN C tg then fail else if noSwap tg e && notStar tg then asS (r.E C e) (tgE r C tg) else fail
def stepS (T : Tb) (r : EvX) (wf : Nat) (B : Ct → List Stmt → M Fl) (C : Ct) : Stmt → M Fl
  | .Pass _ => nxS
  | .Break _ => bkS
  | .Continue _ => ctS
  | .Return none _ => rtN
  | .Return (some e) _ => rtS (r.E C e)
  | .Expr (.Constant (.str _) _ _) _ => nxS
  | .Expr e _ => if isComp e then fail else drS (r.E C e)
  | .If c a b _ => ifS (r.T C c) (B C a) (B C b)
  | .For tg iter body [] _ => if notSet iter then forS (itE T r C tg iter) (tgE r C tg) (B C body) else fail
  | .While c body [] _ => whS (r.T C c) (B C body) wf
  | .Assign [.Name y py] (.ListComp elt [⟨tg, iter, ifs, 0⟩] scope lp) _ => if lcOk C y py lp scope then (match ixOf C.N y with
    | some i => asS (lcE T r C elt tg iter ifs scope) (asgN i)
    | none => fail) else asgG r C (.Name y py) (.ListComp elt [⟨tg, iter, ifs, 0⟩] scope lp)
  | .Assign [.Tuple [.Name x px, .Name y py] _ _] (.Tuple [a, b] _ _) _ => if parOk C x y px py a b then (match ixOf C.N x, ixOf C.N y with
    | some i, some j => if i = j then fail else par2 i j (r.E C a) (r.E C b)
    | _, _ => fail) else if parNo C x y a b then (match ixOf C.N x, ixOf C.N y with
    | some i, some j => if i = j then fail else par2 i j (r.E C a) (r.E C b)
    | _, _ => fail) else parE r C [.Name x px, .Name y py] [a, b]
  | .Assign [.Tuple [.Name x px, .Name y py, .Name z pz] k1 p1] (.Tuple [a, b, c] _ _) _ => if par3Ok C x y z px py pz a b c then (match ixOf C.N x, ixOf C.N y, ixOf C.N z with
    | some i, some j, some l => if i = j ∨ i = l ∨ j = l then fail else parN [r.E C a, r.E C b, r.E C c] ([i, j, l].map asgN)
    | _, _, _ => fail) else parE r C [.Name x px, .Name y py, .Name z pz] [a, b, c]
  | .Assign [.Tuple ts _ _] (.Tuple es _ _) _ => parE r C ts es
  | .Assign [.Attribute o f _] e _ => fldS T.no f (r.E C e) (r.E C o)
  | .Assign [tg] e _ => asgG r C tg e
  | .AugAssign (.Name x _) op e _ => if okSt C x then (match ixOf C.N x with
    | some i => augS op i (r.E C e)
    | none => fail) else fail
  | _ => fail
def evB (T : Tb) (r : EvX) (wf : Nat) : Nat → Ct → List Stmt → M Fl
  | 0, _, _ => fail
  | n + 1, C, sts => seqS (sts.map (stepS T r wf (evB T r wf n) C))
theorem comp_sw {e : Expr} {t : Option Expr} {l : Nat} {env : Env} (h : isComp e = false) : swapsWith e t l env = pure false := by
  cases e <;> first | rfl | cases h
theorem sw_key {env : Env} {y : Str} {p : Pos} {w : Expr} {l : Nat} (z : (env.kindOf y == some .local) = false) : swapsWith w (some (.Name y p)) l env = pure false := by
  unfold swapsWith
  split
  · simp [z]
  · rfl
theorem sw_nn {C : Ct} {tg e : Expr} {l : Nat} {env : Env} (hs : env.scope = C.sc) (h : (isComp e && isLN C tg) = false) : swapsWith e (some tg) l env = pure false := by
  cases hc : isComp e with
  | false => cases e <;> first | rfl | cases hc
  | true =>
    rw [hc, Bool.true_and] at h
    cases tg with
    | Name y p =>
      refine sw_key ?_
      unfold Env.kindOf
      rw [hs]
      have hl : isLoc C y = false := h
      unfold isLoc at hl
      simpa using hl
    | _ =>
      unfold swapsWith
      split <;> rfl
theorem parF_sw {C : Ct} {env : Env} {ts es : List Expr} {k k2 : Nat} {pt pt2 : Pos} (hs : env.scope = C.sc) (h : parF C ts es = true) : swappedStores [.Tuple ts k pt] (.Tuple es k2 pt2) env = pure none := by
  unfold parF at h
  rw [Bool.and_eq_true] at h
  have h2 := h.2
  unfold swappedStores
  dsimp only
  split
  · rfl
  · rename_i hl
    split
    · rfl
    · rename_i hst
      rw [Bool.or_eq_true, Bool.or_eq_true] at h2
      rcases h2 with h2 | h2 | h2
      · simp only [Bool.or_eq_true, not_or] at hl
        exact absurd h2 hl.1.1
      · split
        · rfl
        · rename_i hnm
          exfalso
          apply hnm
          rw [Bool.or_eq_true]
          refine .inl ?_
          obtain ⟨a, ha, hb⟩ := List.any_eq_true.mp h2
          have key : ∀ (l : List Expr) (line : Nat), a ∈ l → (l.filterMap fun
              | .Name id pos => if env.kindOf id == some .local && pos.line == line then some id else none
              | _ => none).length < l.length := by
            intro l line
            induction l with
            | nil => intro hm; cases hm
            | cons b l ih =>
              intro hm
              rcases List.mem_cons.mp hm with e | e
              · subst e
                have hnone : (match a with | .Name id pos => if env.kindOf id == some .local && pos.line == line then some id else none | _ => (none : Option Str)) = none := by
                  cases a with
                  | Name id pos =>
                    have h3 : isLoc C id = false := by simpa [notNm] using hb
                    have h4 : (env.kindOf id == some .local) = false := by
                      unfold Env.kindOf
                      rw [hs]
                      unfold isLoc at h3
                      simpa using h3
                    simp only [h4, Bool.false_and]
                    rfl
                  | _ => rfl
                rw [List.filterMap_cons]
                have := List.length_filterMap_le (fun x : Expr => match x with | .Name id pos => if env.kindOf id == some .local && pos.line == line then some id else none | _ => (none : Option Str)) l
                simp only [hnone]
                rw [List.length_cons]
                omega
              · have := ih e
                rw [List.filterMap_cons, List.length_cons]
                split
                · omega
                · rw [List.length_cons]; omega
          exact bne_iff_ne.mpr (Nat.ne_of_lt (key ts _ ha))
      · split
        · rfl
        · first
          | rfl
          | rw [if_pos h2]
          | (split
             · rfl
             · rename_i hz; exact absurd h2 hz)
theorem par3_sw {C : Ct} {env : Env} {x y z : Str} {px py pz pt pt2 : Pos} {kt k2 : Nat} {a b c : Expr} (hs : env.scope = C.sc) (h : par3Ok C x y z px py pz a b c = true) : swappedStores [.Tuple [.Name x px, .Name y py, .Name z pz] kt pt] (.Tuple [a, b, c] k2 pt2) env = pure (some [x, y, z]) := by
  unfold par3Ok at h
  simp only [Bool.and_eq_true, decide_eq_true_eq, isLoc, Bool.not_eq_true'] at h
  obtain ⟨h1, h2, h3, h3b, h4, h4b, h5, h6, h7, h8, h9, h10⟩ := h
  have k1 : env.kindOf x = some .local := by unfold Env.kindOf; rw [hs]; exact h2
  have k2 : env.kindOf y = some .local := by unfold Env.kindOf; rw [hs]; exact h3
  have k3 : env.kindOf z = some .local := by unfold Env.kindOf; rw [hs]; exact h3b
  have kb : env.blockKind = .function := by unfold Env.blockKind; rw [hs, h1]; rfl
  have one : ∀ e : Expr, notStar e = true → (match e with | .Starred .. => true | _ => false) = false := fun e h => by cases e <;> first | rfl | cases h
  simp only [List.all_cons, List.all_nil, Bool.and_true, Bool.and_eq_true] at h8
  have nst : ([a, b, c].any fun e => match e with | .Starred .. => true | _ => false) = false := by
    simp only [List.any_cons, List.any_nil, one a h8.1, one b h8.2.1, one c h8.2.2]
    rfl
  have l1 : (Expr.Name x px).pos.line = px.line := rfl
  have n1 : (y == x) = false := by simpa using Ne.symm h5
  have n2 : (z == x) = false := by simpa using Ne.symm h6
  have n3 : (z == y) = false := by simpa using Ne.symm h7
  have m1 : (x == y) = false := by simpa using h5
  have m2 : (x == z) = false := by simpa using h6
  have m3 : (y == z) = false := by simpa using h7
  unfold swappedStores
  simp only [kb, nst, k1, k2, k3, h4, h4b, h9, h10, List.filterMap_cons, List.filterMap_nil, List.head?_cons, Option.map_some, Option.getD_some, l1]
  simp [List.eraseDups, List.eraseDupsBy, List.eraseDupsBy.loop, n1, n2, n3, m1, m2, m3]
  intro z
  rcases z with z | z | z
  · cases a <;> first | exact absurd (show false = true from z) Bool.false_ne_true | exact absurd (show false = true from h8.1) Bool.false_ne_true
  · cases b <;> first | exact absurd (show false = true from z) Bool.false_ne_true | exact absurd (show false = true from h8.2.1) Bool.false_ne_true
  · cases c <;> first | exact absurd (show false = true from z) Bool.false_ne_true | exact absurd (show false = true from h8.2.2) Bool.false_ne_true
theorem noSwap_ok {tg e : Expr} {env : Env} (h : noSwap tg e = true) : swappedStores [tg] e env = pure none := by
  cases tg <;> first | rfl | (cases e <;> first | rfl | cases h)
theorem par_sw {C : Ct} {env : Env} {x y : Str} {px py pt pt2 : Pos} {kt k2 : Nat} {a b : Expr} (hs : env.scope = C.sc) (h : parOk C x y px py a b = true) : swappedStores [.Tuple [.Name x px, .Name y py] kt pt] (.Tuple [a, b] k2 pt2) env = pure (some [x, y]) := by
  unfold parOk at h
  simp only [Bool.and_eq_true, decide_eq_true_eq, isLoc, Bool.not_eq_true'] at h
  obtain ⟨h1, h2, h3, h4, h5, h6, h7, h8, h9⟩ := h
  have k1 : env.kindOf x = some .local := by unfold Env.kindOf; rw [hs]; exact h2
  have k2 : env.kindOf y = some .local := by unfold Env.kindOf; rw [hs]; exact h3
  have kb : env.blockKind = .function := by unfold Env.blockKind; rw [hs, h1]; rfl
  have nst : ([a, b].any fun e => match e with | .Starred .. => true | _ => false) = false := by
    have one : ∀ e : Expr, notStar e = true → (match e with | .Starred .. => true | _ => false) = false := fun e h => by cases e <;> first | rfl | cases h
    simp only [List.any_cons, List.any_nil, one a h6, one b h7]
    rfl
  have l1 : (Expr.Name x px).pos.line = px.line := rfl
  have hne : (y == x) = false := by simpa using Ne.symm h5
  have hne2 : (x == y) = false := by simpa using h5
  unfold swappedStores
  simp only [kb, nst, k1, k2, h4, h8, h9, List.filterMap_cons, List.filterMap_nil, List.head?_cons, Option.map_some, Option.getD_some, l1]
  simp [List.eraseDups, List.eraseDupsBy, List.eraseDupsBy.loop, hne, hne2]
  intro z
  rcases z with z | z
  · cases a <;> first | exact absurd (show false = true from z) Bool.false_ne_true | exact absurd (show false = true from h6) Bool.false_ne_true
  · cases b <;> first | exact absurd (show false = true from z) Bool.false_ne_true | exact absurd (show false = true from h7) Bool.false_ne_true
theorem no_sw {C : Ct} {env : Env} {x y : Str} {px py pt pt2 : Pos} {kt k2 : Nat} {a b : Expr} (hs : env.scope = C.sc) (h : parNo C x y a b = true) : swappedStores [.Tuple [.Name x px, .Name y py] kt pt] (.Tuple [a, b] k2 pt2) env = pure none := by
  unfold parNo at h
  simp only [Bool.and_eq_true, Bool.or_eq_true, Bool.not_eq_true', isLoc, decide_eq_false_iff_not] at h
  obtain ⟨h1, h2, h3, h6, h7⟩ := h
  have key : ∀ z : Str, ¬ C.sc.names.lookup z = some .local → (env.kindOf z == some .local) = false := fun z hz => by
    unfold Env.kindOf
    rw [hs]
    cases e : C.sc.names.lookup z with
    | none => rfl
    | some q => cases q <;> first | rfl | exact absurd e hz
  unfold swappedStores
  rcases h1 with h1 | h1
  · have k1 := key x h1
    simp only [k1, List.filterMap_cons, List.filterMap_nil, Bool.false_and]
    split
    · rfl
    · split
      · rfl
      · split <;> simp_all <;> (intro hlen; exfalso; revert hlen; split <;> simp)
  · have k1 := key y h1
    simp only [k1, List.filterMap_cons, List.filterMap_nil, Bool.false_and]
    split
    · rfl
    · split
      · rfl
      · split <;> simp_all <;> (intro hlen; exfalso; revert hlen; split <;> simp)
section
variable {T : Tb} {r : EvX} {X : Cx} {C : Ct} {W : WX} {wf : Nat} {B : Ct → List Stmt → M Fl}
theorem snd_par (sr : Snd T r) (k : XOk T X C W) {ts es : List Expr} {k1 k2 : Nat} {p1 p2 pos : Pos} : PS X (.Assign [.Tuple ts k1 p1] (.Tuple es k2 p2) pos) (tSv X.K W (parE r C ts es)) := by
  unfold parE
  split
  · rename_i h
    have h' := h
    unfold parF at h'
    simp only [Bool.and_eq_true, decide_eq_true_eq] at h'
    obtain ⟨⟨h1, h2, h3, h4⟩, _⟩ := h'
    exact ss_parN k.calm h2 h1 (sndEs sr k _) (sgs_map fun a => snd_tg1 sr k) h3 h4 (parF_sw k.sc h) rfl
  · exact ps_fail
theorem snd_asgG (sr : Snd T r) (k : XOk T X C W) {tg e : Expr} {pos : Pos} : PS X (.Assign [tg] e pos) (tSv X.K W (asgG r C tg e)) := by
  unfold asgG
  split
  · exact ps_fail
  · rename_i h
    split
    · rename_i h2
      rw [Bool.and_eq_true] at h2
      exact ss_asg (sr.E X C W _ k) (snd_tg sr k) (sw_nn k.sc (by simpa using h)) (noSwap_ok h2.1) h2.2
    · exact ps_fail
theorem snd_S (sr : Snd T r) (hB : ∀ sts, PSs X sts (tSv X.K W (B C sts))) (k : XOk T X C W) (st : Stmt) : PS X st (tSv X.K W (stepS T r wf B C st)) := by
  have hp : PassesOwn (model X.prog X.w) X.A X.env X.xe := k.po
  have nd : X.N.Nodup := by rw [k.N]; exact k.nd
  unfold stepS
  split
  · exact ss_pass
  · exact ss_break
  · exact ss_cont
  · exact ss_retN
  · exact ss_ret (sr.E X C W _ k)
  · exact ss_nx (t := tNext) ps_doc
  · split
    · exact ps_fail
    · rename_i h
      exact ss_expr (sr.E X C W _ k) (comp_sw (by simpa using h))
  · exact ss_if (sr.T X C W _ k) (hB _) (hB _)
  · split
    · rename_i h
      exact ss_for hp k.calm (snd_it sr k) (snd_tg sr k) (hB _) (notSet_ok h)
    · exact ps_fail
  · exact ss_while hp (sr.T X C W _ k) (hB _)
  · split
    · rename_i h
      unfold lcOk at h
      simp only [Bool.and_eq_true, decide_eq_true_eq, Bool.not_eq_true'] at h
      split
      · rename_i i hi
        exact ss_setLc sr k (ixOf_ok hi) h.1 h.2.1 h.2.2.1 h.2.2.2
      · exact ps_fail
    · exact snd_asgG sr k
  · split
    · rename_i x px y py _ _ a b _ _ _ h
      have h' := h
      unfold parOk at h'
      simp only [Bool.and_eq_true, decide_eq_true_eq, isLoc, Bool.not_eq_true'] at h'
      split
      · rename_i i j hi hj
        split
        · exact ps_fail
        · rename_i hij
          exact ss_par2 k.calm nd (by rw [k.N]; exact ixOf_ok hi) (by rw [k.N]; exact ixOf_ok hj) hij (by rw [k.sc]; exact h'.2.1) (by rw [k.sc]; exact h'.2.2.1) (sr.E X C W _ k) (sr.E X C W _ k) h'.2.2.2.2.2.1 h'.2.2.2.2.2.2.1 (par_sw k.sc h)
      · exact ps_fail
    · split
      · rename_i x px y py _ _ a b _ _ _ _ h
        have h' := h
        unfold parNo at h'
        simp only [Bool.and_eq_true] at h'
        obtain ⟨p1, p2⟩ := okSt_ok k h'.2.1
        obtain ⟨p3, p4⟩ := okSt_ok k h'.2.2.1
        split
        · rename_i i j hi hj
          split
          · exact ps_fail
          · exact ss_par2T k.calm nd (by rw [k.N]; exact ixOf_ok hi) (by rw [k.N]; exact ixOf_ok hj) p1 p2 p3 p4 (sr.E X C W _ k) (sr.E X C W _ k) h'.2.2.2.1 h'.2.2.2.2 (no_sw k.sc h)
        · exact ps_fail
      · exact snd_par sr k
  · split
    · rename_i x px y py z pz k1 p1 a b c _ _ _ h
      have h' := h
      unfold par3Ok at h'
      simp only [Bool.and_eq_true, decide_eq_true_eq, isLoc] at h'
      split
      · rename_i i j l hi hj hl
        split
        · exact ps_fail
        · rename_i hne
          simp only [not_or] at hne
          exact ss_par3 k.calm nd (by rw [k.N]; exact ixOf_ok hi) (by rw [k.N]; exact ixOf_ok hj) (by rw [k.N]; exact ixOf_ok hl) hne.1 hne.2.1 hne.2.2 (by rw [k.sc]; exact h'.2.1) (by rw [k.sc]; exact h'.2.2.1) (by rw [k.sc]; exact h'.2.2.2.1) (sr.E X C W _ k) (sr.E X C W _ k) (sr.E X C W _ k) h'.2.2.2.2.2.2.2.2.2.1 (par3_sw k.sc h) rfl
      · exact ps_fail
    · exact snd_par sr k
  · exact snd_par sr k
  · exact ss_fld k.no (sr.E X C W _ k) (sr.E X C W _ k) (sw_nn k.sc (by rw [show isLN C (.Attribute _ _ _) = false from rfl, Bool.and_false]))
  · exact snd_asgG sr k
  · split
    · rename_i x p op e _ h
      obtain ⟨p1, p2⟩ := okSt_ok k h
      split
      · rename_i i hi
        exact ss_aug nd (by rw [k.N]; exact ixOf_ok hi) p1 p2 (sr.E X C W _ k)
      · exact ps_fail
    · exact ps_fail
  · exact ps_fail
end
theorem snd_B {T : Tb} {r : EvX} (sr : Snd T r) {wf : Nat} : ∀ (n : Nat) {X : Cx} {C : Ct} {W : WX}, XOk T X C W → ∀ sts, PSs X sts (tSv X.K W (evB T r wf n C sts))
  | 0, X, C, W, k, sts => pss_fail
  | n + 1, X, C, W, k, sts => by
    show PSs X sts (tSv X.K W (seqS (sts.map (stepS T r wf (evB T r wf n) C))))
    refine sss sts _ ?_
    have ih := fun sts => snd_B sr (wf := wf) n k sts
    have go : ∀ l : List Stmt, Paired (fun s f => PS X s (tSv X.K W f)) l (l.map (stepS T r wf (evB T r wf n) C)) := by
      intro l
      induction l with
      | nil => exact .nil
      | cons a l ihl => exact .cons (snd_S sr ih k a) ihl
    exact go sts
/-! ### the text's functions -/
theorem evF_len {n np : Nat} {body : M Fl} {ss : List Slot} (h : evF n np body ss ≠ .err) : ss.length = np := by
  unfold evF at h
  split at h
  · assumption
  · exact absurd rfl h
/-- where a def stands: a global, a method found from a class, what a record of a class's dict holds -/
inductive At where
  | fn (x : Str) | mt (c m : Str) | rc (k : String) (c m : Str)
def rcA (K : PySem.W.Frag) (k : String) (p : Addr) : Addr := match PySem.W.recIn K p k with
  | some (.ref g :: _) => g
  | _ => 0
def At.adr (K : PySem.W.Frag) : At → Addr
  | .fn x => He.ga K x
  | .mt c m => He.ma K (He.ga K c) m
  | .rc k c m => rcA K k (He.ma K (He.ga K c) m)
structure DefI where
  st : Option Nat := none
  nm : Str
  qual : Str
  N : List Str
  ps : List Str
  sc : Scope
  body : List Stmt
  by_ : List Bool
  args : Arguments
  kwd : List (Str × D) := []
  shp : List Shp := []
structure Prg where
  gl : List (Str × D)
  fr : List Str
  defs : List (Str × DefI)
  wf : Nat
  no : List (Str × Str) := []
  mt : List ((Str × Str) × DefI) := []
  pt : List ((Str × Str) × DefI) := []
  mki : List (Str × DefI) := []
  sm : List ((Str × Str) × DefI) := []
  mq : List ((Str × Str) × DefI) := []
  mkq : List (Str × DefI) := []
  dn : Bool := false
  ic : List Str := []
  isl : List (TyN × Str × Bool) := []
  nfl : List (Str × Str) := []
  clg : List Str := []
abbrev en2 (c m : Str) (d : DefI) : (Str × Str) × DefI := ((c, m), d)
abbrev en1 (x : Str) (d : DefI) : Str × DefI := (x, d)
abbrev is3 (t : TyN) (d : Str) (b : Bool) : TyN × Str × Bool := (t, d, b)
abbrev st2 (c d : Str) : Str × Str := (c, d)
def btys : List String := ["NoneType", "bool", "int", "str", "tuple", "list", "dict"]
def Prg.nfT (P : Prg) (c : Str) : TyN → Bool
  | .bt n => btys.contains n
  | .ow d => P.nfl.contains (c, d)
def Prg.du (P : Prg) : Du where
  ic := fun c => P.ic.contains c
  nf := fun c t => P.ic.contains c && P.nfT c t
  ne := fun c => P.ic.contains c
  is := fun t u => match t, u with
    | t, .ow d => (P.isl.find? fun q => decide (q.1 = t ∧ q.2.1 = d)).map fun q => q.2.2
    | .ow c, .bt n => if P.ic.contains c && btys.contains n then some false else none
    | _, _ => none
def Prg.ctx (d : DefI) : Ct := { N := d.N, sc := d.sc, fn := fun _ => true }
/-- a shape for so many arguments -/
def shFits (st : Option Nat) (q : Shp) (k : Nat) (ks : List Str) : Bool := decide (q.ks = ks) && (match st with
  | none => q.n == k
  | some i => decide (i ≤ k))
def dnS : Option Nat → Option Nat
  | some (i + 1) => some i
  | _ => none
/-- what a def does, its calls by a table -/
def evW (P : Prg) (T : Tb) (d : DefI) : Ev := evF d.N.length d.ps.length (evB T (evN T 40) P.wf 40 (Prg.ctx d) d.body)
def tb (P : Prg) : Nat → Tb
  | 0 => { gl := fun x => P.gl.lookup x, fr := fun x => P.fr.contains x, fns := fun _ => none, fnk := fun _ _ _ => none, no := fun c f => P.no.contains (c, f), dn := P.dn, du := P.du, mqn := fun m => P.mq.any fun q => decide (q.1.2 = m), clg := fun x => P.clg.contains x }
  | n + 1 => { gl := fun x => P.gl.lookup x, fr := fun x => P.fr.contains x
               no := fun c f => P.no.contains (c, f)
               fns := fun x => match P.defs.lookup x with
                 | some d => if d.shp.isEmpty then some (d.by_, evW P (tb P n) d) else none
                 | none => none
               fnk := fun x m ks => match P.defs.lookup x with
                 | some d => (d.shp.find? fun q => q.n == m && decide (q.ks = ks)).map fun q => (d.by_, evW P (tb P n) d, q)
                 | none => none
               mt := fun c m => (P.mt.lookup (c, m)).map fun d => (d.by_, evW P (tb P n) d)
               pt := fun c f => (P.pt.lookup (c, f)).map fun d => evW P (tb P n) d
               mkr := fun c => (P.mki.lookup c).map fun d => (c, d.by_.tail, evW P (tb P n) d)
               sm := fun c m => (P.sm.lookup (c, m)).map fun d => (d.by_, evW P (tb P n) d)
               dn := P.dn
               du := P.du
               mqn := fun m => P.mq.any fun q => decide (q.1.2 = m)
               mq := fun c m k ks => match P.mq.lookup (c, m) with
                 | some d => (d.shp.find? fun q => shFits d.st q (k + 1) ks).map fun q => (d.by_, evW P (tb P n) d, d.st, q)
                 | none => none
               mkq := fun c k ks => match P.mkq.lookup c with
                 | some d => (d.shp.find? fun q => shFits d.st q.self (k + 1) ks).map fun q => (c, d.by_.tail, evW P (tb P n) d, dnS d.st, q)
                 | none => none
               clg := fun x => P.clg.contains x }
def evD (P : Prg) (n : Nat) (d : DefI) : Ev := evW P (tb P n) d
/-- a def of the text, at f -/
structure DefU (K : PySem.W.Frag) (d : DefI) (f : Addr) (fd : FuncData) : Prop where
  keep : PySem.W.keepIn K (.ref f) = true
  bind : d.shp = [] → Binds K fd d.ps []
  kbs : d.st = none → ∀ q ∈ d.shp, KBs K fd d.ps q
  stp : ∀ i, d.st = some i → ∀ q ∈ d.shp, StP d.nm d.qual d.args d.body d.sc d.ps i q ∧ q.ms = [] ∧ q.srcs.all (srcOk q.ms) = true ∧ q.srcs.length = d.ps.length
  sco : FnScope d.N d.ps d.sc
  run : ∃ (kV doc pm cdv ct oc : Value) (an od : Option Addr) (osl : Array (Option Value)), fd = PySem.W.fnOf d.nm d.qual d.args d.body d.sc .none kV doc pm an cdv ct ∧ K.lookup f = some ⟨oc, od, .func fd, osl⟩ ∧ PySem.W.codeIn K cdv d.qual = true
/-- .. called plainly -/
def DefP (K : PySem.W.Frag) (d : DefI) (f : Addr) : Prop := d.shp = [] ∧ ∃ fd, DefU K d f fd
structure PrgOk (P : Prg) (K : PySem.W.Frag) (mg : Str → Option Value) : Prop where
  gl : ∀ x d, P.gl.lookup x = some d → ∃ u v, mg x = some u ∧ RelV v u ∧ ∀ G, Rep K G v d
  fr : ∀ x, P.fr.contains x = true → mg x = none
  defs : ∀ x d, P.defs.lookup x = some d → mg x = some (.ref (He.ga K x)) ∧ d.st = none ∧ ∃ fd, DefU K d (He.ga K x) fd
  no : ∀ c f, P.no.contains (c, f) = true → Cls K (He.ga K c) ∧ NoAttr K (He.ga K c) f
  mt : ∀ c m d, P.mt.lookup (c, m) = some d → Cls K (He.ga K c) ∧ Meth K (He.ga K c) m (At.adr K (.mt c m)) ∧ DefP K d (At.adr K (.mt c m))
  pt : ∀ c m d, P.pt.lookup (c, m) = some d → Cls K (He.ga K c) ∧ PropOf K (He.ga K c) m (He.ma K (He.ga K c) m) (At.adr K (.rc "property" c m)) ∧ DefP K d (At.adr K (.rc "property" c m))
  mki : ∀ c d, P.mki.lookup c = some d → mg c = some (.ref (He.ga K c)) ∧ Mk K (He.ga K c) (At.adr K (.mt c "__init__")) ∧ DefP K d (At.adr K (.mt c "__init__"))
  sm : ∀ c m d, P.sm.lookup (c, m) = some d → mg c = some (.ref (He.ga K c)) ∧ CRead K (He.ga K c) (.type "type") ∧ SMet K (He.ga K c) (.type "type") m (He.ma K (He.ga K c) m) (At.adr K (.rc "staticmethod" c m)) ∧ DefP K d (At.adr K (.rc "staticmethod" c m))
  mq : ∀ c m d, P.mq.lookup (c, m) = some d → Cls K (He.ga K c) ∧ Meth K (He.ga K c) m (At.adr K (.mt c m)) ∧ ∃ fd, DefU K d (At.adr K (.mt c m)) fd
  mkq : ∀ c d, P.mkq.lookup c = some d → mg c = some (.ref (He.ga K c)) ∧ Mk K (He.ga K c) (At.adr K (.mt c "__init__")) ∧ (∀ i, d.st = some i → 0 < i) ∧ ∃ fd, (∀ q ∈ d.shp, DefU K { d with shp := [q.self] } (At.adr K (.mt c "__init__")) fd)
  du : DuOk K P.du
  clg : ∀ x, P.clg.contains x = true → mg x = some (.ref (He.ga K x))
section
variable {P : Prg} {prog : Program} {w : World} {K : PySem.W.Frag} {mg : Str → Option Value} {base : Heap}
/-- what a body does -/
def BodyP (P : Prg) (prog : Program) (w : World) (K : PySem.W.Frag) (mg : Str → Option Value) (base : Heap) (n : Nat) (d : DefI) (f : Addr) (cdv : Value) : Prop := ∀ (A : Around) (out : List Env) (s : Shared) (H : Hp) (E : XK), Room (3 * n + 2) (A.deeper (envOfC d.qual d.sc s.heap.objs.size f cdv)) → A.guards = some [] →
  PSs (cxG prog w K mg base d.N d.qual d.sc f cdv A out s H E) d.body (tSv K (wxG E) (evB (tb P n) (evN (tb P n) 40) P.wf 40 (Prg.ctx d) d.body))
theorem g_of {n : Nat} {d : DefI} {f : Addr} {fd : FuncData} (hb : ∀ cdv, BodyP P prog w K mg base n d f cdv) (W : DefU K d f fd) : FnG prog w K mg base (3 * n + 3) f fd d.ps (evD P n d) := by
  obtain ⟨kV, doc, pm, cdv, ct, oc, an, od, osl, rfl, lk, hcd⟩ := W.run
  exact fnG_of (k := 3 * n + 2) lk hcd W.sco fun A out s H E hr hgu => hb cdv A out s H E hr hgu
theorem q_of {n : Nat} {d : DefI} {f : Addr} {fd : FuncData} {q : Shp} (hb : ∀ cdv, BodyP P prog w K mg base n d f cdv) (W : DefU K d f fd) (hq : q ∈ d.shp) : FnQ prog w K mg base (3 * n + 3) f d.ps.length (evD P n d) d.st q := by
  cases hs : d.st with
  | none => exact .of (g_of hb W) (W.kbs hs q hq)
  | some i =>
    obtain ⟨kV, doc, pm, cdv, ct, oc, an, od, osl, rfl, lk, hcd⟩ := W.run
    obtain ⟨h1, h2, h3, h4⟩ := W.stp i hs q hq
    exact FnQ.star lk hcd W.sco h1 h2 h3 h4 fun A out s H E hr hgu => hb cdv A out s H E hr hgu
theorem body_ok (ok : PrgOk P K mg) : ∀ (n : Nat) (d : DefI) (f : Addr), FnScope d.N d.ps d.sc → ∀ cdv, BodyP P prog w K mg base n d f cdv
  | n, d, f, sco, cdv => by
    intro A out s H E hr hgu
    have un : (A.deeper (envOfC d.qual d.sc s.heap.objs.size f cdv)).units + 200 < cLine := by have := hr.un; omega
    cases n with
    | zero =>
      refine snd_B (T := tb P 0) (snd_evN _ 40) 40 (C := Prg.ctx d) ⟨rfl, cxG_takes, cxG_passes, rfl, sco.nd, rfl, fun _ _ => rfl, hgu, un, ok.gl, ok.fr, ?_, ?_, ok.no, ⟨?_⟩, ⟨?_⟩, ?_, ?_, (show DuOk K P.du from ok.du), ⟨?_⟩, ?_, ok.clg⟩ d.body
      · intro x bs ev h; cases h
      · intro x n ks bs ev q h; cases h
      · intro c m bs ev h; cases h
      · intro c f ev h; cases h
      · intro x c bs ev h; cases h
      · intro c m bs ev h; cases h
      · intro c m n ks bs ev st q h; cases h
      · intro x n ks c bs ev st q h; cases h
    | succ n =>
      have ih := body_ok ok n
      have G : ∀ {d : DefI} {f : Addr} {fd : FuncData}, DefU K d f fd → FnG prog w K mg base (3 * n + 3) f fd d.ps (evD P n d) := fun W => g_of (fun cdv => ih _ _ W.sco cdv) W
      refine snd_B (T := tb P (n + 1)) (snd_evN _ 40) 40 (C := Prg.ctx d) ⟨rfl, cxG_takes, cxG_passes, rfl, sco.nd, rfl, fun _ _ => rfl, hgu, un, ok.gl, ok.fr, ?_, ?_, ok.no, ⟨?_⟩, ⟨?_⟩, ?_, ?_, (show DuOk K P.du from ok.du), ⟨?_⟩, ?_, ok.clg⟩ d.body
      · intro y bs ev h
        have h' : (match P.defs.lookup y with
          | some d => if d.shp.isEmpty then some (d.by_, evW P (tb P n) d) else none
          | none => none) = some (bs, ev) := h
        split at h'
        · rename_i d' h1
          split at h'
          · rename_i h2
            cases h'
            obtain ⟨hm, hs, fd', W'⟩ := ok.defs y d' h1
            exact ⟨3 * n + 3, _, fd', d'.ps, G W', hr.mono (by omega), hm, W'.keep, W'.bind (List.isEmpty_iff.mp h2), fun ss h => evF_len h⟩
          · cases h'
        · cases h'
      · intro y m ks bs ev q h
        have h' : (match P.defs.lookup y with
          | some d => (d.shp.find? fun q => q.n == m && decide (q.ks = ks)).map fun q => (d.by_, evW P (tb P n) d, q)
          | none => none) = some (bs, ev, q) := h
        split at h'
        · rename_i d' h1
          obtain ⟨q', h2, h3⟩ := Option.map_eq_some_iff.mp h'
          cases h3
          obtain ⟨hm, hs, fd', W'⟩ := ok.defs y d' h1
          have hq := List.find?_some h2
          rw [Bool.and_eq_true, decide_eq_true_eq] at hq
          exact ⟨hq.2, 3 * n + 3, _, fd', d'.ps, G W', hr.mono (by omega), hm, W'.keep, W'.kbs hs q (List.mem_of_find?_eq_some h2), fun ss h => evF_len h⟩
        · cases h'
      · intro c m bs ev h
        obtain ⟨d', h1, h2⟩ := Option.map_eq_some_iff.mp (show (P.mt.lookup (c, m)).map (fun d => (d.by_, evW P (tb P n) d)) = some (bs, ev) from h)
        cases h2
        obtain ⟨hc, hm, hs, fd', W'⟩ := ok.mt c m d' h1
        exact ⟨hc, _, 3 * n + 3, fd', d'.ps, hm, G W', hr.mono (by omega), W'.bind hs, fun ss h => evF_len h⟩
      · intro c f ev h
        obtain ⟨d', h1, h2⟩ := Option.map_eq_some_iff.mp (show (P.pt.lookup (c, f)).map (fun d => evW P (tb P n) d) = some ev from h)
        cases h2
        obtain ⟨hc, hp, hs, fd', W'⟩ := ok.pt c f d' h1
        exact ⟨hc, _, _, 3 * n + 3, fd', d'.ps, hp, G W', hr.mono (by omega), W'.bind hs, fun ss h => evF_len h⟩
      · intro x c bs ev h
        obtain ⟨d', h1, h2⟩ := Option.map_eq_some_iff.mp (show (P.mki.lookup x).map (fun d => (x, d.by_.tail, evW P (tb P n) d)) = some (c, bs, ev) from h)
        cases h2
        obtain ⟨hm, hk, hs, fd', W'⟩ := ok.mki x d' h1
        exact ⟨3 * n + 3, _, fd', d'.ps, hk, G W', hr.mono (by omega), hm, W'.bind hs, fun ss h => evF_len h⟩
      · intro c m bs ev h
        obtain ⟨d', h1, h2⟩ := Option.map_eq_some_iff.mp (show (P.sm.lookup (c, m)).map (fun d => (d.by_, evW P (tb P n) d)) = some (bs, ev) from h)
        cases h2
        obtain ⟨hm, hr2, hsm, hs, fd', W'⟩ := ok.sm c m d' h1
        exact ⟨3 * n + 3, _, _, _, _, fd', d'.ps, G W', hr.mono (by omega), hm, hr2, hsm, W'.bind hs, fun ss h => evF_len h⟩
      · intro c m k ks bs ev st q h
        have h' : (match P.mq.lookup (c, m) with
          | some d => (d.shp.find? fun q => shFits d.st q (k + 1) ks).map fun q => (d.by_, evW P (tb P n) d, d.st, q)
          | none => none) = some (bs, ev, st, q) := h
        split at h'
        · rename_i d' h1
          obtain ⟨q', h2, h3⟩ := Option.map_eq_some_iff.mp h'
          cases h3
          obtain ⟨hc, hm, fd', W'⟩ := ok.mq c m d' h1
          have hq := List.find?_some h2
          unfold shFits at hq
          rw [Bool.and_eq_true, decide_eq_true_eq] at hq
          exact ⟨hq.1, hc, _, 3 * n + 3, _, hm, q_of (fun cdv => ih _ _ W'.sco cdv) W' (List.mem_of_find?_eq_some h2), hr.mono (by omega), fun ss h => evF_len h⟩
        · cases h'
      · intro x k ks c bs ev st q h
        have h' : (match P.mkq.lookup x with
          | some d => (d.shp.find? fun q => shFits d.st q.self (k + 1) ks).map fun q => (x, d.by_.tail, evW P (tb P n) d, dnS d.st, q)
          | none => none) = some (c, bs, ev, st, q) := h
        split at h'
        · rename_i d' h1
          obtain ⟨q', h2, h3⟩ := Option.map_eq_some_iff.mp h'
          cases h3
          obtain ⟨hm, hk, hpos, fd', W'⟩ := ok.mkq x d' h1
          have hmem := List.mem_of_find?_eq_some h2
          have hq := List.find?_some h2
          unfold shFits at hq
          rw [Bool.and_eq_true, decide_eq_true_eq] at hq
          have Wq := W' q hmem
          have F := q_of (P := P) (n := n) (q := q.self) (fun cdv => ih _ _ Wq.sco cdv) Wq List.mem_cons_self
          have es : upS (dnS d'.st) = d'.st := by
            cases e : d'.st with
            | none => rfl
            | some i =>
              have := hpos i e
              cases i with
              | zero => omega
              | succ i => rfl
          refine ⟨hq.1, 3 * n + 3, _, _, hk, ?_, hr.mono (by omega), hm, fun ss h => evF_len h⟩
          rw [es]
          exact F
        · cases h'
theorem fns_ok (ok : PrgOk P K mg) (n : Nat) (d : DefI) (f : Addr) (fd : FuncData) (W : DefU K d f fd) : FnG prog w K mg base (3 * n + 3) f fd d.ps (evD P n d) := g_of (fun cdv => body_ok ok n d f W.sco cdv) W
end
end Qv
namespace Qv
open PySem L2 PySem.Spec PyProof.Rows ClX
open Evl (Ex)

/-! ### from the head's facts -/
def clsAt (s : Stmt) (j : Nat) : Stmt := match s with
  | .ClassDef _ _ _ b _ _ _ _ _ _ _ => b.getD j s
  | s => s
def glFa : Str × D → He.Fa
  | (x, .int i) => .int x i
  | (x, .str z) => .str x z
  | (x, _) => .glo x
def glD : D → Bool
  | .int _ => true
  | .str _ => true
  | _ => false
/-- every def of the text, where it stands -/
def allD (P : Prg) : List (At × DefI) := P.defs.map (fun q => (.fn q.1, q.2)) ++ (P.mt.map (fun q => (.mt q.1.1 q.1.2, q.2)) ++ (P.pt.map (fun q => (.rc "property" q.1.1 q.1.2, q.2)) ++ (P.mki.map (fun q => (.mt q.1 "__init__", q.2)) ++ (P.sm.map (fun q => (.rc "staticmethod" q.1.1 q.1.2, q.2)) ++ (P.mq.map (fun q => (.mt q.1.1 q.1.2, q.2)) ++ P.mkq.map fun q => (.mt q.1 "__init__", { q.2 with shp := q.2.shp.map Shp.self }))))))
def kwV (d : DefI) : List (Str × V) := d.kwd.map fun m => (m.1, dV m.2)
abbrev FnS : Type := Option ((Str × Str × Arguments) × (FuncBody × Scope × Addr) × List (Str × Addr) × Addr)
def fnS (K : PySem.W.Frag) (a : Addr) : FnS := match K.lookup a with
  | some ⟨_, _, .func g, _⟩ => some ((g.name, g.qualname, g.params), (g.body, g.scope, g.globals), g.closure, g.builtins)
  | _ => none
def DefI.fnS (d : DefI) : FnS := some ((d.nm, d.qual, d.args), (.stmts d.body, d.sc, mainGlobals), [], builtinsNs)
def defB (K : PySem.W.Frag) (a : Addr) (d : DefI) : Bool := PySem.W.keepIn K (.ref a) && match K.lookup a with
  | some ⟨_, _, .func g, _⟩ => PySem.W.codeIn K g.code d.qual && (He.dflB K g.defaults [] && He.kwdB K g.kwdefaults (kwV d))
  | _ => false
theorem defS_ok {K : PySem.W.Frag} {a : Addr} {d : DefI} (e : fnS K a = d.fnS) (c : defB K a d = true) : ∃ fd, FunD K d.nm d.qual d.args d.body d.sc [] (kwV d) a fd := by
  unfold defB at c
  rw [Bool.and_eq_true] at c
  obtain ⟨kp, c2⟩ := c
  unfold fnS at e
  cases q : K.lookup a with
  | none => rw [q] at c2; cases c2
  | some o =>
    obtain ⟨oc, od, dt, osl⟩ := o
    rw [q] at c2 e
    cases dt with
    | func g =>
      obtain ⟨n1, n2, n3, n4, n5, n6, n7, n8, n9, n10, n11, n12, n13, n14, n15⟩ := g
      have e2 : (some ((n1, n2, n3), (n4, n5, n6), n7, n15) : FnS) = some ((d.nm, d.qual, d.args), (.stmts d.body, d.sc, mainGlobals), [], builtinsNs) := e
      simp only [Option.some.injEq, Prod.mk.injEq] at e2
      obtain ⟨⟨h1, h2, h3⟩, ⟨h4, h5, h6⟩, h7, h8⟩ := e2
      subst h1 h2 h3 h4 h5 h6 h7 h8
      have c3 : (PySem.W.codeIn K n13 d.qual && (He.dflB K n8 [] && He.kwdB K n9 (kwV d))) = true := c2
      rw [Bool.and_eq_true, Bool.and_eq_true] at c3
      obtain ⟨k1, k2, k3⟩ := c3
      exact ⟨_, ⟨oc, od, n8, n9, n10, n11, n12, n13, n14, osl, rfl, q, k1, He.dflB_ok k2, He.kwdB_ok k3⟩, kp⟩
    | _ => cases c2
def recB (K : PySem.W.Frag) (k : String) (p : Addr) : Bool := match PySem.W.recIn K p k with
  | some (.ref _ :: _) => true
  | _ => false
theorem recB_ok {K : PySem.W.Frag} {k : String} {p : Addr} (h : recB K k p = true) : ∃ rest, PySem.W.recIn K p k = some (.ref (rcA K k p) :: rest) := by
  unfold recB at h
  unfold rcA
  split at h
  · rename_i g r e
    exact ⟨r, by rw [e]⟩
  · cases h
def propB (K : PySem.W.Frag) (c f : Str) : Bool :=
  He.eqO (PySem.W.findIn K (.ref (He.ga K c)) f) (some (some (.ref (He.ma K (He.ga K c) f)))) && (He.eqO (PySem.W.specialIn K (.ref (He.ma K (He.ga K c) f)) "__get__") (some (some (.builtin "property.__get__"))) && (decide (PySem.W.takesIn K (.ref (He.ma K (He.ga K c) f)) = some true) && recB K "property" (He.ma K (He.ga K c) f)))
theorem propB_ok {K : PySem.W.Frag} {c f : Str} (h : propB K c f = true) : PropOf K (He.ga K c) f (He.ma K (He.ga K c) f) (At.adr K (.rc "property" c f)) := by
  unfold propB at h
  rw [Bool.and_eq_true, Bool.and_eq_true, Bool.and_eq_true] at h
  obtain ⟨h1, h2, h3, h4⟩ := h
  exact ⟨He.eqO_ok h1, He.eqO_ok h2, of_decide_eq_true h3, recB_ok h4⟩
def crB (K : PySem.W.Frag) (c : Str) : Bool := PySem.W.readsIn K (He.ga K c) (.type "type") && He.eqO (PySem.W.specialIn K (.ref (He.ga K c)) "__getattribute__") (some (some (.builtin "type.__getattribute__")))
theorem crB_ok {K : PySem.W.Frag} {c : Str} (h : crB K c = true) : CRead K (He.ga K c) (.type "type") := by
  unfold crB at h
  rw [Bool.and_eq_true] at h
  exact ⟨h.1, He.eqO_ok h.2⟩
def getB (K : PySem.W.Frag) (b : String) (c m : Str) : Bool := match PySem.W.findCls K (.ref (He.ga K c)) (.type "type") m with
  | some (.get (.builtin b') (.ref p) .none (.ref C)) => decide (b' = b) && (decide (p = He.ma K (He.ga K c) m) && decide (C = He.ga K c))
  | _ => false
theorem getB_ok {K : PySem.W.Frag} {b : String} {c m : Str} (h : getB K b c m = true) : PySem.W.findCls K (.ref (He.ga K c)) (.type "type") m = some (.get (.builtin b) (.ref (He.ma K (He.ga K c) m)) .none (.ref (He.ga K c))) := by
  unfold getB at h
  split at h
  · rename_i b' p C e
    rw [Bool.and_eq_true, Bool.and_eq_true] at h
    obtain ⟨h1, h2, h3⟩ := h
    rw [e, of_decide_eq_true h1, of_decide_eq_true h2, of_decide_eq_true h3]
  · cases h
def insB (K : PySem.W.Frag) (c : Str) : Bool := (He.Fa.cls c).ok K && (He.eqO (PySem.W.findIn K (.ref (He.ga K c)) "__class__") (some (some (.builtin "object.__class__"))) && (He.eqO (PySem.W.specialIn K (.builtin "object.__class__") "__get__") (some (some (.builtin "getset_descriptor.__get__"))) && (decide (PySem.W.takesIn K (.builtin "object.__class__") = some true) && decide (PySem.W.mroIn K (He.ga K c) (.type "object") = some true))))
theorem insB_ok {K : PySem.W.Frag} {c : Str} (h : insB K c = true) : InsC K (He.ga K c) := by
  unfold insB at h
  simp only [Bool.and_eq_true] at h
  obtain ⟨h1, h2, h3, h4, h5⟩ := h
  exact ⟨He.cls_ok h1, He.eqO_ok h2, He.eqO_ok h3, of_decide_eq_true h4, of_decide_eq_true h5⟩
def duB (P : Prg) (K : PySem.W.Frag) : Bool :=
  P.ic.all (fun c => insB K c && (btys.all (fun n => PySem.W.notFirst K (He.ga K c) (.type n) && decide (PySem.W.kitOne K (.ref (He.ga K c)) (.type n) = some false)) && He.eqO (PySem.W.findIn K (.ref (He.ga K c)) "__ne__") (some (some (.builtin "object.__ne__"))))) &&
    (P.nfl.all (fun q => PySem.W.notFirst K (He.ga K q.1) (.ref (He.ga K q.2))) && P.isl.all fun q => decide (PySem.W.kitOne K (q.1.val K) (.ref (He.ga K q.2.1)) = some q.2.2))
theorem duB_ok {P : Prg} {K : PySem.W.Frag} (h : duB P K = true) : DuOk K P.du := by
  unfold duB at h
  simp only [Bool.and_eq_true] at h
  obtain ⟨h1, h2, h3⟩ := h
  have hc : ∀ c, P.ic.contains c = true → insB K c = true ∧ (∀ n, btys.contains n = true → PySem.W.notFirst K (He.ga K c) (.type n) = true ∧ PySem.W.kitOne K (.ref (He.ga K c)) (.type n) = some false) ∧ PySem.W.findIn K (.ref (He.ga K c)) "__ne__" = some (some (.builtin "object.__ne__")) := fun c hc => by
    have z := List.all_eq_true.mp h1 c (by simpa using hc)
    simp only [Bool.and_eq_true] at z
    refine ⟨z.1, fun n hn => ?_, He.eqO_ok z.2.2⟩
    have y := List.all_eq_true.mp z.2.1 n (by simpa using hn)
    rw [Bool.and_eq_true] at y
    exact ⟨y.1, of_decide_eq_true y.2⟩
  refine ⟨fun c h => insB_ok (hc c h).1, fun c t h => ?_, fun c h => ⟨(hc c h).2.2, (insB_ok (hc c h).1).cm⟩, fun t u b h => ?_⟩
  · have h' : (P.ic.contains c && P.nfT c t) = true := h
    rw [Bool.and_eq_true] at h'
    cases t with
    | bt n => exact ((hc c h'.1).2.1 n h'.2).1
    | ow d =>
      have z : P.nfl.contains (c, d) = true := h'.2
      exact List.all_eq_true.mp h2 (c, d) (by simpa using z)
  · cases u with
    | ow d =>
      have h' : ((P.isl.find? fun q => decide (q.1 = t ∧ q.2.1 = d)).map fun q => q.2.2) = some b := by cases t <;> exact h
      obtain ⟨q, q1, q2⟩ := Option.map_eq_some_iff.mp h'
      have q3 : q.1 = t ∧ q.2.1 = d := by simpa using List.find?_some q1
      have z := of_decide_eq_true (List.all_eq_true.mp h3 q (List.mem_of_find?_eq_some q1))
      rw [q3.1, q3.2, q2] at z
      exact z
    | bt n =>
      cases t with
      | bt m => cases h
      | ow c =>
        have h' : (if (P.ic.contains c && btys.contains n) = true then some false else none) = some b := h
        split at h'
        · rename_i cc
          rw [Bool.and_eq_true] at cc
          cases h'
          exact ((hc c cc.1).2.1 n cc.2).2
        · cases h'
def okB (P : Prg) (K : PySem.W.Frag) : Bool :=
  P.defs.all (fun q => (He.Fa.glo q.1).ok K) && (P.fr.all (fun x => (He.Fa.free x).ok K) && (P.gl.all (fun q => (glFa q).ok K) && (P.no.all (fun q => (He.Fa.cls q.1).ok K && (He.Fa.noat q.1 q.2).ok K) && (P.mt.all (fun q => (He.Fa.cls q.1.1).ok K && (He.Fa.meth q.1.1 q.1.2).ok K) &&
    (P.pt.all (fun q => (He.Fa.cls q.1.1).ok K && propB K q.1.1 q.1.2) && (P.mki.all (fun q => (He.Fa.glo q.1).ok K && (He.Fa.mkr q.1).ok K) && (P.sm.all (fun q => (He.Fa.glo q.1.1).ok K && (crB K q.1.1 && (getB K "staticmethod.__get__" q.1.1 q.1.2 && recB K "staticmethod" (He.ma K (He.ga K q.1.1) q.1.2)))) && (P.mq.all (fun q => (He.Fa.cls q.1.1).ok K && (He.Fa.meth q.1.1 q.1.2).ok K) && (P.mkq.all (fun q => (He.Fa.glo q.1).ok K && (He.Fa.mkr q.1).ok K) && (P.clg.all (fun x => (He.Fa.glo x).ok K) && duB P K))))))))))
/-- what is seen of the head -/
abbrev AlP : Type := Bool × List FnS
def obsP (P : Prg) (K : PySem.W.Frag) : AlP := (okB P K && (allD P).all fun q => defB K (q.1.adr K) q.2, (allD P).map fun q => fnS K (q.1.adr K))
def valP (P : Prg) : AlP := (true, (allD P).map fun q => q.2.fnS)
def SaysP (P : Prg) (K : PySem.W.Frag) : Prop := obsP P K = valP P
/-- what the module's names reach in n steps, and the statics; what was seen is kept as bits of a number -/
def addN (k : Nat → List Addr → List Addr) : List Addr → Nat → List Addr → List Addr
  | [], seen, new => k seen new
  | a :: r, seen, new => HandSHeadRun.frNat a fun a => match Nat.land (Nat.shiftRight seen a) 1 with
    | 0 => HandSHeadRun.frNat (Nat.lor seen (Nat.shiftLeft 1 a)) fun s => addN k r s (a :: new)
    | _ + 1 => addN k r seen new
def bfsA (g : Addr → Option Obj) : Nat → Nat → List Addr → List Addr → List Addr
  | 0, _, _, acc => acc
  | n + 1, seen, fr, acc => addN (fun s new => bfsA g n s new (acc ++ new)) (fr.flatMap fun a => match g a with
    | some o => He.refsD o
    | none => []) seen []
def asB (g : Addr → Option Obj) (n : Nat) : List Addr := bfsA g n (Nat.lor (Nat.shiftLeft 1 mainGlobals) (Nat.shiftLeft 1 cStatics)) [mainGlobals] [mainGlobals, cStatics]
def obsPG (n : Nat) (P : Prg) (g : Addr → Option Obj) : AlP := obsP P (He.frG g (asB g n))
def hookP (n : Nat) (P : Prg) : PySem.W.Hook where
  α := AlP
  obs := fun s => obsPG n P s.heap.get?
  val := fun _ => valP P
  says := fun _ hp => ∃ F : PySem.W.Frag, F.In hp ∧ SaysP P F
  of := fun _ _ z => ⟨_, He.frG_in, z⟩
  keeps := fun _ _ _ ⟨F, inF, c⟩ kp => ⟨F, PySem.W.Frag.In.keeps inF kp, c⟩
theorem obsPG_eq {n : Nat} {P : Prg} {g : Addr → Option Obj} {s : Shared} (h : ∀ a, g a = s.heap.get? a) : obsPG n P g = (hookP n P).obs s := by
  have z : g = s.heap.get? := funext h
  rw [z] <;> rfl
def BindsP (d : DefI) : Prop := ∀ (kV doc pm : Value) (an : Option Addr) (cdv ct : Value) (us : List Value), us.length = d.ps.length → bindArgs (PySem.W.fnOf d.nm d.qual d.args d.body d.sc .none kV doc pm an cdv ct) ⟨us, []⟩ = pure (d.ps.zip us)
def DefOk (d : DefI) : Prop := ((d.shp = [] → BindsP d) ∧ (d.st = none → ∀ q ∈ d.shp, KBp d.nm d.qual d.N d.args d.body d.sc d.ps d.kwd q ∧ q.srcs.all (srcOk q.ms) = true) ∧ ∀ i, d.st = some i → ∀ q ∈ d.shp, StP d.nm d.qual d.args d.body d.sc d.ps i q ∧ q.ms = [] ∧ q.srcs.all (srcOk q.ms) = true ∧ q.srcs.length = d.ps.length) ∧ FnScope d.N d.ps d.sc
theorem defOk0 {d : DefI} (h0 : d.shp = []) (hst : d.st = none) (hb : BindsP d) (s : FnScope d.N d.ps d.sc) : DefOk d := ⟨⟨fun _ => hb, fun _ q hq => by rw [h0] at hq; exact absurd hq List.not_mem_nil, fun i hi => by rw [hst] at hi; cases hi⟩, s⟩
theorem defOkK {d : DefI} (h0 : d.shp ≠ []) (hst : d.st = none) (hk : ∀ q ∈ d.shp, KBp d.nm d.qual d.N d.args d.body d.sc d.ps d.kwd q ∧ q.srcs.all (srcOk q.ms) = true) (s : FnScope d.N d.ps d.sc) : DefOk d := ⟨⟨fun z => absurd z h0, fun _ => hk, fun i hi => by rw [hst] at hi; cases hi⟩, s⟩
theorem defOkS {d : DefI} {i : Nat} (h0 : d.shp ≠ []) (hst : d.st = some i) (hk : ∀ q ∈ d.shp, StP d.nm d.qual d.args d.body d.sc d.ps i q ∧ q.ms = [] ∧ q.srcs.all (srcOk q.ms) = true ∧ q.srcs.length = d.ps.length) (s : FnScope d.N d.ps d.sc) : DefOk d := ⟨⟨fun z => absurd z h0, fun z => (by rw [hst] at z; cases z), fun j hj => by rw [hst] at hj; cases hj; exact hk⟩, s⟩
def DefsOk : List (At × DefI) → Prop
  | [] => True
  | q :: r => DefOk q.2 ∧ DefsOk r
def AllOk : List DefI → Prop
  | [] => True
  | d :: r => DefOk d ∧ AllOk r
theorem AllOk.to : ∀ {l : List (At × DefI)}, AllOk (l.map Prod.snd) → DefsOk l
  | [], _ => trivial
  | _ :: _, h => ⟨h.1, AllOk.to h.2⟩
theorem AllOk.by_ {l : List (At × DefI)} {m : List DefI} (e : l.map Prod.snd = m) (h : AllOk m) : DefsOk l := AllOk.to (by rw [e]; exact h)
theorem DefsOk.at : ∀ {l : List (At × DefI)} {q : At × DefI}, DefsOk l → q ∈ l → DefOk q.2
  | [], _, _, h => by cases h
  | p :: r, q, ok, h => by
    rcases List.mem_cons.mp h with e | e
    · rw [e]; exact ok.1
    · exact DefsOk.at ok.2 e
theorem look_mem {κ α : Type} [BEq κ] [LawfulBEq κ] : ∀ {l : List (κ × α)} {x : κ} {d : α}, l.lookup x = some d → (x, d) ∈ l
  | [], _, _, h => by cases h
  | (y, d') :: r, x, d, h => by
    rw [List.lookup_cons] at h
    split at h
    · rename_i e
      have e' : x = y := beq_iff_eq.mp e
      subst e'
      cases h
      exact List.mem_cons_self
    · exact List.mem_cons_of_mem _ (look_mem h)
def shB (P : Prg) : Bool := P.defs.all (fun q => q.2.st.isNone) && (P.mkq.all (fun q => decide (q.2.st ≠ some 0)) && (P.mt.all (fun q => q.2.shp.isEmpty) && (P.pt.all (fun q => q.2.shp.isEmpty) && (P.mki.all (fun q => q.2.shp.isEmpty) && P.sm.all fun q => q.2.shp.isEmpty))))
section
variable {P : Prg} {K : PySem.W.Frag} {h : Heap} {mg : Str → Option Value}
theorem say_def (hok : DefsOk (allD P)) (c : SaysP P K) {a : At} {d : DefI} (m : (a, d) ∈ allD P) : ∃ fd, DefU K d (a.adr K) fd ∧ FunD K d.nm d.qual d.args d.body d.sc [] (kwV d) (a.adr K) fd := by
  have c1 := (Bool.and_eq_true_iff.mp (show (okB P K && (allD P).all fun q => defB K (q.1.adr K) q.2) = true from congrArg (fun z : AlP => z.1) c)).2
  have c2 : (allD P).map (fun q => fnS K (q.1.adr K)) = (allD P).map fun q => q.2.fnS := congrArg (fun z : AlP => z.2) c
  obtain ⟨i, hi⟩ := List.getElem?_of_mem m
  have e2 : ((allD P).map fun q => fnS K (q.1.adr K))[i]? = ((allD P).map fun q => q.2.fnS)[i]? := by rw [c2]
  rw [List.getElem?_map, List.getElem?_map, hi] at e2
  obtain ⟨fd, F⟩ := defS_ok (Option.some.inj e2) (List.all_eq_true.mp c1 _ m)
  obtain ⟨⟨hb, hk, hst⟩, hs⟩ := hok.at m
  refine ⟨fd, ⟨F.kp, fun z => F.bindsN (hb z), fun z q hq => kbs_of F (hk z q hq).2 (hk z q hq).1, hst, hs, ?_⟩, F⟩
  obtain ⟨oc, od, dV, kV, doc, pm, an, cdv, ct, osl, e1, e2, e3, hD, _⟩ := F.ex
  rcases hD with ⟨_, rfl⟩ | ⟨z, _⟩
  · exact ⟨kV, doc, pm, cdv, ct, oc, an, od, osl, e1, e2, e3⟩
  · exact absurd rfl z
theorem prg_ok (X : K.In h) (G : h.Ns mainGlobals mg) (hg : P.gl.all (fun q => glD q.2) = true) (hsh : shB P = true) (hok : DefsOk (allD P)) (cc : SaysP P K) : PrgOk P K mg := by
  have c1 := (Bool.and_eq_true_iff.mp (show (okB P K && (allD P).all fun q => defB K (q.1.adr K) q.2) = true from congrArg (fun z : AlP => z.1) cc)).1
  unfold okB at c1
  simp only [Bool.and_eq_true] at c1
  obtain ⟨f1, f2, f3, f4, f5, f6, f7, f8, f9, f10, f11, f12⟩ := c1
  unfold shB at hsh
  simp only [Bool.and_eq_true] at hsh
  obtain ⟨s5, s6, s1, s2, s3, s4⟩ := hsh
  refine ⟨fun x d hl => ?_, fun x hx => ?_, fun x d hl => ?_, fun c f hl => ?_, fun c m d hl => ?_, fun c m d hl => ?_, fun c d hl => ?_, fun c m d hl => ?_, fun c m d hl => ?_, fun c d hl => ?_, duB_ok f12, fun x hx => ?_⟩
  · have m := look_mem hl
    have mf := List.all_eq_true.mp f3 _ m
    have hd := List.all_eq_true.mp hg _ m
    cases d with
    | int i =>
      obtain ⟨t, e⟩ := He.int_ok X G (x := x) (i := i) mf
      exact ⟨_, .int i, e, ⟨t, rfl⟩, fun _ => .int i⟩
    | str z =>
      obtain ⟨t, e⟩ := He.str_ok X G (x := x) (z := z) mf
      exact ⟨_, .str z, e, ⟨t, rfl⟩, fun _ => .str z⟩
    | _ => cases hd
  · have m : x ∈ P.fr := by simpa using hx
    exact He.free_ok X G (x := x) (List.all_eq_true.mp f2 _ m)
  · have m := look_mem hl
    obtain ⟨fd, W, _⟩ := say_def hok cc (a := .fn x) (d := d) (List.mem_append_left _ (List.mem_map.mpr ⟨_, m, rfl⟩))
    exact ⟨He.glo_ok X G (x := x) (List.all_eq_true.mp f1 _ m), Option.isNone_iff_eq_none.mp (List.all_eq_true.mp s5 _ m), fd, W⟩
  · have m : (c, f) ∈ P.no := by simpa using hl
    have z := List.all_eq_true.mp f4 _ m
    rw [Bool.and_eq_true] at z
    exact ⟨He.cls_ok z.1, He.noat_ok z.2⟩
  · have mm := look_mem hl
    have z := List.all_eq_true.mp f5 _ mm
    rw [Bool.and_eq_true] at z
    obtain ⟨fd, W, _⟩ := say_def hok cc (a := .mt _ m) (d := d) (List.mem_append_right _ (List.mem_append_left _ (List.mem_map.mpr ⟨_, mm, rfl⟩)))
    exact ⟨He.cls_ok z.1, He.meth_ok z.2, List.isEmpty_iff.mp (List.all_eq_true.mp s1 _ mm), fd, W⟩
  · have mm := look_mem hl
    have z := List.all_eq_true.mp f6 _ mm
    rw [Bool.and_eq_true] at z
    obtain ⟨fd, W, _⟩ := say_def hok cc (a := .rc "property" _ m) (d := d) (List.mem_append_right _ (List.mem_append_right _ (List.mem_append_left _ (List.mem_map.mpr ⟨_, mm, rfl⟩))))
    exact ⟨He.cls_ok z.1, propB_ok z.2, List.isEmpty_iff.mp (List.all_eq_true.mp s2 _ mm), fd, W⟩
  · have mm := look_mem hl
    have z := List.all_eq_true.mp f7 _ mm
    rw [Bool.and_eq_true] at z
    obtain ⟨fd, W, _⟩ := say_def hok cc (a := .mt _ "__init__") (d := d) (List.mem_append_right _ (List.mem_append_right _ (List.mem_append_right _ (List.mem_append_left _ (List.mem_map.mpr ⟨_, mm, rfl⟩)))))
    exact ⟨He.glo_ok X G z.1, He.mkr_ok z.2, List.isEmpty_iff.mp (List.all_eq_true.mp s3 _ mm), fd, W⟩
  · have mm := look_mem hl
    have z := List.all_eq_true.mp f8 _ mm
    rw [Bool.and_eq_true, Bool.and_eq_true, Bool.and_eq_true] at z
    obtain ⟨fd, W, _⟩ := say_def hok cc (a := .rc "staticmethod" _ m) (d := d) (List.mem_append_right _ (List.mem_append_right _ (List.mem_append_right _ (List.mem_append_right _ (List.mem_append_left _ (List.mem_map.mpr ⟨_, mm, rfl⟩))))))
    exact ⟨He.glo_ok X G z.1, crB_ok z.2.1, ⟨getB_ok z.2.2.1, recB_ok z.2.2.2, W.keep⟩, List.isEmpty_iff.mp (List.all_eq_true.mp s4 _ mm), fd, W⟩
  · have mm := look_mem hl
    have z := List.all_eq_true.mp f9 _ mm
    rw [Bool.and_eq_true] at z
    obtain ⟨fd, W, _⟩ := say_def hok cc (a := .mt _ m) (d := d) (List.mem_append_right _ (List.mem_append_right _ (List.mem_append_right _ (List.mem_append_right _ (List.mem_append_right _ (List.mem_append_left _ (List.mem_map.mpr ⟨_, mm, rfl⟩)))))))
    exact ⟨He.cls_ok z.1, He.meth_ok z.2, fd, W⟩
  · have mm := look_mem hl
    have z := List.all_eq_true.mp f10 _ mm
    rw [Bool.and_eq_true] at z
    obtain ⟨fd, W, _⟩ := say_def hok cc (a := .mt _ "__init__") (d := { d with shp := d.shp.map Shp.self }) (List.mem_append_right _ (List.mem_append_right _ (List.mem_append_right _ (List.mem_append_right _ (List.mem_append_right _ (List.mem_append_right _ (List.mem_map.mpr ⟨_, mm, rfl⟩)))))))
    refine ⟨He.glo_ok X G z.1, He.mkr_ok z.2, fun i hi => ?_, fd, fun q hq => ?_⟩
    · have := of_decide_eq_true (List.all_eq_true.mp s6 _ mm)
      rw [hi] at this
      exact Nat.pos_of_ne_zero fun e => this (by rw [e])
    · have sub : ∀ q' ∈ [q.self], q' ∈ d.shp.map Shp.self := fun q' h => by
        cases List.mem_singleton.mp h
        exact List.mem_map.mpr ⟨q, hq, rfl⟩
      exact ⟨W.keep, fun h => absurd h (List.cons_ne_nil _ _), fun h q' hq' => W.kbs h q' (sub q' hq'), fun i h q' hq' => W.stp i h q' (sub q' hq'), W.sco, W.run⟩
  · exact He.glo_ok X G (List.all_eq_true.mp f11 _ (by simpa using hx))
theorem law_facts {prog : Program} {w : World} {f : Addr} {x p : Str} {d : DefI} (X : K.In h) (G : h.Ns mainGlobals mg) (hg : P.gl.all (fun q => glD q.2) = true) (hs : shB P = true) (hok : DefsOk (allD P)) (hl : P.defs.lookup x = some d) (hp : d.ps = [p]) (hsh : d.shp = []) (hmg : mg x = some (.ref f))
    (c : SaysP P K) (n : Nat) : ∃ fd : FuncData, (∀ (s : Shared) (u : Value), BindsTo s fd ⟨[u], []⟩ [(p, u)]) ∧ ∀ base : Heap, K.In base → base.Ns mainGlobals mg → FnG prog w K mg base (3 * n + 3) f fd [p] (evD P n d) := by
  have ok := prg_ok X G hg hs hok c
  have mm : (At.fn x, d) ∈ allD P := List.mem_append_left _ (List.mem_map.mpr ⟨_, look_mem hl, rfl⟩)
  obtain ⟨fd, W, F⟩ := say_def hok c mm
  obtain ⟨gx, _⟩ := ok.defs x d hl
  have e := hmg.symm.trans gx
  cases e
  obtain ⟨⟨hb, _⟩, _⟩ := hok.at mm
  refine ⟨fd, fun s u => ?_, fun base _ _ => ?_⟩
  · have b := F.bindsA (ps := d.ps) (hb hsh) s [u] (by rw [hp]; rfl)
    rw [hp] at b
    exact b
  · have q := fns_ok (prog := prog) (w := w) (base := base) ok n d _ fd W
    rw [hp] at q
    exact q
end
end Qv
namespace Qv
open PySem L2

/-! ### running it -/
section
variable {α β : Type} {e e' : En}
def obn {γ δ : Type} : Out (γ × En) → (γ → En → Out (δ × En)) → Out (δ × En)
  | .ok (a, e), k => k a e
  | .ex x e, _ => .ex x e
  | .err, _ => .err
@[simp] theorem obn_ok {γ δ : Type} (a : γ) (e : En) (k : γ → En → Out (δ × En)) : obn (.ok (a, e)) k = k a e := Eq.trans rfl rfl
@[simp] theorem obn_ex {γ δ : Type} (x : Xn) (e : En) (k : γ → En → Out (δ × En)) : obn (.ex x e) k = .ex x e := Eq.trans rfl rfl
@[simp] theorem obn_err {γ δ : Type} (k : γ → En → Out (δ × En)) : obn .err k = .err := Eq.trans rfl rfl
@[simp] theorem bnd_app (m : M α) (f : α → M β) (e : En) : bnd m f e = obn (m e) f := by
  unfold bnd obn
  cases m e with
  | err => rfl
  | ex x e => rfl
  | ok p => rfl
@[simp] theorem ret_app (a : α) (e : En) : ret a e = .ok (a, e) := Eq.trans rfl rfl
@[simp] theorem fail_app (e : En) : (fail : M α) e = .err := Eq.trans rfl rfl
@[simp] theorem opt_some (a : α) (e : En) : opt (some a) e = .ok (a, e) := Eq.trans rfl rfl
@[simp] theorem der_sh (d : D) (e : En) : der (.sh d) e = .ok (d, e) := Eq.trans rfl rfl
@[simp] theorem der_fr (d : D) (e : En) : der (.fr d) e = .ok (d, e) := Eq.trans rfl rfl
@[simp] theorem shr_sh (d : D) (e : En) : shr (.sh d) e = .ok (d, e) := Eq.trans rfl rfl
@[simp] theorem shr_fr (d : D) (e : En) : shr (.fr d) e = .ok (d, e) := Eq.trans rfl rfl
@[simp] theorem opd_sh (d : D) : opd (.sh d) = .sh d := Eq.trans rfl rfl
@[simp] theorem opd_fr (d : D) : opd (.fr d) = .sh d := Eq.trans rfl rfl
@[simp] theorem opd_ow (i : Nat) : opd (.ow i) = .ow i := Eq.trans rfl rfl
@[simp] theorem pend_sh (d : D) : pend (.sh d) = ret (.sh d) := Eq.trans rfl rfl
@[simp] theorem pend_fr (d : D) : pend (.fr d) = ret (.sh d) := Eq.trans rfl rfl
@[simp] theorem pend_ow (i : Nat) : pend (.ow i) = ret (.ow i) := Eq.trans rfl rfl
@[simp] theorem conC_app (d : D) (e : En) : conC d e = .ok (.sh d, e) := Eq.trans rfl rfl
@[simp] theorem argsN_nil (e : En) : argsN [] e = .ok ([], e) := Eq.trans rfl rfl
@[simp] theorem argsN_cons (f : M Val) (r : List (M Val)) (e : En) : argsN (f :: r) e = bnd f (fun v => bnd (pend v) fun w => bnd (argsN r) fun vs => ret (w :: vs)) e := Eq.trans rfl rfl
@[simp] theorem argsC_nil (e : En) : argsC [] e = .ok ([], e) := Eq.trans rfl rfl
@[simp] theorem argsC_one (f : M Val) (e : En) : argsC [f] e = bnd f (fun v => ret [opd v]) e := Eq.trans rfl rfl
@[simp] theorem argsC_two (f g : M Val) (r : List (M Val)) (e : En) : argsC (f :: g :: r) e = argsN (f :: g :: r) e := Eq.trans rfl rfl
@[simp] theorem derAll_nil (e : En) : derAll [] e = .ok ([], e) := Eq.trans rfl rfl
@[simp] theorem derAll_cons (v : Val) (r : List Val) (e : En) : derAll (v :: r) e = bnd (der v) (fun d => bnd (derAll r) fun ds => ret (d :: ds)) e := Eq.trans rfl rfl
@[simp] theorem shrAll_nil (e : En) : shrAll [] e = .ok ([], e) := Eq.trans rfl rfl
@[simp] theorem shrAll_cons (v : Val) (r : List Val) (e : En) : shrAll (v :: r) e = bnd (shr v) (fun d => bnd (shrAll r) fun ds => ret (d :: ds)) e := Eq.trans rfl rfl
@[simp] theorem seqS_nil (e : En) : seqS [] e = .ok (.nx, e) := Eq.trans rfl rfl
def seqK (r : List (M Fl)) : Fl → M Fl
  | .nx => seqS r
  | .bk => ret .bk
  | .ct => ret .ct
  | .rt v => ret (.rt v)
@[simp] theorem seqK_nx (r : List (M Fl)) (e : En) : seqK r .nx e = seqS r e := Eq.trans rfl rfl
@[simp] theorem seqK_bk (r : List (M Fl)) (e : En) : seqK r .bk e = .ok (.bk, e) := Eq.trans rfl rfl
@[simp] theorem seqK_ct (r : List (M Fl)) (e : En) : seqK r .ct e = .ok (.ct, e) := Eq.trans rfl rfl
@[simp] theorem seqK_rt (r : List (M Fl)) (v : Val) (e : En) : seqK r (.rt v) e = .ok (.rt v, e) := Eq.trans rfl rfl
@[simp] theorem seqS_cons (f : M Fl) (r : List (M Fl)) (e : En) : seqS (f :: r) e = obn (f e) (seqK r) := by
  show bnd f _ e = _
  unfold bnd obn
  cases f e with
  | err => rfl
  | ex x e => rfl
  | ok p => obtain ⟨fl, e'⟩ := p; cases fl <;> rfl
@[simp] theorem name_app (i : Nat) (e : En) : nameC i e = (match e[i]? with
  | some (.sh d) => .ok (.sh d, e)
  | some (.ow _ _) => .ok (.ow i, e)
  | some (.nt _ _) => .ok (.np i [], e)
  | _ => .err) := Eq.trans rfl rfl
@[simp] theorem der_ow (i : Nat) (e : En) : der (.ow i) e = (match e[i]? with
  | some (.ow _ d) => .ok (d, e)
  | _ => .err) := Eq.trans rfl rfl
@[simp] theorem shr_ow (i : Nat) (e : En) : shr (.ow i) e = (match e[i]? with
    | some (.ow false d) => .ok (d, e.set i (.sh d))
    | _ => .err) := Eq.trans rfl rfl
/-- free -/
def op : Option D → Slot
  | none => .em
  | some d => .sh d
@[simp] theorem op_some (d : D) : op (some d) = .sh d := Eq.trans rfl rfl
@[simp] theorem op_none : op none = .em := Eq.trans rfl rfl
@[simp] theorem io_em : Slot.io .em = false := Eq.trans rfl rfl
@[simp] theorem io_sh (d : D) : Slot.io (.sh d) = false := Eq.trans rfl rfl
@[simp] theorem io_ow (b : Bool) (d : D) : Slot.io (.ow b d) = b := by cases b <;> rfl
@[simp] theorem io_op (o : Option D) : Slot.io (op o) = false := by cases o <;> rfl
@[simp] theorem bare_em : Slot.bare .em = true := Eq.trans rfl rfl
@[simp] theorem bare_sh (d : D) : Slot.bare (.sh d) = true := Eq.trans rfl rfl
@[simp] theorem bare_op (o : Option D) : Slot.bare (op o) = true := by cases o <;> rfl
@[simp] theorem setN_app (i : Nat) (s : Slot) (e : En) : setN i s e = (match e[i]? with
  | some t => if t.io = true then .err else .ok ((), e.set i s)
  | none => .err) := Eq.trans rfl rfl
@[simp] theorem wipE_nil (e : En) : wipE [] e = .ok ((), e) := Eq.trans rfl rfl
def wipK (i : Nat) (_ : Unit) (e1 : En) : Out (Unit × En) := match e1[i]? with
  | some t => if t.bare = true then .ok ((), e1.set i .em) else .err
  | none => .err
@[simp] theorem wipK_app (i : Nat) (u : Unit) (e1 : En) : wipK i u e1 = (match e1[i]? with
  | some t => if t.bare = true then .ok ((), e1.set i .em) else .err
  | none => .err) := Eq.trans rfl rfl
@[simp] theorem wipE_cons (i : Nat) (r : List Nat) (e : En) : wipE (i :: r) e = obn (wipE r e) (wipK i) := by
  show bnd (wipE r) _ e = _
  rw [bnd_app]
  rfl
theorem lim_big : 1000 < lenLim := by decide
@[simp] theorem le_lim {n : Nat} (h : n ≤ 1000) : n ≤ lenLim := Nat.le_trans h (Nat.le_of_lt lim_big)
@[simp] theorem lt_lim {n : Nat} (h : n < 1000) : n < lenLim := Nat.lt_trans h lim_big
@[simp] theorem putE_nil (e0 e : En) : putE [] e0 e = e := Eq.trans rfl rfl
@[simp] theorem putE_cons (i : Nat) (r : List Nat) (e0 e : En) : putE (i :: r) e0 e = (match e0[i]? with
    | some s => (putE r e0 e).set i s
    | none => putE r e0 e) := Eq.trans rfl rfl
@[simp] theorem asgN_sh (i : Nat) (d : D) : asgN i (.sh d) = setN i (.sh d) := Eq.trans rfl rfl
@[simp] theorem asgN_fr (i : Nat) (d : D) : asgN i (.fr d) = setN i (.ow false d) := Eq.trans rfl rfl
@[simp] theorem asgN_ow (i j : Nat) (e : En) : asgN i (.ow j) e = bnd (shr (.ow j)) (fun d => setN i (.sh d)) e := Eq.trans rfl rfl
@[simp] theorem add_int (i j : Int) : addD (.int i) (.int j) = some (.sh (.int (i + j))) := Eq.trans rfl rfl
@[simp] theorem sub_int (i j : Int) : subD (.int i) (.int j) = some (.sh (.int (i - j))) := Eq.trans rfl rfl
@[simp] theorem lt_int (i j : Int) : ltD (.int i) (.int j) = some (.sh (.bl (decide (i < j)))) := Eq.trans rfl rfl
@[simp] theorem le_int (i j : Int) : leD (.int i) (.int j) = some (.sh (.bl (decide (i ≤ j)))) := Eq.trans rfl rfl
@[simp] theorem gt_int (i j : Int) : gtD (.int i) (.int j) = some (.sh (.bl (decide (j < i)))) := Eq.trans rfl rfl
@[simp] theorem ge_int (i j : Int) : geD (.int i) (.int j) = some (.sh (.bl (decide (j ≤ i)))) := Eq.trans rfl rfl
@[simp] theorem lt_str (a b : Str) : ltD (.str a) (.str b) = some (.sh (.bl (decide (a.cps.toList < b.cps.toList)))) := Eq.trans rfl rfl
@[simp] theorem eq_str (a b : Str) : eqD (.str a) (.str b) = some (.sh (.bl (decide (a = b)))) := Eq.trans rfl rfl
@[simp] theorem ne_str (a b : Str) : neD (.str a) (.str b) = some (.sh (.bl (!decide (a = b)))) := Eq.trans rfl rfl
@[simp] theorem eq_int (i j : Int) : eqD (.int i) (.int j) = some (.sh (.bl (decide (i = j)))) := by
  have : (i == j) = decide (i = j) := by by_cases h : i = j <;> simp [h]
  show some (Val.sh (D.bl (i == j))) = _
  rw [this]
@[simp] theorem ne_int (i j : Int) : neD (.int i) (.int j) = some (.sh (.bl (decide (i ≠ j)))) := by
  have : (!(i == j)) = decide (i ≠ j) := by by_cases h : i = j <;> simp [h]
  show some (Val.sh (D.bl (!(i == j)))) = _
  rw [this]
@[simp] theorem asBl_bl (b : Bool) : asBl (.sh (.bl b)) = ret b := Eq.trans rfl rfl
@[simp] theorem tru_bl (b : Bool) : truD (.bl b) = some b := Eq.trans rfl rfl
@[simp] theorem tru_int (i : Int) : truD (.int i) = some (i != 0) := Eq.trans rfl rfl
@[simp] theorem tru_lst (l : List D) : truD (.lst l) = some (!l.isEmpty) := Eq.trans rfl rfl
@[simp] theorem tru_tup (l : List D) : truD (.tup l) = some (!l.isEmpty) := Eq.trans rfl rfl
@[simp] theorem len_lst (l : List D) : lenB [.lst l] = some (.sh (.int l.length)) := Eq.trans rfl rfl
@[simp] theorem len_tup (l : List D) : lenB [.tup l] = some (.sh (.int l.length)) := Eq.trans rfl rfl
@[simp] theorem len_scr (l : List Int) : lenB [.scr l] = some (.sh (.int l.length)) := Eq.trans rfl rfl
@[simp] theorem abs_int (i : Int) : absB [.int i] = some (.sh (.int (if i < 0 then -i else i))) := Eq.trans rfl rfl
@[simp] theorem max_int (i j : Int) : maxB [.int i, .int j] = some (.sh (.int (if j > i then j else i))) := Eq.trans rfl rfl
@[simp] theorem min_int (i j : Int) : minB [.int i, .int j] = some (.sh (.int (if j < i then j else i))) := Eq.trans rfl rfl
@[simp] theorem int_int (i : Int) : intB [.int i] = some (.sh (.int i)) := Eq.trans rfl rfl
@[simp] theorem int_bl (b : Bool) : intB [.bl b] = some (.sh (.int (if b then 1 else 0))) := Eq.trans rfl rfl
@[simp] theorem list_lst (l : List D) : listB [.lst l] = some (.fr (.lst l)) := Eq.trans rfl rfl
@[simp] theorem list_tup (l : List D) : listB [.tup l] = some (.fr (.lst l)) := Eq.trans rfl rfl
@[simp] theorem tuple_lst (l : List D) : tupleB [.lst l] = some (.sh (.tup l)) := Eq.trans rfl rfl
@[simp] theorem tuple_tup (l : List D) : tupleB [.tup l] = some (.sh (.tup l)) := Eq.trans rfl rfl
@[simp] theorem items_lst (l : List D) : itemsD (.lst l) = some l := Eq.trans rfl rfl
@[simp] theorem items_tup (l : List D) : itemsD (.tup l) = some l := Eq.trans rfl rfl
@[simp] theorem items_str (z : Str) : itemsD (.str z) = some (z.cps.toList.map fun c => .str ⟨#[c]⟩) := Eq.trans rfl rfl
@[simp] theorem seq_lst (l : List D) : seqD (.lst l) = some l := Eq.trans rfl rfl
@[simp] theorem seq_tup (l : List D) : seqD (.tup l) = some l := Eq.trans rfl rfl
@[simp] theorem rev_lst (l : List D) : revD (.lst l) = some (.fr (.lst l.reverse)) := Eq.trans rfl rfl
@[simp] theorem rev_tup (l : List D) : revD (.tup l) = some (.sh (.tup l.reverse)) := Eq.trans rfl rfl
@[simp] theorem in_sign (c : Nat) (z : Str) : inD false (.str ⟨#[c]⟩) (.str z) = some (.sh (.bl (decide (c ∈ z.cps.toList)))) := rfl
@[simp] theorem nin_sign (c : Nat) (z : Str) : inD true (.str ⟨#[c]⟩) (.str z) = some (.sh (.bl (!decide (c ∈ z.cps.toList)))) := rfl
@[simp] theorem binC_app (g : D → D → Option Val) (fa fb : M Val) (e : En) : binC g fa fb e = bnd fa (fun va => bnd (pend va) fun va => bnd fb fun vb => bnd (der va) fun da => bnd (der vb) fun db => opt (g da db)) e := Eq.trans rfl rfl
@[simp] theorem chnC_app (g g' : D → D → Option Val) (fa fb fc : M Val) (e : En) : chnC g g' fa fb fc e = bnd fa (fun va => bnd (pend va) fun va => bnd fb fun vb => bnd (pend vb) fun vb => bnd (der va) fun da => bnd (der vb) fun db => bnd (opt (g da db)) fun z => bnd (asBl z) fun k =>
    if k = true then bnd fc fun vc => bnd (der vb) fun db' => bnd (der vc) fun dc => opt (g' db' dc) else ret (.sh (.bl false))) e := Eq.trans rfl rfl
@[simp] theorem cmpT_app (f : M Val) (e : En) : cmpT f e = bnd f asBl e := Eq.trans rfl rfl
@[simp] theorem truC_app (f : M Val) (e : En) : truC f e = bnd f (fun v => bnd (der v) fun d => opt (truD d)) e := Eq.trans rfl rfl
@[simp] theorem notT_app (f : M Bool) (e : En) : notT f e = bnd f (fun b => ret (!b)) e := Eq.trans rfl rfl
@[simp] theorem notC_app (f : M Bool) (e : En) : notC f e = bnd f (fun b => ret (.sh (.bl (!b)))) e := Eq.trans rfl rfl
@[simp] theorem bopT_one (w : Bool) (a : M Bool) (e : En) : bopT w [a] e = a e := Eq.trans rfl rfl
@[simp] theorem bopT_two (w : Bool) (a b : M Bool) (r : List (M Bool)) (e : En) : bopT w (a :: b :: r) e = bnd a (fun c => if c = w then ret w else bopT w (b :: r)) e := Eq.trans rfl rfl
@[simp] theorem bopC_one (w : Bool) (a : M Val) (e : En) : bopC w [a] e = a e := Eq.trans rfl rfl
@[simp] theorem bopC_two (w : Bool) (a b : M Val) (r : List (M Val)) (e : En) : bopC w (a :: b :: r) e = bnd a (fun v => bnd (der v) fun d => bnd (opt (truD d)) fun c => if c = w then ret v else bopC w (b :: r)) e := Eq.trans rfl rfl
@[simp] theorem ifC_app (t : M Bool) (a b : M Val) (e : En) : ifC t a b e = bnd t (fun c => if c = true then a else b) e := Eq.trans rfl rfl
@[simp] theorem ifS_app (t : M Bool) (a b : M Fl) (e : En) : ifS t a b e = bnd t (fun c => if c = true then a else b) e := Eq.trans rfl rfl
@[simp] theorem rtS_app (f : M Val) (e : En) : rtS f e = bnd f (fun v => ret (.rt v)) e := Eq.trans rfl rfl
@[simp] theorem drS_app (f : M Val) (e : En) : drS f e = bnd f (fun _ => ret .nx) e := Eq.trans rfl rfl
@[simp] theorem asS_app (f : M Val) (g : Val → M Unit) (e : En) : asS f g e = bnd f (fun v => bnd (g v) fun _ => ret .nx) e := Eq.trans rfl rfl
@[simp] theorem nxS_app (e : En) : nxS e = .ok (.nx, e) := Eq.trans rfl rfl
@[simp] theorem callC_app (g : List D → Option Val) (fs : List (M Val)) (e : En) : callC g fs e = bnd (argsC fs) (fun vs => bnd (derAll vs) fun ds => opt (g ds)) e := Eq.trans rfl rfl
@[simp] theorem callV_app (bs : List Bool) (ev : Ev) (fs : List (M Val)) (e : En) : callV bs ev fs e = bnd (argsN fs) (fun vals => bnd (frzL bs vals) fun vals1 => goV ev vals1) e := Eq.trans rfl rfl
@[simp] theorem callK_app (bs : List Bool) (ev : Ev) (srcs : List Src) (n m : Nat) (fs gs : List (M Val)) (e : En) : callK bs ev srcs n m fs gs e = bnd (argsN fs) (fun vs => bnd (argsN gs) fun zs => bnd (opt (if vs.length = n ∧ zs.length = m then srcL srcs vs zs else none)) fun vals => bnd (frzL bs vals) fun vals1 => goV ev vals1) e := Eq.trans rfl rfl
@[simp] theorem srcL_nil (vs zs : List Val) : srcL [] vs zs = some [] := Eq.trans rfl rfl
@[simp] theorem srcL_ps (i : Nat) (r : List Src) (vs zs : List Val) : srcL (.ps i :: r) vs zs = (match vs[i]?, srcL r vs zs with
    | some v, some l => some (v :: l)
    | _, _ => none) := Eq.trans rfl rfl
@[simp] theorem srcL_kw (i : Nat) (r : List Src) (vs zs : List Val) : srcL (.kw i :: r) vs zs = (match zs[i]?, srcL r vs zs with
    | some v, some l => some (v :: l)
    | _, _ => none) := Eq.trans rfl rfl
@[simp] theorem srcL_df (i : Nat) (d : D) (r : List Src) (vs zs : List Val) : srcL (.df i d :: r) vs zs = (match dOk d, srcL r vs zs with
    | true, some l => some (.sh d :: l)
    | _, _ => none) := Eq.trans rfl rfl
@[simp] theorem frzL_nil (bs : List Bool) (e : En) : frzL bs [] e = .ok ([], e) := by cases bs with
  | nil => rfl
  | cons b _ => cases b <;> rfl
@[simp] theorem frzL_t (bs : List Bool) (v : Val) (vs : List Val) (e : En) : frzL (true :: bs) (v :: vs) e = bnd (frzL bs vs) (fun r => ret (v :: r)) e := Eq.trans rfl rfl
@[simp] theorem frzL_f (bs : List Bool) (v : Val) (vs : List Val) (e : En) : frzL (false :: bs) (v :: vs) e = bnd (shr v) (fun d => bnd (frzL bs vs) fun r => ret (.sh d :: r)) e := Eq.trans rfl rfl
def backK {γ : Type} (e2 : Option En) (k : En → Out γ) : Out γ := match e2 with
  | some e2 => k e2
  | none => .err
@[simp] theorem backK_some {γ : Type} (e : En) (k : En → Out γ) : backK (some e) k = k e := Eq.trans rfl rfl
def goO (ps : List (Nat × Nat)) (e : En) : Out (Val × En) → Out (Val × En)
  | .ok (v, b) => backK (backE ps b e) fun e2 => .ok (v, e2)
  | .ex x b => backK (backE ps b e) fun e2 => .ex x e2
  | .err => .err
@[simp] theorem goO_ok (ps : List (Nat × Nat)) (e : En) (v : Val) (b : En) : goO ps e (.ok (v, b)) = backK (backE ps b e) fun e2 => .ok (v, e2) := Eq.trans rfl rfl
@[simp] theorem goO_ex (ps : List (Nat × Nat)) (e : En) (x : Xn) (b : En) : goO ps e (.ex x b) = backK (backE ps b e) fun e2 => .ex x e2 := Eq.trans rfl rfl
def goS (ev : Ev) (vals : List Val) (e : En) : Option (List Slot) → Out (Val × En)
  | none => .err
  | some ss => if ((pairs 0 vals).map Prod.snd).Nodup then goO (pairs 0 vals) e (ev ss) else .err
@[simp] theorem goS_some (ev : Ev) (vals : List Val) (e : En) (ss : List Slot) : goS ev vals e (some ss) = (if ((pairs 0 vals).map Prod.snd).Nodup then goO (pairs 0 vals) e (ev ss) else .err) := Eq.trans rfl rfl
@[simp] theorem goV_app (ev : Ev) (vals : List Val) (e : En) : goV ev vals e = goS ev vals e (slotsOf e vals) := by
  unfold goV goS
  cases slotsOf e vals with
  | none => rfl
  | some ss =>
    dsimp only
    split
    · cases ev ss with
      | err => rfl
      | ex x b => rfl
      | ok p => rfl
    · rfl
@[simp] theorem slotsOf_nil (e : En) : slotsOf e [] = some [] := Eq.trans rfl rfl
@[simp] theorem slotsOf_cons (e : En) (v : Val) (vs : List Val) : slotsOf e (v :: vs) = (match slotOf e v, slotsOf e vs with
    | some s, some ss => some (s :: ss)
    | _, _ => none) := Eq.trans rfl rfl
@[simp] theorem slotOf_sh (e : En) (d : D) : slotOf e (.sh d) = some (.sh d) := Eq.trans rfl rfl
@[simp] theorem slotOf_ow' (e : En) (i : Nat) : slotOf e (.ow i) = (match e[i]? with
    | some (.ow _ d) => some (.ow true d)
    | _ => none) := Eq.trans rfl rfl
@[simp] theorem pairs_nil (k : Nat) : pairs k [] = [] := Eq.trans rfl rfl
@[simp] theorem pairs_sh (k : Nat) (d : D) (r : List Val) : pairs k (.sh d :: r) = pairs (k + 1) r := Eq.trans rfl rfl
@[simp] theorem pairs_ow (k i : Nat) (r : List Val) : pairs k (.ow i :: r) = (k, i) :: pairs (k + 1) r := Eq.trans rfl rfl
@[simp] theorem backE_nil (e' e : En) : backE [] e' e = some e := Eq.trans rfl rfl
@[simp] theorem backE_app (k i : Nat) (r : List (Nat × Nat)) (e' e : En) : backE ((k, i) :: r) e' e = (match e[i]?, e'[k]? with
    | some (.ow io _), some (.ow true d) => backE r e' (e.set i (.ow io d))
    | some (.nt io _), some (.nt true d) => backE r e' (e.set i (.nt io d))
    | _, _ => none) := Eq.trans rfl rfl
@[simp] theorem nrm_em : Slot.nrm .em = .em := Eq.trans rfl rfl
@[simp] theorem nrm_sh (d : D) : Slot.nrm (.sh d) = .em := Eq.trans rfl rfl
@[simp] theorem nrm_t (d : D) : Slot.nrm (.ow true d) = .ow true d := Eq.trans rfl rfl
@[simp] theorem nrm_f (d : D) : Slot.nrm (.ow false d) = .em := Eq.trans rfl rfl
@[simp] theorem nrm_op (o : Option D) : Slot.nrm (op o) = .em := by cases o <;> rfl
@[simp] theorem backL_app (np : Nat) (e : En) : backL np e = (e.take np).map Slot.nrm := Eq.trans rfl rfl
@[simp] theorem retV_sh (e : En) (d : D) : retV e (.sh d) = some (.sh d) := Eq.trans rfl rfl
@[simp] theorem retV_fr (e : En) (d : D) : retV e (.fr d) = some (.fr d) := Eq.trans rfl rfl
@[simp] theorem retV_ow (e : En) (k : Nat) : retV e (.ow k) = (match e[k]? with
    | some (.ow false d) => some (.fr d)
    | _ => none) := Eq.trans rfl rfl
def retK (np : Nat) (e : En) : Option Val → Out (Val × En)
  | some v => .ok (v, backL np e)
  | none => .err
@[simp] theorem retK_some (np : Nat) (e : En) (v : Val) : retK np e (some v) = .ok (v, backL np e) := Eq.trans rfl rfl
def endF (np : Nat) : Fl → En → Out (Val × En)
  | .rt v, e => retK np e (retV e v)
  | .nx, e => .ok (.sh .non, backL np e)
  | _, _ => .err
@[simp] theorem endF_rt (np : Nat) (v : Val) (e : En) : endF np (.rt v) e = retK np e (retV e v) := Eq.trans rfl rfl
@[simp] theorem endF_nx (np : Nat) (e : En) : endF np .nx e = .ok (.sh .non, backL np e) := Eq.trans rfl rfl
def endO (np : Nat) : Out (Fl × En) → Out (Val × En)
  | .ok (f, e) => endF np f e
  | .ex x e => .ex x (backL np e)
  | .err => .err
@[simp] theorem endO_ok (np : Nat) (f : Fl) (e : En) : endO np (.ok (f, e)) = endF np f e := Eq.trans rfl rfl
@[simp] theorem endO_ex (np : Nat) (x : Xn) (e : En) : endO np (.ex x e) = .ex x (backL np e) := Eq.trans rfl rfl
@[simp] theorem evF_app (n np : Nat) (b : M Fl) (ss : List Slot) : evF n np b ss = (if ss.length = np then endO np (b (ss ++ List.replicate (n - np) .em)) else .err) := by
  unfold evF
  split
  · cases b (ss ++ List.replicate (n - np) .em) with
    | err => rfl
    | ex x e => rfl
    | ok p =>
      obtain ⟨fl, e⟩ := p
      cases fl with
      | rt v => show _ = retK _ _ _; unfold retK; first | rfl | (dsimp only; done) | (dsimp only; cases retV e v <;> rfl)
      | _ => rfl
  · rfl
@[simp] theorem isiC_app (t : String) (f : M Val) (e : En) : isiC t f e = bnd f (fun v => bnd (der v) fun d => bnd (opt (isiD t d)) fun b => ret (.sh (.bl b))) e := Eq.trans rfl rfl
@[simp] theorem iterC_app (f : M Val) (e : En) : iterC f e = bnd f (fun v => bnd (shr v) fun d => opt (itemsD d)) e := Eq.trans rfl rfl
@[simp] theorem walkC_app (g : List D → Option (List D)) (fs : List (M Val)) (e : En) : walkC g fs e = bnd (argsC fs) (fun vs => bnd (shrAll vs) fun ds => opt (g ds)) e := Eq.trans rfl rfl
@[simp] theorem rngC_app (g : List D → Option (List D)) (fs : List (M Val)) (e : En) : rngC g fs e = bnd (argsC fs) (fun vs => bnd (derAll vs) fun ds => opt (g ds)) e := Eq.trans rfl rfl
@[simp] theorem sliC_app (fa : M Val) (lo hi : M (Option Int)) (e : En) : sliC fa lo hi e = bnd fa (fun v => bnd (pend v) fun v => bnd lo fun l => bnd hi fun u => bnd (der v) fun d => opt (slD d l u)) e := Eq.trans rfl rfl
@[simp] theorem revC_app (f : M Val) (e : En) : revC f e = bnd f (fun v => bnd (der v) fun d => opt (revD d)) e := Eq.trans rfl rfl
@[simp] theorem lenSetC_app (f : M Val) (e : En) : lenSetC f e = bnd f (fun v => bnd (der v) fun d => opt (lenSetD d)) e := Eq.trans rfl rfl
@[simp] theorem dct0C_app (e : En) : dct0C e = .ok (.fr (.dct []), e) := Eq.trans rfl rfl
@[simp] theorem dictC_app (fs : List (M Val × M Val)) (e : En) : dictC fs e = bnd (pairsC fs) (fun es => if es.length ≤ 15 then ret (.fr (.dct (es.foldl (fun acc q => kvSet acc q.1 q.2) []))) else fail) e := Eq.trans rfl rfl
@[simp] theorem pairsC_nil (e : En) : pairsC [] e = .ok ([], e) := Eq.trans rfl rfl
@[simp] theorem pairsC_cons (q : M Val × M Val) (r : List (M Val × M Val)) (e : En) : pairsC (q :: r) e = bnd q.1 (fun vk => bnd (der vk) fun dk => bnd (opt (keyS dk)) fun key => bnd q.2 fun vv => bnd (shr vv) fun d => bnd (pairsC r) fun ps => ret ((keyD key, d) :: ps)) e := Eq.trans rfl rfl
@[simp] theorem noC_app (e : En) : noC e = .ok (none, e) := Eq.trans rfl rfl
@[simp] theorem asInt_int (i : Int) (e : En) : asInt (.int i) e = .ok (i, e) := Eq.trans rfl rfl
@[simp] theorem partC_app (f : M Val) (e : En) : partC f e = bnd f (fun v => bnd (der v) fun d => bnd (asInt d) fun i => ret (some i)) e := Eq.trans rfl rfl
@[simp] theorem tupC_app (fs : List (M Val)) (e : En) : tupC fs e = bnd (argsC fs) (fun vs => bnd (shrAll vs) fun ds => if ds.length ≤ lenLim then ret (.sh (.tup ds)) else fail) e := Eq.trans rfl rfl
@[simp] theorem lstC_app (fs : List (M Val)) (e : En) : lstC fs e = bnd (argsC fs) (fun vs => bnd (shrAll vs) fun ds => if ds.length ≤ lenLim then ret (.fr (.lst ds)) else fail) e := Eq.trans rfl rfl
@[simp] theorem ixC_app (fa fb : M Val) (e : En) : ixC fa fb e = binC (fun a b => (ixD a b).map Val.sh) fa fb e := Eq.trans rfl rfl
@[simp] theorem ownL_app (k : Nat) (e : En) : ownL k e = (match e[k]? with
  | some (.ow _ (.lst _)) => true
  | _ => false) := Eq.trans rfl rfl
@[simp] theorem lcN_app (k : Nat) (own : List Nat) (it : M (List D)) (g : Val → M Unit) (t : M Bool) (f : M Val) (e : En) : lcN k own it g t f e = if ownL k e = true ∧ k ∉ own then lcO own k g t f e else lcC own it g t f e := Eq.trans rfl rfl
@[simp] theorem ixE_app (fa fb : M Val) (e : En) : ixE fa fb e = binC (fun a b => (ixKD a b).map Val.sh) fa fb e := Eq.trans rfl rfl
@[simp] theorem ixK_tup (l : List D) (k : D) : ixKD (.tup l) k = ixD (.tup l) k := Eq.trans rfl rfl
@[simp] theorem ixK_lst (l : List D) (k : D) : ixKD (.lst l) k = ixD (.lst l) k := Eq.trans rfl rfl
@[simp] theorem ixK_scr (l : List Int) (k : D) : ixKD (.scr l) k = ixD (.scr l) k := Eq.trans rfl rfl
@[simp] theorem ixK_str (l : Str) (k : D) : ixKD (.str l) k = ixD (.str l) k := Eq.trans rfl rfl
@[simp] theorem ixK_dct (l : List (D × D)) (k : D) : ixKD (.dct l) k = kvGet l k := Eq.trans rfl rfl
def asgUD (fs : List (Val → M Unit)) : D → M Unit
  | .tup ds => if ds.length = fs.length then asgL fs ds else fail
  | .lst ds => if ds.length = fs.length then asgL fs ds else fail
  | _ => fail
@[simp] theorem asgUD_tup (fs : List (Val → M Unit)) (ds : List D) (e : En) : asgUD fs (.tup ds) e = (if ds.length = fs.length then asgL fs ds else fail) e := Eq.trans rfl rfl
@[simp] theorem asgUD_lst (fs : List (Val → M Unit)) (ds : List D) (e : En) : asgUD fs (.lst ds) e = (if ds.length = fs.length then asgL fs ds else fail) e := Eq.trans rfl rfl
@[simp] theorem asgU_app (fs : List (Val → M Unit)) (v : Val) (e : En) : asgU fs v e = bnd (shr v) (asgUD fs) e := by
  unfold asgU
  congr 1
@[simp] theorem asgL_nil (e : En) : asgL [] [] e = .ok ((), e) := Eq.trans rfl rfl
@[simp] theorem asgL_cons (f : Val → M Unit) (fs : List (Val → M Unit)) (d : D) (ds : List D) (e : En) : asgL (f :: fs) (d :: ds) e = bnd (f (.sh d)) (fun _ => asgL fs ds) e := Eq.trans rfl rfl
def updO (j : Nat) (b : Bool) (e : En) : Option D → Out (Unit × En)
  | some c => .ok ((), e.set j (.ow b c))
  | none => .err
@[simp] theorem updO_some (j : Nat) (b : Bool) (e : En) (c : D) : updO j b e (some c) = .ok ((), e.set j (.ow b c)) := Eq.trans rfl rfl
@[simp] theorem updS_app (j : Nat) (f : D → Option D) (e : En) : updS j f e = (match e[j]? with
  | some (.ow b c) => updO j b e (f c)
  | _ => .err) := by
  unfold updS updO
  cases e[j]? with
  | none => rfl
  | some s => cases s with
    | ow b c => first | rfl | (dsimp only; done) | (dsimp only; cases f c <;> rfl)
    | _ => rfl
@[simp] theorem owJ_ow (j : Nat) (e : En) : owJ (.ow j) e = .ok (j, e) := Eq.trans rfl rfl
@[simp] theorem isLs_lst (l : List D) : isLs (.lst l) = true := Eq.trans rfl rfl
@[simp] theorem owL_ow (j : Nat) (e : En) : owL (.ow j) e = (match e[j]? with
    | some (.ow _ d) => if isLs d then .ok (j, e) else .err
    | _ => .err) := Eq.trans rfl rfl
@[simp] theorem setD_lst (l : List D) (k : Int) (d : D) : setD (.lst l) (.int k) d = (ixN l.length k).map fun n => .lst (l.set n d) := Eq.trans rfl rfl
@[simp] theorem appD_lst (l : List D) (d : D) : appD d (.lst l) = if l.length < lenLim then some (.lst (l ++ [d])) else none := Eq.trans rfl rfl
@[simp] theorem asgI_app (fo fi : M Val) (v : Val) (e : En) : asgI fo fi v e = bnd (shr v) (fun d => bnd fo fun vo => bnd (owJ vo) fun j => bnd fi fun vi => bnd (shr vi) fun k => updS j fun c => setD c k d) e := Eq.trans rfl rfl
@[simp] theorem negC_app (f : M Val) (e : En) : negC f e = bnd f (fun v => bnd (der v) fun d => bnd (asInt d) fun i => ret (.sh (.int (-i)))) e := Eq.trans rfl rfl
@[simp] theorem appC_app (fo fa : M Val) (e : En) : appC fo fa e = bnd fo (fun vo => bnd (owL vo) fun j => bnd fa fun va => bnd (shr va) fun d => bnd (updS j (appD d)) fun _ => ret (.sh .non)) e := Eq.trans rfl rfl
@[simp] theorem sol_sh (d : D) (e : En) : sol (.sh d) e = .ok (.sh d, e) := Eq.trans rfl rfl
@[simp] theorem sol_fr (d : D) (e : En) : sol (.fr d) e = .ok (.fr d, e) := Eq.trans rfl rfl
@[simp] theorem sol_ow (i : Nat) (e : En) : sol (.ow i) e = bnd (shr (.ow i)) (fun d => ret (.sh d)) e := Eq.trans rfl rfl
@[simp] theorem par2_app (i j : Nat) (fa fb : M Val) (e : En) : par2 i j fa fb e = bnd fa (fun va => bnd (sol va) fun wa => bnd fb fun vb => bnd (sol vb) fun wb => bnd (asgN i wa) fun _ => bnd (asgN j wb) fun _ => ret .nx) e := Eq.trans rfl rfl
@[simp] theorem forS_app (it : M (List D)) (g : Val → M Unit) (b : M Fl) (e : En) : forS it g b e = bnd it (fun ds => forL g b ds) e := Eq.trans rfl rfl
@[simp] theorem zp_tt (l m : List D) : zp2B [.tup l, .tup m] = some (z2L l m) := Eq.trans rfl rfl
@[simp] theorem zp_ll (l m : List D) : zp2B [.lst l, .lst m] = some (z2L l m) := Eq.trans rfl rfl
@[simp] theorem zp_tl (l m : List D) : zp2B [.tup l, .lst m] = some (z2L l m) := Eq.trans rfl rfl
@[simp] theorem zp_lt (l m : List D) : zp2B [.lst l, .tup m] = some (z2L l m) := Eq.trans rfl rfl
@[simp] theorem en_t (l : List D) : enB [.tup l] = some (enL l) := Eq.trans rfl rfl
@[simp] theorem en_l (l : List D) : enB [.lst l] = some (enL l) := Eq.trans rfl rfl
@[simp] theorem sol_fn (d : D) (e : En) : sol (.fn d) e = .ok (.fn d, e) := Eq.trans rfl rfl
@[simp] theorem sol_np (i : Nat) (p : List Pt) (e : En) : sol (.np i p) e = bnd (shr (.np i p)) (fun d => ret (.sh d)) e := Eq.trans rfl rfl
@[simp] theorem evS_nil (e : En) : evS [] e = .ok ([], e) := Eq.trans rfl rfl
@[simp] theorem evS_cons (f : M Val) (r : List (M Val)) (e : En) : evS (f :: r) e = bnd f (fun v => bnd (sol v) fun w => bnd (evS r) fun ws => ret (w :: ws)) e := Eq.trans rfl rfl
@[simp] theorem asgV_nil (e : En) : asgV [] [] e = .ok ((), e) := Eq.trans rfl rfl
@[simp] theorem asgV_cons (g : Val → M Unit) (gs : List (Val → M Unit)) (w : Val) (ws : List Val) (e : En) : asgV (g :: gs) (w :: ws) e = bnd (g w) (fun _ => asgV gs ws) e := Eq.trans rfl rfl
@[simp] theorem parN_app (fs : List (M Val)) (gs : List (Val → M Unit)) (e : En) : parN fs gs e = bnd (evS fs) (fun ws => bnd (asgV gs ws) fun _ => ret .nx) e := Eq.trans rfl rfl
@[simp] theorem augS_app (op : Operator) (i : Nat) (f : M Val) (e : En) : augS op i f e = (match e[i]? with
  | some (.sh d0) => bnd f (fun v => bnd (der v) fun d => bnd (opt (augD op d0 d)) fun k => bnd (setN i (.sh k)) fun _ => ret .nx) e
  | _ => .err) := Eq.trans rfl rfl
@[simp] theorem aug_add (i j : Int) : augD .Add (.int i) (.int j) = some (.int (i + j)) := Eq.trans rfl rfl
@[simp] theorem aug_sub (i j : Int) : augD .Sub (.int i) (.int j) = some (.int (i - j)) := Eq.trans rfl rfl
@[simp] theorem fmtC_app (f : M Val) (e : En) : fmtC f e = bnd f (fun v => bnd (der v) fun d => bnd (opt (fmtD d)) fun x => ret (.sh (.str x))) e := Eq.trans rfl rfl
@[simp] theorem joinC_nil (acc : Str) (e : En) : joinC [] acc e = .ok (.sh (.str acc), e) := Eq.trans rfl rfl
@[simp] theorem joinC_cons (f : M Val) (r : List (M Val)) (acc : Str) (e : En) : joinC (f :: r) acc e = bnd f (fun v => bnd (opt (strV v)) fun y => if (acc ++ y).length ≤ lenLim then joinC r (acc ++ y) else fail) e := Eq.trans rfl rfl
@[simp] theorem strV_str (y : Str) : strV (.sh (.str y)) = some y := Eq.trans rfl rfl
@[simp] theorem isX_app (du : Du) (u : TyN) (f : M Val) (e : En) : isX du u f e = bnd f (fun v => bnd (der v) fun d => bnd (opt (isXD du u d)) fun b => ret (.sh (.bl b))) e := Eq.trans rfl rfl
/-- an instance -/
def D.isIns : D → Bool
  | .ins _ _ => true
  | _ => false
def ownK (tab : MTab) (m : Str) (ok : Val → Bool) (g : List D → Option Val) (w : Val) : D → M Val
  | .ins c fs => bnd (opt (insM tab m (.ins c fs))) fun p => bnd (frzL p.1 [w]) fun vals => bnd (goN p.2 vals) fun r => if ok r then ret r else fail
  | d => opt (g [d])
@[simp] theorem ownK_ins (tab : MTab) (m : Str) (ok : Val → Bool) (g : List D → Option Val) (w : Val) (c : Str) (fs : List (Str × D)) (e : En) : ownK tab m ok g w (.ins c fs) e = bnd (opt (insM tab m (.ins c fs))) (fun p => bnd (frzL p.1 [w]) fun vals => bnd (goN p.2 vals) fun r => if ok r then ret r else fail) e := Eq.trans rfl rfl
theorem ownK_no {tab : MTab} {m : Str} {ok : Val → Bool} {g : List D → Option Val} {w : Val} {d : D} (h : d.isIns = false) (e : En) : ownK tab m ok g w d e = opt (g [d]) e := by
  cases d <;> first | rfl | cases h
@[simp] theorem ownK_str (tab : MTab) (m : Str) (ok : Val → Bool) (g : List D → Option Val) (w : Val) (x : Str) (e : En) : ownK tab m ok g w (.str x) e = opt (g [.str x]) e := Eq.trans rfl rfl
@[simp] theorem ownK_int (tab : MTab) (m : Str) (ok : Val → Bool) (g : List D → Option Val) (w : Val) (x : Int) (e : En) : ownK tab m ok g w (.int x) e = opt (g [.int x]) e := Eq.trans rfl rfl
@[simp] theorem ownC_app (tab : MTab) (m : Str) (ok : Val → Bool) (g : List D → Option Val) (f : M Val) (e : En) : ownC tab m ok g f e = bnd f (fun v => bnd (pend v) fun w => bnd (der w) fun d => ownK tab m ok g w d) e := by
  unfold ownC
  congr 1
@[simp] theorem goN_app (ev : Ev) (vals : List Val) (e : En) : goN ev vals e = (match goV ev vals e with
  | .ok r => .ok r
  | _ => .err) := Eq.trans rfl rfl
@[simp] theorem opC_app (tab : MTab) (du : Du) (op : CmpOp) (fa fb : M Val) (e : En) : opC tab du op fa fb e = bnd fa (fun va => bnd (pend va) fun wa => bnd fb fun vb => bnd (der wa) fun da => bnd (der vb) fun db => dnOp tab du wa vb op da db) e := Eq.trans rfl rfl
section
variable {tab : MTab} {du : Du} {wa vb : Val} {da db : D}
@[simp] theorem dn_lt : dnOp tab du wa vb .Lt da db = opt (ltD da db) := Eq.trans rfl rfl
@[simp] theorem dn_le : dnOp tab du wa vb .LtE da db = opt (leD da db) := Eq.trans rfl rfl
@[simp] theorem dn_gt : dnOp tab du wa vb .Gt da db = opt (gtD da db) := Eq.trans rfl rfl
@[simp] theorem dn_ge : dnOp tab du wa vb .GtE da db = opt (geD da db) := Eq.trans rfl rfl
@[simp] theorem dn_is : dnOp tab du wa vb .Is da db = opt (isND false da db) := Eq.trans rfl rfl
@[simp] theorem dn_isn : dnOp tab du wa vb .IsNot da db = opt (isND true da db) := Eq.trans rfl rfl
theorem dn_eq (h : da.isIns = false) : dnOp tab du wa vb .Eq da db = opt (eqD da db) := by cases da <;> first | rfl | cases h
theorem dn_ne (h : da.isIns = false) : dnOp tab du wa vb .NotEq da db = opt (neD da db) := by cases da <;> first | rfl | cases h
theorem dn_in (h : db.isIns = false) : dnOp tab du wa vb .In da db = opt (inD false da db) := by cases db <;> first | rfl | cases h
theorem dn_nin (h : db.isIns = false) : dnOp tab du wa vb .NotIn da db = opt (inD true da db) := by cases db <;> first | rfl | cases h
@[simp] theorem dn_eq_int {i : Int} : dnOp tab du wa vb .Eq (.int i) db = opt (eqD (.int i) db) := Eq.trans rfl rfl
@[simp] theorem dn_eq_str {i : Str} : dnOp tab du wa vb .Eq (.str i) db = opt (eqD (.str i) db) := Eq.trans rfl rfl
@[simp] theorem dn_eq_bl {i : Bool} : dnOp tab du wa vb .Eq (.bl i) db = opt (eqD (.bl i) db) := Eq.trans rfl rfl
@[simp] theorem dn_eq_tup {i : List D} : dnOp tab du wa vb .Eq (.tup i) db = opt (eqD (.tup i) db) := Eq.trans rfl rfl
@[simp] theorem dn_eq_lst {i : List D} : dnOp tab du wa vb .Eq (.lst i) db = opt (eqD (.lst i) db) := Eq.trans rfl rfl
@[simp] theorem dn_eq_dct {i : List (D × D)} : dnOp tab du wa vb .Eq (.dct i) db = opt (eqD (.dct i) db) := Eq.trans rfl rfl
@[simp] theorem dn_eq_non : dnOp tab du wa vb .Eq .non db = opt (eqD .non db) := Eq.trans rfl rfl
@[simp] theorem dn_ne_int {i : Int} : dnOp tab du wa vb .NotEq (.int i) db = opt (neD (.int i) db) := Eq.trans rfl rfl
@[simp] theorem dn_ne_str {i : Str} : dnOp tab du wa vb .NotEq (.str i) db = opt (neD (.str i) db) := Eq.trans rfl rfl
@[simp] theorem dn_ne_bl {i : Bool} : dnOp tab du wa vb .NotEq (.bl i) db = opt (neD (.bl i) db) := Eq.trans rfl rfl
@[simp] theorem dn_ne_tup {i : List D} : dnOp tab du wa vb .NotEq (.tup i) db = opt (neD (.tup i) db) := Eq.trans rfl rfl
@[simp] theorem dn_ne_lst {i : List D} : dnOp tab du wa vb .NotEq (.lst i) db = opt (neD (.lst i) db) := Eq.trans rfl rfl
@[simp] theorem dn_ne_dct {i : List (D × D)} : dnOp tab du wa vb .NotEq (.dct i) db = opt (neD (.dct i) db) := Eq.trans rfl rfl
@[simp] theorem dn_ne_non : dnOp tab du wa vb .NotEq .non db = opt (neD .non db) := Eq.trans rfl rfl
@[simp] theorem dn_in_tup {i : List D} : dnOp tab du wa vb .In da (.tup i) = opt (inD false da (.tup i)) := Eq.trans rfl rfl
@[simp] theorem dn_in_lst {i : List D} : dnOp tab du wa vb .In da (.lst i) = opt (inD false da (.lst i)) := Eq.trans rfl rfl
@[simp] theorem dn_in_dct {i : List (D × D)} : dnOp tab du wa vb .In da (.dct i) = opt (inD false da (.dct i)) := Eq.trans rfl rfl
@[simp] theorem dn_in_str {i : Str} : dnOp tab du wa vb .In da (.str i) = opt (inD false da (.str i)) := Eq.trans rfl rfl
@[simp] theorem dn_nin_tup {i : List D} : dnOp tab du wa vb .NotIn da (.tup i) = opt (inD true da (.tup i)) := Eq.trans rfl rfl
@[simp] theorem dn_nin_lst {i : List D} : dnOp tab du wa vb .NotIn da (.lst i) = opt (inD true da (.lst i)) := Eq.trans rfl rfl
@[simp] theorem dn_nin_dct {i : List (D × D)} : dnOp tab du wa vb .NotIn da (.dct i) = opt (inD true da (.dct i)) := Eq.trans rfl rfl
@[simp] theorem dn_nin_str {i : Str} : dnOp tab du wa vb .NotIn da (.str i) = opt (inD true da (.str i)) := Eq.trans rfl rfl
@[simp] theorem dn_in_ins {c : Str} {fs : List (Str × D)} : dnOp tab du wa vb .In da (.ins c fs) = dnIn tab false wa vb (.ins c fs) := Eq.trans rfl rfl
@[simp] theorem dn_nin_ins {c : Str} {fs : List (Str × D)} : dnOp tab du wa vb .NotIn da (.ins c fs) = dnIn tab true wa vb (.ins c fs) := Eq.trans rfl rfl
@[simp] theorem dn_eq_ins {c : Str} {fs : List (Str × D)} : dnOp tab du wa vb .Eq (.ins c fs) db = dnEq tab du false wa vb c fs db := Eq.trans rfl rfl
@[simp] theorem dn_ne_ins {c : Str} {fs : List (Str × D)} : dnOp tab du wa vb .NotEq (.ins c fs) db = dnEq tab du true wa vb c fs db := Eq.trans rfl rfl
end
@[simp] theorem dnIn_app (tab : MTab) (ng : Bool) (wa vb : Val) (d : D) (e : En) : dnIn tab ng wa vb d e = bnd (pend vb) (fun wb => bnd (opt (insM tab "__contains__" d)) fun p => bnd (frzL p.1 [wb, wa]) fun vals => bnd (goV p.2 vals) (dnFin ng)) e := Eq.trans rfl rfl
@[simp] theorem dnEq_app (tab : MTab) (du : Du) (ng : Bool) (wa vb : Val) (c : Str) (fs : List (Str × D)) (d : D) (e : En) : dnEq tab du ng wa vb c fs d e = bnd (opt (dnOk du ng c d)) (fun _ => bnd (pend vb) fun wb => bnd (opt (insM tab "__eq__" (.ins c fs))) fun p => bnd (frzL p.1 [wa, wb]) fun vals => bnd (goV p.2 vals) (dnFin ng)) e := Eq.trans rfl rfl
@[simp] theorem dnFin_bl (ng b : Bool) (e : En) : dnFin ng (.sh (.bl b)) e = .ok (.sh (.bl (b != ng)), e) := Eq.trans rfl rfl
@[simp] theorem methQ_app (tab : MTabQ) (m : Str) (ks : List Str) (fo : M Val) (fs gs : List (M Val)) (e : En) : methQ tab m ks fo fs gs e = bnd fo (fun v => bnd (pend v) fun w => bnd (der w) fun d => bnd (opt (insQ tab m fs.length ks d)) fun p => bnd (argsN fs) fun vals => bnd (argsN gs) fun wals => goQ p.1 p.2.1 p.2.2.1 p.2.2.2 (w :: vals) wals) e := Eq.trans rfl rfl
@[simp] theorem goQ_app (bs : List Bool) (ev : Ev) (st : Option Nat) (q : Shp) (vs zs : List Val) (e : En) : goQ bs ev st q vs zs e = bnd (parC st q vs zs) (fun vals => bnd (frzL bs vals) fun vals1 => goV ev vals1) e := Eq.trans rfl rfl
@[simp] theorem parC_app (st : Option Nat) (q : Shp) (vs zs : List Val) (e : En) : parC st q vs zs e = bnd (restC st vs) (fun vs' => opt (if vs'.length = q.n ∧ zs.length = q.ks.length then srcL q.srcs vs' zs else none)) e := Eq.trans rfl rfl
@[simp] theorem restC_none (vals : List Val) (e : En) : restC none vals e = .ok (vals, e) := Eq.trans rfl rfl
@[simp] theorem restC_some (i : Nat) (vals : List Val) (e : En) : restC (some i) vals e = bnd (shrAll (vals.drop i)) (fun ds => if i ≤ vals.length ∧ ds.length ≤ lenLim then ret (vals.take i ++ [.sh (.tup ds)]) else fail) e := Eq.trans rfl rfl
@[simp] theorem mkQC_app (c : Str) (bs : List Bool) (ev : Ev) (st : Option Nat) (q : Shp) (fs gs : List (M Val)) (e : En) : mkQC c bs ev st q fs gs e = bnd (argsN fs) (fun vs => bnd (argsN gs) fun zs => bnd (parC st q vs zs) fun vals => bnd (frzL bs vals) fun vals1 => mkV c ev vals1) e := Eq.trans rfl rfl
/-! instances -/
@[simp] theorem pend_fn (d : D) : pend (.fn d) = ret (.sh d.fz) := Eq.trans rfl rfl
@[simp] theorem pend_np (i : Nat) : pend (.np i []) = ret (.np i []) := Eq.trans rfl rfl
@[simp] theorem shr_fn (d : D) (e : En) : shr (.fn d) e = .ok (d.fz, e) := Eq.trans rfl rfl
@[simp] theorem asgN_fn (i : Nat) (d : D) : asgN i (.fn d) = setN i (.nt false d) := Eq.trans rfl rfl
@[simp] theorem io_nt (b : Bool) (d : D) : Slot.io (.nt b d) = b := by cases b <;> rfl
@[simp] theorem nrm_nt1 (d : D) : Slot.nrm (.nt true d) = .nt true d := Eq.trans rfl rfl
@[simp] theorem nrm_nt0 (d : D) : Slot.nrm (.nt false d) = .em := Eq.trans rfl rfl
@[simp] theorem retV_fn (e : En) (d : D) : retV e (.fn d) = some (.fn d) := Eq.trans rfl rfl
@[simp] theorem atC_app (no : Str → Str → Bool) (pt : PTab) (f : Str) (fo : M Val) (e : En) : atC no pt f fo e = bnd fo (fun v => bnd (pend v) fun w => bnd (der w) fun d => atD no pt f w d) e := Eq.trans rfl rfl
theorem atD_fld {no : Str → Str → Bool} {pt : PTab} {f : Str} {w : Val} {c : Str} {fs : List (Str × D)} {d : D} (h : no c f = true) (h2 : fsGet fs f = some d) (e : En) : atD no pt f w (.ins c fs) e = .ok (.sh d, e) := by
  show (if no c f = true then opt ((fsGet fs f).map .sh) else match pt c f with
    | some ev => goN ev [w]
    | none => fail) e = _
  rw [if_pos h, h2]
  rfl
theorem atD_prp {no : Str → Str → Bool} {pt : PTab} {f : Str} {w : Val} {c : Str} {fs : List (Str × D)} {ev : Ev} (h : no c f = false) (h2 : pt c f = some ev) (e : En) : atD no pt f w (.ins c fs) e = goN ev [w] e := by
  show (if no c f = true then opt ((fsGet fs f).map .sh) else match pt c f with
    | some ev => goN ev [w]
    | none => fail) e = _
  rw [if_neg (by rw [h]; exact Bool.false_ne_true), h2]
@[simp] theorem methC_app (tab : MTab) (m : Str) (fo : M Val) (fs : List (M Val)) (e : En) : methC tab m fo fs e = bnd fo (fun v => bnd (pend v) fun w => bnd (der w) fun d => bnd (opt (insM tab m d)) fun p => bnd (argsN fs) fun vals => bnd (frzL p.1 (w :: vals)) fun vals1 => goV p.2 vals1) e := Eq.trans rfl rfl
@[simp] theorem mkC_app (c : Str) (bs : List Bool) (ev : Ev) (fs : List (M Val)) (e : En) : mkC c bs ev fs e = bnd (argsN fs) (fun vals => bnd (frzL bs vals) fun vals1 => mkV c ev vals1) e := Eq.trans rfl rfl
@[simp] theorem fldS_app (no : Str → Str → Bool) (f : Str) (fv fo : M Val) (e : En) : fldS no f fv fo e = bnd fv (fun v => bnd (shr v) fun d => bnd fo fun o => stF no f d o) e := Eq.trans rfl rfl
theorem stF_np {no : Str → Str → Bool} {f : Str} {d : D} {i : Nat} {e : En} {b : Bool} {c : Str} {fs : List (Str × D)} (hi : e[i]? = some (.nt b (.ins c fs))) (h : no c f = true) (hl : fs.length < 900) : stF no f d (.np i []) e = .ok (.nx, e.set i (.nt b (.ins c (fsSet fs f d)))) := by
  show (match e[i]? with
    | some (.nt b (.ins c fs)) => (if no c f = true ∧ fs.length < 900 then Out.ok (Fl.nx, e.set i (.nt b (.ins c (fsSet fs f d)))) else Out.err)
    | _ => Out.err) = _
  rw [hi]
  exact if_pos ⟨h, hl⟩
theorem mod_int {i j : Int} (h : 0 < j) : modD (.int i) (.int j) = some (.sh (.int (i % j))) := by unfold modD; simp [h]
theorem fdiv_int {i j : Int} (h : 0 < j) (h2 : j.natAbs.log2 < 9000) : fdivD (.int i) (.int j) = some (.sh (.int (i / j))) := by unfold fdivD; simp [h, h2]
theorem log2_lt {n k : Nat} (h : n < 2 ^ k) (hk : 0 < k) : n.log2 < k := by
  by_cases z : n = 0
  · subst z; simpa using hk
  · exact (Nat.log2_lt z).mpr h
theorem mul_int {i j : Int} (h : i.natAbs < 2 ^ 400) (h2 : j.natAbs < 2 ^ 400) : mulD (.int i) (.int j) = some (.sh (.int (i * j))) := by
  have a := log2_lt h (by decide)
  have b := log2_lt h2 (by decide)
  show (if i.natAbs.log2 + j.natAbs.log2 < 1000000 then _ else _) = _
  rw [if_pos (by omega)]
theorem pow_int' {i j : Int} (h : 0 ≤ j) (h2 : (Builtin.Int.intBits i : Int) * j ≤ 2 ^ 27) : powD (.int i) (.int j) = some (.sh (.int (i ^ j.toNat))) := by
  show (if 0 ≤ j ∧ (Builtin.Int.intBits i : Int) * j ≤ 2 ^ 27 then _ else _) = _
  rw [if_pos ⟨h, h2⟩]
end
def forK (g : Val → M Unit) (b : M Fl) (r : List D) : Fl → M Fl
  | .nx => forL g b r
  | .ct => forL g b r
  | .bk => ret .nx
  | .rt v => ret (.rt v)
theorem forL_cons (g : Val → M Unit) (b : M Fl) (d : D) (r : List D) (e : En) : forL g b (d :: r) e = obn (g (.sh d) e) fun _ e1 => obn (b e1) (forK g b r) := by
  show bnd (g (.sh d)) _ e = _
  unfold bnd obn
  cases g (.sh d) e with
  | err => rfl
  | ex x e => rfl
  | ok p =>
    obtain ⟨u, e1⟩ := p
    show bnd b _ e1 = obn (b e1) _
    unfold bnd obn
    cases b e1 with
    | err => rfl
    | ex x e => rfl
    | ok p => obtain ⟨fl, e'⟩ := p; cases fl <;> rfl
/-! ### loops -/
theorem forL_rule {g : Val → M Unit} {b : M Fl} {ds : List D} (J : List D → En → Prop)
    (step : ∀ done d rest e, done ++ d :: rest = ds → J done e → ∃ e1 fl e2, g (.sh d) e = .ok ((), e1) ∧ b e1 = .ok (fl, e2) ∧ (fl = .nx ∨ fl = .ct) ∧ J (done ++ [d]) e2) {e : En} (h : J [] e) : ∃ e', forL g b ds e = .ok (.nx, e') ∧ J ds e' := by
  have go : ∀ (rest done : List D) (e : En), done ++ rest = ds → J done e → ∃ e', forL g b rest e = .ok (.nx, e') ∧ J ds e' := by
    intro rest
    induction rest with
    | nil =>
      intro done e hd hj
      rw [List.append_nil] at hd
      subst hd
      exact ⟨e, rfl, hj⟩
    | cons d r ih =>
      intro done e hd hj
      obtain ⟨e1, fl, e2, h1, h2, h3, h4⟩ := step done d r e hd hj
      obtain ⟨e', h5, h6⟩ := ih (done ++ [d]) e2 (by simpa using hd) h4
      refine ⟨e', ?_, h6⟩
      simp only [forL_cons, obn_ok, h1, h2]
      rcases h3 with rfl | rfl <;> exact h5
  exact go ds [] e rfl h
/-- one turn of a list comprehension: what is left out or taken, and the slots behind it -/
def Turn1 (own : List Nat) (g : Val → M Unit) (t : M Bool) (f : M Val) (d : D) (e : En) (o : Option D) (e' : En) : Prop :=
  ∃ w e2 b e3, wipE own e = .ok ((), w) ∧ g (.sh d) w = .ok ((), e2) ∧ t e2 = .ok (b, e3) ∧ match o with
    | none => b = false ∧ e' = e3
    | some x => b = true ∧ ∃ v e4, f e3 = .ok (v, e4) ∧ shr v e4 = .ok (x, e')
theorem lcL_rule {own : List Nat} {g : Val → M Unit} {t : M Bool} {f : M Val} {ds : List D} (J : List D → List D → En → Prop)
    (step : ∀ done d rest acc e, done ++ d :: rest = ds → J done acc e → ∃ o e', Turn1 own g t f d e o e' ∧ J (done ++ [d]) (acc ++ o.toList) e') {e : En} (h : J [] [] e) (hw : ∀ acc e, J ds acc e → ∃ w, wipE own e = .ok ((), w)) :
    ∃ xs e1 w, J ds xs e1 ∧ wipE own e1 = .ok ((), w) ∧ lcL own g t f ds e = .ok (xs, w) := by
  have go : ∀ (rest done acc : List D) (e : En), done ++ rest = ds → J done acc e → ∃ ys e1 w, J ds (acc ++ ys) e1 ∧ wipE own e1 = .ok ((), w) ∧ lcL own g t f rest e = .ok (ys, w) := by
    intro rest
    induction rest with
    | nil =>
      intro done acc e hd hj
      rw [List.append_nil] at hd
      subst hd
      obtain ⟨w, hw⟩ := hw _ _ hj
      refine ⟨[], e, w, by rw [List.append_nil]; exact hj, hw, ?_⟩
      simp only [lcL, bnd_app, obn_ok, hw, ret_app]
    | cons d r ih =>
      intro done acc e hd hj
      obtain ⟨o, e', ⟨w, e2, b, e3, h1, h2, h3, h4⟩, h5⟩ := step done d r acc e hd hj
      obtain ⟨ys, e1, w1, q1, q2, q3⟩ := ih (done ++ [d]) (acc ++ o.toList) e' (by simpa using hd) h5
      cases o with
      | none =>
        obtain ⟨rfl, rfl⟩ := h4
        refine ⟨ys, e1, w1, by simpa using q1, q2, ?_⟩
        simp only [lcL, bnd_app, obn_ok, h1, h2, h3]
        exact q3
      | some x =>
        obtain ⟨rfl, v, e4, h6, h7⟩ := h4
        refine ⟨x :: ys, e1, w1, by simpa using q1, q2, ?_⟩
        simp only [lcL, bnd_app, obn_ok, h1, h2, h3, if_true, h6, h7, q3, ret_app]
  obtain ⟨ys, e1, w, a, b, c⟩ := go ds [] [] e rfl h
  exact ⟨ys, e1, w, a, b, c⟩
theorem lcC_rule {own : List Nat} {it : M (List D)} {g : Val → M Unit} {t : M Bool} {f : M Val} {ds : List D} {e e0 : En} (hit : it e = .ok (ds, e0)) (J : List D → List D → En → Prop)
    (step : ∀ done d rest acc e, done ++ d :: rest = ds → J done acc e → ∃ o e', Turn1 own g t f d e o e' ∧ J (done ++ [d]) (acc ++ o.toList) e') (h : J [] [] e0) (hw : ∀ acc e, J ds acc e → (∃ w, wipE own e = .ok ((), w)) ∧ acc.length ≤ lenLim) :
    ∃ xs e1 w, J ds xs e1 ∧ wipE own e1 = .ok ((), w) ∧ lcC own it g t f e = .ok (.fr (.lst xs), putE own e0 w) := by
  obtain ⟨xs, e1, w, a, b, c⟩ := lcL_rule J step h fun acc e hj => (hw acc e hj).1
  refine ⟨xs, e1, w, a, b, ?_⟩
  unfold lcC
  simp only [bnd_app, obn_ok, hit, c]
  rw [if_pos (hw _ _ a).2]
/-- a comprehension whose turns leave the slots as they are -/
theorem lc_ty {α : Type} (l : List α) (c : α → D) (b : α → Bool) (x : α → D) {own : List Nat} {it : M (List D)} {g : Val → M Unit} {t : M Bool} {f : M Val} {e e0 w : En} (hit : it e = .ok (l.map c, e0)) (hw : wipE own e0 = .ok ((), w)) (hl : l.length ≤ lenLim) (hww : wipE own w = .ok ((), w))
    (step : ∀ a ∈ l, ∃ e2, g (.sh (c a)) w = .ok ((), e2) ∧ t e2 = .ok (b a, e2) ∧ wipE own e2 = .ok ((), w) ∧ (b a = true → ∃ v, f e2 = .ok (v, e2) ∧ shr v e2 = .ok (x a, e2))) : lcC own it g t f e = .ok (.fr (.lst ((l.filter b).map x)), putE own e0 w) := by
  have go : ∀ (l' : List α) (e : En), (∀ a ∈ l', a ∈ l) → wipE own e = .ok ((), w) → lcL own g t f (l'.map c) e = .ok ((l'.filter b).map x, w) := by
    intro l'
    induction l' with
    | nil => intro e _ he; simp [lcL, he]
    | cons a r ih =>
      intro e hm he
      obtain ⟨e2, h1, h2, h3, h4⟩ := step a (hm a List.mem_cons_self)
      have ih' := ih e2 (fun a ha => hm a (List.mem_cons_of_mem _ ha)) h3
      rw [List.map_cons, List.filter_cons]
      simp only [lcL, bnd_app, obn_ok, he, h1, h2]
      cases q : b a with
      | false => simpa using ih'
      | true =>
        obtain ⟨v, h5, h6⟩ := h4 q
        simp only [if_true, bnd_app, obn_ok, h5, h6, ih', ret_app, List.map_cons]
  have hlen : ((l.filter b).map x).length ≤ lenLim := by
    rw [List.length_map]
    exact Nat.le_trans (List.length_filter_le _ _) hl
  unfold lcC
  simp only [bnd_app, obn_ok, hit, go l e0 (fun _ h => h) hw]
  rw [if_pos hlen]
/-- a loop over a script of places: what each turn does to the slots is told by a state -/
theorem forL_st {σ : Type} {g : Val → M Unit} {b : M Fl} (S : σ → En) (P : σ → Prop) {e : En} : ∀ (ds : List D), (∀ d ∈ ds, ∀ s e, e = S s → P s → ∃ e1 fl s', g (.sh d) e = .ok ((), e1) ∧ b e1 = .ok (fl, S s') ∧ (fl = .nx ∨ fl = .ct) ∧ P s') → ∀ s, P s → ∃ s', forL g b ds (S s) = .ok (.nx, S s') ∧ P s'
  | [], _, s, h => ⟨s, rfl, h⟩
  | d :: r, st, s, h => by
    obtain ⟨e1, fl, s1, h1, h2, h3, h4⟩ := st d List.mem_cons_self s _ rfl h
    obtain ⟨s2, h5, h6⟩ := forL_st (e := e) S P r (fun d hd => st d (List.mem_cons_of_mem _ hd)) s1 h4
    refine ⟨s2, ?_, h6⟩
    simp only [forL_cons, obn_ok, h1, h2]
    rcases h3 with rfl | rfl <;> exact h5
end Qv
namespace Qv
open PySem L2

/-! ### bodies (by gen2.py) -/
def B_is_integer : M Fl := seqS [rtS (bopC false [isiC "int" (nameC 0), notC (truC (isiC "bool" (nameC 0)))])]
def B_is_index (g_is_integer : Ev) : M Fl := seqS [rtS (bopC false [callV [true] g_is_integer [nameC 1], chnC (leD) (ltD) (conC (.int 0)) (nameC 1) (nameC 0)])]
def B_is_name : M Fl := seqS [ifS (bopT true [notT (truC (isiC "str" (nameC 0))), notT (cmpT (chnC (leD) (leD) (conC (.int 1)) (callC lenB [nameC 0]) (conC (.int 8))))]) (seqS [rtS (conC (.bl false))]) (seqS []), rtS (callC allB [lcN 0 [1] (iterC (nameC 0)) (asgN 1) (ret true) (binC (inD false) (nameC 1) (conC (.str "abcdefghijklmnopqrstuvwxyz")))])]
def B_are_columns (g_is_name : Ev) : M Fl := seqS [ifS (bopT true [notT (truC (isiC "tuple" (nameC 0))), cmpT (binC (gtD) (callC lenB [nameC 0]) (conC (.int 8))), notT (truC (callC allB [lcN 0 [1] (iterC (nameC 0)) (asgN 1) (ret true) (callV [false] g_is_name [nameC 1])]))]) (seqS [rtS (conC (.bl false))]) (seqS []), rtS (callC allB [lcC [2, 3] (walkC zp2B [nameC 0, sliC (nameC 0) (partC (conC (.int 1))) (noC)]) (asgU [asgN 2, asgN 3]) (ret true) (binC (ltD) (nameC 2) (nameC 3))])]
def B_is_columns (g_is_index g_are_columns : Ev) : M Fl := seqS [ifS (notT (truC (callV [true, true] g_is_index [binC addD (conC (.int 8)) (conC (.int 1)), nameC 1]))) (seqS [fail]) (seqS []), rtS (bopC false [callV [false] g_are_columns [nameC 0], binC (geD) (callC lenB [nameC 0]) (nameC 1)])]
def B_require_columns (g_are_columns : Ev) : M Fl := seqS [ifS (notT (truC (callV [false] g_are_columns [nameC 0]))) (seqS [fail]) (seqS [])]
def B_is_row_in (g_is_integer : Ev) : M Fl := seqS [rtS (bopC false [isiC "tuple" (nameC 1), binC (eqD) (callC lenB [nameC 1]) (nameC 0), callC allB [lcN 1 [2] (iterC (nameC 1)) (asgN 2) (ret true) (callV [true] g_is_integer [nameC 2])]])]
def B_is_row (g_require_columns g_is_row_in : Ev) : M Fl := seqS [drS (callV [false] g_require_columns [nameC 0]), rtS (callV [true, false] g_is_row_in [callC lenB [nameC 0], nameC 1])]
def B__law_dice : M Fl := seqS [asS (binC addD (binC mulD (conC (.int 13)) (nameC 1)) (conC (.int 6))) (asgN 2), ifS (cmpT (binC (ltD) (nameC 1) (callC lenB [nameC 0]))) (seqS [asS (ixE (nameC 0) (nameC 1)) (asgN 2)]) (seqS []), asS (binC modD (callC intB [callC absB [nameC 2]]) (binC powD (binC powD (conC (.int 10)) (conC (.int 60))) (conC (.int 12)))) (asgN 3), asS (binC addD (binC addD (binC addD (binC mulD (binC modD (callC intB [nameC 3]) (conC (.int 2147483497))) (conC (.int 40014))) (binC mulD (conC (.int 1009)) (nameC 1))) (binC mulD (conC (.int 5)) (callC intB [binC (ltD) (nameC 2) (conC (.int 0))]))) (conC (.int 29))) (asgN 4), rtS (lstC [callC maxB [conC (.int 0), binC subD (nameC 3) (binC powD (conC (.int 10)) (conC (.int 18)))], binC modD (callC intB [nameC 4]) (conC (.int 2147483489)), conC (.int 0)])]
def B__law_pull : M Fl := seqS [ifS (cmpT (binC (gtD) (ixE (nameC 0) (conC (.int 0))) (conC (.int 0)))) (seqS [asS (binC modD (callC intB [ixE (nameC 0) (conC (.int 0))]) (nameC 1)) (asgN 2), asS (binC fdivD (ixE (nameC 0) (conC (.int 0))) (nameC 1)) (asgI (nameC 0) (conC (.int 0))), rtS (nameC 2)]) (seqS []), asS (binC addD (ixE (nameC 0) (conC (.int 2))) (conC (.int 1))) (asgI (nameC 0) (conC (.int 2))), asS (binC modD (callC intB [binC addD (ixE (nameC 0) (conC (.int 1))) (binC mulD (conC (.int 1000133)) (ixE (nameC 0) (conC (.int 2))))]) (conC (.int 2305843009213693951))) (asgN 3), asS (binC mulD (binC modD (callC intB [binC mulD (nameC 3) (nameC 3)]) (conC (.int 2305843009213693921))) (nameC 3)) (asgN 4), rtS (binC modD (callC intB [binC fdivD (binC modD (callC intB [binC addD (nameC 4) (binC mulD (conC (.int 7577)) (ixE (nameC 0) (conC (.int 2))))]) (conC (.int 2305843009213693907))) (conC (.int 8192))]) (nameC 1))]
def B__law_pick (g__law_pull : Ev) : M Fl := seqS [rtS (ixE (nameC 1) (callV [true, true] g__law_pull [nameC 0, callC lenB [nameC 1]]))]
def B__law_columns (g__law_pull : Ev) : M Fl := seqS [par2 2 3 (conC (.str "abcdefghijklmnopqrstuvwxyz")) (lstC []), forS (rngC rng1B [nameC 1]) (asgN 4) (seqS [asS (ixE (nameC 2) (binC addD (binC mulD (conC (.int 2)) (nameC 4)) (callV [true, true] g__law_pull [nameC 0, conC (.int 2)]))) (asgN 5), forS (rngC rng1B [ixE (lstC [conC (.int 0), conC (.int 0), conC (.int 1), conC (.int 2)]) (callV [true, true] g__law_pull [nameC 0, conC (.int 4)])]) (asgN 6) (seqS [asS (binC addD (nameC 5) (ixE (nameC 2) (callV [true, true] g__law_pull [nameC 0, conC (.int 26)]))) (asgN 5)]), drS (appC (nameC 3) (nameC 5))]), rtS (callC tupleB [nameC 3])]
def B__law_good_name : M Fl := seqS [ifS (bopT true [notT (truC (isiC "str" (nameC 0))), cmpT (binC (eqD) (callC lenB [nameC 0]) (conC (.int 0))), cmpT (binC (gtD) (callC lenB [nameC 0]) (conC (.int 8)))]) (seqS [rtS (conC (.bl false))]) (seqS []), rtS (binC (eqD) (lcN 0 [1] (iterC (nameC 0)) (asgN 1) (cmpT (binC (inD true) (nameC 1) (conC (.str "abcdefghijklmnopqrstuvwxyz")))) (nameC 1)) (lstC []))]
def B__law_good_columns (g__law_good_name : Ev) : M Fl := seqS [ifS (bopT true [notT (truC (isiC "tuple" (nameC 0))), cmpT (binC (gtD) (callC lenB [nameC 0]) (conC (.int 8))), cmpT (binC (ltD) (callC lenB [nameC 0]) (nameC 1))]) (seqS [rtS (conC (.bl false))]) (seqS []), ifS (cmpT (binC (neD) (lcN 0 [2] (iterC (nameC 0)) (asgN 2) (notT (truC (callV [false] g__law_good_name [nameC 2]))) (nameC 2)) (lstC []))) (seqS [rtS (conC (.bl false))]) (seqS []), rtS (bopC false [binC (eqD) (callC listB [nameC 0]) (callC sortedB [lcN 0 [2] (iterC (nameC 0)) (asgN 2) (ret true) (callC strB [nameC 2])]), binC (eqD) (lenSetC (nameC 0)) (callC lenB [nameC 0])])]
def B__law_odd_value (g__law_pick : Ev) : M Fl := seqS [rtS (callV [true, true] g__law_pick [nameC 0, lstC [conC .non, conC (.bl true), conC (.bl false), conC (.int 0), conC (.int 7), negC (conC (.int 3)), binC powD (conC (.int 10)) (conC (.int 39)), lstC [], dct0C, tupC [conC .non], tupC [tupC [conC (.str "a")]], lstC [conC (.str "a")], dictC [(conC (.str "a"), conC (.int 1))], tupC [tupC []]]])]
def B__law_string (g__law_columns g__law_pull g__law_pick : Ev) : M Fl := seqS [asS (ixE (callV [true, false] g__law_columns [nameC 0, conC (.int 1)]) (conC (.int 0))) (asgN 1), asS (callV [true, true] g__law_pull [nameC 0, conC (.int 8)]) (asgN 2), ifS (cmpT (binC (eqD) (nameC 2) (conC (.int 0)))) (seqS [rtS (binC mulD (nameC 1) (conC (.int 3)))]) (seqS []), ifS (cmpT (binC (eqD) (nameC 2) (conC (.int 1)))) (seqS [rtS (callV [true, true] g__law_pick [nameC 0, lstC [conC (.str ""), conC (.str "A"), conC (.str "aB"), conC (.str "a1"), conC (.str "a_b"), conC (.str "a b"), conC (.str " a"), conC (.str "a "), conC (.str "a\n"), conC (.str "-"), conC (.str "a-b"), conC (.str "name.s")]])]) (seqS []), ifS (cmpT (binC (eqD) (nameC 2) (conC (.int 2)))) (seqS [rtS (callV [true, true] g__law_pick [nameC 0, lstC [conC (.str "abcdefgh"), conC (.str "abcdefghi"), conC (.str "zzzzzzzz"), conC (.str "zzzzzzzzz"), binC mulD (conC (.str "a")) (conC (.int 300))]])]) (seqS []), rtS (nameC 1)]
def B__law_names (g__law_columns g__law_pull g__law_pick g__law_odd_value : Ev) : M Fl := seqS [asS (callC listB [callV [true, false] g__law_columns [nameC 0, callV [true, true] g__law_pull [nameC 0, conC (.int 9)]]]) (asgN 1), asS (callV [true, true] g__law_pull [nameC 0, conC (.int 7)]) (asgN 2), ifS (cmpT (binC (eqD) (nameC 2) (conC (.int 0)))) (seqS [rtS (callC tupleB [revC (nameC 1)])]) (seqS []), ifS (cmpT (binC (eqD) (nameC 2) (conC (.int 1)))) (seqS [rtS (callC listB [nameC 1])]) (seqS []), ifS (cmpT (binC (eqD) (nameC 2) (conC (.int 2)))) (seqS [rtS (callC tupleB [binC addD (nameC 1) (sliC (nameC 1) (noC) (partC (conC (.int 1))))])]) (seqS []), ifS (cmpT (binC (eqD) (nameC 2) (conC (.int 3)))) (seqS [rtS (callC tupleB [binC addD (nameC 1) (lstC [callV [true, true] g__law_pick [nameC 0, lstC [callV [true] g__law_odd_value [nameC 0], conC (.str "Z"), conC (.str "zzzzzzzzz"), conC (.str "")]]])])]) (seqS []), ifS (cmpT (binC (eqD) (nameC 2) (conC (.int 4)))) (seqS [rtS (callC tupleB [binC addD (callC listB [callV [true, false] g__law_columns [nameC 0, conC (.int 8)]]) (sliC (lstC [conC (.str "zz"), conC (.str "zzz")]) (noC) (partC (binC addD (conC (.int 1)) (callV [true, true] g__law_pull [nameC 0, conC (.int 2)]))))])]) (seqS []), rtS (callC tupleB [nameC 1])]
def B__law_values (g__law_pick g__law_pull : Ev) : M Fl := seqS [asS (lcC [3] (rngC rng1B [nameC 1]) (asgN 3) (ret true) (callV [true, true] g__law_pick [nameC 0, lstC [conC (.int 0), conC (.int 1), negC (conC (.int 1)), conC (.int 7), binC powD (conC (.int 10)) (conC (.int 39))]])) (asgN 2), asS (callV [true, true] g__law_pull [nameC 0, conC (.int 6)]) (asgN 4), ifS (cmpT (binC (eqD) (nameC 4) (conC (.int 0)))) (seqS [rtS (callC tupleB [binC addD (nameC 2) (lstC [conC (.int 1)])])]) (seqS []), ifS (cmpT (binC (eqD) (nameC 4) (conC (.int 1)))) (seqS [rtS (callC tupleB [sliC (nameC 2) (partC (conC (.int 1))) (noC)])]) (seqS []), ifS (cmpT (binC (eqD) (nameC 4) (conC (.int 2)))) (seqS [rtS (callC listB [nameC 2])]) (seqS []), ifS (bopT false [cmpT (binC (eqD) (nameC 4) (conC (.int 3))), cmpT (binC (neD) (nameC 2) (lstC []))]) (seqS [asS (callV [true, true] g__law_pick [nameC 0, lstC [conC (.bl true), conC (.bl false), conC .non, conC (.str "1"), tupC [conC (.int 1)], lstC [], binC powD (conC (.int 10)) (conC (.int 39))]]) (asgI (nameC 2) (callV [true, true] g__law_pull [nameC 0, nameC 1]))]) (seqS []), rtS (callC tupleB [nameC 2])]
def B__law_row_due : M Fl := seqS [ifS (bopT true [notT (truC (isiC "tuple" (nameC 1))), cmpT (binC (neD) (callC lenB [nameC 1]) (nameC 0))]) (seqS [rtS (conC (.bl false))]) (seqS []), rtS (binC (eqD) (lcN 1 [2] (iterC (nameC 1)) (asgN 2) (bopT true [truC (isiC "bool" (nameC 2)), notT (truC (isiC "int" (nameC 2)))]) (nameC 2)) (lstC []))]
def B__law_strings_right (g__law_pull g__law_string g__law_odd_value g_is_name g__law_good_name : Ev) : M Fl := seqS [forS (rngC rng1B [conC (.int 6)]) (asgN 1) (seqS [asS (ifC (cmpT (binC (gtD) (callV [true, true] g__law_pull [nameC 0, conC (.int 4)]) (conC (.int 0)))) (callV [true] g__law_string [nameC 0]) (callV [true] g__law_odd_value [nameC 0])) (asgN 2), ifS (cmpT (binC (neD) (callC reprB [lstC [callV [false] g_is_name [nameC 2], callV [false] g_is_name [nameC 2]]]) (callC reprB [binC mulD (lstC [callV [false] g__law_good_name [nameC 2]]) (conC (.int 2))]))) (seqS [rtS (conC (.bl false))]) (seqS [])]), rtS (conC (.bl true))]
def B__law_columns_right (g__law_pull g__law_names g__law_odd_value g_is_columns g__law_good_columns : Ev) : M Fl := seqS [forS (rngC rng1B [conC (.int 6)]) (asgN 1) (seqS [asS (ifC (cmpT (binC (gtD) (callV [true, true] g__law_pull [nameC 0, conC (.int 5)]) (conC (.int 0)))) (callV [true] g__law_names [nameC 0]) (callV [true] g__law_odd_value [nameC 0])) (asgN 2), asS (callC reprB [nameC 2]) (asgN 3), ifS (cmpT (binC (neD) (callC reprB [callK [false, false] g_is_columns [.ps 0, .df 0 (.int 0)] 1 0 [nameC 2] []]) (callC reprB [callV [false, true] g__law_good_columns [nameC 2, conC (.int 0)]]))) (seqS [rtS (conC (.bl false))]) (seqS []), asS (lcC [5] (rngC rng1B [conC (.int 9)]) (asgN 5) (ret true) (callK [false, false] g_is_columns [.ps 0, .kw 0] 1 1 [nameC 2] [nameC 5])) (asgN 4), ifS (bopT true [cmpT (binC (neD) (callC reprB [nameC 4]) (callC reprB [lcC [5] (rngC rng1B [conC (.int 9)]) (asgN 5) (ret true) (callV [false, true] g__law_good_columns [nameC 2, nameC 5])])), cmpT (binC (neD) (callC reprB [nameC 2]) (nameC 3))]) (seqS [rtS (conC (.bl false))]) (seqS [])]), rtS (conC (.bl true))]
def B__law_rows_right (g__law_pull g__law_columns g__law_values g__law_odd_value g_is_row g__law_row_due : Ev) : M Fl := seqS [forS (rngC rng1B [conC (.int 6)]) (asgN 1) (seqS [asS (callV [true, true] g__law_pull [nameC 0, conC (.int 9)]) (asgN 2), asS (callV [true, false] g__law_columns [nameC 0, nameC 2]) (asgN 3), asS (ifC (cmpT (binC (gtD) (callV [true, true] g__law_pull [nameC 0, conC (.int 5)]) (conC (.int 0)))) (callV [true, false] g__law_values [nameC 0, nameC 2]) (callV [true] g__law_odd_value [nameC 0])) (asgN 4), asS (callC reprB [nameC 4]) (asgN 5), ifS (bopT true [cmpT (binC (neD) (callC reprB [callV [false, false] g_is_row [nameC 3, nameC 4]]) (callC reprB [callV [true, false] g__law_row_due [nameC 2, nameC 4]])), cmpT (binC (neD) (callC reprB [nameC 4]) (nameC 5))]) (seqS [rtS (conC (.bl false))]) (seqS [])]), rtS (conC (.bl true))]
def B_law (g__law_dice g__law_strings_right g__law_columns_right g__law_rows_right g_is_name g_is_columns g_is_row : Ev) : M Fl := seqS [forS (rngC rng1B [callC maxB [conC (.int 1), callC minB [conC (.int 10), callC lenB [nameC 0]]]]) (asgN 1) (seqS [asS (callV [true, false] g__law_dice [nameC 0, nameC 1]) (asgN 2), ifS (bopT true [notT (truC (callV [true] g__law_strings_right [nameC 2])), notT (truC (callV [true] g__law_columns_right [nameC 2])), notT (truC (callV [true] g__law_rows_right [nameC 2]))]) (seqS [rtS (conC (.bl false))]) (seqS [])]), asS (conC (.str "abcdefghijklmnopqrstuvwxyz")) (asgN 3), ifS (bopT true [cmpT (binC (neD) (lcN 3 [4] (iterC (nameC 3)) (asgN 4) (notT (truC (callV [false] g_is_name [nameC 4]))) (nameC 4)) (lstC [])), truC (callV [false] g_is_name [sliC (nameC 3) (noC) (partC (conC (.int 9)))]), notT (truC (callV [false] g_is_name [sliC (nameC 3) (partC (conC (.int 18))) (noC)]))]) (seqS [rtS (conC (.bl false))]) (seqS []), asS (tupC [conC (.str "a"), conC (.str "b"), conC (.str "c"), conC (.str "d"), conC (.str "e"), conC (.str "f"), conC (.str "g"), conC (.str "h")]) (asgN 5), asS (lstC [callK [false, false] g_is_columns [.ps 0, .kw 0] 1 1 [nameC 5] [conC (.int 8)], callK [false, false] g_is_columns [.ps 0, .df 0 (.int 0)] 1 0 [binC addD (nameC 5) (tupC [conC (.str "i")])] [], callK [false, false] g_is_columns [.ps 0, .df 0 (.int 0)] 1 0 [tupC []] [], callK [false, false] g_is_columns [.ps 0, .kw 0] 1 1 [tupC []] [conC (.int 1)]]) (asgN 6), asS (binC addD (nameC 6) (lstC [callV [false, false] g_is_row [tupC [], tupC []], callV [false, false] g_is_row [tupC [], tupC [conC (.int 1)]], callV [false, false] g_is_row [nameC 5, binC mulD (tupC [conC (.int 0)]) (conC (.int 8))], callK [false, false] g_is_columns [.ps 0, .df 0 (.int 0)] 1 0 [tupC [conC (.str "a"), conC (.str "aa"), conC (.str "ab"), conC (.str "b")]] []])) (asgN 6), rtS (binC (eqD) (nameC 6) (lstC [conC (.bl true), conC (.bl false), conC (.bl true), conC (.bl false), conC (.bl true), conC (.bl false), conC (.bl true), conC (.bl true)]))]
end Qv
namespace Qv
open PySem L2

/-! ### data that can be compared and shown: dep deep, w signs -/
structure NC (dep w : Nat) (d : D) : Prop where
  pl : d.pl = true
  lay : d.py.canLay0 = true
  sh : d.py.showable = true
  len : d.py.shown.length ≤ w
  dep : d.py.depth ≤ dep
theorem NC.mono {a b w v : Nat} {d : D} (h : NC a w d) (h1 : a ≤ b) (h2 : w ≤ v) : NC b v d := ⟨h.pl, h.lay, h.sh, Nat.le_trans h.len h2, Nat.le_trans h.dep h1⟩
theorem NC.repr {a w : Nat} {d : D} (h : NC a w d) (h1 : a ≤ 64) (h2 : w ≤ lenLim) : reprD d = some d.py.shown := by
  unfold reprD
  have h3 := Nat.le_trans h.len h2
  have h4 := Nat.le_trans h.dep h1
  rw [if_pos (by simp [h.pl, h.lay, h.sh, h3, h4])]
theorem NC.reprB {a w : Nat} {d : D} (h : NC a w d) (h1 : a ≤ 64) (h2 : w ≤ lenLim) : reprB [d] = some (.sh (.str d.py.shown)) := by
  show (reprD d).map _ = _
  rw [h.repr h1 h2]
  rfl
theorem NC.ok {a w : Nat} {d : D} (h : NC a w d) (h1 : a ≤ 64) : eqOk d = true := by
  unfold eqOk
  have h4 := Nat.le_trans h.dep h1
  have : SeqAt.shaped d.py = true := by
    show (d.py.canLay0 && decide (d.py.depth ≤ 64)) = true
    simp [h.lay, h4]
  simp [h.pl, this]
theorem NC.eq {a w b v : Nat} {x y : D} (h : NC a w x) (h' : NC b v y) (h1 : a ≤ 64) (h2 : b ≤ 64) : eqD x y = some (.sh (.bl (PyData.eqv x.py y.py))) := by
  unfold eqD
  split
  · rename_i a b
    show _ = some (Val.sh (.bl (a == b)))
    by_cases z : a = b <;> simp [z]
  · rw [h.ok h1, h'.ok h2]
    rfl
theorem NC.ne {a w b v : Nat} {x y : D} (h : NC a w x) (h' : NC b v y) (h1 : a ≤ 64) (h2 : b ≤ 64) : neD x y = some (.sh (.bl (!PyData.eqv x.py y.py))) := by
  unfold neD
  split
  · rename_i a b
    show _ = some (Val.sh (.bl (!(a == b))))
    by_cases z : a = b <;> simp [z]
  · rw [h.ok h1, h'.ok h2]
    rfl
theorem NC.refl {a w : Nat} {d : D} (h : NC a w d) : PyData.eqv d.py d.py = true := SeqAt.eqv_refl d.py h.lay
theorem nc_int {i : Int} {k : Nat} (h : i.natAbs < 10 ^ k) (hk : 0 < k) (hk2 : k ≤ 500) : NC 0 (k + 1) (.int i) := by
  refine ⟨rfl, rfl, ?_, ?_, Nat.le_refl 0⟩
  · show decide (i.natAbs.log2 < 1920) = true
    refine decide_eq_true (log2_lt (Nat.lt_of_lt_of_le h ?_) (by decide))
    calc 10 ^ k ≤ 10 ^ 500 := Nat.pow_le_pow_right (by decide) hk2
      _ ≤ 2 ^ 1920 := by decide +kernel
  · show (Str.ofString (toString i)).length ≤ k + 1
    have := int_text_length_le10 hk h
    rw [ofString_length]; exact this
theorem nc_str {s : Str} {k : Nat} (h : s.length ≤ k) (hc : ∀ c ∈ s.cps.toList, c < 0x110000) : NC 0 (10 * k + 2) (.str s) := by
  refine ⟨rfl, ?_, rfl, ?_, Nat.le_refl 0⟩
  · show s.cps.all (· < 0x110000) = true
    rw [← Array.all_toList]
    exact List.all_eq_true.mpr fun c h => decide_eq_true (hc c h)
  · have := StrLaws.reprText_len s fun c h => Nat.lt_of_lt_of_le (hc c h) (by decide)
    show (reprText s).length ≤ _
    omega
theorem nc_bl (b : Bool) : NC 0 5 (.bl b) := ⟨rfl, rfl, rfl, by cases b <;> decide +kernel, Nat.le_refl 0⟩
theorem nc_non : NC 0 4 .non := ⟨rfl, rfl, rfl, by decide +kernel, Nat.le_refl 0⟩
theorem shAll_eq : ∀ l : List D, PyData.shownAll (pyL l) = l.map fun d => d.py.shown
  | [] => rfl
  | d :: l => by rw [pyL, PyData.shownAll, shAll_eq l]; rfl
theorem nc_all {a w : Nat} : ∀ {l : List D}, (∀ d ∈ l, NC a w d) → plL l = true ∧ PyData.canLayAll0 (pyL l) = true ∧ PyData.showableAll (pyL l) = true ∧ PyData.depthAll (pyL l) ≤ a ∧ piled (PyData.shownAll (pyL l)) ≤ l.length * (w + 2)
  | [], _ => ⟨rfl, rfl, rfl, Nat.zero_le _, Nat.zero_le _⟩
  | d :: l, h => by
    obtain ⟨h1, h2, h3, h4, h5⟩ := nc_all fun x hx => h x (List.mem_cons_of_mem _ hx)
    have q := h d List.mem_cons_self
    refine ⟨by simp [plL, q.pl, h1], by simp [pyL, PyData.canLayAll0, q.lay, h2], by simp [pyL, PyData.showableAll, q.sh, h3], ?_, ?_⟩
    · rw [pyL, PyData.depthAll]
      exact Nat.max_le.mpr ⟨q.dep, h4⟩
    · rw [pyL, PyData.shownAll, piled_cons, List.length_cons]
      have := q.len
      rw [Nat.add_mul]
      omega
theorem nc_tup {a w : Nat} {l : List D} (h : ∀ d ∈ l, NC a w d) : NC (a + 1) (l.length * (w + 2) + 4) (.tup l) := by
  obtain ⟨h1, h2, h3, h4, h5⟩ := nc_all h
  refine ⟨h1, h2, h3, ?_, Nat.succ_le_succ h4⟩
  show (tupleText (PyData.shownAll (pyL l))).length ≤ _
  unfold tupleText
  rw [strLen_append, strLen_append]
  by_cases z : PyData.shownAll (pyL l) = []
  · rw [z]
    show 1 + 0 + 1 ≤ _
    omega
  · have j := join_length_add _ z
    have e1 : (("(" : String) : Str).length = 1 := rfl
    have e2 : ((if (PyData.shownAll (pyL l)).length == 1 then ",)" else ")" : String) : Str).length ≤ 2 := by split <;> decide +kernel
    omega
theorem nc_lst {a w : Nat} {l : List D} (h : ∀ d ∈ l, NC a w d) : NC (a + 1) (l.length * (w + 2) + 4) (.lst l) := by
  obtain ⟨h1, h2, h3, h4, h5⟩ := nc_all h
  refine ⟨h1, h2, h3, ?_, Nat.succ_le_succ h4⟩
  show (textFrom 0 "[" (PyData.shownAll (pyL l)) ++ (("]" : String) : Str)).length ≤ _
  rw [strLen_append]
  have e1 : (("]" : String) : Str).length = 1 := rfl
  have e0 : (("[" : String) : Str).length = 1 := rfl
  cases q : PyData.shownAll (pyL l) with
  | nil =>
    show (("[" : String) : Str).length + _ ≤ _
    omega
  | cons t r =>
    show (textFrom 1 ((("[" : String) : Str) ++ (("" : String) : Str) ++ t) r).length + _ ≤ _
    rw [textFrom_length_pos _ _ _ (by decide), strLen_append, strLen_append]
    have e3 : (("" : String) : Str).length = 0 := rfl
    rw [q, piled_cons] at h5
    omega

/-! ### names, columns, rows -/
def Nm (s : Str) : Prop := 1 ≤ s.length ∧ s.length ≤ 8 ∧ ∀ c ∈ s.cps.toList, 97 ≤ c ∧ c ≤ 122
def sL (cs : List Str) : List D := cs.map D.str
def iL (r : List Int) : List D := r.map D.int
def Asc (cs : List Str) : Prop := cs.Pairwise fun a b => a.cps.toList < b.cps.toList
structure Cols (cs : List Str) : Prop where
  len : cs.length ≤ 8
  nm : ∀ s ∈ cs, Nm s
  asc : Asc cs
theorem signs_mem {c : Nat} (h1 : 97 ≤ c) (h2 : c ≤ 122) : c ∈ (("abcdefghijklmnopqrstuvwxyz" : String) : Str).cps.toList := by
  have e : (("abcdefghijklmnopqrstuvwxyz" : String) : Str).cps.toList = List.range' 97 26 := by decide +kernel
  rw [e, List.mem_range']
  exact ⟨c - 97, by omega, by omega⟩
@[simp] theorem kit_ss : kitB "str" "str" = some true := by decide +kernel
@[simp] theorem kit_tt : kitB "tuple" "tuple" = some true := by decide +kernel
@[simp] theorem kit_ii : kitB "int" "int" = some true := by decide +kernel
@[simp] theorem kit_ib : kitB "int" "bool" = some false := by decide +kernel
theorem flat_sL : ∀ cs : List Str, flatL (sL cs) = some (cs.map V.str)
  | [] => rfl
  | s :: cs => by
    show flatL (D.str s :: sL cs) = _
    unfold flatL
    rw [flat_sL cs]
    rfl
@[simp] theorem len_sL (cs : List Str) : (sL cs).length = cs.length := by simp [sL]
@[simp] theorem len_iL (cs : List Int) : (iL cs).length = cs.length := by simp [iL]
/-! ### the dice -/
def dic (a b c : Int) : D := .lst [.int a, .int b, .int c]
/-- at most N pulls so far -/
def Di (N : Nat) (d : D) : Prop := ∃ a b c : Int, d = dic a b c ∧ 0 ≤ a ∧ 0 ≤ b ∧ b < 2147483489 ∧ 0 ≤ c ∧ c ≤ N
theorem Di.mono {N M : Nat} {d : D} (h : Di N d) (l : N ≤ M) : Di M d := by
  obtain ⟨a, b, c, h0, h1, h2, h3, h4, h5⟩ := h
  exact ⟨a, b, c, h0, h1, h2, h3, h4, by omega⟩
def OkPull (ev : Ev) : Prop := ∀ (N : Nat) (d : D) (t : Int), Di N d → N < 2 ^ 60 → 0 < t → t < 2 ^ 200 → ∃ r d', ev [.ow true d, .sh (.int t)] = .ok (.sh (.int r), [.ow true d', .em]) ∧ Di (N + 1) d' ∧ 0 ≤ r ∧ r < t
theorem ix0 (a b c : Int) : ixD (dic a b c) (.int 0) = some (.int a) := rfl
theorem ix1 (a b c : Int) : ixD (dic a b c) (.int 1) = some (.int b) := rfl
theorem ix2 (a b c : Int) : ixD (dic a b c) (.int 2) = some (.int c) := rfl
theorem nat_lt400 {i : Int} {k : Nat} (h : i.natAbs < k) (hk : k ≤ 2 ^ 400) : i.natAbs < 2 ^ 400 := Nat.lt_of_lt_of_le h hk
theorem ok_pull : OkPull (evF 5 2 B__law_pull) := by
  intro N d t hd hN ht ht2
  obtain ⟨a, b, c, rfl, ha, hb, hb2, hc, hc2⟩ := hd
  have tl : t.natAbs.log2 < 9000 := log2_lt (k := 9000) (Nat.lt_of_lt_of_le (show t.natAbs < 2 ^ 200 by omega) (Nat.pow_le_pow_right (by decide) (by decide))) (by decide)
  by_cases h : 0 < a
  · refine ⟨a % t, dic (a / t) b c, ?_, ⟨_, _, _, rfl, Int.ediv_nonneg ha (by omega), hb, hb2, hc, by omega⟩, Int.emod_nonneg _ (by omega), Int.emod_lt_of_pos _ ht⟩
    have ix := ix0 a b c
    have ix' := ix0 (a / t) b c
    unfold dic at ix ix' ⊢
    simp [B__law_pull, ix, h, mod_int ht, fdiv_int ht tl, ixN]
  · have m1 : mulD (.int 1000133) (.int (c + 1)) = some (.sh (.int (1000133 * (c + 1)))) := mul_int (by decide) (nat_lt400 (k := 2 ^ 62) (by omega) (by decide))
    have p1 : (0 : Int) < 2305843009213693951 := by decide
    have p2 : (0 : Int) < 2305843009213693921 := by decide
    have p3 : (0 : Int) < 2305843009213693907 := by decide
    generalize hone : (b + 1000133 * (c + 1)) % 2305843009213693951 = one
    have one0 : 0 ≤ one ∧ one < 2305843009213693951 := by rw [← hone]; exact ⟨Int.emod_nonneg _ (by decide), Int.emod_lt_of_pos _ p1⟩
    have m2 : mulD (.int one) (.int one) = some (.sh (.int (one * one))) := mul_int (nat_lt400 (k := 2 ^ 62) (by omega) (by decide)) (nat_lt400 (k := 2 ^ 62) (by omega) (by decide))
    generalize htw : (one * one) % 2305843009213693921 = two
    have two0 : 0 ≤ two ∧ two < 2305843009213693921 := by rw [← htw]; exact ⟨Int.emod_nonneg _ (by decide), Int.emod_lt_of_pos _ p2⟩
    have m3 : mulD (.int two) (.int one) = some (.sh (.int (two * one))) := mul_int (nat_lt400 (k := 2 ^ 62) (by omega) (by decide)) (nat_lt400 (k := 2 ^ 62) (by omega) (by decide))
    have m4 : mulD (.int 7577) (.int (c + 1)) = some (.sh (.int (7577 * (c + 1)))) := mul_int (by decide) (nat_lt400 (k := 2 ^ 62) (by omega) (by decide))
    have d8 := fdiv_int (i := (two * one + 7577 * (c + 1)) % 2305843009213693907) (j := 8192) (by decide) (by decide +kernel)
    have mm1 := mod_int (i := b + 1000133 * (c + 1)) p1
    have mm2 := mod_int (i := one * one) p2
    have mm3 := mod_int (i := two * one + 7577 * (c + 1)) p3
    have mm4 := mod_int (i := (two * one + 7577 * (c + 1)) % 2305843009213693907 / 8192) ht
    rw [hone] at mm1
    rw [htw] at mm2
    refine ⟨((two * one + 7577 * (c + 1)) % 2305843009213693907 / 8192) % t, dic a b (c + 1), ?_, ⟨_, _, _, rfl, ha, hb, hb2, by omega, by omega⟩, Int.emod_nonneg _ (by omega), Int.emod_lt_of_pos _ ht⟩
    have i0 := ix0 a b c
    have i2 := ix2 a b c
    have i2' := ix2 a b (c + 1)
    have i1' := ix1 a b (c + 1)
    unfold dic at i0 i2 i1' i2' ⊢
    simp [B__law_pull, i0, i2, i1', i2', h, m1, m2, m3, m4, d8, mm1, mm2, mm3, mm4, ixN]

theorem set_self {i : Nat} {e : En} {s : Slot} (h : e[i]? = some s) : e.set i s = e := by
  apply List.ext_getElem?
  intro k
  by_cases hk : k = i
  · subst hk
    rw [getElem?_setB (List.getElem?_eq_some_iff.mp h).1, h]
  · rw [set_ne hk]
theorem pull_at {ev : Ev} (h : OkPull ev) {N k : Nat} {e : En} {b : Bool} {d : D} {t : Int} {ft : M Val} (hk : e[k]? = some (.ow b d)) (hd : Di N d) (hN : N < 2 ^ 60) (hft : ft e = .ok (.sh (.int t), e)) (ht : 0 < t) (ht2 : t < 2 ^ 200) :
    ∃ r d', callV [true, true] ev [nameC k, ft] e = .ok (.sh (.int r), e.set k (.ow b d')) ∧ Di (N + 1) d' ∧ 0 ≤ r ∧ r < t := by
  obtain ⟨r, d', h1, h3, h4, h5⟩ := h N d t hd hN ht ht2
  exact ⟨r, d', by simp [hk, hft, h1], h3, h4, h5⟩
theorem atI_mem {l : List D} {r : Int} (h0 : 0 ≤ r) (h1 : r < l.length) : ∃ x, atI l r = some x ∧ x ∈ l ∧ l[r.toNat]? = some x := by
  have hr : r.toNat < l.length := by omega
  have e : ixN l.length r = some r.toNat := by
    unfold ixN
    simp [h0, hr]
    try omega
  refine ⟨l[r.toNat], ?_, List.getElem_mem hr, by simp [hr]⟩
  unfold atI
  rw [e]
  simp [hr]
def OkPick (ev : Ev) : Prop := ∀ (N : Nat) (d : D) (l : List D), Di N d → N < 2 ^ 60 → 0 < l.length → l.length < 2 ^ 60 → ∀ s : Slot, (s = .ow true (.lst l) ∨ s = .sh (.lst l)) → ∃ x d', ev [.ow true d, s] = .ok (.sh x, [.ow true d', s.nrm]) ∧ Di (N + 1) d' ∧ x ∈ l
theorem ok_pick {g : Ev} (h : OkPull g) : OkPick (evF 2 2 (B__law_pick g)) := by
  intro N d l hd hN h0 hl s hs
  rcases hs with rfl | rfl
  · obtain ⟨r, d', h1, h2, h3, h4⟩ := pull_at h (k := 0) (e := [.ow true d, .ow true (.lst l)]) (ft := callC lenB [nameC 1]) (t := l.length) rfl hd hN (by simp) (by omega) (by omega)
    obtain ⟨x, h5, h6, _⟩ := atI_mem h3 h4
    have h7 : ixD (.lst l) (.int r) = some x := h5
    exact ⟨x, d', by simp [B__law_pick, h1, h7, -callV_app], h2, h6⟩
  · obtain ⟨r, d', h1, h2, h3, h4⟩ := pull_at h (k := 0) (e := [.ow true d, .sh (.lst l)]) (ft := callC lenB [nameC 1]) (t := l.length) rfl hd hN (by simp) (by omega) (by omega)
    obtain ⟨x, h5, h6, _⟩ := atI_mem h3 h4
    have h7 : ixD (.lst l) (.int r) = some x := h5
    exact ⟨x, d', by simp [B__law_pick, h1, h7, -callV_app], h2, h6⟩
/-- one of a list that is written there -/
theorem pick_at {ev : Ev} (h : OkPick ev) {N k : Nat} {e e2 : En} {b b2 : Bool} {d d2 : D} {l : List D} {fl : M Val} (hk : e[k]? = some (.ow b d)) (hl : fl e = .ok (.fr (.lst l), e2)) (hk2 : e2[k]? = some (.ow b2 d2)) (hd : Di N d2) (hN : N < 2 ^ 60) (h0 : 0 < l.length) (hl2 : l.length < 2 ^ 60) :
    ∃ x d', callV [true, true] ev [nameC k, fl] e = .ok (.sh x, e2.set k (.ow b2 d')) ∧ Di (N + 1) d' ∧ x ∈ l := by
  obtain ⟨x, d', h1, h2, h3⟩ := h N d2 l hd hN h0 hl2 (.sh (.lst l)) (.inr rfl)
  exact ⟨x, d', by simp [hk, hl, hk2, h1], h2, h3⟩
/-! ### columns made -/
def wd (l : List Nat) : Str := ⟨l.toArray⟩
@[simp] theorem wd_len (l : List Nat) : (wd l).length = l.length := by simp [wd, Str.length]
@[simp] theorem wd_list (l : List Nat) : (wd l).cps.toList = l := rfl
@[simp] theorem wd_cat (l m : List Nat) : wd l ++ wd m = wd (l ++ m) := by
  show (⟨l.toArray ++ m.toArray⟩ : Str) = _
  simp [wd]
theorem add_wd {l m : List Nat} (h : l.length + m.length ≤ lenLim) : addD (.str (wd l)) (.str (wd m)) = some (.sh (.str (wd (l ++ m)))) := by
  show (if (wd l).length + (wd m).length ≤ lenLim then _ else _) = _
  rw [if_pos (by simpa using h), wd_cat]
theorem sign_at {i : Int} (h0 : 0 ≤ i) (h1 : i < 26) : ixD (.str "abcdefghijklmnopqrstuvwxyz") (.int i) = some (.str (wd [97 + i.toNat])) := by
  have e : (("abcdefghijklmnopqrstuvwxyz" : String) : Str).cps.toList = List.range' 97 26 := by decide +kernel
  have el : (("abcdefghijklmnopqrstuvwxyz" : String) : Str).length ≤ lenLim := by decide +kernel
  show (if (("abcdefghijklmnopqrstuvwxyz" : String) : Str).length ≤ lenLim then (atI (("abcdefghijklmnopqrstuvwxyz" : String) : Str).cps.toList i).map (fun c => D.str ⟨#[c]⟩) else none) = _
  rw [if_pos el, e]
  have : ixN (List.range' 97 26).length i = some i.toNat := by
    unfold ixN
    simp [h0]
    omega
  unfold atI
  rw [this]
  have hr : i.toNat < 26 := by omega
  show ((List.range' 97 26)[i.toNat]?).map _ = _
  rw [List.getElem?_range' hr]
  simp [wd]
theorem few_ix {r : Int} (h0 : 0 ≤ r) (h1 : r < 4) : ∃ k : Nat, k ≤ 2 ∧ ixD (.lst [.int 0, .int 0, .int 1, .int 2]) (.int r) = some (.int (k : Nat)) := by
  have : r = 0 ∨ r = 1 ∨ r = 2 ∨ r = 3 := by omega
  rcases this with rfl | rfl | rfl | rfl
  · exact ⟨0, by omega, rfl⟩
  · exact ⟨0, by omega, rfl⟩
  · exact ⟨1, by omega, rfl⟩
  · exact ⟨2, by omega, rfl⟩
theorem rng1_nat (n : Nat) (h : n < 2 ^ 60) : rng1B [.int (n : Nat)] = some (rngD 0 n) := by
  simp only [rng1B]
  rw [if_pos (by omega), Int.toNat_natCast]
theorem rngD_at {n : Nat} {done rest : List D} {d : D} (h : done ++ d :: rest = rngD 0 n) : d = .int (done.length : Nat) ∧ done.length < n := by
  have hl : (rngD 0 n).length = n := by simp [rngD]
  have e : (rngD 0 n)[done.length]? = some d := by rw [← h]; simp
  have hlt : done.length < n := by
    have := congrArg List.length h
    rw [hl] at this
    simp at this
    omega
  refine ⟨?_, hlt⟩
  unfold rngD at e
  rw [List.getElem?_map, List.getElem?_range hlt] at e
  cases e
  simp
def Low (l : List Nat) : Prop := ∀ c ∈ l, 97 ≤ c ∧ c ≤ 122
def OkMk (ev : Ev) : Prop := ∀ (N : Nat) (d : D) (n : Nat), Di N d → N < 2 ^ 59 → n ≤ 8 → ∃ cs d', ev [.ow true d, .sh (.int (n : Nat))] = .ok (.sh (.tup (sL cs)), [.ow true d', .em]) ∧ Di (N + 40) d' ∧ Cols cs ∧ cs.length = n
theorem ok_mk {g : Ev} (h : OkPull g) : OkMk (evF 7 2 (B__law_columns g)) := by
  intro N d n hd hN hn
  have sgat : ∀ i : Int, 0 ≤ i → i < 26 → ixKD (.str "abcdefghijklmnopqrstuvwxyz") (.int i) = some (.str (wd [97 + i.toNat])) := fun i => sign_at
  unfold B__law_columns
  generalize (D.str "abcdefghijklmnopqrstuvwxyz") = sg at sgat ⊢
  have outer : ∃ e', forL (asgN 4) (seqS [asS (ixE (nameC 2) (binC addD (binC mulD (conC (.int 2)) (nameC 4)) (callV [true, true] g [nameC 0, conC (.int 2)]))) (asgN 5), forS (rngC rng1B [ixE (lstC [conC (.int 0), conC (.int 0), conC (.int 1), conC (.int 2)]) (callV [true, true] g [nameC 0, conC (.int 4)])]) (asgN 6) (seqS [asS (binC addD (nameC 5) (ixE (nameC 2) (callV [true, true] g [nameC 0, conC (.int 26)]))) (asgN 5)]), drS (appC (nameC 3) (nameC 5))])
      (rngD 0 n) [.ow true d, .sh (.int (n : Nat)), .sh sg, .ow false (.lst []), .em, .em, .em] = .ok (.nx, e') ∧ ∃ (d' : D) (cs : List Str) (o4 o5 o6 : Option D), Di (N + 4 * (rngD 0 n).length) d' ∧ e' = [.ow true d', .sh (.int (n : Nat)), .sh sg, .ow false (.lst (sL cs)), op o4, op o5, op o6] ∧ cs.length = (rngD 0 n).length ∧ (∀ s ∈ cs, Nm s) ∧ Asc cs ∧ ∀ s ∈ cs, ∃ c r, s = wd (c :: r) ∧ c < 97 + 2 * (rngD 0 n).length := by
    refine forL_rule (fun done e => ∃ (d' : D) (cs : List Str) (o4 o5 o6 : Option D), Di (N + 4 * done.length) d' ∧ e = [.ow true d', .sh (.int (n : Nat)), .sh sg, .ow false (.lst (sL cs)), op o4, op o5, op o6] ∧ cs.length = done.length ∧ (∀ s ∈ cs, Nm s) ∧ Asc cs ∧ ∀ s ∈ cs, ∃ c r, s = wd (c :: r) ∧ c < 97 + 2 * done.length) ?_ ⟨d, [], none, none, none, hd, rfl, rfl, (fun s hs => by cases hs), .nil, fun s hs => by cases hs⟩
    rintro done x rest e hx ⟨d1, cs, o4, o5, o6, hd1, rfl, hlen, hnm, hasc, hfst⟩
    obtain ⟨rfl, hlt⟩ := rngD_at hx
    generalize hk : done.length = k at *
    -- the first sign
    obtain ⟨r1, d2, p1, hd2, r10, r11⟩ := pull_at h (k := 0) (e := [.ow true d1, .sh (.int (n : Nat)), .sh sg, .ow false (.lst (sL cs)), .sh (.int (k : Nat)), op o5, op o6]) (ft := conC (.int 2)) (t := 2) rfl hd1 (by omega) rfl (by omega) (by omega)
    have m1 : mulD (.int 2) (.int (k : Nat)) = some (.sh (.int (2 * (k : Nat)))) := mul_int (by decide) (nat_lt400 (k := 100) (by omega) (by decide))
    have s1 := sgat (2 * (k : Nat) + r1) (by omega) (by omega)
    generalize hc : 97 + (2 * (k : Int) + r1).toNat = c at *
    have hc1 : 97 + 2 * k ≤ c ∧ c < 97 + 2 * (k + 1) := by omega
    -- how many more
    obtain ⟨r2, d3, p2, hd3, r20, r21⟩ := pull_at h (k := 0) (e := [.ow true d2, .sh (.int (n : Nat)), .sh sg, .ow false (.lst (sL cs)), .sh (.int (k : Nat)), .sh (.str (wd [c])), op o6]) (ft := conC (.int 4)) (t := 4) rfl hd2 (by omega) rfl (by omega) (by omega)
    obtain ⟨m, hm, ix⟩ := few_ix r20 r21
    obtain ⟨e6, q1, d4, l, o6', hd4, rfl, hl1, hl2, hl3⟩ : ∃ e6, forL (asgN 6) (seqS [asS (binC addD (nameC 5) (ixE (nameC 2) (callV [true, true] g [nameC 0, conC (.int 26)]))) (asgN 5)]) (rngD 0 m) [.ow true d3, .sh (.int (n : Nat)), .sh sg, .ow false (.lst (sL cs)), .sh (.int (k : Nat)), .sh (.str (wd [c])), op o6] = .ok (.nx, e6) ∧
        ∃ (d4 : D) (l : List Nat) (o6' : Option D), Di (N + 4 * k + 2 + (rngD 0 m).length) d4 ∧ e6 = [.ow true d4, .sh (.int (n : Nat)), .sh sg, .ow false (.lst (sL cs)), .sh (.int (k : Nat)), .sh (.str (wd (c :: l))), op o6'] ∧ l.length = (rngD 0 m).length ∧ Low l ∧ True := by
      refine forL_rule (fun done2 e => ∃ (d4 : D) (l : List Nat) (o6' : Option D), Di (N + 4 * k + 2 + done2.length) d4 ∧ e = [.ow true d4, .sh (.int (n : Nat)), .sh sg, .ow false (.lst (sL cs)), .sh (.int (k : Nat)), .sh (.str (wd (c :: l))), op o6'] ∧ l.length = done2.length ∧ Low l ∧ True) ?_ ⟨d3, [], o6, hd3, rfl, rfl, (fun c hc => by cases hc), trivial⟩
      rintro done2 y rest2 e hy ⟨d4, l, o6', hd4, rfl, hl1, hl2, _⟩
      obtain ⟨rfl, hlt2⟩ := rngD_at hy
      obtain ⟨r3, d5, p3, hd5, r30, r31⟩ := pull_at h (k := 0) (e := [.ow true d4, .sh (.int (n : Nat)), .sh sg, .ow false (.lst (sL cs)), .sh (.int (k : Nat)), .sh (.str (wd (c :: l))), .sh (.int (done2.length : Nat))]) (ft := conC (.int 26)) (t := 26) rfl hd4 (by omega) rfl (by omega) (by omega)
      have s3 := sgat r3 r30 r31
      have a3 := add_wd (l := c :: l) (m := [97 + r3.toNat]) (le_lim (by simp [hl1]; omega))
      refine ⟨[.ow true d4, .sh (.int (n : Nat)), .sh sg, .ow false (.lst (sL cs)), .sh (.int (k : Nat)), .sh (.str (wd (c :: l))), .sh (.int (done2.length : Nat))], .nx, [.ow true d5, .sh (.int (n : Nat)), .sh sg, .ow false (.lst (sL cs)), .sh (.int (k : Nat)), .sh (.str (wd (c :: l ++ [97 + r3.toNat]))), .sh (.int (done2.length : Nat))], by simp, ?_, .inl rfl, d5, l ++ [97 + r3.toNat], some (.int (done2.length : Nat)), ?_, rfl, by simp [hl1], ?_, trivial⟩
      · simp [p3, s3, a3, -callV_app]
      · simpa [Nat.add_assoc] using hd5
      · intro z hz
        rcases List.mem_append.mp hz with hz | hz
        · exact hl2 z hz
        · have : z = 97 + r3.toNat := by simpa using hz
          omega
    have hlm : l.length ≤ 2 := by rw [hl1]; simpa [rngD] using hm
    have nm : Nm (wd (c :: l)) := by
      refine ⟨by simp, by simp; omega, fun z hz => ?_⟩
      rcases List.mem_cons.mp (show z ∈ c :: l from hz) with rfl | hz
      · omega
      · exact hl2 z hz
    refine ⟨[.ow true d1, .sh (.int (n : Nat)), .sh sg, .ow false (.lst (sL cs)), .sh (.int (k : Nat)), op o5, op o6], .nx, [.ow true d4, .sh (.int (n : Nat)), .sh sg, .ow false (.lst (sL (cs ++ [wd (c :: l)]))), .sh (.int (k : Nat)), .sh (.str (wd (c :: l))), op o6'], by simp, ?_, .inl rfl, d4, cs ++ [wd (c :: l)], some (.int (k : Nat)), some (.str (wd (c :: l))), o6', ?_, rfl, by simp [hlen, hk], ?_, ?_, ?_⟩
    · have ll : cs.length < 1000 := by omega
      have e7 : sL cs ++ [D.str (wd (c :: l))] = sL (cs ++ [wd (c :: l)]) := by simp [sL]
      simp [p1, m1, s1, p2, ix, rng1_nat m (by omega), q1, ll, e7, -callV_app]
    · exact hd4.mono (by simp [rngD, hk]; omega)
    · intro s hs
      rcases List.mem_append.mp hs with hs | hs
      · exact hnm s hs
      · have : s = wd (c :: l) := by simpa using hs
        rw [this]; exact nm
    · refine List.pairwise_append.mpr ⟨hasc, List.pairwise_singleton .., fun a ha b hb => ?_⟩
      have : b = wd (c :: l) := by simpa using hb
      subst this
      obtain ⟨c', r', rfl, hlt'⟩ := hfst a ha
      exact List.Lex.rel (by omega)
    · intro s hs
      rcases List.mem_append.mp hs with hs | hs
      · obtain ⟨c', r', h1, h2⟩ := hfst s hs
        exact ⟨c', r', h1, by simp [hk]; omega⟩
      · have : s = wd (c :: l) := by simpa using hs
        exact ⟨c, l, this, by simp [hk]; omega⟩
  obtain ⟨e', q, d', cs, o4, o5, o6, hd', rfl, hl, hnm, hasc, _⟩ := outer
  have hrl : (rngD 0 n).length = n := by simp [rngD]
  rw [hrl] at hl hd'
  refine ⟨cs, d', ?_, hd'.mono (by omega), ⟨by omega, hnm, hasc⟩, hl⟩
  have e0 : sL [] = [] := rfl
  simp [rng1_nat n (by omega), q, -callV_app]
def OkDice (ev : Ev) : Prop := ∀ (ns : List Int) (k : Nat), k < 10 → ∃ d, ev [.sh (.scr ns), .sh (.int (k : Nat))] = .ok (.fr d, [.em, .em]) ∧ Di 0 d
theorem ix_scr {ns : List Int} {k : Nat} (h : k < ns.length) : ixD (.scr ns) (.int (k : Nat)) = some (.int ns[k]) := by
  have e : ixN ns.length (k : Int) = some k := by unfold ixN; simp [h]
  show (atI ns (k : Int)).map D.int = _
  unfold atI
  rw [e]
  show (ns[k]?).map D.int = _
  simp [h]
theorem ok_dice : OkDice (evF 5 2 B__law_dice) := by
  intro ns k hk
  obtain ⟨q1, hq1, q2, hq2, q0⟩ : ∃ q1 : Int, powD (.int 10) (.int 60) = some (.sh (.int q1)) ∧ ∃ q2 : Int, powD (.int q1) (.int 12) = some (.sh (.int q2)) ∧ 0 < q2 := ⟨10 ^ 60, by kernel_rfl, 10 ^ 720, by kernel_rfl, by decide +kernel⟩
  have hq3 : powD (.int 10) (.int 18) = some (.sh (.int 1000000000000000000)) := by kernel_rfl
  have m1 : mulD (.int 13) (.int (k : Nat)) = some (.sh (.int (13 * (k : Nat)))) := mul_int (by decide) (nat_lt400 (k := 100) (by omega) (by decide))
  have m3 : mulD (.int 1009) (.int (k : Nat)) = some (.sh (.int (1009 * (k : Nat)))) := mul_int (by decide) (nat_lt400 (k := 100) (by omega) (by decide))
  have fin : ∀ c : Int, ∃ x y d, seqS [asS (binC modD (callC intB [callC absB [nameC 2]]) (binC powD (binC powD (conC (.int 10)) (conC (.int 60))) (conC (.int 12)))) (asgN 3), asS (binC addD (binC addD (binC addD (binC mulD (binC modD (callC intB [nameC 3]) (conC (.int 2147483497))) (conC (.int 40014))) (binC mulD (conC (.int 1009)) (nameC 1))) (binC mulD (conC (.int 5)) (callC intB [binC ltD (nameC 2) (conC (.int 0))]))) (conC (.int 29))) (asgN 4), rtS (lstC [callC maxB [conC (.int 0), binC subD (nameC 3) (binC powD (conC (.int 10)) (conC (.int 18)))], binC modD (callC intB [nameC 4]) (conC (.int 2147483489)), conC (.int 0)])]
      [.sh (.scr ns), .sh (.int (k : Nat)), .sh (.int c), .em, .em] = .ok (.rt (.fr d), [.sh (.scr ns), .sh (.int (k : Nat)), .sh (.int c), .sh x, .sh y]) ∧ Di 0 d := by
    intro c
    generalize hg : (if c < 0 then -c else c) % q2 = gr
    have g0 : 0 ≤ gr := by rw [← hg]; exact Int.emod_nonneg _ (by omega)
    generalize hm : gr % 2147483497 = mx
    have mx0 : 0 ≤ mx ∧ mx < 2147483497 := by rw [← hm]; exact ⟨Int.emod_nonneg _ (by decide), Int.emod_lt_of_pos _ (by decide)⟩
    have a1 := mod_int (i := if c < 0 then -c else c) q0
    rw [hg] at a1
    have a2 := mod_int (i := gr) (j := 2147483497) (by decide)
    rw [hm] at a2
    have m2 : mulD (.int mx) (.int 40014) = some (.sh (.int (mx * 40014))) := mul_int (nat_lt400 (k := 2 ^ 62) (by omega) (by decide)) (by decide)
    generalize hb : (if decide (c < 0) = true then (1 : Int) else 0) = bb
    have bb0 : 0 ≤ bb ∧ bb ≤ 1 := by rw [← hb]; split <;> omega
    have m4 : mulD (.int 5) (.int bb) = some (.sh (.int (5 * bb))) := mul_int (by decide) (nat_lt400 (k := 100) (by omega) (by decide))
    have a3 := mod_int (i := mx * 40014 + 1009 * (k : Nat) + 5 * bb + 29) (j := 2147483489) (by decide)
    have ib : intB [.bl (decide (c < 0))] = some (.sh (.int bb)) := by rw [int_bl, hb]
    have mxx : maxB [.int 0, .int (gr - 1000000000000000000)] = some (.sh (.int (if gr - 1000000000000000000 > 0 then gr - 1000000000000000000 else 0))) := rfl
    refine ⟨.int gr, .int (mx * 40014 + 1009 * (k : Nat) + 5 * bb + 29), dic (if gr - 1000000000000000000 > 0 then gr - 1000000000000000000 else 0) ((mx * 40014 + 1009 * (k : Nat) + 5 * bb + 29) % 2147483489) 0, ?_, ⟨_, _, _, rfl, by split <;> omega, Int.emod_nonneg _ (by decide), Int.emod_lt_of_pos _ (by decide), Int.le_refl 0, Int.le_refl 0⟩⟩
    unfold dic
    simp [hq1, hq2, hq3, a1, a2, m2, m3, m4, a3, ib, mxx, -int_bl, -max_int]
  by_cases h : k < ns.length
  · obtain ⟨x, y, d, hf, hd⟩ := fin ns[k]
    have hi : (k : Int) < (ns.length : Int) := by omega
    refine ⟨d, ?_, hd⟩
    rw [evF_app]
    simp only [B__law_dice]
    rw [List.length_cons, List.length_cons, List.length_nil, if_pos rfl, seqS_cons]
    have s1 : asS (binC addD (binC mulD (conC (.int 13)) (nameC 1)) (conC (.int 6))) (asgN 2) ([.sh (.scr ns), .sh (.int (k : Nat))] ++ List.replicate (5 - 2) .em) = .ok (.nx, [.sh (.scr ns), .sh (.int (k : Nat)), .sh (.int (13 * (k : Nat) + 6)), .em, .em]) := by simp [m1]
    have s2 : ifS (cmpT (binC ltD (nameC 1) (callC lenB [nameC 0]))) (seqS [asS (ixE (nameC 0) (nameC 1)) (asgN 2)]) (seqS []) [.sh (.scr ns), .sh (.int (k : Nat)), .sh (.int (13 * (k : Nat) + 6)), .em, .em] = .ok (.nx, [.sh (.scr ns), .sh (.int (k : Nat)), .sh (.int ns[k]), .em, .em]) := by simp [hi, ix_scr h]
    rw [s1, obn_ok, seqK_nx, seqS_cons, s2, obn_ok, seqK_nx, hf]
    simp
  · obtain ⟨x, y, d, hf, hd⟩ := fin (13 * (k : Nat) + 6)
    have hi : ¬ (k : Int) < (ns.length : Int) := by omega
    refine ⟨d, ?_, hd⟩
    rw [evF_app]
    simp only [B__law_dice]
    rw [List.length_cons, List.length_cons, List.length_nil, if_pos rfl, seqS_cons]
    have s1 : asS (binC addD (binC mulD (conC (.int 13)) (nameC 1)) (conC (.int 6))) (asgN 2) ([.sh (.scr ns), .sh (.int (k : Nat))] ++ List.replicate (5 - 2) .em) = .ok (.nx, [.sh (.scr ns), .sh (.int (k : Nat)), .sh (.int (13 * (k : Nat) + 6)), .em, .em]) := by simp [m1]
    have s2 : ifS (cmpT (binC ltD (nameC 1) (callC lenB [nameC 0]))) (seqS [asS (ixE (nameC 0) (nameC 1)) (asgN 2)]) (seqS []) [.sh (.scr ns), .sh (.int (k : Nat)), .sh (.int (13 * (k : Nat) + 6)), .em, .em] = .ok (.nx, [.sh (.scr ns), .sh (.int (k : Nat)), .sh (.int (13 * (k : Nat) + 6)), .em, .em]) := by simp [hi]
    rw [s1, obn_ok, seqK_nx, seqS_cons, s2, obn_ok, seqK_nx, hf]
    simp
end Qv
namespace Qv
open PySem L2

/-! ### bodies (by gen3.py): scales -/
def B_is_integer_2 (T : Tb) : M Fl := seqS [rtS (bopC false [isX T.du (.bt "int") (nameC 0), notC (truC (isX T.du (.bt "bool") (nameC 0)))])]
def B_common_divisor : M Fl := seqS [whS (cmpT (binC (gtD) (nameC 1) (conC (.int 0)))) (seqS [par2 0 1 (nameC 1) (binC modD (callC intB [nameC 0]) (nameC 1))]) 100000, rtS (nameC 0)]
def B_reduced (g_common_divisor : Ev) : M Fl := seqS [asS (callV [false, false] g_common_divisor [nameC 0, nameC 1]) (asgN 2), rtS (tupC [binC fdivD (nameC 0) (nameC 2), binC fdivD (nameC 1) (nameC 2)])]
def B_is_fraction (T : Tb) (g_is_integer g_common_divisor : Ev) : M Fl := seqS [ifS (bopT true [notT (truC (isX T.du (.bt "tuple") (nameC 0))), cmpT (opC T.mt T.du .NotEq (callC lenB [nameC 0]) (conC (.int 2))), notT (truC (callC allB [lcN 0 [1] (iterC (nameC 0)) (asgN 1) (ret true) (bopC false [callV [true] g_is_integer [nameC 1], binC (gtD) (nameC 1) (conC (.int 0))])]))]) (seqS [rtS (conC (.bl false))]) (seqS []), rtS (opC T.mt T.du .Eq (callV [false, false] g_common_divisor [ixE (nameC 0) (conC (.int 0)), ixE (nameC 0) (conC (.int 1))]) (conC (.int 1)))]
def B_Scale___init__ (T : Tb) : M Fl := seqS [fldS T.no "own_word" (nameC 1) (nameC 0), fldS T.no "own_size" (nameC 2) (nameC 0), fldS T.no "own_zero" (nameC 3) (nameC 0), fldS T.no "own_one" (nameC 4) (nameC 0)]
def B_Scale_sums (g_Scale___init__ : Ev) : M Fl := seqS [rtS (mkC "SumScale" [false, false, false, false] g_Scale___init__ [conC (.str "sums"), conC (.int 1), conC (.int 0), conC (.int 1)])]
def B_Scale_classes (g_is_integer g_Scale___init__ : Ev) : M Fl := seqS [ifS (bopT true [notT (truC (callV [true] g_is_integer [nameC 0])), notT (cmpT (chnC (leD) (leD) (conC (.int 1)) (nameC 0) (conC (.int 4))))]) (seqS [fail]) (seqS []), rtS (mkC "ClassScale" [false, false, false, false] g_Scale___init__ [conC (.str "classes"), nameC 0, binC mulD (tupC [conC (.int 0)]) (nameC 0), binC addD (tupC [conC (.int 1)]) (binC mulD (tupC [conC (.int 0)]) (binC subD (nameC 0) (conC (.int 1))))])]
def B_Scale_odds (g_Scale___init__ : Ev) : M Fl := seqS [rtS (mkC "OddsScale" [false, false, false, false] g_Scale___init__ [conC (.str "odds"), conC (.int 1), tupC [conC (.int 1), conC (.int 1)], tupC [conC (.int 2), conC (.int 1)]])]
def B_Scale_word (T : Tb) : M Fl := seqS [rtS (atC T.no T.pt "own_word" (nameC 0))]
def B_Scale_size (T : Tb) : M Fl := seqS [rtS (atC T.no T.pt "own_size" (nameC 0))]
def B_Scale_zero (T : Tb) : M Fl := seqS [rtS (atC T.no T.pt "own_zero" (nameC 0))]
def B_Scale_one (T : Tb) : M Fl := seqS [rtS (atC T.no T.pt "own_one" (nameC 0))]
def B_Scale___contains__ (T : Tb) : M Fl := seqS [rtS (methC T.mt "has_form" (nameC 0) [nameC 1])]
def B_Scale_require_amount (T : Tb) : M Fl := seqS [ifS (notT (truC (methC T.mt "has_form" (nameC 0) [nameC 1]))) (seqS [fail]) (seqS [])]
def B_Scale_require_amounts (T : Tb) : M Fl := seqS [ifS (notT (truC (isX T.du (.bt "tuple") (nameC 1)))) (seqS [fail]) (seqS []), forS (iterC (nameC 1)) (asgN 2) (seqS [drS (methC T.mt "require_amount" (nameC 0) [nameC 2])])]
def B_Scale_plus (T : Tb) : M Fl := seqS [drS (methC T.mt "require_amounts" (nameC 0) [nameC 1]), rtS (methC T.mt "total_in" (nameC 0) [nameC 1])]
def B_Scale_plus_all (T : Tb) : M Fl := seqS [drS (methC T.mt "require_amounts" (nameC 0) [nameC 1]), rtS (methC T.mt "total_in" (nameC 0) [nameC 1])]
def B_Scale_minus (T : Tb) : M Fl := seqS [drS (methC T.mt "require_amount" (nameC 0) [nameC 1]), drS (methC T.mt "require_amount" (nameC 0) [nameC 2]), rtS (methC T.mt "added" (nameC 0) [nameC 1, methC T.mt "opposite" (nameC 0) [nameC 2]])]
def B_Scale_negative (T : Tb) : M Fl := seqS [drS (methC T.mt "require_amount" (nameC 0) [nameC 1]), rtS (methC T.mt "opposite" (nameC 0) [nameC 1])]
def B_Scale_twice (T : Tb) : M Fl := seqS [drS (methC T.mt "require_amount" (nameC 0) [nameC 1]), rtS (methC T.mt "added" (nameC 0) [nameC 1, nameC 1])]
def B_Scale_greatest (T : Tb) : M Fl := seqS [rtS (ixE (nameC 1) (ixE (methC T.mt "order_of" (nameC 0) [nameC 1]) (conC (.int 0))))]
def B_Scale_least (T : Tb) : M Fl := seqS [rtS (ixE (nameC 1) (ixE (methC T.mt "order_of" (nameC 0) [nameC 1]) (negC (conC (.int 1)))))]
def B_Scale_order_of (T : Tb) : M Fl := seqS [ifS (cmpT (opC T.mt T.du .Eq (nameC 1) (tupC []))) (seqS [fail]) (seqS []), rtS (methC T.mt "ranked" (nameC 0) [nameC 1])]
def B_Scale_ranked (T : Tb) : M Fl := seqS [drS (methC T.mt "require_amounts" (nameC 0) [nameC 1]), asS (lcC [3] (rngC rng1B [callC lenB [nameC 1]]) (asgN 3) (ret true) (lstC [nameC 3])) (asgN 2), whS (cmpT (binC (gtD) (callC lenB [nameC 2]) (conC (.int 1)))) (seqS [asS (lcC [4] (rngC rng3B [conC (.int 0), callC lenB [nameC 2], conC (.int 2)]) (asgN 4) (ret true) (methC T.mt "merged" (nameC 0) [nameC 1, sliC (nameC 2) (partC (nameC 4)) (partC (binC addD (nameC 4) (conC (.int 2))))])) (asgN 2)]) 100000, rtS (ifC (cmpT (opC T.mt T.du .NotEq (nameC 2) (lstC []))) (callC tupleB [ixE (nameC 2) (conC (.int 0))]) (tupC []))]
def B_Scale_merged (T : Tb) : M Fl := seqS [ifS (cmpT (opC T.mt T.du .Eq (callC lenB [nameC 2]) (conC (.int 1)))) (seqS [rtS (ixE (nameC 2) (conC (.int 0)))]) (seqS []), parN [nameC 2, lstC [], conC (.int 0)] [asgU [asgN 3, asgN 4], asgN 5, asgN 6], forS (iterC (nameC 3)) (asgN 7) (seqS [whS (bopT false [cmpT (binC (ltD) (nameC 6) (callC lenB [nameC 4])), truC (methC T.mt "before" (nameC 0) [ixE (nameC 1) (nameC 7), ixE (nameC 1) (ixE (nameC 4) (nameC 6))])]) (seqS [drS (appC (nameC 5) (ixE (nameC 4) (nameC 6))), augS .Add 6 (conC (.int 1))]) 100000, drS (appC (nameC 5) (nameC 7))]), rtS (binC addD (nameC 5) (sliC (nameC 4) (partC (nameC 6)) (noC)))]
def B_Scale___eq__ (T : Tb) : M Fl := seqS [rtS (bopC false [isX T.du (.ow "Scale") (nameC 1), opC T.mt T.du .Eq (atC T.no T.pt "own_word" (nameC 0)) (atC T.no T.pt "own_word" (nameC 1)), opC T.mt T.du .Eq (atC T.no T.pt "own_size" (nameC 0)) (atC T.no T.pt "own_size" (nameC 1))])]
def B_Scale___str__ (T : Tb) : M Fl := seqS [ifS (cmpT (opC T.mt T.du .Eq (atC T.no T.pt "own_word" (nameC 0)) (conC (.str "classes")))) (seqS [rtS (joinC [fmtC (atC T.no T.pt "own_word" (nameC 0)), conC (.str " of "), fmtC (atC T.no T.pt "own_size" (nameC 0))] Str.empty)]) (seqS []), rtS (ownC T.mt "__str__" okStr strB (atC T.no T.pt "own_word" (nameC 0)))]
def B_SumScale_has_form (g_is_integer : Ev) : M Fl := seqS [rtS (callV [true] g_is_integer [nameC 1])]
def B_SumScale_added : M Fl := seqS [rtS (binC addD (nameC 1) (nameC 2))]
def B_SumScale_opposite : M Fl := seqS [rtS (binC subD (conC (.int 0)) (nameC 1))]
def B_SumScale_total_in : M Fl := seqS [rtS (callC sumB [callC listB [nameC 1]])]
def B_SumScale_before : M Fl := seqS [rtS (binC (ltD) (nameC 1) (nameC 2))]
def B_ClassScale_has_form (T : Tb) (g_is_integer : Ev) : M Fl := seqS [ifS (bopT true [notT (truC (isX T.du (.bt "tuple") (nameC 1))), cmpT (opC T.mt T.du .NotEq (callC lenB [nameC 1]) (atC T.no T.pt "own_size" (nameC 0)))]) (seqS [rtS (conC (.bl false))]) (seqS []), rtS (callC allB [lcN 1 [2] (iterC (nameC 1)) (asgN 2) (ret true) (callV [true] g_is_integer [nameC 2])])]
def B_ClassScale_added : M Fl := seqS [rtS (callC tupleB [lcC [3, 4] (walkC zp2B [nameC 1, nameC 2]) (asgU [asgN 3, asgN 4]) (ret true) (binC addD (nameC 3) (nameC 4))])]
def B_ClassScale_opposite : M Fl := seqS [rtS (callC tupleB [lcN 1 [2] (iterC (nameC 1)) (asgN 2) (ret true) (binC subD (conC (.int 0)) (nameC 2))])]
def B_ClassScale_total_in (T : Tb) : M Fl := seqS [rtS (callC tupleB [lcC [3] (rngC rng1B [atC T.no T.pt "own_size" (nameC 0)]) (asgN 3) (ret true) (callC sumB [lcN 1 [2] (iterC (nameC 1)) (asgN 2) (ret true) (ixE (nameC 2) (nameC 3))])])]
def B_ClassScale_before : M Fl := seqS [rtS (binC (ltD) (nameC 1) (nameC 2))]
def B_OddsScale_has_form (g_is_fraction : Ev) : M Fl := seqS [rtS (callV [false] g_is_fraction [nameC 1])]
def B_OddsScale_added (T : Tb) : M Fl := seqS [rtS (methC T.mt "total_in" (nameC 0) [tupC [nameC 1, nameC 2]])]
def B_OddsScale_opposite : M Fl := seqS [rtS (tupC [ixE (nameC 1) (conC (.int 1)), ixE (nameC 1) (conC (.int 0))])]
def B_OddsScale_total_in (g_reduced : Ev) : M Fl := seqS [parN [conC (.int 1), conC (.int 1)] [asgN 2, asgN 3], forS (iterC (nameC 1)) (asgN 4) (seqS [par2 2 3 (binC mulD (nameC 2) (ixE (nameC 4) (conC (.int 0)))) (binC mulD (nameC 3) (ixE (nameC 4) (conC (.int 1))))]), rtS (callV [false, false] g_reduced [nameC 2, nameC 3])]
def B_OddsScale_before : M Fl := seqS [rtS (binC (ltD) (binC mulD (ixE (nameC 1) (conC (.int 0))) (ixE (nameC 2) (conC (.int 1)))) (binC mulD (ixE (nameC 2) (conC (.int 0))) (ixE (nameC 1) (conC (.int 1)))))]
def B__law_scale (g__law_pull : Ev) : M Fl := seqS [rtS (ixE (lstC [tupC [conC (.str "sums"), conC (.int 1)], tupC [conC (.str "classes"), binC addD (conC (.int 1)) (callV [true, true] g__law_pull [nameC 0, conC (.int 4)])], tupC [conC (.str "odds"), conC (.int 1)]]) (callV [true, true] g__law_pull [nameC 0, conC (.int 3)]))]
def B__law_lowest : M Fl := seqS [par2 2 3 (nameC 0) (nameC 1), whS (cmpT (binC (gtD) (nameC 3) (conC (.int 0)))) (seqS [par2 2 3 (nameC 3) (binC modD (callC intB [nameC 2]) (nameC 3))]) 100000, rtS (tupC [binC fdivD (nameC 0) (nameC 2), binC fdivD (nameC 1) (nameC 2)])]
def B__law_weight (T : Tb) (g__law_pull g__law_lowest : Ev) : M Fl := seqS [ifS (cmpT (opC T.mt T.du .Eq (ixE (nameC 1) (conC (.int 0))) (conC (.str "sums")))) (seqS [rtS (binC addD (conC (.int 1)) (callV [true, true] g__law_pull [nameC 0, ixE (lstC [conC (.int 2), conC (.int 3), conC (.int 9), binC powD (conC (.int 10)) (conC (.int 30))]) (callV [true, true] g__law_pull [nameC 0, conC (.int 4)])]))]) (seqS []), ifS (cmpT (opC T.mt T.du .Eq (ixE (nameC 1) (conC (.int 0))) (conC (.str "classes")))) (seqS [asS (lcC [3] (rngC rng1B [ixE (nameC 1) (conC (.int 1))]) (asgN 3) (ret true) (callV [true, true] g__law_pull [nameC 0, ixE (lstC [conC (.int 2), conC (.int 3), conC (.int 9)]) (callV [true, true] g__law_pull [nameC 0, conC (.int 3)])])) (asgN 2), ifS (cmpT (opC T.mt T.du .Eq (lcN 2 [4] (iterC (nameC 2)) (asgN 4) (cmpT (binC (gtD) (nameC 4) (conC (.int 0)))) (nameC 4)) (lstC []))) (seqS [asS (conC (.int 1)) (asgI (nameC 2) (callV [true, true] g__law_pull [nameC 0, callC lenB [nameC 2]]))]) (seqS []), rtS (callC tupleB [nameC 2])]) (seqS []), asS (binC addD (conC (.int 1)) (callV [true, true] g__law_pull [nameC 0, ixE (lstC [conC (.int 1), conC (.int 3), conC (.int 12), conC (.int 999)]) (callV [true, true] g__law_pull [nameC 0, conC (.int 4)])])) (asgN 5), rtS (callV [false, false] g__law_lowest [binC addD (binC addD (nameC 5) (conC (.int 1))) (callV [true, true] g__law_pull [nameC 0, ixE (lstC [conC (.int 1), conC (.int 4), conC (.int 20), conC (.int 990000)]) (callV [true, true] g__law_pull [nameC 0, conC (.int 4)])]), nameC 5])]
def B__law_zero : M Fl := seqS [rtS (ixE (dictC [(conC (.str "sums"), conC (.int 0)), (conC (.str "classes"), binC mulD (tupC [conC (.int 0)]) (ixE (nameC 0) (conC (.int 1)))), (conC (.str "odds"), tupC [conC (.int 1), conC (.int 1)])]) (ixE (nameC 0) (conC (.int 0))))]
def B__law_plus (T : Tb) (g__law_lowest : Ev) : M Fl := seqS [ifS (cmpT (opC T.mt T.du .Eq (ixE (nameC 0) (conC (.int 0))) (conC (.str "sums")))) (seqS [rtS (binC addD (nameC 1) (nameC 2))]) (seqS []), ifS (cmpT (opC T.mt T.du .Eq (ixE (nameC 0) (conC (.int 0))) (conC (.str "odds")))) (seqS [rtS (callV [false, false] g__law_lowest [binC mulD (ixE (nameC 1) (conC (.int 0))) (ixE (nameC 2) (conC (.int 0))), binC mulD (ixE (nameC 1) (conC (.int 1))) (ixE (nameC 2) (conC (.int 1)))])]) (seqS []), rtS (callC tupleB [lcC [3, 4] (walkC zp2B [nameC 1, nameC 2]) (asgU [asgN 3, asgN 4]) (ret true) (binC addD (nameC 3) (nameC 4))])]
def B__law_minus (T : Tb) (g__law_lowest : Ev) : M Fl := seqS [ifS (cmpT (opC T.mt T.du .Eq (ixE (nameC 0) (conC (.int 0))) (conC (.str "sums")))) (seqS [rtS (binC subD (nameC 1) (nameC 2))]) (seqS []), ifS (cmpT (opC T.mt T.du .Eq (ixE (nameC 0) (conC (.int 0))) (conC (.str "odds")))) (seqS [rtS (callV [false, false] g__law_lowest [binC mulD (ixE (nameC 1) (conC (.int 0))) (ixE (nameC 2) (conC (.int 1))), binC mulD (ixE (nameC 1) (conC (.int 1))) (ixE (nameC 2) (conC (.int 0)))])]) (seqS []), rtS (callC tupleB [lcC [3, 4] (walkC zp2B [nameC 1, nameC 2]) (asgU [asgN 3, asgN 4]) (ret true) (binC subD (nameC 3) (nameC 4))])]
def B__law_total (g__law_zero g__law_plus : Ev) : M Fl := seqS [asS (callV [true] g__law_zero [nameC 0]) (asgN 2), forS (iterC (nameC 1)) (asgN 3) (seqS [asS (callV [true, false, false] g__law_plus [nameC 0, nameC 2, nameC 3]) (asgN 2)]), rtS (nameC 2)]
def B__law_made (T : Tb) (g_Scale_classes g_Scale_sums g_Scale_odds : Ev) : M Fl := seqS [ifS (cmpT (opC T.mt T.du .Eq (ixE (nameC 0) (conC (.int 0))) (conC (.str "classes")))) (seqS [rtS (callV [false] g_Scale_classes [ixE (nameC 0) (conC (.int 1))])]) (seqS []), rtS (ifC (cmpT (opC T.mt T.du .Eq (ixE (nameC 0) (conC (.int 0))) (conC (.str "sums")))) (callV [] g_Scale_sums []) (callV [] g_Scale_odds []))]
def B__law_amount (T : Tb) (g__law_pull g__law_lowest : Ev) : M Fl := seqS [ifS (cmpT (opC T.mt T.du .Eq (ixE (nameC 1) (conC (.int 0))) (conC (.str "sums")))) (seqS [asS (callV [true, true] g__law_pull [nameC 0, ixE (lstC [conC (.int 2), conC (.int 5), binC powD (conC (.int 10)) (conC (.int 40))]) (callV [true, true] g__law_pull [nameC 0, conC (.int 3)])]) (asgN 2), rtS (binC subD (nameC 2) (callV [true, true] g__law_pull [nameC 0, ixE (lstC [conC (.int 2), conC (.int 5), binC powD (conC (.int 10)) (conC (.int 40))]) (callV [true, true] g__law_pull [nameC 0, conC (.int 3)])]))]) (seqS []), ifS (cmpT (opC T.mt T.du .Eq (ixE (nameC 1) (conC (.int 0))) (conC (.str "classes")))) (seqS [rtS (callC tupleB [lcC [3] (rngC rng1B [ixE (nameC 1) (conC (.int 1))]) (asgN 3) (ret true) (binC subD (callV [true, true] g__law_pull [nameC 0, conC (.int 4)]) (callV [true, true] g__law_pull [nameC 0, conC (.int 4)]))])]) (seqS []), asS (ixE (lstC [conC (.int 3), conC (.int 12), binC powD (conC (.int 10)) (conC (.int 40))]) (callV [true, true] g__law_pull [nameC 0, conC (.int 3)])) (asgN 4), rtS (callV [false, false] g__law_lowest [binC addD (conC (.int 1)) (callV [true, true] g__law_pull [nameC 0, nameC 4]), binC addD (conC (.int 1)) (callV [true, true] g__law_pull [nameC 0, nameC 4])])]
def B__law_some_amounts (T : Tb) (g__law_pull g__law_minus g__law_zero g__law_pick g__law_weight g__law_amount : Ev) : M Fl := seqS [asS (lstC []) (asgN 2), forS (rngC rng1B [binC addD (conC (.int 4)) (callV [true, true] g__law_pull [nameC 0, conC (.int 3)])]) (asgN 3) (seqS [asS (callV [true, true] g__law_pull [nameC 0, conC (.int 4)]) (asgN 4), ifS (bopT false [cmpT (opC T.mt T.du .Eq (nameC 4) (conC (.int 0))), cmpT (opC T.mt T.du .NotEq (nameC 2) (lstC []))]) (seqS [drS (appC (nameC 2) (callV [true, false, false] g__law_minus [nameC 1, callV [true] g__law_zero [nameC 1], callV [true, true] g__law_pick [nameC 0, nameC 2]]))]) (seqS [ifS (cmpT (opC T.mt T.du .Eq (nameC 4) (conC (.int 1)))) (seqS [drS (appC (nameC 2) (callV [true, true] g__law_weight [nameC 0, nameC 1]))]) (seqS [drS (appC (nameC 2) (callV [true, true] g__law_pick [nameC 0, lstC [callV [true, true] g__law_amount [nameC 0, nameC 1], callV [true, true] g__law_amount [nameC 0, nameC 1], callV [true] g__law_zero [nameC 1]]]))])])]), rtS (nameC 2)]
def B__law_sums_right (T : Tb) (g__law_total : Ev) : M Fl := seqS [asS (sliC (nameC 2) (noC) (partC (conC (.int 4)))) (asgU [asgN 3, asgN 4, asgN 5, asgN 6]), asS (lstC [methQ T.mq "plus" [] (nameC 0) [] [], methQ T.mq "plus" [] (nameC 0) [nameC 3] [], methQ T.mq "plus" [] (nameC 0) [nameC 3, nameC 4] [], methQ T.mq "plus" [] (nameC 0) [nameC 3, nameC 4, nameC 5] [], methQ T.mq "plus" [] (nameC 0) [nameC 3, nameC 4, nameC 5, nameC 6] []]) (asgN 7), asS (lcC [9] (rngC rng1B [conC (.int 5)]) (asgN 9) (ret true) (callV [true, false] g__law_total [nameC 1, sliC (nameC 2) (noC) (partC (nameC 9))])) (asgN 8), ifS (cmpT (opC T.mt T.du .NotEq (callC reprB [nameC 7]) (callC reprB [nameC 8]))) (seqS [rtS (conC (.bl false))]) (seqS []), forS (rngC rng1B [binC addD (callC lenB [nameC 2]) (conC (.int 1))]) (asgN 9) (seqS [ifS (cmpT (opC T.mt T.du .NotEq (callC reprB [methC T.mt "plus_all" (nameC 0) [callC tupleB [sliC (nameC 2) (noC) (partC (nameC 9))]]]) (callC reprB [callV [true, false] g__law_total [nameC 1, sliC (nameC 2) (noC) (partC (nameC 9))]]))) (seqS [rtS (conC (.bl false))]) (seqS [])]), rtS (conC (.bl true))]
def B__law_pairs_right (T : Tb) (g__law_minus g__law_zero g__law_plus : Ev) : M Fl := seqS [asS (lstC [methC T.mt "minus" (nameC 0) [nameC 2, nameC 3], methC T.mt "minus" (nameC 0) [nameC 3, nameC 2], methC T.mt "negative" (nameC 0) [nameC 2], methC T.mt "twice" (nameC 0) [nameC 2]]) (asgN 4), asS (lstC [callV [true, false, false] g__law_minus [nameC 1, nameC 2, nameC 3], callV [true, false, false] g__law_minus [nameC 1, nameC 3, nameC 2]]) (asgN 5), asS (binC addD (nameC 5) (lstC [callV [true, false, false] g__law_minus [nameC 1, callV [true] g__law_zero [nameC 1], nameC 2], callV [true, false, false] g__law_plus [nameC 1, nameC 2, nameC 2]])) (asgN 5), rtS (opC T.mt T.du .Eq (callC reprB [nameC 4]) (callC reprB [nameC 5]))]
def B_law_2 (T : Tb) (g__law_dice g__law_scale g__law_made g__law_some_amounts g__law_sums_right g__law_pairs_right g__law_pick g_Scale_classes g_Scale_odds g_Scale_sums : Ev) : M Fl := seqS [forS (rngC rng1B [callC maxB [conC (.int 1), callC minB [conC (.int 10), callC lenB [nameC 0]]]]) (asgN 1) (seqS [asS (callV [true, false] g__law_dice [nameC 0, nameC 1]) (asgN 2), forS (rngC rng1B [conC (.int 2)]) (asgN 3) (seqS [asS (callV [true] g__law_scale [nameC 2]) (asgN 4), par2 5 6 (callV [true] g__law_made [nameC 4]) (callV [true, true] g__law_some_amounts [nameC 2, nameC 4]), asS (callC reprB [nameC 6]) (asgN 7), ifS (notT (truC (callV [true, true, true] g__law_sums_right [nameC 5, nameC 4, nameC 6]))) (seqS [rtS (conC (.bl false))]) (seqS []), forS (iterC (nameC 6)) (asgN 8) (seqS [ifS (notT (truC (callV [true, true, false, false] g__law_pairs_right [nameC 5, nameC 4, nameC 8, callV [true, true] g__law_pick [nameC 2, nameC 6]]))) (seqS [rtS (conC (.bl false))]) (seqS [])]), ifS (cmpT (opC T.mt T.du .NotEq (callC reprB [nameC 6]) (nameC 7))) (seqS [rtS (conC (.bl false))]) (seqS [])])]), asS (lstC [methQ T.mq "plus" [] (callV [false] g_Scale_classes [conC (.int 2)]) [tupC [conC (.int 1), conC (.int 0)], tupC [conC (.int 0), conC (.int 3)]] [], methC T.mt "minus" (callV [] g_Scale_odds []) [tupC [conC (.int 3), conC (.int 1)], tupC [conC (.int 2), conC (.int 1)]]]) (asgN 9), asS (binC addD (nameC 9) (lstC [methQ T.mq "plus" [] (callV [] g_Scale_odds []) [tupC [conC (.int 2), conC (.int 3)], tupC [conC (.int 3), conC (.int 2)]] [], methC T.mt "twice" (callV [] g_Scale_odds []) [tupC [conC (.int 2), conC (.int 3)]]])) (asgN 9), asS (binC addD (nameC 9) (lstC [methC T.mt "negative" (callV [false] g_Scale_classes [conC (.int 1)]) [tupC [conC (.int 4)]], methQ T.mq "plus" [] (callV [] g_Scale_sums []) [binC powD (conC (.int 10)) (conC (.int 50)), binC subD (conC (.int 0)) (binC powD (conC (.int 10)) (conC (.int 50)))] []])) (asgN 9), ifS (cmpT (opC T.mt T.du .NotEq (nameC 9) (lstC [tupC [conC (.int 1), conC (.int 3)], tupC [conC (.int 3), conC (.int 2)], tupC [conC (.int 1), conC (.int 1)], tupC [conC (.int 4), conC (.int 9)], tupC [negC (conC (.int 4))], conC (.int 0)]))) (seqS [rtS (conC (.bl false))]) (seqS []), asS (callC tupleB [binC mulD (lstC [tupC [conC (.int 1000000), conC (.int 999999)], tupC [conC (.int 999999), conC (.int 999998)]]) (conC (.int 100))]) (asgN 10), rtS (opC T.mt T.du .Eq (methC T.mt "plus_all" (callV [] g_Scale_odds []) [nameC 10]) (tupC [binC powD (binC powD (conC (.int 500000)) (conC (.int 50))) (conC (.int 2)), binC powD (binC powD (conC (.int 499999)) (conC (.int 50))) (conC (.int 2))]))]
end Qv
namespace Qv
open PySem L2

/-! ### what comes out, by what is wanted of it -/
/-- a thing whose type names Q: simp leaves Q alone in what has one -/
def Fix {α : Type} (_ : α → En → Prop) : Type := Unit
def fx {α : Type} {Q : α → En → Prop} : Fix Q := ()
def wpO {α : Type} (o : Out (α × En)) (Q : α → En → Prop) (_ : Fix Q := fx) : Prop := match o with
  | .ok (a, e) => Q a e
  | _ => False
section
variable {α β : Type} {Q Q' : α → En → Prop}
@[simp] theorem wpO_ok (a : α) (e : En) : wpO (.ok (a, e)) Q = Q a e := Eq.trans rfl rfl
@[simp] theorem wpO_ex (x : Xn) (e : En) : wpO (.ex x e : Out (α × En)) Q = False := Eq.trans rfl rfl
@[simp] theorem wpO_err : wpO (.err : Out (α × En)) Q = False := Eq.trans rfl rfl
@[simp] theorem wpO_obn (o : Out (β × En)) (f : β → En → Out (α × En)) : wpO (obn o f) Q = wpO o fun a e => wpO (f a e) Q := by
  cases o with
  | ok p => obtain ⟨a, e⟩ := p; rfl
  | ex x e => rfl
  | err => rfl
theorem wpO_mono {o : Out (α × En)} (h : wpO o Q) (m : ∀ a e, Q a e → Q' a e) : wpO o Q' := by
  cases o with
  | ok p => obtain ⟨a, e⟩ := p; exact m _ _ h
  | ex x e => exact h
  | err => exact h
theorem wpO_of {o : Out (α × En)} {a : α} {e : En} (h : o = .ok (a, e)) (q : Q a e) : wpO o Q := by rw [h]; exact q
theorem wpO_get {o : Out (α × En)} (h : wpO o Q) : ∃ a e, o = .ok (a, e) ∧ Q a e := by
  cases o with
  | ok p => obtain ⟨a, e⟩ := p; exact ⟨a, e, rfl, h⟩
  | ex x e => exact h.elim
  | err => exact h.elim
theorem wpO_if {c : Prop} [Decidable c] {o o' : Out (α × En)} (h1 : c → wpO o Q) (h2 : ¬ c → wpO o' Q) : wpO (if c then o else o') Q := by
  split
  · exact h1 (by assumption)
  · exact h2 (by assumption)
end
/-- the caller's slots behind a call -/
def wpB (ps : List (Nat × Nat)) (e : En) (Q : Val → En → Prop) (v : Val) (b : En) : Prop := match backE ps b e with
  | some e2 => Q v e2
  | none => False
theorem wpB_eq (ps : List (Nat × Nat)) (e : En) (Q : Val → En → Prop) (v : Val) (b : En) : wpB ps e Q v b = (match backE ps b e with
  | some e2 => Q v e2
  | none => False) := rfl
def wpM (o : Option En) (Q : Val → En → Prop) (v : Val) (_ : Fix Q := fx) : Prop := match o with
  | some e2 => Q v e2
  | none => False
@[simp] theorem wpM_some (e2 : En) (Q : Val → En → Prop) (v : Val) : wpM (some e2) Q v = Q v e2 := Eq.trans rfl rfl
@[simp] theorem wpB_m (ps : List (Nat × Nat)) (e : En) (Q : Val → En → Prop) (v : Val) (b : En) : wpB ps e Q v b = wpM (backE ps b e) Q v := Eq.trans rfl rfl
@[simp] theorem wpO_goO (ps : List (Nat × Nat)) (e : En) (o : Out (Val × En)) (Q : Val → En → Prop) : wpO (goO ps e o) Q = wpO o fun v b => wpB ps e Q v b := by
  cases o with
  | ok p =>
    obtain ⟨v, b⟩ := p
    show wpO (backK (backE ps b e) _) Q = wpB ps e Q v b
    unfold wpB
    cases backE ps b e <;> rfl
  | ex x b =>
    show wpO (backK (backE ps b e) _) Q = False
    cases backE ps b e <;> rfl
  | err => rfl
/-- a def's answer -/
def wpF (np : Nat) (Q : Val → En → Prop) (fl : Fl) (e : En) : Prop := wpO (endF np fl e) Q
@[simp] theorem wpF_rt (np : Nat) (Q : Val → En → Prop) (v : Val) (e : En) : wpF np Q (.rt v) e = wpO (retK np e (retV e v)) Q := Eq.trans rfl rfl
@[simp] theorem wpF_nx (np : Nat) (Q : Val → En → Prop) (e : En) : wpF np Q .nx e = Q (.sh .non) (backL np e) := Eq.trans rfl rfl
@[simp] theorem wpO_endO (np : Nat) (o : Out (Fl × En)) (Q : Val → En → Prop) : wpO (endO np o) Q = wpO o (wpF np Q) := by
  cases o with
  | ok p => obtain ⟨fl, e⟩ := p; rfl
  | ex x e => rfl
  | err => rfl
theorem wp_ev {n np : Nat} {b : M Fl} {ss : List Slot} {Q : Val → En → Prop} (hl : ss.length = np) (h : wpO (b (ss ++ List.replicate (n - np) .em)) (wpF np Q)) : wpO (evF n np b ss) Q := by
  rw [evF_app, if_pos hl, wpO_endO]
  exact h
/-! ### loops -/
/-- behind a turn: on, or out -/
def wpT (J : En → Prop) (Q : Fl → En → Prop) : Fl → En → Prop
  | .nx, e => J e
  | .ct, e => J e
  | .bk, e => Q .nx e
  | .rt v, e => Q (.rt v) e
@[simp] theorem wpT_nx (J : En → Prop) (Q : Fl → En → Prop) (e : En) : wpT J Q .nx e = J e := Eq.trans rfl rfl
@[simp] theorem wpT_ct (J : En → Prop) (Q : Fl → En → Prop) (e : En) : wpT J Q .ct e = J e := Eq.trans rfl rfl
@[simp] theorem wpT_bk (J : En → Prop) (Q : Fl → En → Prop) (e : En) : wpT J Q .bk e = Q .nx e := Eq.trans rfl rfl
@[simp] theorem wpT_rt (J : En → Prop) (Q : Fl → En → Prop) (v : Val) (e : En) : wpT J Q (.rt v) e = Q (.rt v) e := Eq.trans rfl rfl
theorem wp_forL {g : Val → M Unit} {b : M Fl} {Q : Fl → En → Prop} {ds : List D} (J : List D → En → Prop) {e : En} (h0 : J [] e)
    (step : ∀ done d rest e, done ++ d :: rest = ds → J done e → wpO (g (.sh d) e) fun _ e1 => wpO (b e1) (wpT (J (done ++ [d])) Q)) (fin : ∀ e, J ds e → Q .nx e) : wpO (forL g b ds e) Q := by
  have go : ∀ (rest done : List D) (e : En), done ++ rest = ds → J done e → wpO (forL g b rest e) Q := by
    intro rest
    induction rest with
    | nil =>
      intro done e hd hj
      rw [List.append_nil] at hd
      subst hd
      exact fin e hj
    | cons d r ih =>
      intro done e hd hj
      rw [forL_cons, wpO_obn]
      refine wpO_mono (step done d r e hd hj) fun _ e1 h1 => ?_
      rw [wpO_obn]
      refine wpO_mono h1 fun fl e2 h2 => ?_
      cases fl with
      | nx => exact ih (done ++ [d]) e2 (by simpa using hd) h2
      | ct => exact ih (done ++ [d]) e2 (by simpa using hd) h2
      | bk => exact h2
      | rt v => exact h2
  exact go ds [] e rfl h0
def whK (c : M Bool) (b : M Fl) (n : Nat) : Fl → M Fl
  | .nx => whS c b n
  | .ct => whS c b n
  | .bk => ret .nx
  | .rt v => ret (.rt v)
theorem whS_succ (c : M Bool) (b : M Fl) (n : Nat) (e : En) : whS c b (n + 1) e = obn (c e) fun k e1 => if k = true then obn (b e1) (whK c b n) else .ok (.nx, e1) := by
  show bnd c _ e = _
  rw [bnd_app]
  congr 1
  funext k e1
  cases k with
  | false => rfl
  | true =>
    show bnd b _ e1 = obn (b e1) _
    rw [bnd_app]
    have hk : (fun fl => match fl with
      | Fl.nx => whS c b n
      | Fl.ct => whS c b n
      | Fl.bk => ret Fl.nx
      | Fl.rt v => ret (Fl.rt v)) = whK c b n := by
      funext fl
      cases fl <;> rfl
    exact congrArg (obn (b e1)) hk
theorem wp_whS {c : M Bool} {b : M Fl} {Q : Fl → En → Prop} {n : Nat} (J : Nat → En → Prop) {e : En} {m : Nat} (h0 : J m e) (hm : m < n)
    (step : ∀ m e, J m e → wpO (c e) fun k e1 => (k = false → Q .nx e1) ∧ (k = true → wpO (b e1) (wpT (fun e2 => ∃ m', m' < m ∧ J m' e2) Q))) : wpO (whS c b n e) Q := by
  induction n generalizing m e with
  | zero => omega
  | succ n ih =>
    rw [whS_succ, wpO_obn]
    refine wpO_mono (step m e h0) fun k e1 h1 => ?_
    cases k with
    | false => exact h1.1 rfl
    | true =>
      rw [if_pos rfl, wpO_obn]
      refine wpO_mono (h1.2 rfl) fun fl e2 h2 => ?_
      cases fl with
      | nx => obtain ⟨m', h3, h4⟩ := h2; exact ih h4 (by omega)
      | ct => obtain ⟨m', h3, h4⟩ := h2; exact ih h4 (by omega)
      | bk => exact h2
      | rt v => exact h2
/-! ### comprehensions -/
def lcK (own : List Nat) (g : Val → M Unit) (t : M Bool) (f : M Val) (ds : List D) : M Val := fun e0 => match lcL own g t f ds e0 with
  | .ok (xs, e1) => if xs.length ≤ lenLim then .ok (.fr (.lst xs), putE own e0 e1) else .err
  | _ => .err
@[simp] theorem lcC_app (own : List Nat) (it : M (List D)) (g : Val → M Unit) (t : M Bool) (f : M Val) (e : En) : lcC own it g t f e = obn (it e) (lcK own g t f) := by
  unfold lcC
  rw [bnd_app]
  rfl
theorem wp_lc {own : List Nat} {g : Val → M Unit} {t : M Bool} {f : M Val} {ds : List D} {e : En} {Q : Val → En → Prop} (J : List D → List D → En → Prop) (h0 : J [] [] e)
    (step : ∀ done d rest acc e, done ++ d :: rest = ds → J done acc e → wpO (wipE own e) fun _ w => wpO (g (.sh d) w) fun _ e2 => wpO (t e2) fun k e3 => (k = false → J (done ++ [d]) acc e3) ∧ (k = true → wpO (f e3) fun v e4 => wpO (shr v e4) fun x e5 => J (done ++ [d]) (acc ++ [x]) e5))
    (fin : ∀ acc e1, J ds acc e1 → acc.length ≤ lenLim ∧ wpO (wipE own e1) fun _ w => Q (.fr (.lst acc)) (putE own e w)) : wpO (lcK own g t f ds e) Q := by
  have go : ∀ (rest done acc : List D) (e : En), done ++ rest = ds → J done acc e → ∃ ys e1 w, J ds (acc ++ ys) e1 ∧ wipE own e1 = .ok ((), w) ∧ lcL own g t f rest e = .ok (ys, w) := by
    intro rest
    induction rest with
    | nil =>
      intro done acc e hd hj
      rw [List.append_nil] at hd
      subst hd
      obtain ⟨u, w, hw, _⟩ := wpO_get (fin _ _ hj).2
      refine ⟨[], e, w, by rw [List.append_nil]; exact hj, hw, ?_⟩
      simp only [lcL, bnd_app, obn_ok, hw, ret_app]
    | cons d r ih =>
      intro done acc e hd hj
      obtain ⟨_, w, h1, z⟩ := wpO_get (step done d r acc e hd hj)
      obtain ⟨_, e2, h2, z⟩ := wpO_get z
      obtain ⟨k, e3, h3, z⟩ := wpO_get z
      cases k with
      | false =>
        obtain ⟨ys, e1, w1, q1, q2, q3⟩ := ih (done ++ [d]) acc e3 (by simpa using hd) (z.1 rfl)
        refine ⟨ys, e1, w1, q1, q2, ?_⟩
        simp only [lcL, bnd_app, obn_ok, h1, h2, h3]
        exact q3
      | true =>
        obtain ⟨v, e4, h4, z⟩ := wpO_get (z.2 rfl)
        obtain ⟨x, e5, h5, z⟩ := wpO_get z
        obtain ⟨ys, e1, w1, q1, q2, q3⟩ := ih (done ++ [d]) (acc ++ [x]) e5 (by simpa using hd) z
        refine ⟨x :: ys, e1, w1, by simpa using q1, q2, ?_⟩
        simp only [lcL, bnd_app, obn_ok, h1, h2, h3, if_true, h4, h5, q3, ret_app]
  obtain ⟨ys, e1, w, a, b, c⟩ := go ds [] [] e rfl h0
  obtain ⟨l, z⟩ := fin _ _ a
  rw [b] at z
  unfold lcK
  rw [c]
  show wpO (if ys.length ≤ lenLim then .ok (.fr (.lst ys), putE own e w) else .err) Q
  rw [List.nil_append] at l z
  rw [if_pos l]
  exact z
/-- a comprehension that leaves the slots as they are -/
theorem wp_lcP {α : Type} (l : List α) (c : α → D) (b : α → Bool) (x : α → D) {own : List Nat} {g : Val → M Unit} {t : M Bool} {f : M Val} {e w : En} {Q : Val → En → Prop} (hw : wipE own e = .ok ((), w)) (hl : l.length ≤ lenLim)
    (step : ∀ a ∈ l, wpO (g (.sh (c a)) w) fun _ e2 => wipE own e2 = .ok ((), w) ∧ wpO (t e2) fun k e3 => e3 = e2 ∧ k = b a ∧ (b a = true → wpO (f e2) fun v e4 => wpO (shr v e4) fun y e5 => y = x a ∧ e5 = e2)) (fin : Q (.fr (.lst ((l.filter b).map x))) (putE own e w)) : wpO (lcK own g t f (l.map c) e) Q := by
  refine wp_lc (fun done acc e' => wipE own e' = .ok ((), w) ∧ ∃ l1, done = l1.map c ∧ l1 <+: l ∧ acc = (l1.filter b).map x) ⟨hw, [], rfl, List.nil_prefix, rfl⟩ ?_ ?_
  · rintro done d rest acc e1 hd ⟨h1, l1, rfl, hp, rfl⟩
    obtain ⟨l2, rfl⟩ := hp
    rw [List.map_append] at hd
    have hd2 := List.append_cancel_left hd
    cases l2 with
    | nil => cases hd2
    | cons a r =>
      simp only [List.map_cons, List.cons.injEq] at hd2
      obtain ⟨rfl, _⟩ := hd2
      rw [h1, wpO_ok]
      refine wpO_mono (step a (by simp)) fun _ e2 h2 => ?_
      obtain ⟨h2, h3⟩ := h2
      have pre : l1 ++ [a] <+: l1 ++ a :: r := ⟨r, by simp⟩
      refine wpO_mono h3 fun k e3 h4 => ?_
      obtain ⟨rfl, rfl, h5⟩ := h4
      refine ⟨fun hk => ⟨h2, l1 ++ [a], by simp, pre, by simp [List.filter_append, hk]⟩, fun hk => ?_⟩
      refine wpO_mono (h5 hk) fun v e4 h6 => ?_
      refine wpO_mono h6 fun y e5 h7 => ?_
      obtain ⟨rfl, rfl⟩ := h7
      exact ⟨h2, l1 ++ [a], by simp, pre, by simp [List.filter_append, hk]⟩
  · rintro acc e1 ⟨h1, l1, hd, hp, rfl⟩
    have : l1 = l := by
      have hlen := congrArg List.length hd
      simp only [List.length_map] at hlen
      exact List.IsPrefix.eq_of_length hp hlen.symm
    subst this
    refine ⟨?_, by rw [h1]; exact fin⟩
    rw [List.length_map]
    exact Nat.le_trans (List.length_filter_le _ _) hl
/-- over an own list, which stays -/
theorem wp_lcO {α : Type} (l : List α) (c : α → D) (b : α → Bool) (x : α → D) {own : List Nat} {k : Nat} {bb : Bool} {g : Val → M Unit} {t : M Bool} {f : M Val} {e w : En} {Q : Val → En → Prop} (hk : e[k]? = some (.ow bb (.lst (l.map c)))) (hw : wipE own e = .ok ((), w)) (hwk : w[k]? = some (.ow bb (.lst (l.map c)))) (hl : l.length ≤ lenLim)
    (step : ∀ a ∈ l, wpO (g (.sh (c a)) w) fun _ e2 => wipE own e2 = .ok ((), w) ∧ wpO (t e2) fun k e3 => e3 = e2 ∧ k = b a ∧ (b a = true → wpO (f e2) fun v e4 => wpO (shr v e4) fun y e5 => y = x a ∧ e5 = e2)) (fin : Q (.fr (.lst ((l.filter b).map x))) (putE own e w)) : wpO (lcO own k g t f e) Q := by
  have ck : chkS k (l.map c) w = .ok ((), w) := by unfold chkS; rw [hwk]; exact if_pos rfl
  have go : ∀ (rest : List α) (e : En), (∀ a ∈ rest, a ∈ l) → wipE own e = .ok ((), w) → lcLO own k (l.map c) g t f (rest.map c) e = .ok ((rest.filter b).map x, w) := by
    intro rest
    induction rest with
    | nil =>
      intro e _ h
      show bnd (wipE own) _ e = _
      rw [bnd_app, h]
      show bnd (chkS k (l.map c)) _ w = _
      rw [bnd_app, ck]
      rfl
    | cons a r ih =>
      intro e hm h
      obtain ⟨_, e2, h1, h2, h3⟩ := wpO_get (step a (hm a (by simp)))
      obtain ⟨kb, e3, h4, rfl, rfl, h5⟩ := wpO_get h3
      have rec_ := ih e3 (fun y hy => hm y (List.mem_cons_of_mem _ hy)) h2
      show bnd (wipE own) _ e = _
      rw [bnd_app, h]
      show bnd (chkS k (l.map c)) _ w = _
      rw [bnd_app, ck]
      show bnd (g (.sh (c a))) _ w = _
      rw [bnd_app, h1]
      show bnd t _ e3 = _
      rw [bnd_app, h4]
      show (if b a = true then _ else _ : M (List D)) e3 = _
      cases hb : b a with
      | false =>
        rw [if_neg Bool.false_ne_true, rec_, List.filter_cons_of_neg (by rw [hb]; exact Bool.false_ne_true)]
      | true =>
        obtain ⟨v, e4, h6, h7⟩ := wpO_get (h5 hb)
        obtain ⟨y, e5, h8, rfl, rfl⟩ := wpO_get h7
        rw [if_pos rfl, bnd_app, h6]
        show bnd (shr v) _ e4 = _
        rw [bnd_app, h8]
        show bnd (lcLO own k (l.map c) g t f (r.map c)) _ e5 = _
        rw [bnd_app, rec_, List.filter_cons_of_pos hb]
        rfl
  have h := go l e (fun _ h => h) hw
  unfold lcO
  rw [hk]
  simp only
  rw [h]
  simp only
  have : ((l.filter b).map x).length ≤ lenLim := Nat.le_trans (by rw [List.length_map]; exact List.length_filter_le _ _) hl
  rw [if_pos this]
  exact fin
end Qv
namespace Qv
open PySem L2

/-! ### greatest common divisors -/
theorem mod_half {x y : Nat} (hy : 0 < y) (h : y ≤ x) : 2 * (x % y) ≤ x := by
  have h1 := Nat.mod_lt x hy
  have h2 := Nat.mod_add_div x y
  have h3 : 0 < x / y := Nat.div_pos h hy
  have h4 : y ≤ y * (x / y) := Nat.le_mul_of_pos_right y h3
  omega
def GJ (g : Nat) (mk : D → D → En) (m : Nat) (e : En) : Prop := ∃ x y : Nat, e = mk (.int (x : Nat)) (.int (y : Nat)) ∧ Nat.gcd x y = g ∧ ((y ≤ x ∧ x * y < 2 ^ m) ∨ (x < y ∧ 0 < m ∧ x * y < 2 ^ (m - 1)))
theorem gj_step {g m x y : Nat} (hy : 0 < y) (hg : Nat.gcd x y = g) (h : (y ≤ x ∧ x * y < 2 ^ m) ∨ (x < y ∧ 0 < m ∧ x * y < 2 ^ (m - 1))) : Nat.gcd y (x % y) = g ∧ ∃ m', m' < m ∧ ((x % y ≤ y ∧ y * (x % y) < 2 ^ m') ∨ (y < x % y ∧ 0 < m' ∧ y * (x % y) < 2 ^ (m' - 1))) := by
  refine ⟨by rw [← hg, Nat.gcd_comm x y, Nat.gcd_rec y x, Nat.gcd_comm], ?_⟩
  have hlt := Nat.mod_lt x hy
  rcases h with ⟨h1, h2⟩ | ⟨h1, h2, h3⟩
  · have hm : 0 < m := by
      rcases Nat.eq_zero_or_pos m with z | z
      · subst z
        have : 1 ≤ x * y := Nat.mul_pos (Nat.lt_of_lt_of_le hy h1) hy
        omega
      · exact z
    refine ⟨m - 1, by omega, .inl ⟨Nat.le_of_lt hlt, ?_⟩⟩
    have e1 : 2 ^ m = 2 * 2 ^ (m - 1) := by
      conv => lhs; rw [show m = (m - 1) + 1 by omega, Nat.pow_succ]
      exact Nat.mul_comm _ _
    have e2 : y * (2 * (x % y)) ≤ y * x := Nat.mul_le_mul_left y (mod_half hy h1)
    rw [Nat.mul_comm x y] at h2
    have e3 : y * (2 * (x % y)) = 2 * (y * (x % y)) := by rw [Nat.mul_left_comm]
    omega
  · refine ⟨m - 1, by omega, .inl ⟨Nat.le_of_lt hlt, ?_⟩⟩
    rw [Nat.mod_eq_of_lt h1, Nat.mul_comm]
    exact h3
def OkGcd (ev : Ev) : Prop := ∀ (a b : Nat), a * b < 2 ^ 90000 → ev [.sh (.int (a : Nat)), .sh (.int (b : Nat))] = .ok (.sh (.int (Nat.gcd a b : Nat)), [.em, .em])
theorem eq_of_wp {ev : Ev} {ss : List Slot} {v : Val} {b : En} (h : wpO (ev ss) fun v' b' => v' = v ∧ b' = b) : ev ss = .ok (v, b) := by
  obtain ⟨v', b', h1, rfl, rfl⟩ := wpO_get h
  exact h1
theorem ok_gcd : OkGcd (evF 2 2 B_common_divisor) := by
  intro a b hab
  refine eq_of_wp (wp_ev rfl ?_)
  unfold B_common_divisor
  simp
  refine wp_whS (GJ (Nat.gcd a b) fun x y => [.sh x, .sh y]) (m := 90001) ⟨a, b, rfl, rfl, ?_⟩ (by decide) ?_
  · rcases Nat.lt_or_ge a b with h | h
    · exact .inr ⟨h, by decide, hab⟩
    · exact .inl ⟨h, Nat.lt_of_lt_of_le hab (Nat.pow_le_pow_right (by decide) (by decide))⟩
  · rintro m e ⟨x, y, rfl, hg, hm⟩
    simp
    refine ⟨fun hy => ?_, fun hy => ?_⟩
    · subst hy
      simp at hg ⊢
      rw [hg]
    · obtain ⟨h1, m', h2, h3⟩ := gj_step hy hg hm
      simp [mod_int (i := (x : Int)) (j := (y : Int)) (by omega)]
      exact ⟨m', h2, y, x % y, by simp, h1, h3⟩
/-- the same, by other names -/
theorem gcd_div {a b : Nat} : ((a : Int) / (Nat.gcd a b : Nat)) = ((a / Nat.gcd a b : Nat) : Int) := (Int.natCast_ediv a (Nat.gcd a b)).symm
def OkLow (ev : Ev) : Prop := ∀ (a b : Nat), 0 < a → 0 < b → a * b < 2 ^ 90000 → Nat.gcd a b < 2 ^ 8000 → ev [.sh (.int (a : Nat)), .sh (.int (b : Nat))] = .ok (.sh (.tup [.int (a / Nat.gcd a b : Nat), .int (b / Nat.gcd a b : Nat)]), [.em, .em])
theorem fdiv_nat {a g : Nat} (h : 0 < g) (h2 : g < 2 ^ 8000) : fdivD (.int (a : Nat)) (.int (g : Nat)) = some (.sh (.int (a / g : Nat))) := by
  rw [fdiv_int (by omega) (by
    rw [Int.natAbs_natCast]
    exact log2_lt (Nat.lt_of_lt_of_le h2 (Nat.pow_le_pow_right (by decide) (by decide))) (by decide))]
  rfl
theorem ok_reduced {g : Ev} (h : OkGcd g) : OkLow (evF 3 2 (B_reduced g)) := by
  intro a b ha hb hab hg
  have hp : 0 < Nat.gcd a b := Nat.gcd_pos_of_pos_left b ha
  refine eq_of_wp (wp_ev rfl ?_)
  unfold B_reduced
  simp [h a b hab, fdiv_nat hp hg]
theorem ok_lowest : OkLow (evF 4 2 B__law_lowest) := by
  intro a b ha hb hab hg
  have hp : 0 < Nat.gcd a b := Nat.gcd_pos_of_pos_left b ha
  refine eq_of_wp (wp_ev rfl ?_)
  unfold B__law_lowest
  simp
  refine wp_whS (GJ (Nat.gcd a b) fun x y => [.sh (.int (a : Nat)), .sh (.int (b : Nat)), .sh x, .sh y]) (m := 90001) ⟨a, b, rfl, rfl, ?_⟩ (by decide) ?_
  · rcases Nat.lt_or_ge a b with h | h
    · exact .inr ⟨h, by decide, hab⟩
    · exact .inl ⟨h, Nat.lt_of_lt_of_le hab (Nat.pow_le_pow_right (by decide) (by decide))⟩
  · rintro m e ⟨x, y, rfl, hgg, hm⟩
    simp
    refine ⟨fun hy => ?_, fun hy => ?_⟩
    · subst hy
      simp at hgg
      subst hgg
      simp [fdiv_nat hp hg]
    · obtain ⟨h1, m', h2, h3⟩ := gj_step hy hgg hm
      simp [mod_int (i := (x : Int)) (j := (y : Int)) (by omega)]
      exact ⟨m', h2, y, x % y, by simp, h1, h3⟩
end Qv
namespace Qv
open PySem L2

/-! ### run lemmas for instances -/
theorem at_nil (d : D) : d.at [] = some d := by simp only [D.at]
@[simp] theorem der_np (i : Nat) (e : En) : der (.np i []) e = (match e[i]? with
  | some (.nt _ d) => if d.flat then .ok (d, e) else .err
  | _ => .err) := by
  unfold der
  try dsimp only
  all_goals
    rcases e[i]? with _ | s
    · rfl
    · cases s <;> first
        | rfl
        | (dsimp only; rw [at_nil])
@[simp] theorem shr_np (i : Nat) (e : En) : shr (.np i []) e = (match e[i]? with
  | some (.nt false d) => .ok (d.fz, e.set i (.sh d.fz))
  | _ => .err) := by
  unfold shr
  try dsimp only
  all_goals
    rcases e[i]? with _ | s
    · rfl
    · cases s <;> first
        | rfl
        | (rename_i b d; cases b <;> rfl)
@[simp] theorem slotOf_np (e : En) (i : Nat) : slotOf e (.np i []) = (match e[i]? with
  | some (.nt _ d) => some (.nt true d)
  | _ => none) := Eq.trans rfl rfl
@[simp] theorem pairs_np (k i : Nat) (r : List Val) : pairs k (.np i [] :: r) = (k, i) :: pairs (k + 1) r := Eq.trans rfl rfl
@[simp] theorem frzL_sh (bs : List Bool) (d : D) (r : List Val) (e : En) : frzL bs (.sh d :: r) e = bnd (frzL bs.tail r) (fun rs => ret (.sh d :: rs)) e := by
  cases bs with
  | nil => rfl
  | cons b bs => cases b <;> rfl
@[simp] theorem retV_np (e : En) (k : Nat) : retV e (.np k []) = (match e[k]? with
    | some (.nt false d) => some (.fn d)
    | _ => none) := Eq.trans rfl rfl
/-! ### scales -/
inductive Ms where
  | sums | cls (n : Nat) | odds
def Ms.ok : Ms → Prop
  | .cls n => 1 ≤ n ∧ n ≤ 4
  | _ => True
def Ms.cn : Ms → Str
  | .sums => "SumScale" | .cls _ => "ClassScale" | .odds => "OddsScale"
def Ms.word : Ms → Str
  | .sums => "sums" | .cls _ => "classes" | .odds => "odds"
def Ms.sz : Ms → Nat
  | .cls n => n
  | _ => 1
def Ms.d (m : Ms) : D := .tup [.str m.word, .int (m.sz : Nat)]
def Ms.zero : Ms → D
  | .sums => .int 0 | .cls n => .tup (List.replicate n (.int 0)) | .odds => .tup [.int 1, .int 1]
def Ms.one : Ms → D
  | .sums => .int 1 | .cls n => .tup (.int 1 :: List.replicate (n - 1) (.int 0)) | .odds => .tup [.int 2, .int 1]
def Ms.fs (m : Ms) : List (Str × D) := [("own_word", .str m.word), ("own_size", .int (m.sz : Nat)), ("own_zero", m.zero), ("own_one", m.one)]
def Ms.ins (m : Ms) : D := .ins m.cn m.fs
@[simp] theorem ins_flat (m : Ms) : m.ins.flat = true := by cases m <;> rfl
@[simp] theorem ins_fz (m : Ms) : m.ins.fz = m.ins := by cases m <;> rfl
@[simp] theorem ins_isIns (m : Ms) : m.ins.isIns = true := Eq.trans rfl rfl
/-- the scale, as a method has it -/
def Sf (m : Ms) (s : Slot) : Prop := s = .sh m.ins ∨ s = .nt true m.ins
/-- what the tables say of scales -/
structure ScA (T : Tb) : Prop where
  no : ∀ m : Ms, T.no m.cn "own_word" = true ∧ T.no m.cn "own_size" = true ∧ T.no m.cn "own_zero" = true ∧ T.no m.cn "own_one" = true
theorem ScA.word {T : Tb} (h : ScA T) (m : Ms) (w : Val) (e : En) : atD T.no T.pt "own_word" w m.ins e = .ok (.sh (.str m.word), e) := atD_fld (h.no m).1 (by cases m <;> rfl) e
theorem ScA.size {T : Tb} (h : ScA T) (m : Ms) (w : Val) (e : En) : atD T.no T.pt "own_size" w m.ins e = .ok (.sh (.int (m.sz : Nat)), e) := atD_fld (h.no m).2.1 (by cases m <;> rfl) e
theorem ScA.zero {T : Tb} (h : ScA T) (m : Ms) (w : Val) (e : En) : atD T.no T.pt "own_zero" w m.ins e = .ok (.sh m.zero, e) := atD_fld (h.no m).2.2.1 (by cases m <;> rfl) e
theorem ScA.one {T : Tb} (h : ScA T) (m : Ms) (w : Val) (e : En) : atD T.no T.pt "own_one" w m.ins e = .ok (.sh m.one, e) := atD_fld (h.no m).2.2.2 (by cases m <;> rfl) e
/-- a method with its promise -/
def Mth (T : Tb) (name : Str) (sp : Ev → Ms → Prop) : Prop := ∀ m : Ms, m.ok → ∃ bs ev, insM T.mt name m.ins = some (true :: bs, ev) ∧ sp ev m
/-! ### amounts -/
inductive Av where
  | s (i : Int) | c (l : List Int) | o (a b : Nat)
deriving DecidableEq
def Av.d : Av → D
  | .s i => .int i | .c l => .tup (iL l) | .o a b => .tup [.int (a : Nat), .int (b : Nat)]
/-- an amount of a scale, below 2 ^ k -/
def Av.ok (k : Nat) : Ms → Av → Prop
  | .sums, .s i => i.natAbs < 2 ^ k
  | .cls n, .c l => l.length = n ∧ ∀ x ∈ l, x.natAbs < 2 ^ k
  | .odds, .o a b => 0 < a ∧ 0 < b ∧ Nat.gcd a b = 1 ∧ a < 2 ^ k ∧ b < 2 ^ k
  | _, _ => False
theorem Av.ok.mono {k j : Nat} {m : Ms} {a : Av} (h : a.ok k m) (l : k ≤ j) : a.ok j m := by
  have p : 2 ^ k ≤ 2 ^ j := Nat.pow_le_pow_right (by decide) l
  cases m <;> cases a <;> simp only [Av.ok] at h ⊢
  · omega
  · exact ⟨h.1, fun x hx => Nat.lt_of_lt_of_le (h.2 x hx) p⟩
  · exact ⟨h.1, h.2.1, h.2.2.1, by omega, by omega⟩
def red (a b : Nat) : Av := .o (a / Nat.gcd a b) (b / Nat.gcd a b)
def zer : Ms → Av
  | .sums => .s 0 | .cls n => .c (List.replicate n 0) | .odds => .o 1 1
def add2 : Av → Av → Av
  | .s i, .s j => .s (i + j)
  | .c l, .c r => .c (List.zipWith (· + ·) l r)
  | .o a b, .o c d => red (a * c) (b * d)
  | x, _ => x
def sub2 : Av → Av → Av
  | .s i, .s j => .s (i - j)
  | .c l, .c r => .c (List.zipWith (· - ·) l r)
  | .o a b, .o c d => red (a * d) (b * c)
  | x, _ => x
def neg1 : Av → Av
  | .s i => .s (0 - i)
  | .c l => .c (l.map (0 - ·))
  | .o a b => .o b a
def tot (m : Ms) (l : List Av) : Av := l.foldl add2 (zer m)
theorem p0 (a b : D) : ixD (.tup [a, b]) (.int 0) = some a := by rfl
theorem p1 (a b : D) : ixD (.tup [a, b]) (.int 1) = some b := by rfl
/-! ### is_integer and forms -/
def OkIsI (ev : Ev) : Prop := ∀ d, (∃ t, tyD d = some t) → ev [.sh d] = .ok (.sh (.bl (match d with | .int _ => true | _ => false)), [.em])
theorem isX_bt {du : Du} {t : String} {d : D} (h : ∃ t, tyD d = some t) : isXD du (.bt t) d = isiD t d := by
  obtain ⟨n, hn⟩ := h
  unfold isXD isiD
  have : tyN d = some (.bt n) := by
    unfold tyN
    cases d <;> first | (show Option.map TyN.bt (tyD _) = _; rw [hn]; rfl) | cases hn
  rw [this, hn]
  rfl
theorem ok_isi {T : Tb} : OkIsI (evF 1 1 (B_is_integer_2 T)) := by
  intro d hd
  refine eq_of_wp (wp_ev rfl ?_)
  unfold B_is_integer_2
  have i1 := isX_bt (du := T.du) (t := "int") hd
  have i2 := isX_bt (du := T.du) (t := "bool") hd
  obtain ⟨t, ht⟩ := hd
  cases d with
  | int i =>
    have e1 : isiD "int" (.int i) = some true := by unfold isiD; simp [tyD]
    have e2 : isiD "bool" (.int i) = some false := by unfold isiD; simp [tyD]
    simp [i1, i2, e1, e2]
  | bl b =>
    have e1 : isiD "int" (.bl b) = some true := by unfold isiD; show kitB "bool" "int" = _; decide +kernel
    have e2 : isiD "bool" (.bl b) = some true := by unfold isiD; show kitB "bool" "bool" = _; decide +kernel
    simp [i1, i2, e1, e2]
  | non =>
    have e1 : isiD "int" .non = some false := by unfold isiD; show kitB "NoneType" "int" = _; decide +kernel
    simp [i1, e1]
  | str s =>
    have e1 : isiD "int" (.str s) = some false := by unfold isiD; show kitB "str" "int" = _; decide +kernel
    simp [i1, e1]
  | tup s =>
    have e1 : isiD "int" (.tup s) = some false := by unfold isiD; show kitB "tuple" "int" = _; decide +kernel
    simp [i1, e1]
  | lst s =>
    have e1 : isiD "int" (.lst s) = some false := by unfold isiD; show kitB "list" "int" = _; decide +kernel
    simp [i1, e1]
  | dct s =>
    have e1 : isiD "int" (.dct s) = some false := by unfold isiD; show kitB "dict" "int" = _; decide +kernel
    simp [i1, e1]
  | scr l => cases ht
  | ins c fs => cases ht
  | ty c => cases ht
  | box c => cases ht
theorem OkIsI.int {ev : Ev} (h : OkIsI ev) (i : Int) : ev [.sh (.int i)] = .ok (.sh (.bl true), [.em]) := h (.int i) ⟨_, rfl⟩
@[simp] theorem isX_tup {du : Du} {l : List D} : isXD du (.bt "tuple") (.tup l) = some true := by rw [isX_bt ⟨_, rfl⟩]; unfold isiD; simp [tyD]
theorem pow_mul_lt {a b k j : Nat} (h1 : a < 2 ^ k) (h2 : b < 2 ^ j) : a * b < 2 ^ (k + j) := by
  rw [Nat.pow_add]
  exact Nat.mul_lt_mul'' h1 h2
def KF (ev : Ev) (m : Ms) : Prop := ∀ (s : Slot) (a : Av), Sf m s → a.ok 2000 m → ev [s, .sh a.d] = .ok (.sh (.bl true), [s.nrm, .em])
theorem Sf.cases {m : Ms} {s : Slot} {P : Slot → Prop} (h : Sf m s) (h1 : P (.sh m.ins)) (h2 : P (.nt true m.ins)) : P s := by
  rcases h with rfl | rfl
  · exact h1
  · exact h2
theorem form_s {g : Ev} (h : OkIsI g) : KF (evF 2 2 (B_SumScale_has_form g)) .sums := by
  rintro s (i | l | ⟨a, b⟩) hs ha <;> simp only [Av.ok] at ha
  refine eq_of_wp (wp_ev rfl ?_)
  unfold B_SumScale_has_form
  rcases hs with rfl | rfl <;> simp [h.int, Av.d]
theorem bls_rep_t (n : Nat) : bls (List.replicate n (.bl true)) = some (List.replicate n true) := by
  induction n with
  | zero => rfl
  | succ n ih => rw [List.replicate_succ, bls, ih]; rfl
theorem all_rep_t (n : Nat) : allB [.lst (List.replicate n (.bl true))] = some (.sh (.bl true)) := by
  show (bls _).map _ = _
  rw [bls_rep_t]
  simp
theorem map_const {α β : Type} (l : List α) (f : α → β) (b : β) (h : ∀ x ∈ l, f x = b) : l.map f = List.replicate l.length b := by
  induction l with
  | nil => rfl
  | cons a r ih => rw [List.map_cons, h a (by simp), ih fun x hx => h x (List.mem_cons_of_mem _ hx)]; rfl
theorem gcd_small {a b k : Nat} (ha : 0 < a) (h : a < 2 ^ k) : Nat.gcd a b < 2 ^ k := Nat.lt_of_le_of_lt (Nat.gcd_le_left b ha) h
theorem form_o {T : Tb} {g gi gg : Ev} (hg : g = evF 2 1 (B_is_fraction T gi gg)) (hi : OkIsI gi) (hc : OkGcd gg) : KF (evF 2 2 (B_OddsScale_has_form g)) .odds := by
  rintro s (i | l | ⟨a, b⟩) hs ha <;> simp only [Av.ok] at ha
  obtain ⟨h1, h2, h3, h4, h5⟩ := ha
  have ev : g [.sh (.tup [.int (a : Nat), .int (b : Nat)])] = .ok (.sh (.bl true), [.em]) := by
    subst hg
    refine eq_of_wp (wp_ev rfl ?_)
    unfold B_is_fraction
    have ab := hc a b (Nat.lt_of_lt_of_le (pow_mul_lt h4 h5) (Nat.pow_le_pow_right (by decide) (by decide)))
    rw [h3] at ab
    simp
    refine wp_lcP [a, b] (fun n => .int (n : Nat)) (fun _ => true) (fun _ => .bl true) (w := [.sh (.tup [.int (a : Nat), .int (b : Nat)]), .em]) rfl (le_lim (by simp)) ?_ ?_
    · intro x hx
      have : 0 < x := by rcases List.mem_cons.mp hx with rfl | hx; exact h1; rw [List.mem_singleton.mp hx]; exact h2
      simp [hi.int, this]
    · have a2 : allB [.lst [.bl true, .bl true]] = some (.sh (.bl true)) := rfl
      simp [a2, ab, p0, p1]
  refine eq_of_wp (wp_ev rfl ?_)
  unfold B_OddsScale_has_form
  rcases hs with rfl | rfl <;> simp [ev, Av.d]
theorem form_c {T : Tb} (hT : ScA T) {g : Ev} (h : OkIsI g) {n : Nat} (hn : n ≤ 4) : KF (evF 3 2 (B_ClassScale_has_form T g)) (.cls n) := by
  rintro s (i | l | ⟨a, b⟩) hs ha <;> simp only [Av.ok] at ha
  obtain ⟨h1, h2⟩ := ha
  subst h1
  refine eq_of_wp (wp_ev rfl ?_)
  unfold B_ClassScale_has_form
  have hl : (l.filter fun _ => true).map (fun _ => D.bl true) = List.replicate l.length (.bl true) := by
    rw [List.filter_eq_self.mpr (fun _ _ => rfl)]
    exact map_const _ _ _ fun _ _ => rfl
  have sz : ∀ e, atD T.no T.pt "own_size" (.sh (Ms.cls l.length).ins) (Ms.cls l.length).ins e = .ok (.sh (.int (l.length : Nat)), e) := fun e => hT.size (.cls l.length) _ e
  have sz2 : ∀ e, atD T.no T.pt "own_size" (.np 0 []) (Ms.cls l.length).ins e = .ok (.sh (.int (l.length : Nat)), e) := fun e => hT.size (.cls l.length) _ e
  rcases hs with rfl | rfl
  · simp [Av.d, sz]
    refine wp_lcP l D.int (fun _ => true) (fun _ => .bl true) (w := [.sh (Ms.cls l.length).ins, .sh (.tup (iL l)), .em]) rfl (le_lim (by omega)) ?_ ?_
    · intro x hx
      simp [h.int]
    · rw [hl]
      simp [all_rep_t]
  · simp [Av.d, sz2]
    refine wp_lcP l D.int (fun _ => true) (fun _ => .bl true) (w := [.nt true (Ms.cls l.length).ins, .sh (.tup (iL l)), .em]) rfl (le_lim (by omega)) ?_ ?_
    · intro x hx
      simp [h.int]
    · rw [hl]
      simp [all_rep_t]
/-! ### added, opposite, total_in -/
def KA (ev : Ev) (m : Ms) : Prop := ∀ (s : Slot) (a b : Av), Sf m s → a.ok 2000 m → b.ok 2000 m → ev [s, .sh a.d, .sh b.d] = .ok (.sh (add2 a b).d, [s.nrm, .em, .em])
def KO (ev : Ev) (m : Ms) : Prop := ∀ (s : Slot) (a : Av), Sf m s → a.ok 2000 m → ev [s, .sh a.d] = .ok (.sh (neg1 a).d, [s.nrm, .em])
def aL (l : List Av) : List D := l.map Av.d
def KT (ev : Ev) (m : Ms) : Prop := ∀ (s : Slot) (l : List Av) (k : Nat), Sf m s → l.length ≤ 300 → (k + 1) * l.length ≤ 4300 → k ≤ 2000 → (∀ a ∈ l, a.ok k m) → ev [s, .sh (.tup (aL l))] = .ok (.sh (tot m l).d, [s.nrm, .em])
theorem added_s : KA (evF 3 3 B_SumScale_added) .sums := by
  rintro s (i | l | ⟨a, b⟩) (j | r | ⟨c, d⟩) hs ha hb <;> simp only [Av.ok] at ha hb
  refine eq_of_wp (wp_ev rfl ?_)
  unfold B_SumScale_added
  rcases hs with rfl | rfl <;> simp [Av.d, add2]
theorem opp_s : KO (evF 2 2 B_SumScale_opposite) .sums := by
  rintro s (i | l | ⟨a, b⟩) hs ha <;> simp only [Av.ok] at ha
  refine eq_of_wp (wp_ev rfl ?_)
  unfold B_SumScale_opposite
  rcases hs with rfl | rfl <;> simp [Av.d, neg1]
theorem opp_o : KO (evF 2 2 B_OddsScale_opposite) .odds := by
  rintro s (i | l | ⟨a, b⟩) hs ha <;> simp only [Av.ok] at ha
  refine eq_of_wp (wp_ev rfl ?_)
  unfold B_OddsScale_opposite
  rcases hs with rfl | rfl <;> simp [Av.d, neg1, p0, p1]
theorem opp_c {n : Nat} (hn : n ≤ 4) : KO (evF 3 2 B_ClassScale_opposite) (.cls n) := by
  rintro s (i | l | ⟨a, b⟩) hs ha <;> simp only [Av.ok] at ha
  obtain ⟨h1, h2⟩ := ha
  subst h1
  refine eq_of_wp (wp_ev rfl ?_)
  unfold B_ClassScale_opposite
  have hl : (l.filter fun _ => true).map (fun x => D.int (0 - x)) = iL (l.map (0 - ·)) := by
    rw [List.filter_eq_self.mpr (fun _ _ => rfl)]
    simp [iL, Function.comp_def]
  rcases hs with rfl | rfl
  · simp [Av.d]
    refine wp_lcP l D.int (fun _ => true) (fun x => .int (0 - x)) (w := [.sh (Ms.cls l.length).ins, .sh (.tup (iL l)), .em]) rfl (le_lim (by omega)) ?_ ?_
    · intro x hx
      simp
    · rw [hl]
      simp [neg1, Av.d]
  · simp [Av.d]
    refine wp_lcP l D.int (fun _ => true) (fun x => .int (0 - x)) (w := [.nt true (Ms.cls l.length).ins, .sh (.tup (iL l)), .em]) rfl (le_lim (by omega)) ?_ ?_
    · intro x hx
      simp
    · rw [hl]
      simp [neg1, Av.d]
theorem zip_pairs (l r : List Int) : z2L (iL l) (iL r) = (l.zip r).map fun p => .tup [.int p.1, .int p.2] := by
  simp [z2L, iL, List.zip, List.map_zipWith, List.zipWith_map]
theorem added_c {n : Nat} (hn : n ≤ 4) : KA (evF 5 3 B_ClassScale_added) (.cls n) := by
  rintro s (i | l | ⟨a, b⟩) (j | r | ⟨c, d⟩) hs ha hb <;> simp only [Av.ok] at ha hb
  obtain ⟨h1, h2⟩ := ha
  subst h1
  refine eq_of_wp (wp_ev rfl ?_)
  unfold B_ClassScale_added
  have hl : ((l.zip r).filter fun _ => true).map (fun p => D.int (p.1 + p.2)) = iL (List.zipWith (· + ·) l r) := by
    rw [List.filter_eq_self.mpr (fun _ _ => rfl)]
    simp [iL, List.zip, List.map_zipWith]
  have hz : (l.zip r).length ≤ 1000 := by rw [List.length_zip]; omega
  rcases hs with rfl | rfl
  · simp [Av.d, zip_pairs]
    refine wp_lcP (l.zip r) (fun p => .tup [.int p.1, .int p.2]) (fun _ => true) (fun p => .int (p.1 + p.2)) (w := [.sh (Ms.cls l.length).ins, .sh (.tup (iL l)), .sh (.tup (iL r)), .em, .em]) rfl (le_lim hz) ?_ ?_
    · intro x hx
      simp
    · rw [hl]
      simp [add2, Av.d]
  · simp [Av.d, zip_pairs]
    refine wp_lcP (l.zip r) (fun p => .tup [.int p.1, .int p.2]) (fun _ => true) (fun p => .int (p.1 + p.2)) (w := [.nt true (Ms.cls l.length).ins, .sh (.tup (iL l)), .sh (.tup (iL r)), .em, .em]) rfl (le_lim hz) ?_ ?_
    · intro x hx
      simp
    · rw [hl]
      simp [add2, Av.d]
end Qv
namespace Qv
open PySem L2

/-! ### totals -/
theorem ints_iL (l : List Int) : intsOf (iL l) = some l := by
  induction l with
  | nil => rfl
  | cons a r ih => show (intsOf (iL r)).map _ = _; rw [ih]; rfl
theorem sum_iL (l : List Int) : sumB [.lst (iL l)] = some (.sh (.int l.sum)) := by
  show (intsOf (iL l)).map _ = _
  rw [ints_iL]
  rfl
/-- what amounts of sums are -/
theorem all_s {l : List Av} {k : Nat} (h : ∀ a ∈ l, a.ok k .sums) : ∃ r : List Int, l = r.map Av.s := by
  induction l with
  | nil => exact ⟨[], rfl⟩
  | cons a r ih =>
    obtain ⟨r', rfl⟩ := ih fun x hx => h x (List.mem_cons_of_mem _ hx)
    have := h a (by simp)
    cases a <;> simp only [Av.ok] at this
    exact ⟨_ :: r', rfl⟩
theorem all_o {l : List Av} {k : Nat} (h : ∀ a ∈ l, a.ok k .odds) : ∃ r : List (Nat × Nat), l = r.map (fun p => Av.o p.1 p.2) ∧ ∀ p ∈ r, 0 < p.1 ∧ 0 < p.2 ∧ p.1 < 2 ^ k ∧ p.2 < 2 ^ k := by
  induction l with
  | nil => exact ⟨[], rfl, by simp⟩
  | cons a r ih =>
    obtain ⟨r', rfl, h2⟩ := ih fun x hx => h x (List.mem_cons_of_mem _ hx)
    have := h a (by simp)
    cases a <;> simp only [Av.ok] at this
    refine ⟨(_, _) :: r', rfl, ?_⟩
    intro p hp
    rcases List.mem_cons.mp hp with rfl | hp
    · exact ⟨this.1, this.2.1, this.2.2.2.1, this.2.2.2.2⟩
    · exact h2 p hp
theorem all_c {l : List Av} {k n : Nat} (h : ∀ a ∈ l, a.ok k (.cls n)) : ∃ r : List (List Int), l = r.map Av.c ∧ ∀ p ∈ r, p.length = n := by
  induction l with
  | nil => exact ⟨[], rfl, by simp⟩
  | cons a r ih =>
    obtain ⟨r', rfl, h2⟩ := ih fun x hx => h x (List.mem_cons_of_mem _ hx)
    have := h a (by simp)
    cases a <;> simp only [Av.ok] at this
    refine ⟨_ :: r', rfl, ?_⟩
    intro p hp
    rcases List.mem_cons.mp hp with rfl | hp
    · exact this.1
    · exact h2 p hp
theorem tot_s (r : List Int) : tot .sums (r.map Av.s) = .s r.sum := by
  have : ∀ (r : List Int) (z : Int), (r.map Av.s).foldl add2 (.s z) = .s (z + r.sum) := by
    intro r
    induction r with
    | nil => intro z; simp
    | cons a r ih => intro z; show (r.map Av.s).foldl add2 (.s (z + a)) = _; rw [ih]; simp [Int.add_assoc]
  show (r.map Av.s).foldl add2 (.s 0) = _
  rw [this]
  simp
theorem aL_s (r : List Int) : aL (r.map Av.s) = iL r := by simp [aL, iL, Av.d, Function.comp_def]
theorem total_s : KT (evF 2 2 B_SumScale_total_in) .sums := by
  intro s l k hs hl hk hk2 ha
  obtain ⟨r, rfl⟩ := all_s ha
  refine eq_of_wp (wp_ev rfl ?_)
  unfold B_SumScale_total_in
  rw [tot_s, aL_s]
  rcases hs with rfl | rfl <;> simp [Av.d, sum_iL]
/-! ### totals of odds -/
def pr1 (r : List (Nat × Nat)) : Nat := r.foldl (fun z p => z * p.1) 1
def pr2 (r : List (Nat × Nat)) : Nat := r.foldl (fun z p => z * p.2) 1
theorem red_red (A B c d : Nat) (hA : 0 < A) (hB : 0 < B) (hc : 0 < c) (hd : 0 < d) : red (A / Nat.gcd A B * c) (B / Nat.gcd A B * d) = red (A * c) (B * d) := by
  have hg : 0 < Nat.gcd A B := Nat.gcd_pos_of_pos_left B hA
  obtain ⟨x, hx⟩ := Nat.gcd_dvd_left A B
  obtain ⟨y, hy⟩ := Nat.gcd_dvd_right A B
  generalize hgg : Nat.gcd A B = g at *
  have e1 : A / g = x := by rw [hx]; exact Nat.mul_div_cancel_left x hg
  have e2 : B / g = y := by rw [hy]; exact Nat.mul_div_cancel_left y hg
  rw [e1, e2]
  have f1 : A * c = g * (x * c) := by rw [hx, Nat.mul_assoc]
  have f2 : B * d = g * (y * d) := by rw [hy, Nat.mul_assoc]
  rw [f1, f2]
  unfold red
  rw [Nat.gcd_mul_left, Nat.mul_div_mul_left _ _ hg, Nat.mul_div_mul_left _ _ hg]
theorem foldl_pos (r : List (Nat × Nat)) (h : ∀ p ∈ r, 0 < p.1 ∧ 0 < p.2) : ∀ z w : Nat, 0 < z → 0 < w → (r.map (fun p => Av.o p.1 p.2)).foldl add2 (red z w) = red (r.foldl (fun z p => z * p.1) z) (r.foldl (fun z p => z * p.2) w) := by
  induction r with
  | nil => intro z w _ _; rfl
  | cons p r ih =>
    intro z w hz hw
    have hp := h p (by simp)
    show (r.map (fun p => Av.o p.1 p.2)).foldl add2 (add2 (red z w) (.o p.1 p.2)) = _
    have : add2 (red z w) (.o p.1 p.2) = red (z * p.1) (w * p.2) := red_red z w p.1 p.2 hz hw hp.1 hp.2
    rw [this, ih (fun q hq => h q (List.mem_cons_of_mem _ hq)) _ _ (Nat.mul_pos hz hp.1) (Nat.mul_pos hw hp.2)]
    rfl
theorem tot_o (r : List (Nat × Nat)) (h : ∀ p ∈ r, 0 < p.1 ∧ 0 < p.2) : tot .odds (r.map (fun p => Av.o p.1 p.2)) = red (pr1 r) (pr2 r) := by
  show (r.map (fun p => Av.o p.1 p.2)).foldl add2 (.o 1 1) = _
  have : Av.o 1 1 = red 1 1 := by simp [red]
  rw [this, foldl_pos r h 1 1 (by decide) (by decide)]
  rfl
theorem mul_nat {a b : Nat} (h : a < 2 ^ 9000) (h2 : b < 2 ^ 9000) : mulD (.int (a : Nat)) (.int (b : Nat)) = some (.sh (.int (a * b : Nat))) := by
  have x := log2_lt h (by decide)
  have y := log2_lt h2 (by decide)
  show (if (a : Int).natAbs.log2 + (b : Int).natAbs.log2 < 1000000 then _ else _) = _
  rw [Int.natAbs_natCast, Int.natAbs_natCast, if_pos (by omega)]
  rfl
theorem pw_le {a k j : Nat} (h : a < 2 ^ k) (l : k ≤ j) : a < 2 ^ j := Nat.lt_of_lt_of_le h (Nat.pow_le_pow_right (by decide) l)
theorem pr_snoc (r : List (Nat × Nat)) (p : Nat × Nat) : pr1 (r ++ [p]) = pr1 r * p.1 ∧ pr2 (r ++ [p]) = pr2 r * p.2 := by
  unfold pr1 pr2
  rw [List.foldl_append, List.foldl_append]
  exact ⟨rfl, rfl⟩
def aO (r : List (Nat × Nat)) : List D := r.map fun p => .tup [.int (p.1 : Nat), .int (p.2 : Nat)]
theorem aL_o (r : List (Nat × Nat)) : aL (r.map (fun p => Av.o p.1 p.2)) = aO r := by simp [aL, aO, Av.d, Function.comp_def]
theorem gcd_lt {a b k : Nat} (ha : 0 < a) (h : a < 2 ^ k) : Nat.gcd a b < 2 ^ k := Nat.lt_of_le_of_lt (Nat.gcd_le_left b ha) h
theorem total_o {g : Ev} (h : OkLow g) : KT (evF 5 2 (B_OddsScale_total_in g)) .odds := by
  intro s l k hs hl hk hk2 ha
  obtain ⟨r, rfl, hr⟩ := all_o ha
  rw [tot_o r fun p hp => ⟨(hr p hp).1, (hr p hp).2.1⟩, aL_o]
  simp only [List.length_map] at hl hk
  refine eq_of_wp (wp_ev rfl ?_)
  unfold B_OddsScale_total_in
  have low : ∀ a b : Nat, 0 < a → 0 < b → a < 2 ^ 4301 → b < 2 ^ 4301 → g [.sh (.int (a : Nat)), .sh (.int (b : Nat))] = .ok (.sh (red a b).d, [.em, .em]) := by
    intro a b ha hb h1 h2
    exact h a b ha hb (pw_le (pow_mul_lt h1 h2) (by decide)) (gcd_lt ha (pw_le h1 (by decide)))
  have inv : ∀ r1 : List (Nat × Nat), (∀ p ∈ r1, 0 < p.1 ∧ 0 < p.2 ∧ p.1 < 2 ^ k ∧ p.2 < 2 ^ k) → 0 < pr1 r1 ∧ 0 < pr2 r1 ∧ pr1 r1 < 2 ^ (k * r1.length + 1) ∧ pr2 r1 < 2 ^ (k * r1.length + 1) := by
    have go : ∀ (r1 : List (Nat × Nat)) (z w j : Nat), 0 < z → 0 < w → z < 2 ^ j → w < 2 ^ j → (∀ p ∈ r1, 0 < p.1 ∧ 0 < p.2 ∧ p.1 < 2 ^ k ∧ p.2 < 2 ^ k) → 0 < r1.foldl (fun z p => z * p.1) z ∧ 0 < r1.foldl (fun z p => z * p.2) w ∧ r1.foldl (fun z p => z * p.1) z < 2 ^ (k * r1.length + j) ∧ r1.foldl (fun z p => z * p.2) w < 2 ^ (k * r1.length + j) := by
      intro r1
      induction r1 with
      | nil => intro z w j h1 h2 h3 h4 _; simpa using ⟨h1, h2, h3, h4⟩
      | cons p r1 ih =>
        intro z w j h1 h2 h3 h4 h5
        obtain ⟨b1, b2, b3, b4⟩ := h5 p (by simp)
        have e : k * (p :: r1).length + j = k * r1.length + (j + k) := by rw [List.length_cons, Nat.mul_add]; omega
        rw [e]
        exact ih _ _ _ (Nat.mul_pos h1 b1) (Nat.mul_pos h2 b2) (pow_mul_lt h3 b3) (pow_mul_lt h4 b4) fun q hq => h5 q (List.mem_cons_of_mem _ hq)
    intro r1 h1
    exact go r1 1 1 1 (by decide) (by decide) (by decide) (by decide) h1
  have hk3 : k * r.length ≤ 4300 := Nat.le_trans (Nat.mul_le_mul_right _ (Nat.le_succ k)) hk
  simp
  refine wp_forL (fun done e => ∃ r1 : List (Nat × Nat), r1 <+: r ∧ done = aO r1 ∧ ∃ x, e = [s, .sh (.tup (aO r)), .sh (.int (pr1 r1 : Nat)), .sh (.int (pr2 r1 : Nat)), x] ∧ x.bare = true) ⟨[], List.nil_prefix, rfl, .em, rfl, rfl⟩ ?_ ?_
  · rintro done d rest e hd ⟨r1, hp, rfl, x, rfl, hx⟩
    obtain ⟨r2, rfl⟩ := hp
    simp only [aO, List.map_append] at hd
    have hd2 := List.append_cancel_left hd
    cases r2 with
    | nil => cases hd2
    | cons p r3 =>
      simp only [List.map_cons, List.cons.injEq] at hd2
      obtain ⟨rfl, _⟩ := hd2
      obtain ⟨a1, a2, a3, a4⟩ := inv r1 fun q hq => hr q (by simp [hq])
      obtain ⟨b1, b2, b3, b4⟩ := hr p (by simp)
      have hle : k * r1.length ≤ 4300 := Nat.le_trans (Nat.mul_le_mul_left _ (by simp)) hk3
      have m1 := mul_nat (pw_le a3 (show k * r1.length + 1 ≤ 9000 by omega)) (pw_le b3 (show k ≤ 9000 by omega))
      have m2 := mul_nat (pw_le a4 (show k * r1.length + 1 ≤ 9000 by omega)) (pw_le b4 (show k ≤ 9000 by omega))
      have fin : ∃ r1' : List (Nat × Nat), r1' <+: r1 ++ p :: r3 ∧ aO r1 ++ [.tup [.int (p.1 : Nat), .int (p.2 : Nat)]] = aO r1' ∧ pr1 r1' = pr1 r1 * p.1 ∧ pr2 r1' = pr2 r1 * p.2 := ⟨r1 ++ [p], ⟨r3, by simp⟩, by simp [aO], (pr_snoc r1 p).1, (pr_snoc r1 p).2⟩
      obtain ⟨r1', f1, f2, f3, f4⟩ := fin
      cases x <;> first | (cases hx; done) | (simp [p0, p1, m1, m2, -Int.natCast_mul]; exact ⟨r1', f1, f2, _, ⟨by rw [f3], by rw [f4], rfl⟩, rfl⟩)
  · rintro e ⟨r1, hp, hd, x, rfl, hx⟩
    have : r1 = r := by
      have hlen := congrArg List.length hd
      simp only [aO, List.length_map] at hlen
      exact List.IsPrefix.eq_of_length hp hlen.symm
    subst this
    obtain ⟨a1, a2, a3, a4⟩ := inv r1 hr
    have := low _ _ a1 a2 (pw_le a3 (show k * r1.length + 1 ≤ 4301 by omega)) (pw_le a4 (show k * r1.length + 1 ≤ 4301 by omega))
    simp [this]
theorem added_o {T : Tb} (ht : ∃ bs ev, insM T.mt "total_in" Ms.odds.ins = some (true :: bs, ev) ∧ KT ev .odds) : KA (evF 3 3 (B_OddsScale_added T)) .odds := by
  intro s a b hs ha hb
  obtain ⟨bs, ev, h1, h2⟩ := ht
  refine eq_of_wp (wp_ev rfl ?_)
  unfold B_OddsScale_added
  have e := h2 s [a, b] 2000 hs (by simp) (by simp) (by decide) (by
    intro x hx
    rcases List.mem_cons.mp hx with rfl | hx
    · exact ha
    · rw [List.mem_singleton.mp hx]; exact hb)
  have e3 : tot .odds [a, b] = add2 a b := by
    show add2 (add2 (.o 1 1) a) b = _
    cases a <;> simp only [Av.ok] at ha
    congr 1
    simp [add2, red, ha.2.2.1]
  rw [e3] at e
  simp only [aL, List.map_cons, List.map_nil] at e
  rcases hs with rfl | rfl
  · simp [h1, e]
  · simp [h1, e]
/-! ### totals of classes -/
theorem gd {l : List Int} {i : Nat} (h : i < l.length) : l.getD i 0 = l[i] := by
  rw [List.getD_eq_getElem?_getD, List.getElem?_eq_getElem h]
  rfl
def col (r : List (List Int)) (i : Nat) : Int := (r.map fun l => l.getD i 0).sum
theorem zw_len (l r : List Int) (h : l.length = n) (h2 : r.length = n) : (List.zipWith (· + ·) l r).length = n := by simp [h, h2]
theorem tot_c (n : Nat) (r : List (List Int)) (h : ∀ l ∈ r, l.length = n) : tot (.cls n) (r.map Av.c) = .c ((List.range n).map (col r)) := by
  have go : ∀ (r : List (List Int)) (z : List Int), z.length = n → (∀ l ∈ r, l.length = n) → (r.map Av.c).foldl add2 (.c z) = .c ((List.range n).map fun i => z.getD i 0 + col r i) := by
    intro r
    induction r with
    | nil =>
      intro z hz _
      show Av.c z = _
      congr 1
      refine List.ext_getElem (by simp [hz]) fun i h1 h2 => ?_
      simp [col, h1]
    | cons l r ih =>
      intro z hz hl
      have h0 := hl l (by simp)
      show (r.map Av.c).foldl add2 (.c (List.zipWith (· + ·) z l)) = _
      rw [ih _ (by simp [hz, h0]) fun x hx => hl x (List.mem_cons_of_mem _ hx)]
      congr 1
      refine List.map_congr_left fun i hi => ?_
      have hi' : i < n := List.mem_range.mp hi
      have e : (List.zipWith (· + ·) z l).getD i 0 = z.getD i 0 + l.getD i 0 := by
        rw [gd (by simp [hz, h0, hi']), gd (show i < z.length by omega), gd (show i < l.length by omega)]
        simp
      rw [e]
      show _ = z.getD i 0 + ((l.getD i 0) + col r i)
      omega
  show (r.map Av.c).foldl add2 (.c (List.replicate n 0)) = _
  rw [go r _ (by simp) h]
  congr 1
  refine List.map_congr_left fun i hi => ?_
  have hi' : i < n := List.mem_range.mp hi
  rw [gd (by simpa using hi')]
  simp
theorem aL_c (r : List (List Int)) : aL (r.map Av.c) = r.map fun l => .tup (iL l) := by simp [aL, Av.d, Function.comp_def]
theorem ix_iL {l : List Int} {i : Nat} (h : i < l.length) : ixD (.tup (iL l)) (.int (i : Nat)) = some (.int (l.getD i 0)) := by
  obtain ⟨x, h1, _, h2⟩ := atI_mem (l := iL l) (r := (i : Nat)) (by omega) (by simp; omega)
  show atI (iL l) (i : Nat) = _
  rw [h1]
  rw [Int.toNat_natCast, iL, List.getElem?_map, List.getElem?_eq_getElem h] at h2
  rw [gd h]
  exact h2.symm
theorem total_c {T : Tb} (hT : ScA T) {n : Nat} (hn : n ≤ 4) : KT (evF 4 2 (B_ClassScale_total_in T)) (.cls n) := by
  intro s l k hs hl hk hk2 ha
  obtain ⟨r, rfl, hr⟩ := all_c ha
  rw [tot_c n r hr, aL_c]
  simp only [List.length_map] at hl
  refine eq_of_wp (wp_ev rfl ?_)
  unfold B_ClassScale_total_in
  have hrr : rngD 0 n = (List.range n).map fun i => D.int (i : Nat) := by simp [rngD]
  have hrg := rng1_nat n (Nat.lt_of_le_of_lt hn (by decide))
  have sz : ∀ w e, atD T.no T.pt "own_size" w (Ms.cls n).ins e = .ok (.sh (.int (n : Nat)), e) := fun w e => hT.size (.cls n) w e
  have main : ∀ Q : Val → En → Prop, Q (.fr (.lst (((List.range n).filter fun _ => true).map fun i => .int (col r i)))) [s, .sh (.tup (r.map fun l => .tup (iL l))), .em, .em] → wpO (lcK [3] (asgN 3) (ret true) (callC sumB [lcN 1 [2] (iterC (nameC 1)) (asgN 2) (ret true) (ixE (nameC 2) (nameC 3))]) ((List.range n).map fun i => D.int (i : Nat)) [s, .sh (.tup (r.map fun l => .tup (iL l))), .em, .em]) Q := by
    intro Q hQ
    refine wp_lcP (List.range n) (fun i => .int (i : Nat)) (fun _ => true) (fun i => .int (col r i)) (w := [s, .sh (.tup (r.map fun l => .tup (iL l))), .em, .em]) rfl (le_lim (by simp; omega)) ?_ hQ
    intro i hi
    have hi' : i < n := List.mem_range.mp hi
    simp
    refine wp_lcP r (fun l => .tup (iL l)) (fun _ => true) (fun l => .int (l.getD i 0)) (w := [s, .sh (.tup (r.map fun l => .tup (iL l))), .em, .sh (.int (i : Nat))]) rfl (le_lim (by omega)) ?_ ?_
    · intro l hl
      have hli : i < l.length := by rw [hr l hl]; exact hi'
      simp [ix_iL hli]
    · have e : (r.filter fun _ => true).map (fun l => D.int (l.getD i 0)) = iL (r.map fun l => l.getD i 0) := by
        rw [List.filter_eq_self.mpr (fun _ _ => rfl)]
        simp [iL, Function.comp_def]
      rw [e]
      simp [sum_iL, col]
  have e2 : ((List.range n).filter fun _ => true).map (fun i => D.int (col r i)) = iL ((List.range n).map (col r)) := by
    rw [List.filter_eq_self.mpr (fun _ _ => rfl)]
    simp [iL, Function.comp_def]
  rw [e2] at main
  rcases hs with rfl | rfl
  · simp [sz, hrg, hrr]
    refine main _ ?_
    simp [Av.d]
  · simp [sz, hrg, hrr]
    refine main _ ?_
    simp [Av.d]
end Qv
namespace Qv
open PySem L2

/-! ### what scales do -/
def KR (ev : Ev) (m : Ms) : Prop := ∀ (s : Slot) (a : Av), Sf m s → a.ok 2000 m → ev [s, .sh a.d] = .ok (.sh .non, [s.nrm, .em])
def KRs (ev : Ev) (m : Ms) : Prop := ∀ (s : Slot) (l : List Av), Sf m s → (∀ a ∈ l, a.ok 2000 m) → ev [s, .sh (.tup (aL l))] = .ok (.sh .non, [s.nrm, .em])
def KM (ev : Ev) (m : Ms) : Prop := ∀ (s : Slot) (a b : Av), Sf m s → a.ok 2000 m → b.ok 2000 m → ev [s, .sh a.d, .sh b.d] = .ok (.sh (sub2 a b).d, [s.nrm, .em, .em])
def KW (ev : Ev) (m : Ms) : Prop := ∀ (s : Slot) (a : Av), Sf m s → a.ok 2000 m → ev [s, .sh a.d] = .ok (.sh (add2 a a).d, [s.nrm, .em])
theorem req1 {T : Tb} (h : Mth T "has_form" KF) (m : Ms) (hm : m.ok) : KR (evF 2 2 (B_Scale_require_amount T)) m := by
  intro s a hs ha
  obtain ⟨bs, ev, h1, h2⟩ := h m hm
  refine eq_of_wp (wp_ev rfl ?_)
  unfold B_Scale_require_amount
  have e := h2 s a hs ha
  rcases hs with rfl | rfl <;> simp [h1, e]
theorem reqs {T : Tb} (h : Mth T "require_amount" KR) (m : Ms) (hm : m.ok) : KRs (evF 3 2 (B_Scale_require_amounts T)) m := by
  intro s l hs ha
  obtain ⟨bs, ev, h1, h2⟩ := h m hm
  refine eq_of_wp (wp_ev rfl ?_)
  unfold B_Scale_require_amounts
  simp
  refine wp_forL (fun done e => ∃ x, e = [s, .sh (.tup (aL l)), x] ∧ x.bare = true) ⟨.em, rfl, rfl⟩ ?_ ?_
  · rintro done d rest e hd ⟨x, rfl, hx⟩
    have : ∃ a ∈ l, d = a.d := by
      have : d ∈ aL l := by rw [← hd]; simp
      obtain ⟨a, h3, h4⟩ := List.mem_map.mp this
      exact ⟨a, h3, h4.symm⟩
    obtain ⟨a, h3, rfl⟩ := this
    have e := h2 s a hs (ha a h3)
    rcases hs with rfl | rfl <;> cases x <;> first | (cases hx; done) | (simp [h1, e, Slot.bare])
  · rintro e ⟨x, rfl, hx⟩
    simp
theorem plus_all {T : Tb} (h : Mth T "require_amounts" KRs) (h' : Mth T "total_in" KT) (m : Ms) (hm : m.ok) : KT (evF 2 2 (B_Scale_plus_all T)) m := by
  intro s l k hs hl hk hk2 ha
  obtain ⟨bs, ev, h1, h2⟩ := h m hm
  obtain ⟨bs', ev', h1', h2'⟩ := h' m hm
  refine eq_of_wp (wp_ev rfl ?_)
  unfold B_Scale_plus_all
  have e := h2 s l hs fun a h => (ha a h).mono hk2
  have e' := h2' s l k hs hl hk hk2 ha
  rcases hs with rfl | rfl <;> simp [h1, e, h1', e']
theorem plus_ {T : Tb} (h : Mth T "require_amounts" KRs) (h' : Mth T "total_in" KT) (m : Ms) (hm : m.ok) : KT (evF 2 2 (B_Scale_plus T)) m := plus_all h h' m hm
theorem neg_ok {k : Nat} {m : Ms} {a : Av} (h : a.ok k m) : (neg1 a).ok k m := by
  cases m <;> cases a <;> simp only [Av.ok, neg1] at h ⊢
  · omega
  · refine ⟨by simp [h.1], fun x hx => ?_⟩
    obtain ⟨y, h1, rfl⟩ := List.mem_map.mp hx
    have := h.2 y h1
    omega
  · refine ⟨h.2.1, h.1, by rw [Nat.gcd_comm]; exact h.2.2.1, h.2.2.2.2, h.2.2.2.1⟩
theorem add_neg {k : Nat} {m : Ms} {a b : Av} (h : a.ok k m) (h2 : b.ok k m) : add2 a (neg1 b) = sub2 a b := by
  cases m <;> cases a <;> simp only [Av.ok] at h <;> cases b <;> simp only [Av.ok] at h2 <;> simp only [add2, sub2, neg1]
  · congr 1; omega
  · congr 1
    refine List.ext_getElem (by simp) fun i h3 h4 => ?_
    simp
    omega
theorem minus_ {T : Tb} (h : Mth T "require_amount" KR) (ha : Mth T "added" KA) (ho : Mth T "opposite" KO) (m : Ms) (hm : m.ok) : KM (evF 3 3 (B_Scale_minus T)) m := by
  intro s a b hs pa pb
  obtain ⟨bs, ev, h1, h2⟩ := h m hm
  obtain ⟨bs2, ev2, h3, h4⟩ := ha m hm
  obtain ⟨bs3, ev3, h5, h6⟩ := ho m hm
  refine eq_of_wp (wp_ev rfl ?_)
  unfold B_Scale_minus
  have e1 := h2 s a hs pa
  have e2 := h2 s b hs pb
  have e3 := h6 s b hs pb
  have e4 := h4 s a (neg1 b) hs pa (neg_ok pb)
  rw [add_neg pa pb] at e4
  rcases hs with rfl | rfl <;> simp [h1, h3, h5, e1, e2, e3, e4]
theorem negative_ {T : Tb} (h : Mth T "require_amount" KR) (ho : Mth T "opposite" KO) (m : Ms) (hm : m.ok) : KO (evF 2 2 (B_Scale_negative T)) m := by
  intro s a hs pa
  obtain ⟨bs, ev, h1, h2⟩ := h m hm
  obtain ⟨bs3, ev3, h5, h6⟩ := ho m hm
  refine eq_of_wp (wp_ev rfl ?_)
  unfold B_Scale_negative
  have e1 := h2 s a hs pa
  have e3 := h6 s a hs pa
  rcases hs with rfl | rfl <;> simp [h1, h5, e1, e3]
theorem twice_ {T : Tb} (h : Mth T "require_amount" KR) (ha : Mth T "added" KA) (m : Ms) (hm : m.ok) : KW (evF 2 2 (B_Scale_twice T)) m := by
  intro s a hs pa
  obtain ⟨bs, ev, h1, h2⟩ := h m hm
  obtain ⟨bs2, ev2, h3, h4⟩ := ha m hm
  refine eq_of_wp (wp_ev rfl ?_)
  unfold B_Scale_twice
  have e1 := h2 s a hs pa
  have e4 := h4 s a a hs pa pa
  rcases hs with rfl | rfl <;> simp [h1, h3, e1, e4]
/-! ### scales made -/
def KI (ev : Ev) : Prop := ∀ (m : Ms), m.ok → ev [.nt true (.ins m.cn []), .sh (.str m.word), .sh (.int (m.sz : Nat)), .sh m.zero, .sh m.one] = .ok (.sh .non, [.nt true m.ins, .em, .em, .em, .em])
theorem init_ {T : Tb} (hT : ScA T) : KI (evF 5 5 (B_Scale___init__ T)) := by
  intro m hm
  refine eq_of_wp (wp_ev rfl ?_)
  unfold B_Scale___init__
  obtain ⟨n1, n2, n3, n4⟩ := hT.no m
  have st : ∀ (f : Str) (d : D) (fs : List (Str × D)) (r : En), T.no m.cn f = true → fs.length < 900 → stF T.no f d (.np 0 []) (.nt true (.ins m.cn fs) :: r) = .ok (.nx, .nt true (.ins m.cn (fsSet fs f d)) :: r) := fun f d fs r h1 h2 => stF_np (i := 0) (b := true) rfl h1 h2
  have l1 : ∀ (fs : List (Str × D)) (f : Str) (d : D), (fsSet fs f d).length ≤ fs.length + 1 := by
    intro fs f d
    induction fs with
    | nil => simp [fsSet]
    | cons p r ih =>
      obtain ⟨k, v⟩ := p
      simp only [fsSet]
      split
      · simp
      · simpa using ih
  simp
  rw [st _ _ _ _ n1 (by decide)]
  simp
  rw [st _ _ _ _ n2 (Nat.lt_of_le_of_lt (l1 _ _ _) (by decide))]
  simp
  rw [st _ _ _ _ n3 (Nat.lt_of_le_of_lt (Nat.le_trans (l1 _ _ _) (Nat.succ_le_succ (l1 _ _ _))) (by decide))]
  simp
  rw [st _ _ _ _ n4 (Nat.lt_of_le_of_lt (Nat.le_trans (l1 _ _ _) (Nat.succ_le_succ (Nat.le_trans (l1 _ _ _) (Nat.succ_le_succ (l1 _ _ _))))) (by decide))]
  simp
  kernel_rfl
/-- a scale made -/
theorem mk_ {ev : Ev} (h : KI ev) (m : Ms) (hm : m.ok) (e : En) : mkV m.cn ev [.sh (.str m.word), .sh (.int (m.sz : Nat)), .sh m.zero, .sh m.one] e = .ok (.fn m.ins, e) := by
  have g1 : (e ++ [Slot.nt false (.ins m.cn [])])[e.length]? = some (.nt false (.ins m.cn [])) := by simp
  have g2 : (e ++ [Slot.nt false (.ins m.cn [])]).set e.length (.nt false m.ins) = e ++ [.nt false m.ins] := by simp
  have g3 : (e ++ [Slot.nt false m.ins])[e.length]? = some (.nt false m.ins) := by simp
  have go : goV ev [.np e.length [], .sh (.str m.word), .sh (.int (m.sz : Nat)), .sh m.zero, .sh m.one] (e ++ [.nt false (.ins m.cn [])]) = .ok (.sh .non, e ++ [.nt false m.ins]) := by
    simp [h m hm, g2]
  unfold mkV
  rw [go]
  simp only
  rw [g3]
  simp
theorem mk_sums {ev : Ev} (h : KI ev) : evF 0 0 (B_Scale_sums ev) [] = .ok (.fn Ms.sums.ins, []) := by
  refine eq_of_wp (wp_ev rfl ?_)
  unfold B_Scale_sums
  have e : mkV "SumScale" ev [.sh (.str "sums"), .sh (.int 1), .sh (.int 0), .sh (.int 1)] [] = .ok (.fn Ms.sums.ins, []) := mk_ h .sums trivial []
  simp [e]
theorem mk_odds {ev : Ev} (h : KI ev) : evF 0 0 (B_Scale_odds ev) [] = .ok (.fn Ms.odds.ins, []) := by
  refine eq_of_wp (wp_ev rfl ?_)
  unfold B_Scale_odds
  have e : mkV "OddsScale" ev [.sh (.str "odds"), .sh (.int 1), .sh (.tup [.int 1, .int 1]), .sh (.tup [.int 2, .int 1])] [] = .ok (.fn Ms.odds.ins, []) := mk_ h .odds trivial []
  simp [e]
theorem mk_cls {g ev : Ev} (hg : OkIsI g) (h : KI ev) (n : Nat) (h1 : 1 ≤ n) (h2 : n ≤ 4) : evF 1 1 (B_Scale_classes g ev) [.sh (.int (n : Nat))] = .ok (.fn (Ms.cls n).ins, [.em]) := by
  refine eq_of_wp (wp_ev rfl ?_)
  unfold B_Scale_classes
  have e : mkV "ClassScale" ev [.sh (.str "classes"), .sh (.int (n : Nat)), .sh (Ms.cls n).zero, .sh (Ms.cls n).one] [.sh (.int (n : Nat))] = .ok (.fn (Ms.cls n).ins, [.sh (.int (n : Nat))]) := mk_ h (.cls n) ⟨h1, h2⟩ _
  have m1 : mulD (.tup [.int 0]) (.int (n : Nat)) = some (.sh (Ms.cls n).zero) := by
    have : n = 1 ∨ n = 2 ∨ n = 3 ∨ n = 4 := by omega
    rcases this with rfl | rfl | rfl | rfl <;> kernel_rfl
  have m2 : mulD (.tup [.int 0]) (.int ((n : Nat) - 1 : Int)) = some (.sh (.tup (List.replicate (n - 1) (.int 0)))) := by
    have : n = 1 ∨ n = 2 ∨ n = 3 ∨ n = 4 := by omega
    rcases this with rfl | rfl | rfl | rfl <;> kernel_rfl
  have m3 : addD (.tup [.int 1]) (.tup (List.replicate (n - 1) (.int 0))) = some (.sh (Ms.cls n).one) := by
    have : n = 1 ∨ n = 2 ∨ n = 3 ∨ n = 4 := by omega
    rcases this with rfl | rfl | rfl | rfl <;> kernel_rfl
  have i1 : (1 : Int) ≤ (n : Nat) := by omega
  have i2 : ((n : Nat) : Int) ≤ 4 := by omega
  simp [hg.int, h1, h2, i1, i2, m1, m2, m3, e]
end Qv
namespace Qv
open PySem L2

/-! ### drawing -/
theorem wp_pull {ev : Ev} (h : OkPull ev) {k : Nat} {e : En} {ft : M Val} {Q : Val → En → Prop} (hk : ∃ b d, e[k]? = some (.ow b d))
    (hf : wpO (ft e) fun v e1 => ∃ t b d1 N, v = .sh (.int t) ∧ e1[k]? = some (.ow b d1) ∧ Di N d1 ∧ N < 2 ^ 60 ∧ 0 < t ∧ t < 2 ^ 200 ∧ ∀ r d', Di (N + 1) d' → 0 ≤ r → r < t → Q (.sh (.int r)) (e1.set k (.ow b d'))) : wpO (callV [true, true] ev [nameC k, ft] e) Q := by
  obtain ⟨b, d, hk⟩ := hk
  obtain ⟨v, e1, h1, t, b1, d1, N, rfl, h2, h3, h4, h5, h6, h7⟩ := wpO_get hf
  obtain ⟨r, d', h8, h9, h10, h11⟩ := h N d1 t h3 h4 h5 h6
  have e2 : callV [true, true] ev [nameC k, ft] e = .ok (.sh (.int r), e1.set k (.ow b1 d')) := by simp [hk, h1, h2, h8]
  rw [e2]
  exact h7 r d' h9 h10 h11
theorem wp_pullc {ev : Ev} (h : OkPull ev) {k N : Nat} {b : Bool} {d : D} {e : En} {t : Int} {Q : Val → En → Prop} (hk : e[k]? = some (.ow b d)) (hd : Di N d) (hN : N < 2 ^ 60) (h0 : 0 < t) (h1 : t < 2 ^ 200)
    (hq : ∀ r d', Di (N + 1) d' → 0 ≤ r → r < t → Q (.sh (.int r)) (e.set k (.ow b d'))) : wpO (callV [true, true] ev [nameC k, conC (.int t)] e) Q :=
  wp_pull h ⟨b, d, hk⟩ (by simp only [conC]; exact ⟨t, b, d, N, rfl, hk, hd, hN, h0, h1, hq⟩)
/-- one of some ints, drawn -/
theorem wp_ints {ev : Ev} (h : OkPull ev) {k N : Nat} {b : Bool} {d : D} {e : En} (l : List Int) {t : Int} (ht : t = (l.length : Nat)) {f : M Val} {Q : Val → En → Prop} (hf : f e = .ok (.fr (.lst (iL l)), e)) (hk : e[k]? = some (.ow b d)) (hd : Di N d) (hN : N < 2 ^ 60) (h0 : 0 < l.length) (h1 : l.length < 1000)
    (hq : ∀ x d', x ∈ l → Di (N + 1) d' → Q (.sh (.int x)) (e.set k (.ow b d'))) : wpO (ixE f (callV [true, true] ev [nameC k, conC (.int t)]) e) Q := by
  subst ht
  have h0' : (0 : Int) < (l.length : Nat) := by omega
  have h1' : ((l.length : Nat) : Int) < 2 ^ 200 := by omega
  simp [hf, -callV_app]
  refine wp_pullc h hk hd hN h0' h1' fun r d' hd' r0 r1 => ?_
  obtain ⟨x, h5, h6, _⟩ := atI_mem (l := iL l) r0 (by simpa using r1)
  have h7 : ixD (.lst (iL l)) (.int r) = some x := h5
  simp only [iL, List.mem_map] at h6
  obtain ⟨i, h8, rfl⟩ := h6
  simp [h7]
  exact hq i d' h8 hd'
/-! ### measures -/
def OkScale (ev : Ev) : Prop := ∀ (N : Nat) (d : D), Di N d → N < 2 ^ 50 → ∃ (m : Ms) (d' : D), m.ok ∧ ev [.ow true d] = .ok (.sh m.d, [.ow true d']) ∧ Di (N + 2) d'
theorem ok_scale {g : Ev} (h : OkPull g) : OkScale (evF 1 1 (B__law_scale g)) := by
  intro N d hd hN
  have main : wpO (evF 1 1 (B__law_scale g) [.ow true d]) fun v b => ∃ (m : Ms) (d' : D), m.ok ∧ v = .sh m.d ∧ b = [.ow true d'] ∧ Di (N + 2) d' := by
    refine wp_ev rfl ?_
    unfold B__law_scale
    simp [-callV_app]
    refine wp_pullc h rfl hd (by omega) (by decide) (by decide) fun r d1 hd1 r0 r1 => ?_
    simp [-callV_app]
    refine wp_pullc h rfl hd1 (by omega) (by decide) (by decide) fun q d2 hd2 q0 q1 => ?_
    have hq : q = 0 ∨ q = 1 ∨ q = 2 := by omega
    have hn : ∃ n : Nat, 1 + r = (n : Nat) ∧ 1 ≤ n ∧ n ≤ 4 := ⟨(1 + r).toNat, by omega, by omega, by omega⟩
    obtain ⟨n, hn, n1, n2⟩ := hn
    rw [hn]
    rcases hq with rfl | rfl | rfl
    · have ix : ∀ a b c : D, ixD (.lst [a, b, c]) (.int 0) = some a := fun _ _ _ => rfl
      simp [ix]
      exact ⟨.sums, trivial, rfl, hd2⟩
    · have ix : ∀ a b c : D, ixD (.lst [a, b, c]) (.int 1) = some b := fun _ _ _ => rfl
      simp [ix]
      exact ⟨.cls n, ⟨n1, n2⟩, rfl, hd2⟩
    · have ix : ∀ a b c : D, ixD (.lst [a, b, c]) (.int 2) = some c := fun _ _ _ => rfl
      simp [ix]
      exact ⟨.odds, trivial, rfl, hd2⟩
  obtain ⟨v, b, h1, m, d', h2, rfl, rfl, h3⟩ := wpO_get main
  exact ⟨m, d', h2, h1, h3⟩
/-! ### zero, plus, minus, total: the law's own -/
def LZr (ev : Ev) : Prop := ∀ m : Ms, m.ok → ev [.sh m.d] = .ok (.sh (zer m).d, [.em])
theorem ok_zero : LZr (evF 1 1 B__law_zero) := by
  intro m hm
  cases m with
  | sums => kernel_rfl
  | odds => kernel_rfl
  | cls n =>
    have : n = 1 ∨ n = 2 ∨ n = 3 ∨ n = 4 := by have := hm.1; have := hm.2; omega
    rcases this with rfl | rfl | rfl | rfl <;> kernel_rfl
theorem red_ok {a b k : Nat} (ha : 0 < a) (hb : 0 < b) (h1 : a < 2 ^ k) (h2 : b < 2 ^ k) : (red a b).ok k .odds := by
  have hg : 0 < Nat.gcd a b := Nat.gcd_pos_of_pos_left b ha
  obtain ⟨x, hx⟩ := Nat.gcd_dvd_left a b
  obtain ⟨y, hy⟩ := Nat.gcd_dvd_right a b
  have hgg : Nat.gcd (Nat.gcd a b * x) (Nat.gcd a b * y) = Nat.gcd a b := by rw [← hx, ← hy]
  unfold red
  generalize Nat.gcd a b = g at *
  have e1 : a / g = x := by rw [hx]; exact Nat.mul_div_cancel_left x hg
  have e2 : b / g = y := by rw [hy]; exact Nat.mul_div_cancel_left y hg
  rw [e1, e2]
  rw [Nat.gcd_mul_left] at hgg
  have x0 : 0 < x := Nat.pos_of_ne_zero fun z => by subst z; omega
  have y0 : 0 < y := Nat.pos_of_ne_zero fun z => by subst z; omega
  have gx : Nat.gcd x y = 1 := Nat.eq_of_mul_eq_mul_left hg (by rw [hgg, Nat.mul_one])
  have lx : x ≤ g * x := Nat.le_mul_of_pos_left x hg
  have ly : y ≤ g * y := Nat.le_mul_of_pos_left y hg
  exact ⟨x0, y0, gx, by omega, by omega⟩
theorem add_ok {a b : Av} {j k : Nat} {m : Ms} (h : a.ok j m) (h2 : b.ok k m) : (add2 a b).ok (j + k + 1) m := by
  have pk : 2 ^ j + 2 ^ k ≤ 2 ^ (j + k + 1) := by
    have q1 : 2 ^ j ≤ 2 ^ (j + k) := Nat.pow_le_pow_right (by decide) (by omega)
    have q2 : 2 ^ k ≤ 2 ^ (j + k) := Nat.pow_le_pow_right (by decide) (by omega)
    rw [Nat.pow_succ]
    omega
  cases m <;> cases a <;> simp only [Av.ok] at h <;> cases b <;> simp only [Av.ok] at h2 <;> simp only [add2]
  · simp only [Av.ok]
    omega
  · refine ⟨by simp [h.1, h2.1], fun x hx => ?_⟩
    obtain ⟨i, hi, rfl⟩ := List.getElem_of_mem hx
    rw [List.getElem_zipWith]
    rename_i l r
    have a1 := h.2 _ (List.getElem_mem (show i < l.length by simp at hi; omega))
    have a2 := h2.2 _ (List.getElem_mem (show i < r.length by simp at hi; omega))
    omega
  · refine Av.ok.mono (k := j + k) ?_ (by omega)
    exact red_ok (Nat.mul_pos h.1 h2.1) (Nat.mul_pos h.2.1 h2.2.1) (pow_mul_lt h.2.2.2.1 h2.2.2.2.1) (pow_mul_lt h.2.2.2.2 h2.2.2.2.2)
theorem zer_ok {m : Ms} : (zer m).ok 1 m := by
  cases m with
  | sums => show Int.natAbs 0 < 2 ^ 1; decide
  | odds => exact ⟨by decide, by decide, by decide, by decide, by decide⟩
  | cls n => exact ⟨by simp, fun x hx => by rw [(List.mem_replicate.mp hx).2]; decide⟩
theorem tot_ok {m : Ms} {k : Nat} (l : List Av) (h : ∀ a ∈ l, a.ok k m) : (tot m l).ok ((k + 1) * l.length + 1) m := by
  have go : ∀ (l : List Av) (z : Av) (j : Nat), z.ok j m → (∀ a ∈ l, a.ok k m) → (l.foldl add2 z).ok ((k + 1) * l.length + j) m := by
    intro l
    induction l with
    | nil => intro z j hz _; simpa using hz
    | cons a r ih =>
      intro z j hz hl
      have := ih (add2 z a) (j + k + 1) (add_ok hz (hl a (by simp))) fun x hx => hl x (List.mem_cons_of_mem _ hx)
      have e : (k + 1) * (a :: r).length + j = (k + 1) * r.length + (j + k + 1) := by rw [List.length_cons, Nat.mul_add]; omega
      rw [e]
      exact this
  exact go l _ _ zer_ok h
theorem sub_ok {a b : Av} {j k : Nat} {m : Ms} (h : a.ok j m) (h2 : b.ok k m) : (sub2 a b).ok (j + k + 1) m := by
  rw [← add_neg (k := j + k) (h.mono (by omega)) (h2.mono (by omega))]
  exact add_ok h (neg_ok h2)
theorem low_red {g : Ev} (h : OkLow g) {a b : Nat} (ha : 0 < a) (hb : 0 < b) (h1 : a < 2 ^ 4101) (h2 : b < 2 ^ 4101) : g [.sh (.int (a : Nat)), .sh (.int (b : Nat))] = .ok (.sh (red a b).d, [.em, .em]) := by
  have := h a b ha hb (pw_le (pow_mul_lt h1 h2) (by decide)) (gcd_lt ha (pw_le h1 (by decide)))
  exact this
def LAd (ev : Ev) : Prop := ∀ (m : Ms) (a b : Av), m.ok → a.ok 2000 m → b.ok 2000 m → ev [.sh m.d, .sh a.d, .sh b.d] = .ok (.sh (add2 a b).d, [.em, .em, .em])
def LMn (ev : Ev) : Prop := ∀ (m : Ms) (a b : Av), m.ok → a.ok 2000 m → b.ok 2000 m → ev [.sh m.d, .sh a.d, .sh b.d] = .ok (.sh (sub2 a b).d, [.em, .em, .em])
theorem ok_lplus {T : Tb} {g : Ev} (h : OkLow g) : LAd (evF 5 3 (B__law_plus T g)) := by
  intro m a b hm ha hb
  have s1 : ((("classes" : String) : Str) = (("sums" : String) : Str)) = False := by decide
  have s2 : ((("classes" : String) : Str) = (("odds" : String) : Str)) = False := by decide
  have s3 : ((("odds" : String) : Str) = (("sums" : String) : Str)) = False := by decide
  refine eq_of_wp (wp_ev rfl ?_)
  unfold B__law_plus
  cases m with
  | sums =>
    cases a <;> simp only [Av.ok] at ha <;> cases b <;> simp only [Av.ok] at hb
    simp [Ms.d, Ms.word, Ms.sz, p0, Av.d, add2]
  | odds =>
    cases a <;> simp only [Av.ok] at ha <;> cases b <;> simp only [Av.ok] at hb
    rename_i a b c d
    have m1 := mul_nat (pw_le ha.2.2.2.1 (show 2000 ≤ 9000 by decide)) (pw_le hb.2.2.2.1 (show 2000 ≤ 9000 by decide))
    have m2 := mul_nat (pw_le ha.2.2.2.2 (show 2000 ≤ 9000 by decide)) (pw_le hb.2.2.2.2 (show 2000 ≤ 9000 by decide))
    have e := low_red h (Nat.mul_pos ha.1 hb.1) (Nat.mul_pos ha.2.1 hb.2.1) (pw_le (pow_mul_lt ha.2.2.2.1 hb.2.2.2.1) (by decide)) (pw_le (pow_mul_lt ha.2.2.2.2 hb.2.2.2.2) (by decide))
    simp [Ms.d, Ms.word, Ms.sz, p0, p1, Av.d, add2, s3, m1, m2, e, -Int.natCast_mul]
  | cls n =>
    cases a <;> simp only [Av.ok] at ha <;> cases b <;> simp only [Av.ok] at hb
    rename_i l r
    obtain ⟨h1, h2⟩ := ha
    subst h1
    have hl : ((l.zip r).filter fun _ => true).map (fun p => D.int (p.1 + p.2)) = iL (List.zipWith (· + ·) l r) := by
      rw [List.filter_eq_self.mpr (fun _ _ => rfl)]
      simp [iL, List.zip, List.map_zipWith]
    have hz : (l.zip r).length ≤ 1000 := by rw [List.length_zip]; have := hm.2; omega
    simp [Ms.d, Ms.word, Ms.sz, p0, s1, s2, Av.d, zip_pairs]
    refine wp_lcP (l.zip r) (fun p => .tup [.int p.1, .int p.2]) (fun _ => true) (fun p => .int (p.1 + p.2)) (w := [.sh (Ms.cls l.length).d, .sh (.tup (iL l)), .sh (.tup (iL r)), .em, .em]) rfl (le_lim hz) ?_ ?_
    · intro x hx
      simp
    · rw [hl]
      simp [add2, Av.d]
theorem ok_lminus {T : Tb} {g : Ev} (h : OkLow g) : LMn (evF 5 3 (B__law_minus T g)) := by
  intro m a b hm ha hb
  have s1 : ((("classes" : String) : Str) = (("sums" : String) : Str)) = False := by decide
  have s2 : ((("classes" : String) : Str) = (("odds" : String) : Str)) = False := by decide
  have s3 : ((("odds" : String) : Str) = (("sums" : String) : Str)) = False := by decide
  refine eq_of_wp (wp_ev rfl ?_)
  unfold B__law_minus
  cases m with
  | sums =>
    cases a <;> simp only [Av.ok] at ha <;> cases b <;> simp only [Av.ok] at hb
    simp [Ms.d, Ms.word, Ms.sz, p0, Av.d, sub2]
  | odds =>
    cases a <;> simp only [Av.ok] at ha <;> cases b <;> simp only [Av.ok] at hb
    rename_i a b c d
    have m1 := mul_nat (pw_le ha.2.2.2.1 (show 2000 ≤ 9000 by decide)) (pw_le hb.2.2.2.2 (show 2000 ≤ 9000 by decide))
    have m2 := mul_nat (pw_le ha.2.2.2.2 (show 2000 ≤ 9000 by decide)) (pw_le hb.2.2.2.1 (show 2000 ≤ 9000 by decide))
    have e := low_red h (Nat.mul_pos ha.1 hb.2.1) (Nat.mul_pos ha.2.1 hb.1) (pw_le (pow_mul_lt ha.2.2.2.1 hb.2.2.2.2) (by decide)) (pw_le (pow_mul_lt ha.2.2.2.2 hb.2.2.2.1) (by decide))
    simp [Ms.d, Ms.word, Ms.sz, p0, p1, Av.d, sub2, s3, m1, m2, e, -Int.natCast_mul]
  | cls n =>
    cases a <;> simp only [Av.ok] at ha <;> cases b <;> simp only [Av.ok] at hb
    rename_i l r
    obtain ⟨h1, h2⟩ := ha
    subst h1
    have hl : ((l.zip r).filter fun _ => true).map (fun p => D.int (p.1 - p.2)) = iL (List.zipWith (· - ·) l r) := by
      rw [List.filter_eq_self.mpr (fun _ _ => rfl)]
      simp [iL, List.zip, List.map_zipWith]
    have hz : (l.zip r).length ≤ 1000 := by rw [List.length_zip]; have := hm.2; omega
    simp [Ms.d, Ms.word, Ms.sz, p0, s1, s2, Av.d, zip_pairs]
    refine wp_lcP (l.zip r) (fun p => .tup [.int p.1, .int p.2]) (fun _ => true) (fun p => .int (p.1 - p.2)) (w := [.sh (Ms.cls l.length).d, .sh (.tup (iL l)), .sh (.tup (iL r)), .em, .em]) rfl (le_lim hz) ?_ ?_
    · intro x hx
      simp
    · rw [hl]
      simp [sub2, Av.d]
def LTt (ev : Ev) : Prop := ∀ (m : Ms) (l : List Av) (k : Nat) (s : Slot), m.ok → (∀ a ∈ l, a.ok k m) → (k + 1) * l.length + 1 ≤ 2000 → k ≤ 2000 → s = .sh (.lst (aL l)) ∨ s = .sh (.tup (aL l)) → ev [.sh m.d, s] = .ok (.sh (tot m l).d, [.em, .em])
theorem ok_ltotal {gz gp : Ev} (hz : LZr gz) (hp : LAd gp) : LTt (evF 4 2 (B__law_total gz gp)) := by
  intro m l k s hm ha hk hk2 hs
  refine eq_of_wp (wp_ev rfl ?_)
  unfold B__law_total
  have main : wpO (forL (asgN 3) (seqS [asS (callV [true, false, false] gp [nameC 0, nameC 2, nameC 3]) (asgN 2)]) (aL l) [.sh m.d, s, .sh (zer m).d, .em]) fun fl e => fl = .nx ∧ ∃ x, e = [.sh m.d, s, .sh (tot m l).d, x] ∧ x.bare = true := by
    refine wp_forL (fun done e => ∃ l1, l1 <+: l ∧ done = aL l1 ∧ ∃ x, e = [.sh m.d, s, .sh (tot m l1).d, x] ∧ x.bare = true) ⟨[], List.nil_prefix, rfl, .em, rfl, rfl⟩ ?_ ?_
    · rintro done d rest e hd ⟨l1, hpre, rfl, x, rfl, hx⟩
      obtain ⟨l2, rfl⟩ := hpre
      simp only [aL, List.map_append] at hd
      have hd2 := List.append_cancel_left hd
      cases l2 with
      | nil => cases hd2
      | cons a l3 =>
        simp only [List.map_cons, List.cons.injEq] at hd2
        obtain ⟨rfl, _⟩ := hd2
        have o1 : (tot m l1).ok 2000 m := (tot_ok l1 fun x hx => ha x (by simp [hx])).mono (Nat.le_trans (Nat.succ_le_succ (Nat.mul_le_mul_left (k + 1) (by simp))) hk)
        have e := hp m (tot m l1) a hm o1 ((ha a (by simp)).mono hk2)
        have t1 : add2 (tot m l1) a = tot m (l1 ++ [a]) := by unfold tot; rw [List.foldl_append]; rfl
        rw [t1] at e
        have f1 : aL l1 ++ [a.d] = aL (l1 ++ [a]) := by simp [aL]
        cases x <;> first | (cases hx; done) | (simp [e]; exact ⟨l1 ++ [a], ⟨l3, by simp⟩, f1, _, ⟨rfl, rfl⟩, rfl⟩)
    · rintro e ⟨l1, hpre, hd, x, rfl, hx⟩
      have : l1 = l := by
        have hlen := congrArg List.length hd
        simp only [aL, List.length_map] at hlen
        exact List.IsPrefix.eq_of_length hpre hlen.symm
      subst this
      exact ⟨rfl, x, rfl, hx⟩
  have z := hz m hm
  rcases hs with rfl | rfl
  · simp [z]
    refine wpO_mono main ?_
    rintro fl e ⟨rfl, x, rfl, hx⟩
    simp
  · simp [z]
    refine wpO_mono main ?_
    rintro fl e ⟨rfl, x, rfl, hx⟩
    simp
end Qv
namespace Qv
open PySem L2

/-! ### weights and amounts drawn -/
def OkDraw (ev : Ev) : Prop := ∀ (N : Nat) (d : D) (m : Ms), Di N d → N < 2 ^ 50 → m.ok → ∃ (a : Av) (d' : D), ev [.ow true d, .sh m.d] = .ok (.sh a.d, [.ow true d', .em]) ∧ a.ok 140 m ∧ Di (N + 12) d'
theorem str_cs : ((("classes" : String) : Str) = (("sums" : String) : Str)) = False := by decide
theorem str_co : ((("classes" : String) : Str) = (("odds" : String) : Str)) = False := by decide
theorem str_os : ((("odds" : String) : Str) = (("sums" : String) : Str)) = False := by decide
theorem str_oc : ((("odds" : String) : Str) = (("classes" : String) : Str)) = False := by decide
theorem str_so : ((("sums" : String) : Str) = (("odds" : String) : Str)) = False := by decide
theorem str_sc : ((("sums" : String) : Str) = (("classes" : String) : Str)) = False := by decide
theorem eq_nil' (l : List D) : eqD (.lst l) (.lst []) = some (.sh (.bl l.isEmpty)) := by
  cases l with
  | nil => rfl
  | cons a r =>
    unfold eqD
    dsimp only
    split
    · rfl
    · rfl
theorem ne_nil' (l : List D) : neD (.lst l) (.lst []) = some (.sh (.bl (!l.isEmpty))) := by
  cases l with
  | nil => rfl
  | cons a r =>
    unfold neD
    dsimp only
    split
    · rfl
    · rfl
def PW (N : Nat) (m : Ms) (v : Val) (b : En) : Prop := ∃ (a : Av) (d' : D), v = .sh a.d ∧ b = [.ow true d', .em] ∧ a.ok 140 m ∧ Di (N + 12) d'
theorem pw_of {N M : Nat} {m : Ms} (a : Av) {d' : D} {dd : D} (h1 : dd = a.d) (h2 : a.ok 140 m) (h3 : Di M d') (h4 : M ≤ N + 12) : PW N m (.sh dd) [.ow true d', .em] := ⟨a, d', by rw [h1], rfl, h2, h3.mono h4⟩
/-- some ints drawn, so far -/
def DL (N : Nat) (s : Slot) (lo hi : Int) (tl : En) (c : Nat) (done acc : List D) (e : En) : Prop := ∃ (d' : D) (l : List Int) (x3 : Slot), e = .ow true d' :: s :: .em :: x3 :: tl ∧ x3.bare = true ∧ Di (N + c * done.length) d' ∧ acc = iL l ∧ l.length = done.length ∧ ∀ x ∈ l, lo ≤ x ∧ x < hi
theorem dl_of {N M c : Nat} {s : Slot} {lo hi : Int} {tl : En} {done : List D} {dd : D} {l : List Int} {d' : D} {x3 : Slot} {r : Int} (hx : x3.bare = true) (hd : Di M d') (hM : M ≤ N + c * done.length + c) (hl : l.length = done.length) (h2 : ∀ x ∈ l, lo ≤ x ∧ x < hi) (h3 : lo ≤ r) (h4 : r < hi) :
    DL N s lo hi tl c (done ++ [dd]) (iL l ++ [.int r]) (.ow true d' :: s :: .em :: x3 :: tl) := by
  refine ⟨d', l ++ [r], x3, rfl, hx, hd.mono ?_, by simp [iL], by simp [hl], ?_⟩
  · rw [List.length_append, List.length_singleton, Nat.mul_add]; omega
  · intro x hx
    rcases List.mem_append.mp hx with hx | hx
    · exact h2 x hx
    · rw [List.mem_singleton.mp hx]; exact ⟨h3, h4⟩
theorem ok_weight {T : Tb} {gp gl : Ev} (h : OkPull gp) (hl : OkLow gl) : OkDraw (evF 6 2 (B__law_weight T gp gl)) := by
  intro N d m hd hN hm
  have main : wpO (evF 6 2 (B__law_weight T gp gl) [.ow true d, .sh m.d]) (PW N m) := by
    refine wp_ev rfl ?_
    unfold B__law_weight
    cases m with
    | sums =>
      simp [-callV_app, Ms.d, Ms.word, Ms.sz, p0]
      refine wp_pull h ⟨_, _, rfl⟩ ?_
      refine wp_ints h [2, 3, 9, 10 ^ 30] rfl (by kernel_rfl) rfl hd (by omega) (by decide) (by decide) fun x d1 hx hd1 => ?_
      have hx' : 0 < x ∧ x < 2 ^ 101 := by
        simp at hx
        omega
      refine ⟨x, _, d1, N + 1, rfl, rfl, hd1, by omega, hx'.1, by omega, fun r d2 hd2 r0 r1 => ?_⟩
      simp
      refine pw_of (.s (1 + r)) rfl ?_ hd2 (by omega)
      show (1 + r).natAbs < 2 ^ 140
      omega
    | cls n =>
      have hn : 1 ≤ n ∧ n ≤ 4 := hm
      have hrg := rng1_nat n (Nat.lt_of_le_of_lt hn.2 (by decide))
      simp [-callV_app, Ms.d, Ms.word, Ms.sz, p0, p1, str_cs, hrg]
      refine wp_lc (DL N (.sh (.tup [.str "classes", .int (n : Nat)])) 0 9 [.em, .em] 2) ⟨d, [], .em, rfl, rfl, hd, rfl, rfl, by simp⟩ ?_ ?_
      · rintro done dd rest acc e hdd ⟨d', l, x3, rfl, hx3, hd', rfl, hl1, hl2⟩
        have hlen : done.length < n := by
          have := congrArg List.length hdd
          simp [rngD] at this
          omega
        have hw : wipE [3] [Slot.ow true d', .sh (.tup [.str "classes", .int (n : Nat)]), .em, x3, .em, .em] = .ok ((), [.ow true d', .sh (.tup [.str "classes", .int (n : Nat)]), .em, .em, .em, .em]) := by
          cases x3 <;> first | (cases hx3; done) | simp
        rw [hw]
        simp [-callV_app]
        refine wp_pull h ⟨_, _, rfl⟩ ?_
        refine wp_ints h [2, 3, 9] rfl (by kernel_rfl) rfl hd' (by omega) (by decide) (by decide) fun x d1 hx hd1 => ?_
        have hx' : 0 < x ∧ x < 10 := by
          simp at hx
          omega
        refine ⟨x, _, d1, N + 2 * done.length + 1, rfl, rfl, hd1, by omega, hx'.1, by omega, fun r d2 hd2 r0 r1 => ?_⟩
        simp
        exact dl_of rfl hd2 (by omega) hl1 hl2 r0 (by omega)
      · rintro acc e ⟨d', l, x3, rfl, hx3, hd', rfl, hl1, hl2⟩
        have hll : l.length = n := by rw [hl1]; simp [rngD]
        refine ⟨le_lim (by simp; omega), ?_⟩
        have hw : wipE [3] [Slot.ow true d', .sh (.tup [.str "classes", .int (n : Nat)]), .em, x3, .em, .em] = .ok ((), [.ow true d', .sh (.tup [.str "classes", .int (n : Nat)]), .em, .em, .em, .em]) := by
          cases x3 <;> first | (cases hx3; done) | simp
        rw [hw]
        simp [-callV_app]
        refine wp_lcO (k := 2) (bb := false) l D.int (fun x => decide (0 < x)) D.int (w := [.ow true d', .sh (.tup [.str "classes", .int (n : Nat)]), .ow false (.lst (iL l)), .em, .em, .em]) rfl rfl rfl (le_lim (by omega)) ?_ ?_
        · intro a ha
          simp
        · have fin : ∀ (l2 : List Int) (d2 : D) (M : Nat), l2.length = n → (∀ x ∈ l2, 0 ≤ x ∧ x < 9) → Di M d2 → M ≤ N + 12 → PW N (.cls n) (.sh (.tup (iL l2))) [.ow true d2, .em] := fun l2 d2 M h1 h2 h3 h4 => pw_of (.c l2) rfl ⟨h1, fun x hx => by have := h2 x hx; omega⟩ h3 h4
          cases hf : l.filter fun x => decide (0 < x) with
          | nil =>
            simp [-callV_app, eq_nil']
            refine wp_pull h ⟨_, _, rfl⟩ ?_
            have cl : callC lenB [nameC 2] [Slot.ow true d', .sh (.tup [.str "classes", .int (n : Nat)]), .ow false (.lst (iL l)), .em, .em, .em] = .ok (.sh (.int (n : Nat)), [Slot.ow true d', .sh (.tup [.str "classes", .int (n : Nat)]), .ow false (.lst (iL l)), .em, .em, .em]) := by
              simp [hll]
            rw [cl, wpO_ok]
            have hl0 : (rngD 0 n).length = n := by simp [rngD]
            rw [hl0] at hd'
            refine ⟨n, _, d', _, rfl, rfl, hd', by omega, by omega, by omega, fun r d2 hd2 r0 r1 => ?_⟩
            obtain ⟨j, rfl⟩ : ∃ j : Nat, r = (j : Nat) := ⟨r.toNat, by omega⟩
            have hj : j < l.length := by omega
            have sx : setD (.lst (iL l)) (.int (j : Nat)) (.int 1) = some (.lst (iL (l.set j 1))) := by
              have ix : ixN (iL l).length (j : Int) = some j := by unfold ixN; simp [hj]
              rw [setD_lst, ix]
              simp [iL]
            simp [sx]
            refine fin (l.set j 1) d2 _ (by simp [hll]) ?_ hd2 (by omega)
            intro x hx
            rcases List.mem_or_eq_of_mem_set hx with hx | rfl
            · exact hl2 x hx
            · decide
          | cons y r =>
            simp [eq_nil']
            exact fin l d' _ hll hl2 hd' (by simp [rngD]; omega)
    | odds =>
      simp [-callV_app, Ms.d, Ms.word, Ms.sz, p0, str_os, str_oc]
      refine wp_pull h ⟨_, _, rfl⟩ ?_
      refine wp_ints h [1, 3, 12, 999] rfl (by kernel_rfl) rfl hd (by omega) (by decide) (by decide) fun x d1 hx hd1 => ?_
      have hx' : 0 < x ∧ x < 1000 := by
        simp at hx
        omega
      refine ⟨x, _, d1, N + 1, rfl, rfl, hd1, by omega, hx'.1, by omega, fun r d2 hd2 r0 r1 => ?_⟩
      obtain ⟨u, hu, u1, u2⟩ : ∃ u : Nat, 1 + r = (u : Nat) ∧ 1 ≤ u ∧ u < 1001 := ⟨(1 + r).toNat, by omega, by omega, by omega⟩
      simp [-callV_app, hu]
      rw [callV_app]
      simp [-callV_app]
      refine wp_pull h ⟨_, _, rfl⟩ ?_
      refine wp_ints h [1, 4, 20, 990000] rfl (by kernel_rfl) rfl hd2 (by omega) (by decide) (by decide) fun y d3 hy hd3 => ?_
      have hy' : 0 < y ∧ y < 1000000 := by
        simp at hy
        omega
      refine ⟨y, _, d3, N + 1 + 1 + 1, rfl, rfl, hd3, by omega, hy'.1, by omega, fun q d4 hd4 q0 q1 => ?_⟩
      obtain ⟨w, hw, w1, w2⟩ : ∃ w : Nat, (u : Int) + 1 + q = (w : Nat) ∧ 1 ≤ w ∧ w < 2000000 := ⟨((u : Int) + 1 + q).toNat, by omega, by omega, by omega⟩
      have lw := low_red hl (a := w) (b := u) (by omega) (by omega) (Nat.lt_trans (show w < 2 ^ 30 by omega) (Nat.pow_lt_pow_right (by decide) (by decide))) (Nat.lt_trans (show u < 2 ^ 30 by omega) (Nat.pow_lt_pow_right (by decide) (by decide)))
      simp [hw, lw]
      refine pw_of (red w u) rfl ?_ hd4 (by omega)
      exact (red_ok (k := 30) (by omega) (by omega) (by omega) (by omega)).mono (by decide)
  obtain ⟨v, b, h1, a, d', rfl, rfl, h2, h3⟩ := wpO_get main
  exact ⟨a, d', h1, h2, h3⟩
theorem ok_amount {T : Tb} {gp gl : Ev} (h : OkPull gp) (hl : OkLow gl) : OkDraw (evF 5 2 (B__law_amount T gp gl)) := by
  intro N d m hd hN hm
  have main : wpO (evF 5 2 (B__law_amount T gp gl) [.ow true d, .sh m.d]) (PW N m) := by
    refine wp_ev rfl ?_
    unfold B__law_amount
    cases m with
    | sums =>
      simp [-callV_app, Ms.d, Ms.word, Ms.sz, p0]
      refine wp_pull h ⟨_, _, rfl⟩ ?_
      refine wp_ints h [2, 5, 10 ^ 40] rfl (by kernel_rfl) rfl hd (by omega) (by decide) (by decide) fun x d1 hx hd1 => ?_
      have hx' : 0 < x ∧ x < 2 ^ 134 := by
        simp at hx
        omega
      refine ⟨x, _, d1, N + 1, rfl, rfl, hd1, by omega, hx'.1, by omega, fun r d2 hd2 r0 r1 => ?_⟩
      simp [-callV_app]
      refine wp_pull h ⟨_, _, rfl⟩ ?_
      refine wp_ints h [2, 5, 10 ^ 40] rfl (by kernel_rfl) rfl hd2 (by omega) (by decide) (by decide) fun y d3 hy hd3 => ?_
      have hy' : 0 < y ∧ y < 2 ^ 134 := by
        simp at hy
        omega
      refine ⟨y, _, d3, N + 1 + 1 + 1, rfl, rfl, hd3, by omega, hy'.1, by omega, fun q d4 hd4 q0 q1 => ?_⟩
      simp
      refine pw_of (.s (r - q)) rfl ?_ hd4 (by omega)
      show (r - q).natAbs < 2 ^ 140
      omega
    | cls n =>
      have hn : 1 ≤ n ∧ n ≤ 4 := hm
      have hrg := rng1_nat n (Nat.lt_of_le_of_lt hn.2 (by decide))
      simp [-callV_app, Ms.d, Ms.word, Ms.sz, p0, p1, str_cs, hrg]
      refine wp_lc (DL N (.sh (.tup [.str "classes", .int (n : Nat)])) (-4) 4 [.em] 2) ⟨d, [], .em, rfl, rfl, hd, rfl, rfl, by simp⟩ ?_ ?_
      · rintro done dd rest acc e hdd ⟨d', l, x3, rfl, hx3, hd', rfl, hl1, hl2⟩
        have hlen : done.length < n := by
          have := congrArg List.length hdd
          simp [rngD] at this
          omega
        have hw : wipE [3] [Slot.ow true d', .sh (.tup [.str "classes", .int (n : Nat)]), .em, x3, .em] = .ok ((), [.ow true d', .sh (.tup [.str "classes", .int (n : Nat)]), .em, .em, .em]) := by
          cases x3 <;> first | (cases hx3; done) | simp
        rw [hw]
        simp [-callV_app]
        refine wp_pullc h rfl hd' (by omega) (by decide) (by decide) fun r d2 hd2 r0 r1 => ?_
        simp [-callV_app]
        refine wp_pullc h rfl hd2 (by omega) (by decide) (by decide) fun q d3 hd3 q0 q1 => ?_
        simp
        exact dl_of rfl hd3 (by omega) hl1 hl2 (by omega) (by omega)
      · rintro acc e ⟨d', l, x3, rfl, hx3, hd', rfl, hl1, hl2⟩
        have hll : l.length = n := by rw [hl1]; simp [rngD]
        refine ⟨le_lim (by simp; omega), ?_⟩
        have hw : wipE [3] [Slot.ow true d', .sh (.tup [.str "classes", .int (n : Nat)]), .em, x3, .em] = .ok ((), [.ow true d', .sh (.tup [.str "classes", .int (n : Nat)]), .em, .em, .em]) := by
          cases x3 <;> first | (cases hx3; done) | simp
        rw [hw]
        simp
        refine pw_of (.c l) rfl ⟨hll, fun x hx => ?_⟩ hd' (by simp [rngD]; omega)
        have := hl2 x hx
        omega
    | odds =>
      have pw : powD (.int 10) (.int 40) = some (.sh (.int (10 ^ 40))) := by kernel_rfl
      simp [-callV_app, Ms.d, Ms.word, Ms.sz, p0, str_os, str_oc, pw, -Int.reducePow]
      refine wp_pullc h rfl hd (by omega) (by decide) (by decide) fun k d1 hd1 k0 k1 => ?_
      obtain ⟨x, hx, hx'⟩ : ∃ x : Int, ixD (.lst [.int 3, .int 12, .int (10 ^ 40)]) (.int k) = some (.int x) ∧ 0 < x ∧ x < 2 ^ 134 := by
        have : k = 0 ∨ k = 1 ∨ k = 2 := by omega
        rcases this with rfl | rfl | rfl
        · exact ⟨3, rfl, by decide, by decide⟩
        · exact ⟨12, rfl, by decide, by decide⟩
        · exact ⟨10 ^ 40, rfl, by decide, by decide⟩
      simp [-callV_app, hx, -Int.reducePow]
      rw [callV_app]
      simp [-callV_app]
      refine wp_pull h ⟨_, _, rfl⟩ ?_
      simp only [name_app]
      refine ⟨x, _, d1, N + 1, rfl, rfl, hd1, by omega, hx'.1, by omega, fun r d2 hd2 r0 r1 => ?_⟩
      simp [-callV_app]
      refine wp_pull h ⟨_, _, rfl⟩ ?_
      simp only [name_app]
      refine ⟨x, _, d2, N + 1 + 1, rfl, rfl, hd2, by omega, hx'.1, by omega, fun q d3 hd3 q0 q1 => ?_⟩
      obtain ⟨u, hu, u1, u2⟩ : ∃ u : Nat, 1 + r = (u : Nat) ∧ 1 ≤ u ∧ u < 2 ^ 135 := ⟨(1 + r).toNat, by omega, by omega, by omega⟩
      obtain ⟨w, hw, w1, w2⟩ : ∃ w : Nat, 1 + q = (w : Nat) ∧ 1 ≤ w ∧ w < 2 ^ 135 := ⟨(1 + q).toNat, by omega, by omega, by omega⟩
      have lw := low_red hl (a := u) (b := w) (by omega) (by omega) (pw_le u2 (by decide)) (pw_le w2 (by decide))
      simp [hu, hw, lw]
      refine pw_of (red u w) rfl ?_ hd3 (by omega)
      exact (red_ok (k := 135) (by omega) (by omega) u2 w2).mono (by decide)
  obtain ⟨v, b, h1, a, d', rfl, rfl, h2, h3⟩ := wpO_get main
  exact ⟨a, d', h1, h2, h3⟩
end Qv
namespace Qv
open PySem L2

/-! ### some amounts -/
theorem sub_zer {k : Nat} {m : Ms} {a : Av} (h : a.ok k m) : sub2 (zer m) a = neg1 a := by
  cases m <;> cases a <;> simp only [Av.ok] at h <;> simp only [zer, sub2, neg1]
  · congr 1
    rw [← h.1]
    refine List.ext_getElem (by simp) fun i h1 h2 => ?_
    simp
  · simp [red, Nat.gcd_comm, h.2.2.1]
def SL (N : Nat) (m : Ms) (done : List D) (e : En) : Prop := ∃ (d' : D) (l : List Av) (x3 x4 : Slot), e = [.ow true d', .sh m.d, .ow false (.lst (aL l)), x3, x4] ∧ x3.bare = true ∧ x4.bare = true ∧ Di (N + 60 * done.length) d' ∧ l.length = done.length ∧ ∀ a ∈ l, a.ok 140 m
theorem sl_of {N M : Nat} {m : Ms} {done : List D} {dd : D} {l : List Av} {a : Av} {d' : D} {x3 x4 : Slot} {es : D} (h0 : es = .lst (aL (l ++ [a]))) (hx : x3.bare = true) (hy : x4.bare = true) (hd : Di M d') (hM : M ≤ N + 60 * done.length + 60) (hl : l.length = done.length) (h2 : ∀ a ∈ l, a.ok 140 m) (h3 : a.ok 140 m) :
    SL N m (done ++ [dd]) [.ow true d', .sh m.d, .ow false es, x3, x4] := by
  refine ⟨d', l ++ [a], x3, x4, by rw [h0], hx, hy, hd.mono ?_, by simp [hl], ?_⟩
  · rw [List.length_append, List.length_singleton, Nat.mul_add]; omega
  · intro x hx
    rcases List.mem_append.mp hx with hx | hx
    · exact h2 x hx
    · rw [List.mem_singleton.mp hx]; exact h3
theorem aL_snoc (l : List Av) (a : Av) : aL l ++ [a.d] = aL (l ++ [a]) := by simp [aL]
theorem aL_len (l : List Av) : (aL l).length = l.length := by simp [aL]
def OkSome (ev : Ev) : Prop := ∀ (N : Nat) (d : D) (m : Ms), Di N d → N < 2 ^ 40 → m.ok → ∃ (l : List Av) (d' : D), ev [.ow true d, .sh m.d] = .ok (.fr (.lst (aL l)), [.ow true d', .em]) ∧ Di (N + 400) d' ∧ 4 ≤ l.length ∧ l.length ≤ 6 ∧ ∀ a ∈ l, a.ok 140 m
def SR (N : Nat) (m : Ms) (v : Val) (b : En) : Prop := ∃ (l : List Av) (d' : D), v = .fr (.lst (aL l)) ∧ b = [.ow true d', .em] ∧ Di (N + 400) d' ∧ 4 ≤ l.length ∧ l.length ≤ 6 ∧ ∀ a ∈ l, a.ok 140 m
theorem sr_of {N M : Nat} {m : Ms} {l : List Av} {d' : D} (h1 : Di M d') (h2 : M ≤ N + 400) (h3 : 4 ≤ l.length) (h4 : l.length ≤ 6) (h5 : ∀ a ∈ l, a.ok 140 m) : SR N m (.fr (.lst (aL l))) [.ow true d', .em] := ⟨l, d', rfl, rfl, h1.mono h2, h3, h4, h5⟩
theorem ok_some_am {T : Tb} {gp gm gz gk gw ga : Ev} (hp : OkPull gp) (hm_ : LMn gm) (hz : LZr gz) (hk : OkPick gk) (hw : OkDraw gw) (ha : OkDraw ga) : OkSome (evF 5 2 (B__law_some_amounts T gp gm gz gk gw ga)) := by
  intro N d m hd hN hm
  have main : wpO (evF 5 2 (B__law_some_amounts T gp gm gz gk gw ga) [.ow true d, .sh m.d]) (SR N m) := by
    refine wp_ev rfl ?_
    unfold B__law_some_amounts
    simp [-callV_app]
    refine wp_pullc hp rfl hd (by omega) (by decide) (by decide) fun r d1 hd1 r0 r1 => ?_
    obtain ⟨n, hn, n1, n2⟩ : ∃ n : Nat, 4 + r = (n : Nat) ∧ 4 ≤ n ∧ n ≤ 6 := ⟨(4 + r).toNat, by omega, by omega, by omega⟩
    have hrg := rng1_nat n (Nat.lt_of_le_of_lt n2 (by decide))
    simp [-callV_app]
    rw [hn, hrg]
    simp [-callV_app]
    refine wp_forL (SL (N + 1) m) ⟨d1, [], .em, .em, rfl, rfl, rfl, hd1.mono (Nat.le_add_right _ _), rfl, by simp⟩ ?_ ?_
    · rintro done dd rest e hdd ⟨d', l, x3, x4, rfl, hx3, hx4, hd', hl1, hl2⟩
      have hlen : done.length < n := by
        have := congrArg List.length hdd
        simp [rngD] at this
        omega
      have asg3 : asgN 3 (.sh dd) [.ow true d', .sh m.d, .ow false (.lst (aL l)), x3, x4] = .ok ((), [.ow true d', .sh m.d, .ow false (.lst (aL l)), .sh dd, x4]) := by
        cases x3 <;> first | (cases hx3; done) | simp
      rw [asg3, wpO_ok]
      simp [-callV_app]
      refine wp_pullc hp rfl hd' (by omega) (by decide) (by decide) fun q d2 hd2 q0 q1 => ?_
      have asg4 : ∀ i : Int, setN 4 (.sh (.int i)) [.ow true d2, .sh m.d, .ow false (.lst (aL l)), .sh dd, x4] = .ok ((), [.ow true d2, .sh m.d, .ow false (.lst (aL l)), .sh dd, .sh (.int i)]) := by
        intro i
        cases x4 <;> first | (cases hx4; done) | simp
      have ll : (aL l).length < lenLim := lt_lim (by rw [aL_len]; omega)
      obtain ⟨w, d3, w1, w2, w3⟩ := hw _ d2 m hd2 (by omega) hm
      have hq : q = 0 ∨ q = 1 ∨ 2 ≤ q := by omega
      rcases hq with rfl | rfl | hq
      · cases l with
        | nil =>
          obtain ⟨a1, d4, a11, a12, a13⟩ := ha _ d2 m hd2 (by omega) hm
          obtain ⟨a2, d5, a21, a22, a23⟩ := ha _ d4 m a13 (by omega) hm
          obtain ⟨x, d6, x1, x2, x3'⟩ := hk _ d5 [a1.d, a2.d, (zer m).d] a23 (by omega) (by simp) (by simp) (.sh (.lst [a1.d, a2.d, (zer m).d])) (.inr rfl)
          have xok : ∃ a : Av, x = a.d ∧ a.ok 140 m := by
            rcases List.mem_cons.mp x3' with rfl | x3'
            · exact ⟨a1, rfl, a12⟩
            rcases List.mem_cons.mp x3' with rfl | x3'
            · exact ⟨a2, rfl, a22⟩
            rw [List.mem_singleton.mp x3']
            exact ⟨zer m, rfl, zer_ok.mono (by decide)⟩
          obtain ⟨xa, rfl, xa1⟩ := xok
          have z := hz m hm
          cases x4 <;> first | (cases hx4; done) | (simp [a11, a21, z, x1, ll, aL_snoc, ne_nil', aL]; exact sl_of (l := []) rfl rfl rfl x2 (by omega) hl1 hl2 xa1)
        | cons a0 r0' =>
          obtain ⟨x, d3, x1, x2, x3'⟩ := hk _ d2 (aL (a0 :: r0')) hd2 (by omega) (by simp [aL]) (by rw [aL_len]; omega) (.ow true (.lst (aL (a0 :: r0')))) (.inl rfl)
          obtain ⟨a, ha1, rfl⟩ := List.mem_map.mp x3'
          have z := hz m hm
          have aok := hl2 a ha1
          have e := hm_ m (zer m) a hm (zer_ok.mono (by decide)) (aok.mono (by decide))
          rw [sub_zer aok] at e
          have ne : (aL (a0 :: r0')).isEmpty = false := rfl
          cases x4 <;> first | (cases hx4; done) | (simp [x1, z, e, ll, aL_snoc, ne_nil', ne]; exact sl_of rfl rfl rfl x2 (by omega) hl1 hl2 (neg_ok aok))
      · cases x4 <;> first | (cases hx4; done) | (simp [w1, ll, aL_snoc]; exact sl_of rfl rfl rfl w3 (by omega) hl1 hl2 w2)
      · obtain ⟨a1, d4, a11, a12, a13⟩ := ha _ d2 m hd2 (by omega) hm
        obtain ⟨a2, d5, a21, a22, a23⟩ := ha _ d4 m a13 (by omega) hm
        obtain ⟨x, d6, x1, x2, x3'⟩ := hk _ d5 [a1.d, a2.d, (zer m).d] a23 (by omega) (by simp) (by simp) (.sh (.lst [a1.d, a2.d, (zer m).d])) (.inr rfl)
        have xok : ∃ a : Av, x = a.d ∧ a.ok 140 m := by
          rcases List.mem_cons.mp x3' with rfl | x3'
          · exact ⟨a1, rfl, a12⟩
          rcases List.mem_cons.mp x3' with rfl | x3'
          · exact ⟨a2, rfl, a22⟩
          rw [List.mem_singleton.mp x3']
          exact ⟨zer m, rfl, zer_ok.mono (by decide)⟩
        obtain ⟨xa, rfl, xa1⟩ := xok
        have z := hz m hm
        have q0' : q ≠ 0 := by omega
        have q1' : q ≠ 1 := by omega
        cases x4 <;> first | (cases hx4; done) | (simp [a11, a21, z, x1, ll, aL_snoc, q0', q1']; exact sl_of rfl rfl rfl x2 (by omega) hl1 hl2 xa1)
    · rintro e ⟨d', l, x3, x4, rfl, hx3, hx4, hd', hl1, hl2⟩
      have hl0 : (rngD 0 n).length = n := by simp [rngD]
      rw [hl0] at hd' hl1
      simp
      exact sr_of hd' (by omega) (by omega) (by omega) hl2
  obtain ⟨v, b, h1, l, d', rfl, rfl, h2⟩ := wpO_get main
  exact ⟨l, d', h1, h2⟩
end Qv
namespace Qv
open PySem L2

theorem nc_av {k : Nat} {m : Ms} {a : Av} (h : a.ok k m) (hk : k ≤ 1600) (hm : m.ok) : NC 1 3000 a.d := by
  have p : 2 ^ k ≤ 10 ^ 500 := Nat.le_trans (Nat.pow_le_pow_right (by decide) hk) (by decide)
  have nn : ∀ i : Int, i.natAbs < 2 ^ k → NC 0 501 (.int i) := fun i hi => nc_int (k := 500) (Nat.lt_of_lt_of_le hi p) (by decide) (by decide)
  cases m <;> cases a <;> simp only [Av.ok] at h
  · exact (nn _ h).mono (by decide) (by decide)
  · rename_i n l
    have hn : n ≤ 4 := hm.2
    refine (nc_tup (a := 0) (w := 501) (l := iL l) fun d hd => ?_).mono (by decide) (by rw [len_iL]; omega)
    obtain ⟨i, hi, rfl⟩ := List.mem_map.mp hd
    exact nn i (h.2 i hi)
  · rename_i x y
    refine (nc_tup (a := 0) (w := 501) (l := [.int (x : Nat), .int (y : Nat)]) fun d hd => ?_).mono (by decide) (by simp)
    rcases List.mem_cons.mp hd with rfl | hd
    · exact nn _ (by rw [Int.natAbs_natCast]; exact h.2.2.2.1)
    · rw [List.mem_singleton.mp hd]; exact nn _ (by rw [Int.natAbs_natCast]; exact h.2.2.2.2)
theorem repr_av {m : Ms} {l : List Av} (hm : m.ok) (h : ∀ a ∈ l, a.ok 1600 m) (hl : l.length ≤ 100) : ∃ x, reprB [.lst (aL l)] = some (.sh (.str x)) := by
  refine ⟨_, NC.reprB (a := 2) (w := 1000000) ((nc_lst (a := 1) (w := 3000) (l := aL l) fun d hd => ?_).mono (by decide) (by rw [aL_len]; omega)) (by decide) (by decide)⟩
  obtain ⟨a, ha, rfl⟩ := List.mem_map.mp hd
  exact nc_av (h a ha) (Nat.le_refl _) hm
/-! ### pairs -/
def OkPairs (ev : Ev) : Prop := ∀ (m : Ms) (a b : Av) (s : Slot), m.ok → Sf m s → a.ok 140 m → b.ok 140 m → ev [s, .sh m.d, .sh a.d, .sh b.d] = .ok (.sh (.bl true), [s.nrm, .em, .em, .em])
theorem ok_pairs {T : Tb} {gm gz gp : Ev} (hmi : Mth T "minus" KM) (hne : Mth T "negative" KO) (htw : Mth T "twice" KW) (hm_ : LMn gm) (hz : LZr gz) (hp : LAd gp) : OkPairs (evF 6 4 (B__law_pairs_right T gm gz gp)) := by
  intro m a b s hm hs ha hb
  obtain ⟨b1, e1, i1, s1⟩ := hmi m hm
  obtain ⟨b2, e2, i2, s2⟩ := hne m hm
  obtain ⟨b3, e3, i3, s3⟩ := htw m hm
  have hA := ha.mono (show 140 ≤ 2000 by decide)
  have hB := hb.mono (show 140 ≤ 2000 by decide)
  have m1 := s1 s a b hs hA hB
  have m2 := s1 s b a hs hB hA
  have m3 := s2 s a hs hA
  have m4 := s3 s a hs hA
  have l1 := hm_ m a b hm hA hB
  have l2 := hm_ m b a hm hB hA
  have l3 := hm_ m (zer m) a hm (zer_ok.mono (by decide)) hA
  rw [sub_zer ha] at l3
  have l4 := hp m a a hm hA hA
  have z := hz m hm
  have rp : ∃ x, reprB [.lst [(sub2 a b).d, (sub2 b a).d, (neg1 a).d, (add2 a a).d]] = some (.sh (.str x)) := by
    refine repr_av (l := [sub2 a b, sub2 b a, neg1 a, add2 a a]) hm ?_ (by simp)
    intro x hx
    simp only [List.mem_cons, List.not_mem_nil, or_false] at hx
    rcases hx with rfl | rfl | rfl | rfl
    · exact (sub_ok ha hb).mono (by decide)
    · exact (sub_ok hb ha).mono (by decide)
    · exact (neg_ok ha).mono (by decide)
    · exact (add_ok ha ha).mono (by decide)
  obtain ⟨x, rp⟩ := rp
  have ad : ∀ x y z w : D, addD (.lst [x, y]) (.lst [z, w]) = some (.fr (.lst [x, y, z, w])) := by
    intro x y z w
    show (if 2 + 2 ≤ lenLim then some (Val.fr (.lst ([x, y] ++ [z, w]))) else none) = _
    rw [if_pos (le_lim (by decide))]
    rfl
  refine eq_of_wp (wp_ev rfl ?_)
  unfold B__law_pairs_right
  rcases hs with rfl | rfl <;> simp [i1, i2, i3, m1, m2, m3, m4, l1, l2, l3, l4, z, rp, ad]
end Qv
namespace Qv
open PySem L2

/-! ### sums -/
def PlusQ (T : Tb) : Prop := ∀ m : Ms, m.ok → ∃ b ev, (∀ n, n ≤ 4 → insQ T.mq "plus" n [] m.ins = some ([true, b], ev, some 1, ⟨2, [], [], [.ps 0, .ps 1]⟩)) ∧ KT ev m
theorem cut_take (l : List D) (n : Nat) : cutD l none (some (n : Nat)) = l.take n := by
  unfold cutD
  rw [HT.sIx_none, HT.sIx_nat, List.drop_zero, Nat.sub_zero]
  rcases Nat.le_total n l.length with h | h
  · rw [Nat.min_eq_left h]
  · rw [Nat.min_eq_right h, List.take_length, List.take_of_length_le h]
theorem aL_take (l : List Av) (n : Nat) : (aL l).take n = aL (l.take n) := by simp [aL, List.map_take]
def OkSums (ev : Ev) : Prop := ∀ (m : Ms) (l : List Av) (s : Slot), m.ok → Sf m s → 4 ≤ l.length → l.length ≤ 6 → (∀ a ∈ l, a.ok 140 m) → ev [s, .sh m.d, .ow true (.lst (aL l))] = .ok (.sh (.bl true), [s.nrm, .em, .ow true (.lst (aL l))])
theorem repr_one {m : Ms} {a : Av} (hm : m.ok) (h : a.ok 1600 m) : ∃ x, reprB [a.d] = some (.sh (.str x)) := ⟨_, NC.reprB (a := 1) (w := 3000) (nc_av h (Nat.le_refl _) hm) (by decide) (by decide)⟩
theorem sl_take (l : List Av) (n : Nat) : slD (.lst (aL l)) none (some (n : Nat)) = some (.fr (.lst (aL (l.take n)))) := by
  show some (Val.fr (.lst (cutD _ _ _))) = _
  rw [cut_take, aL_take]
theorem ok_sums {T : Tb} {gt : Ev} (hq : PlusQ T) (hpa : Mth T "plus_all" KT) (ht : LTt gt) : OkSums (evF 10 3 (B__law_sums_right T gt)) := by
  intro m l s hm hs h4 h6 hl
  obtain ⟨b, ev, iq, kq⟩ := hq m hm
  obtain ⟨bs, ev2, ip, kp⟩ := hpa m hm
  have htk : ∀ n, (l.take n).length ≤ 6 ∧ ∀ a ∈ l.take n, a.ok 140 m := fun n => ⟨by rw [List.length_take]; omega, fun a ha => hl a (List.mem_of_mem_take ha)⟩
  have hle : ∀ n, 141 * (l.take n).length ≤ 846 := fun n => Nat.mul_le_mul_left 141 (htk n).1
  have hok : ∀ n, (tot m (l.take n)).ok 1600 m := fun n => (tot_ok _ (htk n).2).mono (by have := hle n; omega)
  obtain ⟨t, tt⟩ : ∃ t : Nat → Av, ∀ i, tot m (l.take i) = t i := ⟨_, fun _ => rfl⟩
  have q : ∀ n, ev [s, .sh (.tup (aL (l.take n)))] = .ok (.sh (t n).d, [s.nrm, .em]) := fun n => by
    rw [← tt]; exact kq s _ 140 hs (by have := (htk n).1; omega) (by have := hle n; omega) (by decide) (htk n).2
  have q2 : ∀ n, ev2 [s, .sh (.tup (aL (l.take n)))] = .ok (.sh (t n).d, [s.nrm, .em]) := fun n => by
    rw [← tt]; exact kp s _ 140 hs (by have := (htk n).1; omega) (by have := hle n; omega) (by decide) (htk n).2
  have q3 : ∀ n, gt [.sh m.d, .sh (.lst (aL (l.take n)))] = .ok (.sh (t n).d, [.em, .em]) := fun n => by
    rw [← tt]; exact ht m _ 140 _ hm (htk n).2 (by have := hle n; omega) (by decide) (.inl rfl)
  simp only [tt] at hok
  obtain ⟨a1, a2, a3, a4, r, hr⟩ : ∃ a1 a2 a3 a4 r, l = a1 :: a2 :: a3 :: a4 :: r := by
    match l, h4 with
    | a1 :: a2 :: a3 :: a4 :: r, _ => exact ⟨a1, a2, a3, a4, r, rfl⟩
  have u0 := q 0; have u1 := q 1; have u2 := q 2; have u3 := q 3; have u4 := q 4
  have s4 := sl_take l 4
  rw [hr] at u0 u1 u2 u3 u4
  rw [show List.take 4 l = [a1, a2, a3, a4] by rw [hr]; rfl] at s4
  simp only [List.take, aL, List.map_cons, List.map_nil] at u0 u1 u2 u3 u4
  have s4' : slD (.lst (aL l)) none (some 4) = some (.fr (.lst [a1.d, a2.d, a3.d, a4.d])) := s4
  have j0 := iq 0 (by decide); have j1 := iq 1 (by decide); have j2 := iq 2 (by decide); have j3 := iq 3 (by decide); have j4 := iq 4 (by decide)
  have hrg := rng1_nat 5 (by decide)
  have hrg' : rng1B [.int 5] = some ((List.range 5).map fun i => D.int (i : Nat)) := by rw [show (5 : Int) = ((5 : Nat) : Int) from rfl, hrg]; simp [rngD]
  have hrg2 : rng1B [.int ((l.length : Int) + 1)] = some (rngD 0 (l.length + 1)) := by
    have h := rng1_nat (l.length + 1) (by omega)
    rw [Int.natCast_add] at h
    exact h
  obtain ⟨x, rp⟩ := repr_av (l := [t 0, t 1, t 2, t 3, t 4]) hm (by
    intro a ha
    simp only [List.mem_cons, List.not_mem_nil, or_false] at ha
    rcases ha with rfl | rfl | rfl | rfl | rfl <;> exact hok _) (by simp)
  simp only [aL, List.map_cons, List.map_nil] at rp
  have rest : ∀ Q : Fl → En → Prop, (∀ x, x.bare = true → Q .nx [s, .sh m.d, .ow true (.lst (aL l)), .sh a1.d, .sh a2.d, .sh a3.d, .sh a4.d, .ow false (.lst [(t 0).d, (t 1).d, (t 2).d, (t 3).d, (t 4).d]), .ow false (.lst [(t 0).d, (t 1).d, (t 2).d, (t 3).d, (t 4).d]), x]) → wpO (forL (asgN 9) (seqS [ifS (cmpT (opC T.mt T.du .NotEq (callC reprB [methC T.mt "plus_all" (nameC 0) [callC tupleB [sliC (nameC 2) (noC) (partC (nameC 9))]]]) (callC reprB [callV [true, false] gt [nameC 1, sliC (nameC 2) (noC) (partC (nameC 9))]]))) (seqS [rtS (conC (.bl false))]) (seqS [])]) (rngD 0 (l.length + 1)) [s, .sh m.d, .ow true (.lst (aL l)), .sh a1.d, .sh a2.d, .sh a3.d, .sh a4.d, .ow false (.lst [(t 0).d, (t 1).d, (t 2).d, (t 3).d, (t 4).d]), .ow false (.lst [(t 0).d, (t 1).d, (t 2).d, (t 3).d, (t 4).d]), .em]) Q := by
    intro Q hQ
    refine wp_forL (fun done e => ∃ x, e = [s, .sh m.d, .ow true (.lst (aL l)), .sh a1.d, .sh a2.d, .sh a3.d, .sh a4.d, .ow false (.lst [(t 0).d, (t 1).d, (t 2).d, (t 3).d, (t 4).d]), .ow false (.lst [(t 0).d, (t 1).d, (t 2).d, (t 3).d, (t 4).d]), x] ∧ x.bare = true) ⟨.em, rfl, rfl⟩ ?_ ?_
    · rintro done d rest e hd ⟨x, rfl, hx⟩
      obtain ⟨rfl, hlt⟩ := rngD_at hd
      obtain ⟨y, ry⟩ := repr_one hm (hok done.length)
      have s1 := sl_take l done.length
      have w2 := q2 done.length
      have w3 := q3 done.length
      rcases hs with rfl | rfl <;> cases x <;> first | (cases hx; done) | (simp [ip, s1, w2, w3, ry, Slot.bare])
    · rintro e ⟨x, rfl, hx⟩
      exact hQ x hx
  refine eq_of_wp (wp_ev rfl ?_)
  unfold B__law_sums_right
  have lc : ∀ Q : Val → En → Prop, (Q (.fr (.lst [(t 0).d, (t 1).d, (t 2).d, (t 3).d, (t 4).d])) [s, .sh m.d, .ow true (.lst (aL l)), .sh a1.d, .sh a2.d, .sh a3.d, .sh a4.d, .ow false (.lst [(t 0).d, (t 1).d, (t 2).d, (t 3).d, (t 4).d]), .em, .em]) → wpO (lcK [9] (asgN 9) (ret true) (callV [true, false] gt [nameC 1, sliC (nameC 2) (noC) (partC (nameC 9))]) ((List.range 5).map fun i => D.int (i : Nat)) [s, .sh m.d, .ow true (.lst (aL l)), .sh a1.d, .sh a2.d, .sh a3.d, .sh a4.d, .ow false (.lst [(t 0).d, (t 1).d, (t 2).d, (t 3).d, (t 4).d]), .em, .em]) Q := by
    intro Q hQ
    refine wp_lcP (List.range 5) (fun i => .int (i : Nat)) (fun _ => true) (fun i => (t i).d) (w := [s, .sh m.d, .ow true (.lst (aL l)), .sh a1.d, .sh a2.d, .sh a3.d, .sh a4.d, .ow false (.lst [(t 0).d, (t 1).d, (t 2).d, (t 3).d, (t 4).d]), .em, .em]) (by simp) (le_lim (by simp)) ?_ hQ
    intro i hi
    have s1 := sl_take l i
    have w3 := q3 i
    simp [s1, w3]
  obtain ⟨E, hE⟩ : ∃ E : Slot → En, ∀ s, E s = [s, .sh m.d, .ow true (.lst (aL l)), .sh a1.d, .sh a2.d, .sh a3.d, .sh a4.d, .ow false (.lst [(t 0).d, (t 1).d, (t 2).d, (t 3).d, (t 4).d]), .ow false (.lst [(t 0).d, (t 1).d, (t 2).d, (t 3).d, (t 4).d]), .em] := ⟨_, fun _ => rfl⟩
  have itr : rngC rng1B [binC addD (callC lenB [nameC 2]) (conC (.int 1))] (E s) = .ok (rngD 0 (l.length + 1), E s) := by
    have a1 : binC addD (callC lenB [nameC 2]) (conC (.int 1)) (E s) = .ok (.sh (.int ((l.length : Int) + 1)), E s) := by
      rw [hE]
      simp [aL_len]
    rw [rngC_app, bnd_app, argsC_one, bnd_app, a1, obn_ok, ret_app, obn_ok, opd_sh, bnd_app, derAll_cons, bnd_app, der_sh, obn_ok, bnd_app, derAll_nil, obn_ok, ret_app, obn_ok, hrg2]
    rfl
  rw [hE] at itr
  generalize rngC rng1B [binC addD (callC lenB [nameC 2]) (conC (.int 1))] = it at *
  rcases hs with rfl | rfl
  · simp [-callV_app, s4', j0, j1, j2, j3, j4, u0, u1, u2, u3, u4]
    rw [hrg']
    simp [-callV_app]
    refine lc _ ?_
    simp [-callV_app]
    rw [rp]
    simp [-callV_app]
    rw [rp]
    simp [-callV_app]
    rw [itr, wpO_ok]
    refine rest _ ?_
    intro x hx
    simp
  · simp [-callV_app, s4', j0, j1, j2, j3, j4, u0, u1, u2, u3, u4]
    rw [hrg']
    simp [-callV_app]
    refine lc _ ?_
    simp [-callV_app]
    rw [rp]
    simp [-callV_app]
    rw [rp]
    simp [-callV_app]
    rw [itr, wpO_ok]
    refine rest _ ?_
    intro x hx
    simp
end Qv
namespace Qv
open PySem L2

def MkC (gc : Ev) : Prop := ∀ n : Nat, 1 ≤ n → n ≤ 4 → gc [.sh (.int (n : Nat))] = .ok (.fn (Ms.cls n).ins, [.em])
def MkS (gs : Ev) : Prop := gs [] = .ok (.fn Ms.sums.ins, [])
def MkO (gs : Ev) : Prop := gs [] = .ok (.fn Ms.odds.ins, [])
def OkMade (ev : Ev) : Prop := ∀ m : Ms, m.ok → ev [.sh m.d] = .ok (.fn m.ins, [.em])
theorem ok_made {T : Tb} {gc gs go : Ev} (hc : MkC gc) (hs : MkS gs) (ho : MkO go) : OkMade (evF 1 1 (B__law_made T gc gs go)) := by
  intro m hm
  unfold MkS at hs
  unfold MkO at ho
  refine eq_of_wp (wp_ev rfl ?_)
  unfold B__law_made
  cases m with
  | sums => simp [Ms.d, Ms.word, Ms.sz, p0, str_sc, hs]
  | odds => simp [Ms.d, Ms.word, Ms.sz, p0, str_oc, str_os, ho]
  | cls n =>
    have := hc n hm.1 hm.2
    simp [Ms.d, Ms.word, Ms.sz, p0, p1, this]
/-! ### the last words of the law -/
def bigR : List (Nat × Nat) := (List.replicate 100 [(1000000, 999999), (999999, 999998)]).flatten
theorem big1 : pr1 bigR / Nat.gcd (pr1 bigR) (pr2 bigR) = (500000 ^ 50) ^ 2 := by decide +kernel
theorem big2 : pr2 bigR / Nat.gcd (pr1 bigR) (pr2 bigR) = (499999 ^ 50) ^ 2 := by decide +kernel
theorem eq_two (U V : Int) : eqD (.tup [.int U, .int V]) (.tup [.int U, .int V]) = some (.sh (.bl true)) := by
  show some (Val.sh (D.bl (PyData.eqv (D.tup [.int U, .int V]).py (D.tup [.int U, .int V]).py))) = _
  rw [SeqAt.eqv_refl _ rfl]
def Tail07 (T : Tb) (gc go gs : Ev) : List (M Fl) := [asS (lstC [methQ T.mq "plus" [] (callV [false] gc [conC (.int 2)]) [tupC [conC (.int 1), conC (.int 0)], tupC [conC (.int 0), conC (.int 3)]] [], methC T.mt "minus" (callV [] go []) [tupC [conC (.int 3), conC (.int 1)], tupC [conC (.int 2), conC (.int 1)]]]) (asgN 9), asS (binC addD (nameC 9) (lstC [methQ T.mq "plus" [] (callV [] go []) [tupC [conC (.int 2), conC (.int 3)], tupC [conC (.int 3), conC (.int 2)]] [], methC T.mt "twice" (callV [] go []) [tupC [conC (.int 2), conC (.int 3)]]])) (asgN 9), asS (binC addD (nameC 9) (lstC [methC T.mt "negative" (callV [false] gc [conC (.int 1)]) [tupC [conC (.int 4)]], methQ T.mq "plus" [] (callV [] gs []) [binC powD (conC (.int 10)) (conC (.int 50)), binC subD (conC (.int 0)) (binC powD (conC (.int 10)) (conC (.int 50)))] []])) (asgN 9), ifS (cmpT (opC T.mt T.du .NotEq (nameC 9) (lstC [tupC [conC (.int 1), conC (.int 3)], tupC [conC (.int 3), conC (.int 2)], tupC [conC (.int 1), conC (.int 1)], tupC [conC (.int 4), conC (.int 9)], tupC [negC (conC (.int 4))], conC (.int 0)]))) (seqS [rtS (conC (.bl false))]) (seqS []), asS (callC tupleB [binC mulD (lstC [tupC [conC (.int 1000000), conC (.int 999999)], tupC [conC (.int 999999), conC (.int 999998)]]) (conC (.int 100))]) (asgN 10), rtS (opC T.mt T.du .Eq (methC T.mt "plus_all" (callV [] go []) [nameC 10]) (tupC [binC powD (binC powD (conC (.int 500000)) (conC (.int 50))) (conC (.int 2)), binC powD (binC powD (conC (.int 499999)) (conC (.int 50))) (conC (.int 2))]))]
theorem add_l2 (x y z w : D) : addD (.lst [x, y]) (.lst [z, w]) = some (.fr (.lst [x, y, z, w])) := by
  show (if 2 + 2 ≤ lenLim then some (Val.fr (.lst ([x, y] ++ [z, w]))) else none) = _
  rw [if_pos (le_lim (by decide))]
  rfl
theorem add_l4 (a b x y z w : D) : addD (.lst [a, b, x, y]) (.lst [z, w]) = some (.fr (.lst [a, b, x, y, z, w])) := by
  show (if 4 + 2 ≤ lenLim then some (Val.fr (.lst ([a, b, x, y] ++ [z, w]))) else none) = _
  rw [if_pos (le_lim (by decide))]
  rfl
theorem tail07 {T : Tb} {gc go gs : Ev} (hc : MkC gc) (hs : MkS gs) (ho : MkO go) (hq : PlusQ T) (hmi : Mth T "minus" KM) (htw : Mth T "twice" KW) (hne : Mth T "negative" KO) (hpl : Mth T "plus_all" KT) {x0 x1 x2 x3 x4 x5 x6 x7 x8 : Slot} (h0 : x0.io = false) :
    wpO (seqS (Tail07 T gc go gs) [x0, x1, x2, x3, x4, x5, x6, x7, x8, .em, .em]) (wpF 1 fun v _ => v = .sh (.bl true)) := by
  unfold MkS at hs
  unfold MkO at ho
  have c2 : gc [.sh (.int 2)] = .ok (.fn (Ms.cls 2).ins, [.em]) := hc 2 (by decide) (by decide)
  have c1 : gc [.sh (.int 1)] = .ok (.fn (Ms.cls 1).ins, [.em]) := hc 1 (by decide) (by decide)
  obtain ⟨b1, v1, i1, k1⟩ := hq (.cls 2) ⟨by decide, by decide⟩
  obtain ⟨b2, v2, i2, k2⟩ := hq .odds trivial
  obtain ⟨b3, v3, i3, k3⟩ := hq .sums trivial
  obtain ⟨b4, v4, i4, k4⟩ := hmi .odds trivial
  obtain ⟨b5, v5, i5, k5⟩ := htw .odds trivial
  obtain ⟨b6, v6, i6, k6⟩ := hne (.cls 1) ⟨by decide, by decide⟩
  obtain ⟨b7, v7, i7, k7⟩ := hpl .odds trivial
  have r1 := k1 (.sh (Ms.cls 2).ins) [.c [1, 0], .c [0, 3]] 2 (.inl rfl) (by decide) (by decide) (by decide) (by
    intro a ha
    simp only [List.mem_cons, List.not_mem_nil, or_false] at ha
    rcases ha with rfl | rfl <;> exact ⟨rfl, by decide⟩)
  have q1 : tot (.cls 2) [.c [1, 0], .c [0, 3]] = .c [1, 3] := by kernel_rfl
  rw [q1] at r1
  have o23 : (Av.o 2 3).ok 2 .odds := ⟨by decide, by decide, by decide, by decide, by decide⟩
  have o32 : (Av.o 3 2).ok 2 .odds := ⟨by decide, by decide, by decide, by decide, by decide⟩
  have o31 : (Av.o 3 1).ok 2 .odds := ⟨by decide, by decide, by decide, by decide, by decide⟩
  have o21 : (Av.o 2 1).ok 2 .odds := ⟨by decide, by decide, by decide, by decide, by decide⟩
  have r2 := k2 (.sh Ms.odds.ins) [.o 2 3, .o 3 2] 2 (.inl rfl) (by decide) (by decide) (by decide) (by
    intro a ha
    simp only [List.mem_cons, List.not_mem_nil, or_false] at ha
    rcases ha with rfl | rfl
    · exact o23
    · exact o32)
  have q2 : tot .odds [.o 2 3, .o 3 2] = .o 1 1 := by kernel_rfl
  rw [q2] at r2
  obtain ⟨B, pB, bB⟩ : ∃ B : Int, powD (.int 10) (.int 50) = some (.sh (.int B)) ∧ B.natAbs < 2 ^ 170 := ⟨10 ^ 50, by kernel_rfl, by decide⟩
  have r3 := k3 (.sh Ms.sums.ins) [.s B, .s (0 - B)] 170 (.inl rfl) (by simp) (by simp) (by decide) (by
    intro a ha
    simp only [List.mem_cons, List.not_mem_nil, or_false] at ha
    rcases ha with rfl | rfl
    · exact bB
    · show (0 - B).natAbs < 2 ^ 170; omega)
  have q3 : tot .sums [.s B, .s (0 - B)] = .s 0 := by
    show Av.s (0 + B + (0 - B)) = _
    congr 1
    omega
  rw [q3] at r3
  have r4 := k4 (.sh Ms.odds.ins) (.o 3 1) (.o 2 1) (.inl rfl) (o31.mono (by decide)) (o21.mono (by decide))
  have q4 : sub2 (.o 3 1) (.o 2 1) = .o 3 2 := by kernel_rfl
  rw [q4] at r4
  have r5 := k5 (.sh Ms.odds.ins) (.o 2 3) (.inl rfl) (o23.mono (by decide))
  have q5 : add2 (.o 2 3) (.o 2 3) = .o 4 9 := by kernel_rfl
  rw [q5] at r5
  have r6 := k6 (.sh (Ms.cls 1).ins) (.c [4]) (.inl rfl) (Av.ok.mono (k := 3) ⟨rfl, by decide⟩ (by decide))
  have q6 : neg1 (.c [4]) = .c [-4] := by kernel_rfl
  rw [q6] at r6
  have hR : ∀ p ∈ bigR, 0 < p.1 ∧ 0 < p.2 ∧ Nat.gcd p.1 p.2 = 1 ∧ p.1 < 2 ^ 20 ∧ p.2 < 2 ^ 20 := by
    intro p hp
    have : p = (1000000, 999999) ∨ p = (999999, 999998) := by
      unfold bigR at hp
      rw [List.mem_flatten] at hp
      obtain ⟨l, h1, h2⟩ := hp
      rw [(List.mem_replicate.mp h1).2] at h2
      simpa using h2
    rcases this with rfl | rfl <;> decide +kernel
  have lR : bigR.length = 200 := by kernel_rfl
  have r7 := k7 (.sh Ms.odds.ins) (bigR.map fun p => Av.o p.1 p.2) 20 (.inl rfl) (by rw [List.length_map, lR]; decide) (by rw [List.length_map, lR]; decide) (by decide) (by
    intro a ha
    obtain ⟨p, hp, rfl⟩ := List.mem_map.mp ha
    exact hR p hp)
  rw [tot_o bigR fun p hp => ⟨(hR p hp).1, (hR p hp).2.1⟩, aL_o] at r7
  obtain ⟨u, U, pu, pU, eU⟩ : ∃ u U : Int, powD (.int 500000) (.int 50) = some (.sh (.int u)) ∧ powD (.int u) (.int 2) = some (.sh (.int U)) ∧ U = ((pr1 bigR / Nat.gcd (pr1 bigR) (pr2 bigR) : Nat) : Int) := ⟨500000 ^ 50, (500000 ^ 50) ^ 2, by kernel_rfl, by kernel_rfl, by rw [big1]; decide +kernel⟩
  obtain ⟨w, W, pw, pW, eW⟩ : ∃ w W : Int, powD (.int 499999) (.int 50) = some (.sh (.int w)) ∧ powD (.int w) (.int 2) = some (.sh (.int W)) ∧ W = ((pr2 bigR / Nat.gcd (pr1 bigR) (pr2 bigR) : Nat) : Int) := ⟨499999 ^ 50, (499999 ^ 50) ^ 2, by kernel_rfl, by kernel_rfl, by rw [big2]; decide +kernel⟩
  have rd : (red (pr1 bigR) (pr2 bigR)).d = .tup [.int U, .int W] := by rw [eU, eW]; rfl
  rw [rd] at r7
  have mR : mulD (.lst [.tup [.int 1000000, .int 999999], .tup [.int 999999, .int 999998]]) (.int 100) = some (.fr (.lst (aO bigR))) := by kernel_rfl
  generalize aO bigR = bR at *
  have ne : neD (.lst [.tup [.int 1, .int 3], .tup [.int 3, .int 2], .tup [.int 1, .int 1], .tup [.int 4, .int 9], .tup [.int (-4)], .int 0]) (.lst [.tup [.int 1, .int 3], .tup [.int 3, .int 2], .tup [.int 1, .int 1], .tup [.int 4, .int 9], .tup [.int (-4)], .int 0]) = some (.sh (.bl false)) := by kernel_rfl
  have j1 := i1 2 (by decide)
  have j2 := i2 2 (by decide)
  have j3 := i3 2 (by decide)
  simp [aL, Av.d, iL] at r1 r2 r3 r4 r5 r6
  have e2 := eq_two U W
  unfold Tail07
  simp [c1, c2, hs, ho, j1, j2, j3, i4, i5, i6, i7, r1, r2, r3, r4, r5, r6, r7, pB, pu, pU, pw, pW, add_l2, add_l4, ne, mR, e2, h0]
/-! ### the law -/
def IO0 (x : Slot) : Prop := x.io = false
def LJ (ns : List Int) (e : En) : Prop := ∃ x1 x2 x3 x4 x5 x6 x7 x8 : Slot, e = [.sh (.scr ns), x1, x2, x3, x4, x5, x6, x7, x8, .em, .em] ∧ (x1.io = false ∧ x2.io = false ∧ x3.io = false ∧ x4.io = false) ∧ (x5.io = false ∧ x6.io = false ∧ x7.io = false ∧ x8.io = false)
def LI (ns : List Int) (k N : Nat) (e : En) : Prop := ∃ (d : D) (x3 x4 x5 x6 x7 x8 : Slot), e = [.sh (.scr ns), .sh (.int (k : Nat)), .ow false d, x3, x4, x5, x6, x7, x8, .em, .em] ∧ Di N d ∧ (x3.io = false ∧ x4.io = false) ∧ (x5.io = false ∧ x6.io = false ∧ x7.io = false ∧ x8.io = false)
theorem ok_law07 {T : Tb} {g1 g2 g3 g4 g5 g6 g7 gc go gs : Ev} (h1 : OkDice g1) (h2 : OkScale g2) (h3 : OkMade g3) (h4 : OkSome g4) (h5 : OkSums g5) (h6 : OkPairs g6) (h7 : OkPick g7)
    (hc : MkC gc) (hs : MkS gs) (ho : MkO go) (hq : PlusQ T) (hmi : Mth T "minus" KM) (htw : Mth T "twice" KW) (hne : Mth T "negative" KO) (hpl : Mth T "plus_all" KT) (ns : List Int) (hns : ns.length ≤ 63) :
    ∃ e', evF 11 1 (B_law_2 T g1 g2 g3 g4 g5 g6 g7 gc go gs) [.sh (.scr ns)] = .ok (.sh (.bl true), e') := by
  have main : wpO (evF 11 1 (B_law_2 T g1 g2 g3 g4 g5 g6 g7 gc go gs) [.sh (.scr ns)]) fun v _ => v = .sh (.bl true) := by
    refine wp_ev rfl ?_
    unfold B_law_2
    let mx : Int := if (if (ns.length : Int) < 10 then (ns.length : Int) else 10) > 1 then (if (ns.length : Int) < 10 then (ns.length : Int) else 10) else 1
    obtain ⟨m, hm, hm10⟩ : ∃ m : Nat, mx = (m : Nat) ∧ m ≤ 10 := ⟨mx.toNat, by simp only [mx]; split <;> split <;> omega, by simp only [mx]; split <;> split <;> omega⟩
    have rm := rng1_nat m (by omega)
    rw [← hm] at rm
    have ml : minB [.int 10, .int ns.length] = some (.sh (.int (if (ns.length : Int) < 10 then (ns.length : Int) else 10))) := rfl
    have mxx : maxB [.int 1, .int (if (ns.length : Int) < 10 then (ns.length : Int) else 10)] = some (.sh (.int mx)) := rfl
    have r2 : rng1B [.int 2] = some (rngD 0 2) := rng1_nat 2 (by decide)
    rw [seqS_cons, wpO_obn]
    simp only [forS_app, bnd_app, wpO_obn]
    have it : rngC rng1B [callC maxB [conC (.int 1), callC minB [conC (.int 10), callC lenB [nameC 0]]]] [.sh (.scr ns), .em, .em, .em, .em, .em, .em, .em, .em, .em, .em] = .ok (rngD 0 m, [.sh (.scr ns), .em, .em, .em, .em, .em, .em, .em, .em, .em, .em]) := by
      simp [ml, mxx, rm, -max_int, -min_int]
    have e0 : ([Slot.sh (.scr ns)] ++ List.replicate (11 - 1) Slot.em) = [.sh (.scr ns), .em, .em, .em, .em, .em, .em, .em, .em, .em, .em] := rfl
    rw [e0, it, wpO_ok]
    refine wp_forL (fun _ e => LJ ns e) ⟨.em, .em, .em, .em, .em, .em, .em, .em, rfl, ⟨rfl, rfl, rfl, rfl⟩, rfl, rfl, rfl, rfl⟩ ?_ ?_
    · rintro done d rest e hx ⟨x1, x2, x3, x4, x5, x6, x7, x8, rfl, ⟨i1, i2, i3, i4⟩, i5, i6, i7, i8⟩
      obtain ⟨rfl, hlt⟩ := rngD_at hx
      generalize hk : done.length = k at *
      obtain ⟨d0, q1, hd0⟩ := h1 ns k (by omega)
      simp [q1, i1, i2, r2, -callV_app]
      rw [callV_app]
      simp [q1, i2, r2, -callV_app]
      refine wp_forL (fun dn e => LI ns k (500 * dn.length) e) ⟨d0, x3, x4, x5, x6, x7, x8, rfl, hd0, ⟨i3, i4⟩, i5, i6, i7, i8⟩ ?_ ?_
      · rintro dn dd rs e hy ⟨d, y3, y4, y5, y6, y7, y8, rfl, hd, ⟨k3, k4⟩, k5, k6, k7, k8⟩
        obtain ⟨rfl, hl2⟩ := rngD_at hy
        generalize hj : dn.length = j at *
        obtain ⟨m1, d1, mok, w1, hd1⟩ := h2 _ d hd (by omega)
        have w2 := h3 m1 mok
        obtain ⟨l, d2, w3, hd2, l4, l6, lok⟩ := h4 _ d1 m1 hd1 (by omega) mok
        have w4 := h5 m1 l (.nt true m1.ins) mok (.inr rfl) l4 l6 lok
        obtain ⟨x, rp⟩ := repr_av mok (fun a ha => (lok a ha).mono (by decide)) (show l.length ≤ 100 by omega)
        simp [w1, w2, w3, w4, rp, k3, k4, k5, k6, k7, k8]
        refine wp_forL (fun dz e => ∃ (d : D) (z8 : Slot), e = [.sh (.scr ns), .sh (.int (k : Nat)), .ow false d, .sh (.int (j : Nat)), .sh m1.d, .nt false m1.ins, .sh (.lst (aL l)), .sh (.str x), z8, .em, .em] ∧ Di (500 * j + 2 + 400 + dz.length) d ∧ z8.io = false) ⟨d2, y8, rfl, hd2, k8⟩ ?_ ?_
        · rintro dz d3 rz e hz ⟨d, z8, rfl, hd, hz8⟩
          have hmem : d3 ∈ aL l := by rw [← hz]; simp
          obtain ⟨a, ha, rfl⟩ := List.mem_map.mp hmem
          obtain ⟨x2, d4, p1, p2, p3⟩ := h7 (500 * j + 2 + 400 + dz.length) d (aL l) hd (by
            have := congrArg List.length hz
            simp [aL_len] at this
            omega) (by rw [aL_len]; omega) (by rw [aL_len]; omega) (.sh (.lst (aL l))) (.inr rfl)
          obtain ⟨b, hb, rfl⟩ := List.mem_map.mp p3
          have w6 := h6 m1 a b (.nt true m1.ins) mok (.inr rfl) (lok a ha) (lok b hb)
          simp [p1, w6, hz8]
          exact ⟨_, _, ⟨rfl, rfl⟩, p2.mono (by omega), rfl⟩
        · rintro e ⟨d, z8, rfl, hd, hz8⟩
          simp [rp]
          exact ⟨d, _, _, _, _, _, _, rfl, hd.mono (by rw [aL_len]; omega), ⟨rfl, rfl⟩, rfl, rfl, rfl, hz8⟩
      · rintro e ⟨d, y3, y4, y5, y6, y7, y8, rfl, hd, ⟨k3, k4⟩, k5, k6, k7, k8⟩
        simp
        exact ⟨_, _, _, _, _, _, _, _, rfl, ⟨rfl, rfl, k3, k4⟩, k5, k6, k7, k8⟩
    · rintro e ⟨x1, x2, x3, x4, x5, x6, x7, x8, rfl, ⟨i1, i2, i3, i4⟩, i5, i6, i7, i8⟩
      exact tail07 hc hs ho hq hmi htw hne hpl rfl
  obtain ⟨v, e', h, rfl⟩ := wpO_get main
  exact ⟨e', h⟩
end Qv
/-! ### the law's functions (by gen.py) -/
namespace Kmostkept_k07_sums_and_differences
open PySem L2 Qv
def top (i : Nat) : Stmt := PySem.Challenge.pw_mostkept_k07_sums_and_differences.main.body.getD i (.Pass ⟨0, 0, 0, 0⟩)
def d_is_integer : DefI := ⟨none, "is_integer", "is_integer", ["value"], ["value"], defScope (top 6), defBody (top 6), [true], defArgs (top 6), [], []⟩
def d_common_divisor : DefI := ⟨none, "common_divisor", "common_divisor", ["one", "other"], ["one", "other"], defScope (top 12), defBody (top 12), [false, false], defArgs (top 12), [], []⟩
def d_reduced : DefI := ⟨none, "reduced", "reduced", ["top", "bottom", "divisor"], ["top", "bottom"], defScope (top 13), defBody (top 13), [false, false], defArgs (top 13), [], []⟩
def d_is_fraction : DefI := ⟨none, "is_fraction", "is_fraction", ["value", "one"], ["value"], defScope (top 14), defBody (top 14), [false], defArgs (top 14), [], []⟩
def d_Scale___init__ : DefI := ⟨none, "__init__", "Scale.__init__", ["self", "word", "size", "zero", "one"], ["self", "word", "size", "zero", "one"], defScope (clsAt (top 15) 0), defBody (clsAt (top 15) 0), [true, false, false, false, false], defArgs (clsAt (top 15) 0), [], []⟩
def d_Scale_sums : DefI := ⟨none, "sums", "Scale.sums", [], [], defScope (clsAt (top 15) 1), defBody (clsAt (top 15) 1), [], defArgs (clsAt (top 15) 1), [], []⟩
def d_Scale_classes : DefI := ⟨none, "classes", "Scale.classes", ["size"], ["size"], defScope (clsAt (top 15) 2), defBody (clsAt (top 15) 2), [false], defArgs (clsAt (top 15) 2), [], []⟩
def d_Scale_odds : DefI := ⟨none, "odds", "Scale.odds", [], [], defScope (clsAt (top 15) 3), defBody (clsAt (top 15) 3), [], defArgs (clsAt (top 15) 3), [], []⟩
def d_Scale_word : DefI := ⟨none, "word", "Scale.word", ["self"], ["self"], defScope (clsAt (top 15) 4), defBody (clsAt (top 15) 4), [true], defArgs (clsAt (top 15) 4), [], []⟩
def d_Scale_size : DefI := ⟨none, "size", "Scale.size", ["self"], ["self"], defScope (clsAt (top 15) 5), defBody (clsAt (top 15) 5), [true], defArgs (clsAt (top 15) 5), [], []⟩
def d_Scale_zero : DefI := ⟨none, "zero", "Scale.zero", ["self"], ["self"], defScope (clsAt (top 15) 6), defBody (clsAt (top 15) 6), [true], defArgs (clsAt (top 15) 6), [], []⟩
def d_Scale_one : DefI := ⟨none, "one", "Scale.one", ["self"], ["self"], defScope (clsAt (top 15) 7), defBody (clsAt (top 15) 7), [true], defArgs (clsAt (top 15) 7), [], []⟩
def d_Scale___contains__ : DefI := ⟨none, "__contains__", "Scale.__contains__", ["self", "value"], ["self", "value"], defScope (clsAt (top 15) 10), defBody (clsAt (top 15) 10), [true, false], defArgs (clsAt (top 15) 10), [], []⟩
def d_Scale_require_amount : DefI := ⟨none, "require_amount", "Scale.require_amount", ["self", "value"], ["self", "value"], defScope (clsAt (top 15) 11), defBody (clsAt (top 15) 11), [true, false], defArgs (clsAt (top 15) 11), [], []⟩
def d_Scale_require_amounts : DefI := ⟨none, "require_amounts", "Scale.require_amounts", ["self", "value", "amount"], ["self", "value"], defScope (clsAt (top 15) 12), defBody (clsAt (top 15) 12), [true, false], defArgs (clsAt (top 15) 12), [], []⟩
def d_Scale_plus : DefI := ⟨(some 1), "plus", "Scale.plus", ["self", "amounts"], ["self", "amounts"], defScope (clsAt (top 15) 13), defBody (clsAt (top 15) 13), [true, false], defArgs (clsAt (top 15) 13), [], [⟨2, [], [], [.ps 0, .ps 1]⟩]⟩
def d_Scale_plus_all : DefI := ⟨none, "plus_all", "Scale.plus_all", ["self", "amounts"], ["self", "amounts"], defScope (clsAt (top 15) 14), defBody (clsAt (top 15) 14), [true, false], defArgs (clsAt (top 15) 14), [], []⟩
def d_Scale_minus : DefI := ⟨none, "minus", "Scale.minus", ["self", "amount", "other"], ["self", "amount", "other"], defScope (clsAt (top 15) 15), defBody (clsAt (top 15) 15), [true, false, false], defArgs (clsAt (top 15) 15), [], []⟩
def d_Scale_negative : DefI := ⟨none, "negative", "Scale.negative", ["self", "amount"], ["self", "amount"], defScope (clsAt (top 15) 16), defBody (clsAt (top 15) 16), [true, false], defArgs (clsAt (top 15) 16), [], []⟩
def d_Scale_twice : DefI := ⟨none, "twice", "Scale.twice", ["self", "amount"], ["self", "amount"], defScope (clsAt (top 15) 17), defBody (clsAt (top 15) 17), [true, false], defArgs (clsAt (top 15) 17), [], []⟩
def d_Scale_greatest : DefI := ⟨(some 1), "greatest", "Scale.greatest", ["self", "amounts"], ["self", "amounts"], defScope (clsAt (top 15) 20), defBody (clsAt (top 15) 20), [true, false], defArgs (clsAt (top 15) 20), [], [⟨2, [], [], [.ps 0, .ps 1]⟩]⟩
def d_Scale_least : DefI := ⟨(some 1), "least", "Scale.least", ["self", "amounts"], ["self", "amounts"], defScope (clsAt (top 15) 21), defBody (clsAt (top 15) 21), [true, false], defArgs (clsAt (top 15) 21), [], [⟨2, [], [], [.ps 0, .ps 1]⟩]⟩
def d_Scale_order_of : DefI := ⟨none, "order_of", "Scale.order_of", ["self", "amounts"], ["self", "amounts"], defScope (clsAt (top 15) 22), defBody (clsAt (top 15) 22), [true, false], defArgs (clsAt (top 15) 22), [], []⟩
def d_Scale_ranked : DefI := ⟨none, "ranked", "Scale.ranked", ["self", "amounts", "runs", "index", "at"], ["self", "amounts"], defScope (clsAt (top 15) 23), defBody (clsAt (top 15) 23), [true, false], defArgs (clsAt (top 15) 23), [], []⟩
def d_Scale_merged : DefI := ⟨none, "merged", "Scale.merged", ["self", "amounts", "runs", "one", "other", "found", "at", "index"], ["self", "amounts", "runs"], defScope (clsAt (top 15) 24), defBody (clsAt (top 15) 24), [true, true, false], defArgs (clsAt (top 15) 24), [], []⟩
def d_Scale___eq__ : DefI := ⟨none, "__eq__", "Scale.__eq__", ["self", "other"], ["self", "other"], defScope (clsAt (top 15) 25), defBody (clsAt (top 15) 25), [true, true], defArgs (clsAt (top 15) 25), [], []⟩
def d_Scale___str__ : DefI := ⟨none, "__str__", "Scale.__str__", ["self"], ["self"], defScope (clsAt (top 15) 26), defBody (clsAt (top 15) 26), [true], defArgs (clsAt (top 15) 26), [], []⟩
def d_SumScale_has_form : DefI := ⟨none, "has_form", "SumScale.has_form", ["self", "value"], ["self", "value"], defScope (clsAt (top 16) 0), defBody (clsAt (top 16) 0), [true, true], defArgs (clsAt (top 16) 0), [], []⟩
def d_SumScale_added : DefI := ⟨none, "added", "SumScale.added", ["self", "amount", "other"], ["self", "amount", "other"], defScope (clsAt (top 16) 2), defBody (clsAt (top 16) 2), [true, true, true], defArgs (clsAt (top 16) 2), [], []⟩
def d_SumScale_opposite : DefI := ⟨none, "opposite", "SumScale.opposite", ["self", "amount"], ["self", "amount"], defScope (clsAt (top 16) 3), defBody (clsAt (top 16) 3), [true, true], defArgs (clsAt (top 16) 3), [], []⟩
def d_SumScale_total_in : DefI := ⟨none, "total_in", "SumScale.total_in", ["self", "amounts"], ["self", "amounts"], defScope (clsAt (top 16) 4), defBody (clsAt (top 16) 4), [true, true], defArgs (clsAt (top 16) 4), [], []⟩
def d_SumScale_before : DefI := ⟨none, "before", "SumScale.before", ["self", "amount", "other"], ["self", "amount", "other"], defScope (clsAt (top 16) 5), defBody (clsAt (top 16) 5), [true, true, true], defArgs (clsAt (top 16) 5), [], []⟩
def d_ClassScale_has_form : DefI := ⟨none, "has_form", "ClassScale.has_form", ["self", "value", "one"], ["self", "value"], defScope (clsAt (top 17) 0), defBody (clsAt (top 17) 0), [true, false], defArgs (clsAt (top 17) 0), [], []⟩
def d_ClassScale_added : DefI := ⟨none, "added", "ClassScale.added", ["self", "amount", "other", "one", "two"], ["self", "amount", "other"], defScope (clsAt (top 17) 2), defBody (clsAt (top 17) 2), [true, false, false], defArgs (clsAt (top 17) 2), [], []⟩
def d_ClassScale_opposite : DefI := ⟨none, "opposite", "ClassScale.opposite", ["self", "amount", "one"], ["self", "amount"], defScope (clsAt (top 17) 3), defBody (clsAt (top 17) 3), [true, false], defArgs (clsAt (top 17) 3), [], []⟩
def d_ClassScale_total_in : DefI := ⟨none, "total_in", "ClassScale.total_in", ["self", "amounts", "amount", "at"], ["self", "amounts"], defScope (clsAt (top 17) 4), defBody (clsAt (top 17) 4), [true, false], defArgs (clsAt (top 17) 4), [], []⟩
def d_ClassScale_before : DefI := ⟨none, "before", "ClassScale.before", ["self", "amount", "other"], ["self", "amount", "other"], defScope (clsAt (top 17) 5), defBody (clsAt (top 17) 5), [true, true, true], defArgs (clsAt (top 17) 5), [], []⟩
def d_OddsScale_has_form : DefI := ⟨none, "has_form", "OddsScale.has_form", ["self", "value"], ["self", "value"], defScope (clsAt (top 18) 0), defBody (clsAt (top 18) 0), [true, false], defArgs (clsAt (top 18) 0), [], []⟩
def d_OddsScale_added : DefI := ⟨none, "added", "OddsScale.added", ["self", "amount", "other"], ["self", "amount", "other"], defScope (clsAt (top 18) 2), defBody (clsAt (top 18) 2), [true, false, false], defArgs (clsAt (top 18) 2), [], []⟩
def d_OddsScale_opposite : DefI := ⟨none, "opposite", "OddsScale.opposite", ["self", "amount"], ["self", "amount"], defScope (clsAt (top 18) 3), defBody (clsAt (top 18) 3), [true, true], defArgs (clsAt (top 18) 3), [], []⟩
def d_OddsScale_total_in : DefI := ⟨none, "total_in", "OddsScale.total_in", ["self", "amounts", "top", "bottom", "amount"], ["self", "amounts"], defScope (clsAt (top 18) 4), defBody (clsAt (top 18) 4), [true, false], defArgs (clsAt (top 18) 4), [], []⟩
def d_OddsScale_before : DefI := ⟨none, "before", "OddsScale.before", ["self", "amount", "other"], ["self", "amount", "other"], defScope (clsAt (top 18) 5), defBody (clsAt (top 18) 5), [true, true, true], defArgs (clsAt (top 18) 5), [], []⟩
def d__law_dice : DefI := ⟨none, "_law_dice", "_law_dice", ["_law_script", "_law_at", "_law_cell", "_law_great", "_law_mixed"], ["_law_script", "_law_at"], defScope (top 20), defBody (top 20), [true, false], defArgs (top 20), [], []⟩
def d__law_pull : DefI := ⟨none, "_law_pull", "_law_pull", ["_law_dice_here", "_law_total_here", "_law_found", "_law_one", "_law_two"], ["_law_dice_here", "_law_total_here"], defScope (top 21), defBody (top 21), [true, true], defArgs (top 21), [], []⟩
def d__law_pick : DefI := ⟨none, "_law_pick", "_law_pick", ["_law_dice_here", "_law_items"], ["_law_dice_here", "_law_items"], defScope (top 22), defBody (top 22), [true, true], defArgs (top 22), [], []⟩
def d__law_scale : DefI := ⟨none, "_law_scale", "_law_scale", ["_law_dice_here"], ["_law_dice_here"], defScope (top 23), defBody (top 23), [true], defArgs (top 23), [], []⟩
def d__law_lowest : DefI := ⟨none, "_law_lowest", "_law_lowest", ["_law_top", "_law_bottom", "_law_one", "_law_other"], ["_law_top", "_law_bottom"], defScope (top 24), defBody (top 24), [false, false], defArgs (top 24), [], []⟩
def d__law_weight : DefI := ⟨none, "_law_weight", "_law_weight", ["_law_dice_here", "_law_measure", "_law_found", "_law_turn", "_law_one", "_law_bottom"], ["_law_dice_here", "_law_measure"], defScope (top 25), defBody (top 25), [true, true], defArgs (top 25), [], []⟩
def d__law_zero : DefI := ⟨none, "_law_zero", "_law_zero", ["_law_measure"], ["_law_measure"], defScope (top 26), defBody (top 26), [true], defArgs (top 26), [], []⟩
def d__law_plus : DefI := ⟨none, "_law_plus", "_law_plus", ["_law_measure", "_law_one", "_law_other", "_law_left", "_law_right"], ["_law_measure", "_law_one", "_law_other"], defScope (top 27), defBody (top 27), [true, false, false], defArgs (top 27), [], []⟩
def d__law_minus : DefI := ⟨none, "_law_minus", "_law_minus", ["_law_measure", "_law_one", "_law_other", "_law_left", "_law_right"], ["_law_measure", "_law_one", "_law_other"], defScope (top 28), defBody (top 28), [true, false, false], defArgs (top 28), [], []⟩
def d__law_total : DefI := ⟨none, "_law_total", "_law_total", ["_law_measure", "_law_amounts", "_law_found", "_law_amount_here"], ["_law_measure", "_law_amounts"], defScope (top 29), defBody (top 29), [true, false], defArgs (top 29), [], []⟩
def d__law_made : DefI := ⟨none, "_law_made", "_law_made", ["_law_measure"], ["_law_measure"], defScope (top 30), defBody (top 30), [true], defArgs (top 30), [], []⟩
def d__law_amount : DefI := ⟨none, "_law_amount", "_law_amount", ["_law_dice_here", "_law_measure", "_law_found", "_law_turn", "_law_big"], ["_law_dice_here", "_law_measure"], defScope (top 31), defBody (top 31), [true, true], defArgs (top 31), [], []⟩
def d__law_some_amounts : DefI := ⟨none, "_law_some_amounts", "_law_some_amounts", ["_law_dice_here", "_law_measure", "_law_found", "_law_turn", "_law_way"], ["_law_dice_here", "_law_measure"], defScope (top 32), defBody (top 32), [true, true], defArgs (top 32), [], []⟩
def d__law_sums_right : DefI := ⟨none, "_law_sums_right", "_law_sums_right", ["_law_meter", "_law_measure", "_law_amounts", "_law_a", "_law_b", "_law_c", "_law_d", "_law_told", "_law_due", "_law_many"], ["_law_meter", "_law_measure", "_law_amounts"], defScope (top 33), defBody (top 33), [true, true, true], defArgs (top 33), [], []⟩
def d__law_pairs_right : DefI := ⟨none, "_law_pairs_right", "_law_pairs_right", ["_law_meter", "_law_measure", "_law_one", "_law_other", "_law_told", "_law_due"], ["_law_meter", "_law_measure", "_law_one", "_law_other"], defScope (top 34), defBody (top 34), [true, true, false, false], defArgs (top 34), [], []⟩
def d_law : DefI := ⟨none, "law", "law", ["_law_script", "_law_at", "_law_dice_here", "_law_turn", "_law_measure", "_law_meter", "_law_amounts", "_law_kept", "_law_one", "_law_told", "_law_many"], ["_law_script"], defScope (top 35), defBody (top 35), [true], defArgs (top 35), [], []⟩
def P : Prg where
  gl := [("CLASSES", .str "classes"), ("MAX_SIZE", .int (4)), ("ODDS", .str "odds"), ("SUMS", .str "sums")]
  fr := ["abs", "all", "bool", "int", "isinstance", "len", "list", "max", "min", "range", "repr", "str", "sum", "tuple", "zip"]
  defs := [en1 "is_integer" d_is_integer, en1 "common_divisor" d_common_divisor, en1 "reduced" d_reduced, en1 "is_fraction" d_is_fraction, en1 "_law_dice" d__law_dice, en1 "_law_pull" d__law_pull, en1 "_law_pick" d__law_pick, en1 "_law_scale" d__law_scale, en1 "_law_lowest" d__law_lowest, en1 "_law_weight" d__law_weight, en1 "_law_zero" d__law_zero, en1 "_law_plus" d__law_plus, en1 "_law_minus" d__law_minus, en1 "_law_total" d__law_total, en1 "_law_made" d__law_made, en1 "_law_amount" d__law_amount, en1 "_law_some_amounts" d__law_some_amounts, en1 "_law_sums_right" d__law_sums_right, en1 "_law_pairs_right" d__law_pairs_right, en1 "law" d_law]
  wf := 100000
  no := [st2 "SumScale" "own_word", st2 "SumScale" "own_size", st2 "SumScale" "own_zero", st2 "SumScale" "own_one", st2 "ClassScale" "own_word", st2 "ClassScale" "own_size", st2 "ClassScale" "own_zero", st2 "ClassScale" "own_one", st2 "OddsScale" "own_word", st2 "OddsScale" "own_size", st2 "OddsScale" "own_zero", st2 "OddsScale" "own_one"]
  mt := [en2 "SumScale" "has_form" d_SumScale_has_form, en2 "SumScale" "added" d_SumScale_added, en2 "SumScale" "opposite" d_SumScale_opposite, en2 "SumScale" "total_in" d_SumScale_total_in, en2 "SumScale" "before" d_SumScale_before, en2 "SumScale" "__contains__" d_Scale___contains__, en2 "SumScale" "require_amount" d_Scale_require_amount, en2 "SumScale" "require_amounts" d_Scale_require_amounts, en2 "SumScale" "plus_all" d_Scale_plus_all, en2 "SumScale" "minus" d_Scale_minus, en2 "SumScale" "negative" d_Scale_negative, en2 "SumScale" "twice" d_Scale_twice, en2 "SumScale" "order_of" d_Scale_order_of, en2 "SumScale" "ranked" d_Scale_ranked, en2 "SumScale" "merged" d_Scale_merged, en2 "SumScale" "__eq__" d_Scale___eq__, en2 "SumScale" "__str__" d_Scale___str__, en2 "ClassScale" "has_form" d_ClassScale_has_form, en2 "ClassScale" "added" d_ClassScale_added, en2 "ClassScale" "opposite" d_ClassScale_opposite, en2 "ClassScale" "total_in" d_ClassScale_total_in, en2 "ClassScale" "before" d_ClassScale_before, en2 "ClassScale" "__contains__" d_Scale___contains__, en2 "ClassScale" "require_amount" d_Scale_require_amount, en2 "ClassScale" "require_amounts" d_Scale_require_amounts, en2 "ClassScale" "plus_all" d_Scale_plus_all, en2 "ClassScale" "minus" d_Scale_minus, en2 "ClassScale" "negative" d_Scale_negative, en2 "ClassScale" "twice" d_Scale_twice, en2 "ClassScale" "order_of" d_Scale_order_of, en2 "ClassScale" "ranked" d_Scale_ranked, en2 "ClassScale" "merged" d_Scale_merged, en2 "ClassScale" "__eq__" d_Scale___eq__, en2 "ClassScale" "__str__" d_Scale___str__, en2 "OddsScale" "has_form" d_OddsScale_has_form, en2 "OddsScale" "added" d_OddsScale_added, en2 "OddsScale" "opposite" d_OddsScale_opposite, en2 "OddsScale" "total_in" d_OddsScale_total_in, en2 "OddsScale" "before" d_OddsScale_before, en2 "OddsScale" "__contains__" d_Scale___contains__, en2 "OddsScale" "require_amount" d_Scale_require_amount, en2 "OddsScale" "require_amounts" d_Scale_require_amounts, en2 "OddsScale" "plus_all" d_Scale_plus_all, en2 "OddsScale" "minus" d_Scale_minus, en2 "OddsScale" "negative" d_Scale_negative, en2 "OddsScale" "twice" d_Scale_twice, en2 "OddsScale" "order_of" d_Scale_order_of, en2 "OddsScale" "ranked" d_Scale_ranked, en2 "OddsScale" "merged" d_Scale_merged, en2 "OddsScale" "__eq__" d_Scale___eq__, en2 "OddsScale" "__str__" d_Scale___str__]
  pt := [en2 "SumScale" "word" d_Scale_word, en2 "SumScale" "size" d_Scale_size, en2 "SumScale" "zero" d_Scale_zero, en2 "SumScale" "one" d_Scale_one, en2 "ClassScale" "word" d_Scale_word, en2 "ClassScale" "size" d_Scale_size, en2 "ClassScale" "zero" d_Scale_zero, en2 "ClassScale" "one" d_Scale_one, en2 "OddsScale" "word" d_Scale_word, en2 "OddsScale" "size" d_Scale_size, en2 "OddsScale" "zero" d_Scale_zero, en2 "OddsScale" "one" d_Scale_one]
  mki := [en1 "SumScale" d_Scale___init__, en1 "ClassScale" d_Scale___init__, en1 "OddsScale" d_Scale___init__]
  sm := [en2 "Scale" "sums" d_Scale_sums, en2 "Scale" "classes" d_Scale_classes, en2 "Scale" "odds" d_Scale_odds]
  mq := [en2 "SumScale" "plus" d_Scale_plus, en2 "SumScale" "greatest" d_Scale_greatest, en2 "SumScale" "least" d_Scale_least, en2 "ClassScale" "plus" d_Scale_plus, en2 "ClassScale" "greatest" d_Scale_greatest, en2 "ClassScale" "least" d_Scale_least, en2 "OddsScale" "plus" d_Scale_plus, en2 "OddsScale" "greatest" d_Scale_greatest, en2 "OddsScale" "least" d_Scale_least]
  mkq := []
  dn := true
  ic := ["SumScale", "ClassScale", "OddsScale"]
  isl := [is3 (.bt "NoneType") "Scale" false, is3 (.bt "bool") "Scale" false, is3 (.bt "int") "Scale" false, is3 (.bt "str") "Scale" false, is3 (.bt "tuple") "Scale" false, is3 (.bt "list") "Scale" false, is3 (.bt "dict") "Scale" false, is3 (.ow "SumScale") "Scale" true, is3 (.ow "ClassScale") "Scale" true, is3 (.ow "OddsScale") "Scale" true, is3 (.bt "NoneType") "SumScale" false, is3 (.bt "bool") "SumScale" false, is3 (.bt "int") "SumScale" false, is3 (.bt "str") "SumScale" false, is3 (.bt "tuple") "SumScale" false, is3 (.bt "list") "SumScale" false, is3 (.bt "dict") "SumScale" false, is3 (.ow "SumScale") "SumScale" true, is3 (.ow "ClassScale") "SumScale" false, is3 (.ow "OddsScale") "SumScale" false, is3 (.bt "NoneType") "ClassScale" false, is3 (.bt "bool") "ClassScale" false, is3 (.bt "int") "ClassScale" false, is3 (.bt "str") "ClassScale" false, is3 (.bt "tuple") "ClassScale" false, is3 (.bt "list") "ClassScale" false, is3 (.bt "dict") "ClassScale" false, is3 (.ow "SumScale") "ClassScale" false, is3 (.ow "ClassScale") "ClassScale" true, is3 (.ow "OddsScale") "ClassScale" false, is3 (.bt "NoneType") "OddsScale" false, is3 (.bt "bool") "OddsScale" false, is3 (.bt "int") "OddsScale" false, is3 (.bt "str") "OddsScale" false, is3 (.bt "tuple") "OddsScale" false, is3 (.bt "list") "OddsScale" false, is3 (.bt "dict") "OddsScale" false, is3 (.ow "SumScale") "OddsScale" false, is3 (.ow "ClassScale") "OddsScale" false, is3 (.ow "OddsScale") "OddsScale" true]
  nfl := [st2 "SumScale" "SumScale", st2 "SumScale" "ClassScale", st2 "SumScale" "OddsScale", st2 "ClassScale" "SumScale", st2 "ClassScale" "ClassScale", st2 "ClassScale" "OddsScale", st2 "OddsScale" "SumScale", st2 "OddsScale" "ClassScale", st2 "OddsScale" "OddsScale"]
  clg := ["Scale", "SumScale", "ClassScale", "OddsScale"]
theorem s_is_integer : FnScope d_is_integer.N d_is_integer.ps d_is_integer.sc := ⟨rfl, rfl, rfl, by decide +kernel, rfl, by decide +kernel, by decide +kernel⟩
theorem o_is_integer : DefOk d_is_integer := defOk0 rfl rfl (fun _ _ _ _ _ _ us hl => match us, hl with | [_], _ => rfl) s_is_integer
theorem s_common_divisor : FnScope d_common_divisor.N d_common_divisor.ps d_common_divisor.sc := ⟨rfl, rfl, rfl, by decide +kernel, rfl, by decide +kernel, by decide +kernel⟩
theorem o_common_divisor : DefOk d_common_divisor := defOk0 rfl rfl (fun _ _ _ _ _ _ us hl => match us, hl with | [_, _], _ => rfl) s_common_divisor
theorem s_reduced : FnScope d_reduced.N d_reduced.ps d_reduced.sc := ⟨rfl, rfl, rfl, by decide +kernel, rfl, by decide +kernel, by decide +kernel⟩
theorem o_reduced : DefOk d_reduced := defOk0 rfl rfl (fun _ _ _ _ _ _ us hl => match us, hl with | [_, _], _ => rfl) s_reduced
theorem s_is_fraction : FnScope d_is_fraction.N d_is_fraction.ps d_is_fraction.sc := ⟨rfl, rfl, rfl, by decide +kernel, rfl, by decide +kernel, by decide +kernel⟩
theorem o_is_fraction : DefOk d_is_fraction := defOk0 rfl rfl (fun _ _ _ _ _ _ us hl => match us, hl with | [_], _ => rfl) s_is_fraction
theorem s_Scale___init__ : FnScope d_Scale___init__.N d_Scale___init__.ps d_Scale___init__.sc := ⟨rfl, rfl, rfl, by decide +kernel, rfl, by decide +kernel, by decide +kernel⟩
theorem o_Scale___init__ : DefOk d_Scale___init__ := defOk0 rfl rfl (fun _ _ _ _ _ _ us hl => match us, hl with | [_, _, _, _, _], _ => rfl) s_Scale___init__
theorem s_Scale_sums : FnScope d_Scale_sums.N d_Scale_sums.ps d_Scale_sums.sc := ⟨rfl, rfl, rfl, by decide +kernel, rfl, by decide +kernel, by decide +kernel⟩
theorem o_Scale_sums : DefOk d_Scale_sums := defOk0 rfl rfl (fun _ _ _ _ _ _ us hl => match us, hl with | [], _ => rfl) s_Scale_sums
theorem s_Scale_classes : FnScope d_Scale_classes.N d_Scale_classes.ps d_Scale_classes.sc := ⟨rfl, rfl, rfl, by decide +kernel, rfl, by decide +kernel, by decide +kernel⟩
theorem o_Scale_classes : DefOk d_Scale_classes := defOk0 rfl rfl (fun _ _ _ _ _ _ us hl => match us, hl with | [_], _ => rfl) s_Scale_classes
theorem s_Scale_odds : FnScope d_Scale_odds.N d_Scale_odds.ps d_Scale_odds.sc := ⟨rfl, rfl, rfl, by decide +kernel, rfl, by decide +kernel, by decide +kernel⟩
theorem o_Scale_odds : DefOk d_Scale_odds := defOk0 rfl rfl (fun _ _ _ _ _ _ us hl => match us, hl with | [], _ => rfl) s_Scale_odds
theorem s_Scale_word : FnScope d_Scale_word.N d_Scale_word.ps d_Scale_word.sc := ⟨rfl, rfl, rfl, by decide +kernel, rfl, by decide +kernel, by decide +kernel⟩
theorem o_Scale_word : DefOk d_Scale_word := defOk0 rfl rfl (fun _ _ _ _ _ _ us hl => match us, hl with | [_], _ => rfl) s_Scale_word
theorem s_Scale_size : FnScope d_Scale_size.N d_Scale_size.ps d_Scale_size.sc := ⟨rfl, rfl, rfl, by decide +kernel, rfl, by decide +kernel, by decide +kernel⟩
theorem o_Scale_size : DefOk d_Scale_size := defOk0 rfl rfl (fun _ _ _ _ _ _ us hl => match us, hl with | [_], _ => rfl) s_Scale_size
theorem s_Scale_zero : FnScope d_Scale_zero.N d_Scale_zero.ps d_Scale_zero.sc := ⟨rfl, rfl, rfl, by decide +kernel, rfl, by decide +kernel, by decide +kernel⟩
theorem o_Scale_zero : DefOk d_Scale_zero := defOk0 rfl rfl (fun _ _ _ _ _ _ us hl => match us, hl with | [_], _ => rfl) s_Scale_zero
theorem s_Scale_one : FnScope d_Scale_one.N d_Scale_one.ps d_Scale_one.sc := ⟨rfl, rfl, rfl, by decide +kernel, rfl, by decide +kernel, by decide +kernel⟩
theorem o_Scale_one : DefOk d_Scale_one := defOk0 rfl rfl (fun _ _ _ _ _ _ us hl => match us, hl with | [_], _ => rfl) s_Scale_one
theorem s_Scale___contains__ : FnScope d_Scale___contains__.N d_Scale___contains__.ps d_Scale___contains__.sc := ⟨rfl, rfl, rfl, by decide +kernel, rfl, by decide +kernel, by decide +kernel⟩
theorem o_Scale___contains__ : DefOk d_Scale___contains__ := defOk0 rfl rfl (fun _ _ _ _ _ _ us hl => match us, hl with | [_, _], _ => rfl) s_Scale___contains__
theorem s_Scale_require_amount : FnScope d_Scale_require_amount.N d_Scale_require_amount.ps d_Scale_require_amount.sc := ⟨rfl, rfl, rfl, by decide +kernel, rfl, by decide +kernel, by decide +kernel⟩
theorem o_Scale_require_amount : DefOk d_Scale_require_amount := defOk0 rfl rfl (fun _ _ _ _ _ _ us hl => match us, hl with | [_, _], _ => rfl) s_Scale_require_amount
theorem s_Scale_require_amounts : FnScope d_Scale_require_amounts.N d_Scale_require_amounts.ps d_Scale_require_amounts.sc := ⟨rfl, rfl, rfl, by decide +kernel, rfl, by decide +kernel, by decide +kernel⟩
theorem o_Scale_require_amounts : DefOk d_Scale_require_amounts := defOk0 rfl rfl (fun _ _ _ _ _ _ us hl => match us, hl with | [_, _], _ => rfl) s_Scale_require_amounts
theorem s_Scale_plus : FnScope d_Scale_plus.N d_Scale_plus.ps d_Scale_plus.sc := ⟨rfl, rfl, rfl, by decide +kernel, rfl, by decide +kernel, by decide +kernel⟩
theorem o_Scale_plus : DefOk d_Scale_plus := defOkS (i := 1) (List.cons_ne_nil _ _) rfl (by
  intro q hq
  rcases List.mem_cons.mp hq with rfl | hq
  · exact ⟨fun _ _ _ _ _ _ us rest ws h1 h2 => match us, rest, ws, h1, h2 with | [_], [], [], _, _ => rfl | [_], _ :: _, [], _, _ => rfl, rfl, by decide +kernel, rfl⟩
  · exact absurd hq List.not_mem_nil) s_Scale_plus
theorem s_Scale_plus_all : FnScope d_Scale_plus_all.N d_Scale_plus_all.ps d_Scale_plus_all.sc := ⟨rfl, rfl, rfl, by decide +kernel, rfl, by decide +kernel, by decide +kernel⟩
theorem o_Scale_plus_all : DefOk d_Scale_plus_all := defOk0 rfl rfl (fun _ _ _ _ _ _ us hl => match us, hl with | [_, _], _ => rfl) s_Scale_plus_all
theorem s_Scale_minus : FnScope d_Scale_minus.N d_Scale_minus.ps d_Scale_minus.sc := ⟨rfl, rfl, rfl, by decide +kernel, rfl, by decide +kernel, by decide +kernel⟩
theorem o_Scale_minus : DefOk d_Scale_minus := defOk0 rfl rfl (fun _ _ _ _ _ _ us hl => match us, hl with | [_, _, _], _ => rfl) s_Scale_minus
theorem s_Scale_negative : FnScope d_Scale_negative.N d_Scale_negative.ps d_Scale_negative.sc := ⟨rfl, rfl, rfl, by decide +kernel, rfl, by decide +kernel, by decide +kernel⟩
theorem o_Scale_negative : DefOk d_Scale_negative := defOk0 rfl rfl (fun _ _ _ _ _ _ us hl => match us, hl with | [_, _], _ => rfl) s_Scale_negative
theorem s_Scale_twice : FnScope d_Scale_twice.N d_Scale_twice.ps d_Scale_twice.sc := ⟨rfl, rfl, rfl, by decide +kernel, rfl, by decide +kernel, by decide +kernel⟩
theorem o_Scale_twice : DefOk d_Scale_twice := defOk0 rfl rfl (fun _ _ _ _ _ _ us hl => match us, hl with | [_, _], _ => rfl) s_Scale_twice
theorem s_Scale_greatest : FnScope d_Scale_greatest.N d_Scale_greatest.ps d_Scale_greatest.sc := ⟨rfl, rfl, rfl, by decide +kernel, rfl, by decide +kernel, by decide +kernel⟩
theorem o_Scale_greatest : DefOk d_Scale_greatest := defOkS (i := 1) (List.cons_ne_nil _ _) rfl (by
  intro q hq
  rcases List.mem_cons.mp hq with rfl | hq
  · exact ⟨fun _ _ _ _ _ _ us rest ws h1 h2 => match us, rest, ws, h1, h2 with | [_], [], [], _, _ => rfl | [_], _ :: _, [], _, _ => rfl, rfl, by decide +kernel, rfl⟩
  · exact absurd hq List.not_mem_nil) s_Scale_greatest
theorem s_Scale_least : FnScope d_Scale_least.N d_Scale_least.ps d_Scale_least.sc := ⟨rfl, rfl, rfl, by decide +kernel, rfl, by decide +kernel, by decide +kernel⟩
theorem o_Scale_least : DefOk d_Scale_least := defOkS (i := 1) (List.cons_ne_nil _ _) rfl (by
  intro q hq
  rcases List.mem_cons.mp hq with rfl | hq
  · exact ⟨fun _ _ _ _ _ _ us rest ws h1 h2 => match us, rest, ws, h1, h2 with | [_], [], [], _, _ => rfl | [_], _ :: _, [], _, _ => rfl, rfl, by decide +kernel, rfl⟩
  · exact absurd hq List.not_mem_nil) s_Scale_least
theorem s_Scale_order_of : FnScope d_Scale_order_of.N d_Scale_order_of.ps d_Scale_order_of.sc := ⟨rfl, rfl, rfl, by decide +kernel, rfl, by decide +kernel, by decide +kernel⟩
theorem o_Scale_order_of : DefOk d_Scale_order_of := defOk0 rfl rfl (fun _ _ _ _ _ _ us hl => match us, hl with | [_, _], _ => rfl) s_Scale_order_of
theorem s_Scale_ranked : FnScope d_Scale_ranked.N d_Scale_ranked.ps d_Scale_ranked.sc := ⟨rfl, rfl, rfl, by decide +kernel, rfl, by decide +kernel, by decide +kernel⟩
theorem o_Scale_ranked : DefOk d_Scale_ranked := defOk0 rfl rfl (fun _ _ _ _ _ _ us hl => match us, hl with | [_, _], _ => rfl) s_Scale_ranked
theorem s_Scale_merged : FnScope d_Scale_merged.N d_Scale_merged.ps d_Scale_merged.sc := ⟨rfl, rfl, rfl, by decide +kernel, rfl, by decide +kernel, by decide +kernel⟩
theorem o_Scale_merged : DefOk d_Scale_merged := defOk0 rfl rfl (fun _ _ _ _ _ _ us hl => match us, hl with | [_, _, _], _ => rfl) s_Scale_merged
theorem s_Scale___eq__ : FnScope d_Scale___eq__.N d_Scale___eq__.ps d_Scale___eq__.sc := ⟨rfl, rfl, rfl, by decide +kernel, rfl, by decide +kernel, by decide +kernel⟩
theorem o_Scale___eq__ : DefOk d_Scale___eq__ := defOk0 rfl rfl (fun _ _ _ _ _ _ us hl => match us, hl with | [_, _], _ => rfl) s_Scale___eq__
theorem s_Scale___str__ : FnScope d_Scale___str__.N d_Scale___str__.ps d_Scale___str__.sc := ⟨rfl, rfl, rfl, by decide +kernel, rfl, by decide +kernel, by decide +kernel⟩
theorem o_Scale___str__ : DefOk d_Scale___str__ := defOk0 rfl rfl (fun _ _ _ _ _ _ us hl => match us, hl with | [_], _ => rfl) s_Scale___str__
theorem s_SumScale_has_form : FnScope d_SumScale_has_form.N d_SumScale_has_form.ps d_SumScale_has_form.sc := ⟨rfl, rfl, rfl, by decide +kernel, rfl, by decide +kernel, by decide +kernel⟩
theorem o_SumScale_has_form : DefOk d_SumScale_has_form := defOk0 rfl rfl (fun _ _ _ _ _ _ us hl => match us, hl with | [_, _], _ => rfl) s_SumScale_has_form
theorem s_SumScale_added : FnScope d_SumScale_added.N d_SumScale_added.ps d_SumScale_added.sc := ⟨rfl, rfl, rfl, by decide +kernel, rfl, by decide +kernel, by decide +kernel⟩
theorem o_SumScale_added : DefOk d_SumScale_added := defOk0 rfl rfl (fun _ _ _ _ _ _ us hl => match us, hl with | [_, _, _], _ => rfl) s_SumScale_added
theorem s_SumScale_opposite : FnScope d_SumScale_opposite.N d_SumScale_opposite.ps d_SumScale_opposite.sc := ⟨rfl, rfl, rfl, by decide +kernel, rfl, by decide +kernel, by decide +kernel⟩
theorem o_SumScale_opposite : DefOk d_SumScale_opposite := defOk0 rfl rfl (fun _ _ _ _ _ _ us hl => match us, hl with | [_, _], _ => rfl) s_SumScale_opposite
theorem s_SumScale_total_in : FnScope d_SumScale_total_in.N d_SumScale_total_in.ps d_SumScale_total_in.sc := ⟨rfl, rfl, rfl, by decide +kernel, rfl, by decide +kernel, by decide +kernel⟩
theorem o_SumScale_total_in : DefOk d_SumScale_total_in := defOk0 rfl rfl (fun _ _ _ _ _ _ us hl => match us, hl with | [_, _], _ => rfl) s_SumScale_total_in
theorem s_SumScale_before : FnScope d_SumScale_before.N d_SumScale_before.ps d_SumScale_before.sc := ⟨rfl, rfl, rfl, by decide +kernel, rfl, by decide +kernel, by decide +kernel⟩
theorem o_SumScale_before : DefOk d_SumScale_before := defOk0 rfl rfl (fun _ _ _ _ _ _ us hl => match us, hl with | [_, _, _], _ => rfl) s_SumScale_before
theorem s_ClassScale_has_form : FnScope d_ClassScale_has_form.N d_ClassScale_has_form.ps d_ClassScale_has_form.sc := ⟨rfl, rfl, rfl, by decide +kernel, rfl, by decide +kernel, by decide +kernel⟩
theorem o_ClassScale_has_form : DefOk d_ClassScale_has_form := defOk0 rfl rfl (fun _ _ _ _ _ _ us hl => match us, hl with | [_, _], _ => rfl) s_ClassScale_has_form
theorem s_ClassScale_added : FnScope d_ClassScale_added.N d_ClassScale_added.ps d_ClassScale_added.sc := ⟨rfl, rfl, rfl, by decide +kernel, rfl, by decide +kernel, by decide +kernel⟩
theorem o_ClassScale_added : DefOk d_ClassScale_added := defOk0 rfl rfl (fun _ _ _ _ _ _ us hl => match us, hl with | [_, _, _], _ => rfl) s_ClassScale_added
theorem s_ClassScale_opposite : FnScope d_ClassScale_opposite.N d_ClassScale_opposite.ps d_ClassScale_opposite.sc := ⟨rfl, rfl, rfl, by decide +kernel, rfl, by decide +kernel, by decide +kernel⟩
theorem o_ClassScale_opposite : DefOk d_ClassScale_opposite := defOk0 rfl rfl (fun _ _ _ _ _ _ us hl => match us, hl with | [_, _], _ => rfl) s_ClassScale_opposite
theorem s_ClassScale_total_in : FnScope d_ClassScale_total_in.N d_ClassScale_total_in.ps d_ClassScale_total_in.sc := ⟨rfl, rfl, rfl, by decide +kernel, rfl, by decide +kernel, by decide +kernel⟩
theorem o_ClassScale_total_in : DefOk d_ClassScale_total_in := defOk0 rfl rfl (fun _ _ _ _ _ _ us hl => match us, hl with | [_, _], _ => rfl) s_ClassScale_total_in
theorem s_ClassScale_before : FnScope d_ClassScale_before.N d_ClassScale_before.ps d_ClassScale_before.sc := ⟨rfl, rfl, rfl, by decide +kernel, rfl, by decide +kernel, by decide +kernel⟩
theorem o_ClassScale_before : DefOk d_ClassScale_before := defOk0 rfl rfl (fun _ _ _ _ _ _ us hl => match us, hl with | [_, _, _], _ => rfl) s_ClassScale_before
theorem s_OddsScale_has_form : FnScope d_OddsScale_has_form.N d_OddsScale_has_form.ps d_OddsScale_has_form.sc := ⟨rfl, rfl, rfl, by decide +kernel, rfl, by decide +kernel, by decide +kernel⟩
theorem o_OddsScale_has_form : DefOk d_OddsScale_has_form := defOk0 rfl rfl (fun _ _ _ _ _ _ us hl => match us, hl with | [_, _], _ => rfl) s_OddsScale_has_form
theorem s_OddsScale_added : FnScope d_OddsScale_added.N d_OddsScale_added.ps d_OddsScale_added.sc := ⟨rfl, rfl, rfl, by decide +kernel, rfl, by decide +kernel, by decide +kernel⟩
theorem o_OddsScale_added : DefOk d_OddsScale_added := defOk0 rfl rfl (fun _ _ _ _ _ _ us hl => match us, hl with | [_, _, _], _ => rfl) s_OddsScale_added
theorem s_OddsScale_opposite : FnScope d_OddsScale_opposite.N d_OddsScale_opposite.ps d_OddsScale_opposite.sc := ⟨rfl, rfl, rfl, by decide +kernel, rfl, by decide +kernel, by decide +kernel⟩
theorem o_OddsScale_opposite : DefOk d_OddsScale_opposite := defOk0 rfl rfl (fun _ _ _ _ _ _ us hl => match us, hl with | [_, _], _ => rfl) s_OddsScale_opposite
theorem s_OddsScale_total_in : FnScope d_OddsScale_total_in.N d_OddsScale_total_in.ps d_OddsScale_total_in.sc := ⟨rfl, rfl, rfl, by decide +kernel, rfl, by decide +kernel, by decide +kernel⟩
theorem o_OddsScale_total_in : DefOk d_OddsScale_total_in := defOk0 rfl rfl (fun _ _ _ _ _ _ us hl => match us, hl with | [_, _], _ => rfl) s_OddsScale_total_in
theorem s_OddsScale_before : FnScope d_OddsScale_before.N d_OddsScale_before.ps d_OddsScale_before.sc := ⟨rfl, rfl, rfl, by decide +kernel, rfl, by decide +kernel, by decide +kernel⟩
theorem o_OddsScale_before : DefOk d_OddsScale_before := defOk0 rfl rfl (fun _ _ _ _ _ _ us hl => match us, hl with | [_, _, _], _ => rfl) s_OddsScale_before
theorem s__law_dice : FnScope d__law_dice.N d__law_dice.ps d__law_dice.sc := ⟨rfl, rfl, rfl, by decide +kernel, rfl, by decide +kernel, by decide +kernel⟩
theorem o__law_dice : DefOk d__law_dice := defOk0 rfl rfl (fun _ _ _ _ _ _ us hl => match us, hl with | [_, _], _ => rfl) s__law_dice
theorem s__law_pull : FnScope d__law_pull.N d__law_pull.ps d__law_pull.sc := ⟨rfl, rfl, rfl, by decide +kernel, rfl, by decide +kernel, by decide +kernel⟩
theorem o__law_pull : DefOk d__law_pull := defOk0 rfl rfl (fun _ _ _ _ _ _ us hl => match us, hl with | [_, _], _ => rfl) s__law_pull
theorem s__law_pick : FnScope d__law_pick.N d__law_pick.ps d__law_pick.sc := ⟨rfl, rfl, rfl, by decide +kernel, rfl, by decide +kernel, by decide +kernel⟩
theorem o__law_pick : DefOk d__law_pick := defOk0 rfl rfl (fun _ _ _ _ _ _ us hl => match us, hl with | [_, _], _ => rfl) s__law_pick
theorem s__law_scale : FnScope d__law_scale.N d__law_scale.ps d__law_scale.sc := ⟨rfl, rfl, rfl, by decide +kernel, rfl, by decide +kernel, by decide +kernel⟩
theorem o__law_scale : DefOk d__law_scale := defOk0 rfl rfl (fun _ _ _ _ _ _ us hl => match us, hl with | [_], _ => rfl) s__law_scale
theorem s__law_lowest : FnScope d__law_lowest.N d__law_lowest.ps d__law_lowest.sc := ⟨rfl, rfl, rfl, by decide +kernel, rfl, by decide +kernel, by decide +kernel⟩
theorem o__law_lowest : DefOk d__law_lowest := defOk0 rfl rfl (fun _ _ _ _ _ _ us hl => match us, hl with | [_, _], _ => rfl) s__law_lowest
theorem s__law_weight : FnScope d__law_weight.N d__law_weight.ps d__law_weight.sc := ⟨rfl, rfl, rfl, by decide +kernel, rfl, by decide +kernel, by decide +kernel⟩
theorem o__law_weight : DefOk d__law_weight := defOk0 rfl rfl (fun _ _ _ _ _ _ us hl => match us, hl with | [_, _], _ => rfl) s__law_weight
theorem s__law_zero : FnScope d__law_zero.N d__law_zero.ps d__law_zero.sc := ⟨rfl, rfl, rfl, by decide +kernel, rfl, by decide +kernel, by decide +kernel⟩
theorem o__law_zero : DefOk d__law_zero := defOk0 rfl rfl (fun _ _ _ _ _ _ us hl => match us, hl with | [_], _ => rfl) s__law_zero
theorem s__law_plus : FnScope d__law_plus.N d__law_plus.ps d__law_plus.sc := ⟨rfl, rfl, rfl, by decide +kernel, rfl, by decide +kernel, by decide +kernel⟩
theorem o__law_plus : DefOk d__law_plus := defOk0 rfl rfl (fun _ _ _ _ _ _ us hl => match us, hl with | [_, _, _], _ => rfl) s__law_plus
theorem s__law_minus : FnScope d__law_minus.N d__law_minus.ps d__law_minus.sc := ⟨rfl, rfl, rfl, by decide +kernel, rfl, by decide +kernel, by decide +kernel⟩
theorem o__law_minus : DefOk d__law_minus := defOk0 rfl rfl (fun _ _ _ _ _ _ us hl => match us, hl with | [_, _, _], _ => rfl) s__law_minus
theorem s__law_total : FnScope d__law_total.N d__law_total.ps d__law_total.sc := ⟨rfl, rfl, rfl, by decide +kernel, rfl, by decide +kernel, by decide +kernel⟩
theorem o__law_total : DefOk d__law_total := defOk0 rfl rfl (fun _ _ _ _ _ _ us hl => match us, hl with | [_, _], _ => rfl) s__law_total
theorem s__law_made : FnScope d__law_made.N d__law_made.ps d__law_made.sc := ⟨rfl, rfl, rfl, by decide +kernel, rfl, by decide +kernel, by decide +kernel⟩
theorem o__law_made : DefOk d__law_made := defOk0 rfl rfl (fun _ _ _ _ _ _ us hl => match us, hl with | [_], _ => rfl) s__law_made
theorem s__law_amount : FnScope d__law_amount.N d__law_amount.ps d__law_amount.sc := ⟨rfl, rfl, rfl, by decide +kernel, rfl, by decide +kernel, by decide +kernel⟩
theorem o__law_amount : DefOk d__law_amount := defOk0 rfl rfl (fun _ _ _ _ _ _ us hl => match us, hl with | [_, _], _ => rfl) s__law_amount
theorem s__law_some_amounts : FnScope d__law_some_amounts.N d__law_some_amounts.ps d__law_some_amounts.sc := ⟨rfl, rfl, rfl, by decide +kernel, rfl, by decide +kernel, by decide +kernel⟩
theorem o__law_some_amounts : DefOk d__law_some_amounts := defOk0 rfl rfl (fun _ _ _ _ _ _ us hl => match us, hl with | [_, _], _ => rfl) s__law_some_amounts
theorem s__law_sums_right : FnScope d__law_sums_right.N d__law_sums_right.ps d__law_sums_right.sc := ⟨rfl, rfl, rfl, by decide +kernel, rfl, by decide +kernel, by decide +kernel⟩
theorem o__law_sums_right : DefOk d__law_sums_right := defOk0 rfl rfl (fun _ _ _ _ _ _ us hl => match us, hl with | [_, _, _], _ => rfl) s__law_sums_right
theorem s__law_pairs_right : FnScope d__law_pairs_right.N d__law_pairs_right.ps d__law_pairs_right.sc := ⟨rfl, rfl, rfl, by decide +kernel, rfl, by decide +kernel, by decide +kernel⟩
theorem o__law_pairs_right : DefOk d__law_pairs_right := defOk0 rfl rfl (fun _ _ _ _ _ _ us hl => match us, hl with | [_, _, _, _], _ => rfl) s__law_pairs_right
theorem s_law : FnScope d_law.N d_law.ps d_law.sc := ⟨rfl, rfl, rfl, by decide +kernel, rfl, by decide +kernel, by decide +kernel⟩
theorem o_law : DefOk d_law := defOk0 rfl rfl (fun _ _ _ _ _ _ us hl => match us, hl with | [_], _ => rfl) s_law
theorem defs_all : AllOk [d_is_integer, d_common_divisor, d_reduced, d_is_fraction, d__law_dice, d__law_pull, d__law_pick, d__law_scale, d__law_lowest, d__law_weight, d__law_zero, d__law_plus, d__law_minus, d__law_total, d__law_made, d__law_amount, d__law_some_amounts, d__law_sums_right, d__law_pairs_right, d_law, d_SumScale_has_form, d_SumScale_added, d_SumScale_opposite, d_SumScale_total_in, d_SumScale_before, d_Scale___contains__, d_Scale_require_amount, d_Scale_require_amounts, d_Scale_plus_all, d_Scale_minus, d_Scale_negative, d_Scale_twice, d_Scale_order_of, d_Scale_ranked, d_Scale_merged, d_Scale___eq__, d_Scale___str__, d_ClassScale_has_form, d_ClassScale_added, d_ClassScale_opposite, d_ClassScale_total_in, d_ClassScale_before, d_Scale___contains__, d_Scale_require_amount, d_Scale_require_amounts, d_Scale_plus_all, d_Scale_minus, d_Scale_negative, d_Scale_twice, d_Scale_order_of, d_Scale_ranked, d_Scale_merged, d_Scale___eq__, d_Scale___str__, d_OddsScale_has_form, d_OddsScale_added, d_OddsScale_opposite, d_OddsScale_total_in, d_OddsScale_before, d_Scale___contains__, d_Scale_require_amount, d_Scale_require_amounts, d_Scale_plus_all, d_Scale_minus, d_Scale_negative, d_Scale_twice, d_Scale_order_of, d_Scale_ranked, d_Scale_merged, d_Scale___eq__, d_Scale___str__, d_Scale_word, d_Scale_size, d_Scale_zero, d_Scale_one, d_Scale_word, d_Scale_size, d_Scale_zero, d_Scale_one, d_Scale_word, d_Scale_size, d_Scale_zero, d_Scale_one, d_Scale___init__, d_Scale___init__, d_Scale___init__, d_Scale_sums, d_Scale_classes, d_Scale_odds, d_Scale_plus, d_Scale_greatest, d_Scale_least, d_Scale_plus, d_Scale_greatest, d_Scale_least, d_Scale_plus, d_Scale_greatest, d_Scale_least] := ⟨o_is_integer, o_common_divisor, o_reduced, o_is_fraction, o__law_dice, o__law_pull, o__law_pick, o__law_scale, o__law_lowest, o__law_weight, o__law_zero, o__law_plus, o__law_minus, o__law_total, o__law_made, o__law_amount, o__law_some_amounts, o__law_sums_right, o__law_pairs_right, o_law, o_SumScale_has_form, o_SumScale_added, o_SumScale_opposite, o_SumScale_total_in, o_SumScale_before, o_Scale___contains__, o_Scale_require_amount, o_Scale_require_amounts, o_Scale_plus_all, o_Scale_minus, o_Scale_negative, o_Scale_twice, o_Scale_order_of, o_Scale_ranked, o_Scale_merged, o_Scale___eq__, o_Scale___str__, o_ClassScale_has_form, o_ClassScale_added, o_ClassScale_opposite, o_ClassScale_total_in, o_ClassScale_before, o_Scale___contains__, o_Scale_require_amount, o_Scale_require_amounts, o_Scale_plus_all, o_Scale_minus, o_Scale_negative, o_Scale_twice, o_Scale_order_of, o_Scale_ranked, o_Scale_merged, o_Scale___eq__, o_Scale___str__, o_OddsScale_has_form, o_OddsScale_added, o_OddsScale_opposite, o_OddsScale_total_in, o_OddsScale_before, o_Scale___contains__, o_Scale_require_amount, o_Scale_require_amounts, o_Scale_plus_all, o_Scale_minus, o_Scale_negative, o_Scale_twice, o_Scale_order_of, o_Scale_ranked, o_Scale_merged, o_Scale___eq__, o_Scale___str__, o_Scale_word, o_Scale_size, o_Scale_zero, o_Scale_one, o_Scale_word, o_Scale_size, o_Scale_zero, o_Scale_one, o_Scale_word, o_Scale_size, o_Scale_zero, o_Scale_one, o_Scale___init__, o_Scale___init__, o_Scale___init__, o_Scale_sums, o_Scale_classes, o_Scale_odds, o_Scale_plus, o_Scale_greatest, o_Scale_least, o_Scale_plus, o_Scale_greatest, o_Scale_least, o_Scale_plus, o_Scale_greatest, o_Scale_least, trivial⟩
theorem defs_ok : DefsOk (allD P) := AllOk.by_ (by kernel_rfl) defs_all
theorem e_is_integer (n : Nat) : evD P (n + 1) d_is_integer = evF 1 1 (B_is_integer_2 (tb P (n + 1))) := by kernel_rfl
theorem e_common_divisor (n : Nat) : evD P (n + 1) d_common_divisor = evF 2 2 (B_common_divisor) := by kernel_rfl
theorem e_reduced (n : Nat) : evD P (n + 1) d_reduced = evF 3 2 (B_reduced (evD P n d_common_divisor)) := by kernel_rfl
theorem e_is_fraction (n : Nat) : evD P (n + 1) d_is_fraction = evF 2 1 (B_is_fraction (tb P (n + 1)) (evD P n d_is_integer) (evD P n d_common_divisor)) := by kernel_rfl
theorem e_Scale___init__ (n : Nat) : evD P (n + 1) d_Scale___init__ = evF 5 5 (B_Scale___init__ (tb P (n + 1))) := by kernel_rfl
theorem e_Scale_sums (n : Nat) : evD P (n + 1) d_Scale_sums = evF 0 0 (B_Scale_sums (evD P n d_Scale___init__)) := by kernel_rfl
theorem e_Scale_classes (n : Nat) : evD P (n + 1) d_Scale_classes = evF 1 1 (B_Scale_classes (evD P n d_is_integer) (evD P n d_Scale___init__)) := by kernel_rfl
theorem e_Scale_odds (n : Nat) : evD P (n + 1) d_Scale_odds = evF 0 0 (B_Scale_odds (evD P n d_Scale___init__)) := by kernel_rfl
theorem e_Scale_word (n : Nat) : evD P (n + 1) d_Scale_word = evF 1 1 (B_Scale_word (tb P (n + 1))) := by kernel_rfl
theorem e_Scale_size (n : Nat) : evD P (n + 1) d_Scale_size = evF 1 1 (B_Scale_size (tb P (n + 1))) := by kernel_rfl
theorem e_Scale_zero (n : Nat) : evD P (n + 1) d_Scale_zero = evF 1 1 (B_Scale_zero (tb P (n + 1))) := by kernel_rfl
theorem e_Scale_one (n : Nat) : evD P (n + 1) d_Scale_one = evF 1 1 (B_Scale_one (tb P (n + 1))) := by kernel_rfl
theorem e_Scale___contains__ (n : Nat) : evD P (n + 1) d_Scale___contains__ = evF 2 2 (B_Scale___contains__ (tb P (n + 1))) := by kernel_rfl
theorem e_Scale_require_amount (n : Nat) : evD P (n + 1) d_Scale_require_amount = evF 2 2 (B_Scale_require_amount (tb P (n + 1))) := by kernel_rfl
theorem e_Scale_require_amounts (n : Nat) : evD P (n + 1) d_Scale_require_amounts = evF 3 2 (B_Scale_require_amounts (tb P (n + 1))) := by kernel_rfl
theorem e_Scale_plus (n : Nat) : evD P (n + 1) d_Scale_plus = evF 2 2 (B_Scale_plus (tb P (n + 1))) := by kernel_rfl
theorem e_Scale_plus_all (n : Nat) : evD P (n + 1) d_Scale_plus_all = evF 2 2 (B_Scale_plus_all (tb P (n + 1))) := by kernel_rfl
theorem e_Scale_minus (n : Nat) : evD P (n + 1) d_Scale_minus = evF 3 3 (B_Scale_minus (tb P (n + 1))) := by kernel_rfl
theorem e_Scale_negative (n : Nat) : evD P (n + 1) d_Scale_negative = evF 2 2 (B_Scale_negative (tb P (n + 1))) := by kernel_rfl
theorem e_Scale_twice (n : Nat) : evD P (n + 1) d_Scale_twice = evF 2 2 (B_Scale_twice (tb P (n + 1))) := by kernel_rfl
theorem e_Scale_greatest (n : Nat) : evD P (n + 1) d_Scale_greatest = evF 2 2 (B_Scale_greatest (tb P (n + 1))) := by kernel_rfl
theorem e_Scale_least (n : Nat) : evD P (n + 1) d_Scale_least = evF 2 2 (B_Scale_least (tb P (n + 1))) := by kernel_rfl
theorem e_Scale_order_of (n : Nat) : evD P (n + 1) d_Scale_order_of = evF 2 2 (B_Scale_order_of (tb P (n + 1))) := by kernel_rfl
theorem e_Scale_ranked (n : Nat) : evD P (n + 1) d_Scale_ranked = evF 5 2 (B_Scale_ranked (tb P (n + 1))) := by kernel_rfl
theorem e_Scale_merged (n : Nat) : evD P (n + 1) d_Scale_merged = evF 8 3 (B_Scale_merged (tb P (n + 1))) := by kernel_rfl
theorem e_Scale___eq__ (n : Nat) : evD P (n + 1) d_Scale___eq__ = evF 2 2 (B_Scale___eq__ (tb P (n + 1))) := by kernel_rfl
theorem e_Scale___str__ (n : Nat) : evD P (n + 1) d_Scale___str__ = evF 1 1 (B_Scale___str__ (tb P (n + 1))) := by kernel_rfl
theorem e_SumScale_has_form (n : Nat) : evD P (n + 1) d_SumScale_has_form = evF 2 2 (B_SumScale_has_form (evD P n d_is_integer)) := by kernel_rfl
theorem e_SumScale_added (n : Nat) : evD P (n + 1) d_SumScale_added = evF 3 3 (B_SumScale_added) := by kernel_rfl
theorem e_SumScale_opposite (n : Nat) : evD P (n + 1) d_SumScale_opposite = evF 2 2 (B_SumScale_opposite) := by kernel_rfl
theorem e_SumScale_total_in (n : Nat) : evD P (n + 1) d_SumScale_total_in = evF 2 2 (B_SumScale_total_in) := by kernel_rfl
theorem e_SumScale_before (n : Nat) : evD P (n + 1) d_SumScale_before = evF 3 3 (B_SumScale_before) := by kernel_rfl
theorem e_ClassScale_has_form (n : Nat) : evD P (n + 1) d_ClassScale_has_form = evF 3 2 (B_ClassScale_has_form (tb P (n + 1)) (evD P n d_is_integer)) := by kernel_rfl
theorem e_ClassScale_added (n : Nat) : evD P (n + 1) d_ClassScale_added = evF 5 3 (B_ClassScale_added) := by kernel_rfl
theorem e_ClassScale_opposite (n : Nat) : evD P (n + 1) d_ClassScale_opposite = evF 3 2 (B_ClassScale_opposite) := by kernel_rfl
theorem e_ClassScale_total_in (n : Nat) : evD P (n + 1) d_ClassScale_total_in = evF 4 2 (B_ClassScale_total_in (tb P (n + 1))) := by kernel_rfl
theorem e_ClassScale_before (n : Nat) : evD P (n + 1) d_ClassScale_before = evF 3 3 (B_ClassScale_before) := by kernel_rfl
theorem e_OddsScale_has_form (n : Nat) : evD P (n + 1) d_OddsScale_has_form = evF 2 2 (B_OddsScale_has_form (evD P n d_is_fraction)) := by kernel_rfl
theorem e_OddsScale_added (n : Nat) : evD P (n + 1) d_OddsScale_added = evF 3 3 (B_OddsScale_added (tb P (n + 1))) := by kernel_rfl
theorem e_OddsScale_opposite (n : Nat) : evD P (n + 1) d_OddsScale_opposite = evF 2 2 (B_OddsScale_opposite) := by kernel_rfl
theorem e_OddsScale_total_in (n : Nat) : evD P (n + 1) d_OddsScale_total_in = evF 5 2 (B_OddsScale_total_in (evD P n d_reduced)) := by kernel_rfl
theorem e_OddsScale_before (n : Nat) : evD P (n + 1) d_OddsScale_before = evF 3 3 (B_OddsScale_before) := by kernel_rfl
theorem e__law_dice (n : Nat) : evD P (n + 1) d__law_dice = evF 5 2 (B__law_dice) := by kernel_rfl
theorem e__law_pull (n : Nat) : evD P (n + 1) d__law_pull = evF 5 2 (B__law_pull) := by kernel_rfl
theorem e__law_pick (n : Nat) : evD P (n + 1) d__law_pick = evF 2 2 (B__law_pick (evD P n d__law_pull)) := by kernel_rfl
theorem e__law_scale (n : Nat) : evD P (n + 1) d__law_scale = evF 1 1 (B__law_scale (evD P n d__law_pull)) := by kernel_rfl
theorem e__law_lowest (n : Nat) : evD P (n + 1) d__law_lowest = evF 4 2 (B__law_lowest) := by kernel_rfl
theorem e__law_weight (n : Nat) : evD P (n + 1) d__law_weight = evF 6 2 (B__law_weight (tb P (n + 1)) (evD P n d__law_pull) (evD P n d__law_lowest)) := by kernel_rfl
theorem e__law_zero (n : Nat) : evD P (n + 1) d__law_zero = evF 1 1 (B__law_zero) := by kernel_rfl
theorem e__law_plus (n : Nat) : evD P (n + 1) d__law_plus = evF 5 3 (B__law_plus (tb P (n + 1)) (evD P n d__law_lowest)) := by kernel_rfl
theorem e__law_minus (n : Nat) : evD P (n + 1) d__law_minus = evF 5 3 (B__law_minus (tb P (n + 1)) (evD P n d__law_lowest)) := by kernel_rfl
theorem e__law_total (n : Nat) : evD P (n + 1) d__law_total = evF 4 2 (B__law_total (evD P n d__law_zero) (evD P n d__law_plus)) := by kernel_rfl
theorem e__law_made (n : Nat) : evD P (n + 1) d__law_made = evF 1 1 (B__law_made (tb P (n + 1)) (evD P n d_Scale_classes) (evD P n d_Scale_sums) (evD P n d_Scale_odds)) := by kernel_rfl
theorem e__law_amount (n : Nat) : evD P (n + 1) d__law_amount = evF 5 2 (B__law_amount (tb P (n + 1)) (evD P n d__law_pull) (evD P n d__law_lowest)) := by kernel_rfl
theorem e__law_some_amounts (n : Nat) : evD P (n + 1) d__law_some_amounts = evF 5 2 (B__law_some_amounts (tb P (n + 1)) (evD P n d__law_pull) (evD P n d__law_minus) (evD P n d__law_zero) (evD P n d__law_pick) (evD P n d__law_weight) (evD P n d__law_amount)) := by kernel_rfl
theorem e__law_sums_right (n : Nat) : evD P (n + 1) d__law_sums_right = evF 10 3 (B__law_sums_right (tb P (n + 1)) (evD P n d__law_total)) := by kernel_rfl
theorem e__law_pairs_right (n : Nat) : evD P (n + 1) d__law_pairs_right = evF 6 4 (B__law_pairs_right (tb P (n + 1)) (evD P n d__law_minus) (evD P n d__law_zero) (evD P n d__law_plus)) := by kernel_rfl
theorem e_law (n : Nat) : evD P (n + 1) d_law = evF 11 1 (B_law_2 (tb P (n + 1)) (evD P n d__law_dice) (evD P n d__law_scale) (evD P n d__law_made) (evD P n d__law_some_amounts) (evD P n d__law_sums_right) (evD P n d__law_pairs_right) (evD P n d__law_pick) (evD P n d_Scale_classes) (evD P n d_Scale_odds) (evD P n d_Scale_sums)) := by kernel_rfl
end Kmostkept_k07_sums_and_differences
namespace Kmostkept_k07_sums_and_differences
open PySem L2 Qv
theorem oIsI (n : Nat) : OkIsI (evD P (n + 1) d_is_integer) := by rw [e_is_integer]; exact ok_isi
theorem oGcd (n : Nat) : OkGcd (evD P (n + 1) d_common_divisor) := by rw [e_common_divisor]; exact ok_gcd
theorem oRed (n : Nat) : OkLow (evD P (n + 2) d_reduced) := by rw [e_reduced]; exact ok_reduced (oGcd n)
theorem scA (n : Nat) : ScA (tb P (n + 1)) := ⟨fun m => by cases m <;> exact ⟨by kernel_rfl, by kernel_rfl, by kernel_rfl, by kernel_rfl⟩⟩
theorem M_form (n : Nat) : Mth (tb P (n + 4)) "has_form" KF := fun m hm => by
  cases m with
  | sums => exact ⟨d_SumScale_has_form.by_.tail, evD P (n + 3) d_SumScale_has_form, by kernel_rfl, by rw [e_SumScale_has_form]; exact form_s (oIsI _)⟩
  | odds => exact ⟨d_OddsScale_has_form.by_.tail, evD P (n + 3) d_OddsScale_has_form, by kernel_rfl, by rw [e_OddsScale_has_form]; exact form_o (e_is_fraction (n + 1)) (oIsI n) (oGcd n)⟩
  | cls k => exact ⟨d_ClassScale_has_form.by_.tail, evD P (n + 3) d_ClassScale_has_form, by kernel_rfl, by rw [e_ClassScale_has_form]; exact form_c (scA _) (oIsI _) hm.2⟩
theorem M_req (n : Nat) : Mth (tb P (n + 5)) "require_amount" KR := fun m hm => by
  cases m with
  | sums => exact ⟨d_Scale_require_amount.by_.tail, evD P (n + 4) d_Scale_require_amount, by kernel_rfl, by rw [e_Scale_require_amount]; exact req1 (M_form _) .sums hm⟩
  | odds => exact ⟨d_Scale_require_amount.by_.tail, evD P (n + 4) d_Scale_require_amount, by kernel_rfl, by rw [e_Scale_require_amount]; exact req1 (M_form _) .odds hm⟩
  | cls k => exact ⟨d_Scale_require_amount.by_.tail, evD P (n + 4) d_Scale_require_amount, by kernel_rfl, by rw [e_Scale_require_amount]; exact req1 (M_form _) (.cls k) hm⟩
theorem M_reqs (n : Nat) : Mth (tb P (n + 6)) "require_amounts" KRs := fun m hm => by
  cases m with
  | sums => exact ⟨d_Scale_require_amounts.by_.tail, evD P (n + 5) d_Scale_require_amounts, by kernel_rfl, by rw [e_Scale_require_amounts]; exact reqs (M_req _) .sums hm⟩
  | odds => exact ⟨d_Scale_require_amounts.by_.tail, evD P (n + 5) d_Scale_require_amounts, by kernel_rfl, by rw [e_Scale_require_amounts]; exact reqs (M_req _) .odds hm⟩
  | cls k => exact ⟨d_Scale_require_amounts.by_.tail, evD P (n + 5) d_Scale_require_amounts, by kernel_rfl, by rw [e_Scale_require_amounts]; exact reqs (M_req _) (.cls k) hm⟩
theorem oInit (n : Nat) : KI (evD P (n + 1) d_Scale___init__) := by rw [e_Scale___init__]; exact init_ (scA _)
theorem oMkC (n : Nat) : MkC (evD P (n + 2) d_Scale_classes) := fun k h1 h2 => by rw [e_Scale_classes]; exact mk_cls (oIsI n) (oInit n) k h1 h2
theorem oMkS (n : Nat) : MkS (evD P (n + 2) d_Scale_sums) := by unfold MkS; rw [e_Scale_sums]; exact mk_sums (oInit n)
theorem oMkO (n : Nat) : MkO (evD P (n + 2) d_Scale_odds) := by unfold MkO; rw [e_Scale_odds]; exact mk_odds (oInit n)
theorem oDice (n : Nat) : OkDice (evD P (n + 1) d__law_dice) := by rw [e__law_dice]; exact ok_dice
theorem oPull (n : Nat) : OkPull (evD P (n + 1) d__law_pull) := by rw [e__law_pull]; exact ok_pull
theorem oPick (n : Nat) : OkPick (evD P (n + 2) d__law_pick) := by rw [e__law_pick]; exact ok_pick (oPull n)
theorem oScale (n : Nat) : OkScale (evD P (n + 2) d__law_scale) := by rw [e__law_scale]; exact ok_scale (oPull n)
theorem oLow (n : Nat) : OkLow (evD P (n + 1) d__law_lowest) := by rw [e__law_lowest]; exact ok_lowest
theorem oWeight (n : Nat) : OkDraw (evD P (n + 2) d__law_weight) := by rw [e__law_weight]; exact ok_weight (oPull n) (oLow n)
theorem oZero (n : Nat) : LZr (evD P (n + 1) d__law_zero) := by rw [e__law_zero]; exact ok_zero
theorem oMade (n : Nat) : OkMade (evD P (n + 3) d__law_made) := by rw [e__law_made]; exact ok_made (oMkC n) (oMkS n) (oMkO n)
theorem M_total (n : Nat) : Mth (tb P (n + 4)) "total_in" KT := fun m hm => by
  cases m with
  | sums => exact ⟨d_SumScale_total_in.by_.tail, evD P (n + 3) d_SumScale_total_in, by kernel_rfl, by rw [e_SumScale_total_in]; exact total_s⟩
  | odds => exact ⟨d_OddsScale_total_in.by_.tail, evD P (n + 3) d_OddsScale_total_in, by kernel_rfl, by rw [e_OddsScale_total_in]; exact total_o (oRed n)⟩
  | cls k => exact ⟨d_ClassScale_total_in.by_.tail, evD P (n + 3) d_ClassScale_total_in, by kernel_rfl, by rw [e_ClassScale_total_in]; exact total_c (scA _) hm.2⟩
theorem M_added (n : Nat) : Mth (tb P (n + 5)) "added" KA := fun m hm => by
  cases m with
  | sums => exact ⟨d_SumScale_added.by_.tail, evD P (n + 4) d_SumScale_added, by kernel_rfl, by rw [e_SumScale_added]; exact added_s⟩
  | odds => exact ⟨d_OddsScale_added.by_.tail, evD P (n + 4) d_OddsScale_added, by kernel_rfl, by rw [e_OddsScale_added]; exact added_o (M_total n .odds trivial)⟩
  | cls k => exact ⟨d_ClassScale_added.by_.tail, evD P (n + 4) d_ClassScale_added, by kernel_rfl, by rw [e_ClassScale_added]; exact added_c hm.2⟩
theorem M_opp (n : Nat) : Mth (tb P (n + 2)) "opposite" KO := fun m hm => by
  cases m with
  | sums => exact ⟨d_SumScale_opposite.by_.tail, evD P (n + 1) d_SumScale_opposite, by kernel_rfl, by rw [e_SumScale_opposite]; exact opp_s⟩
  | odds => exact ⟨d_OddsScale_opposite.by_.tail, evD P (n + 1) d_OddsScale_opposite, by kernel_rfl, by rw [e_OddsScale_opposite]; exact opp_o⟩
  | cls k => exact ⟨d_ClassScale_opposite.by_.tail, evD P (n + 1) d_ClassScale_opposite, by kernel_rfl, by rw [e_ClassScale_opposite]; exact opp_c hm.2⟩
theorem M_minus (n : Nat) : Mth (tb P (n + 6)) "minus" KM := fun m hm => by
  cases m with
  | sums => exact ⟨d_Scale_minus.by_.tail, evD P (n + 5) d_Scale_minus, by kernel_rfl, by rw [e_Scale_minus]; exact minus_ (M_req _) (M_added _) (M_opp _) .sums hm⟩
  | odds => exact ⟨d_Scale_minus.by_.tail, evD P (n + 5) d_Scale_minus, by kernel_rfl, by rw [e_Scale_minus]; exact minus_ (M_req _) (M_added _) (M_opp _) .odds hm⟩
  | cls k => exact ⟨d_Scale_minus.by_.tail, evD P (n + 5) d_Scale_minus, by kernel_rfl, by rw [e_Scale_minus]; exact minus_ (M_req _) (M_added _) (M_opp _) (.cls k) hm⟩
theorem M_neg (n : Nat) : Mth (tb P (n + 6)) "negative" KO := fun m hm => by
  cases m with
  | sums => exact ⟨d_Scale_negative.by_.tail, evD P (n + 5) d_Scale_negative, by kernel_rfl, by rw [e_Scale_negative]; exact negative_ (M_req _) (M_opp _) .sums hm⟩
  | odds => exact ⟨d_Scale_negative.by_.tail, evD P (n + 5) d_Scale_negative, by kernel_rfl, by rw [e_Scale_negative]; exact negative_ (M_req _) (M_opp _) .odds hm⟩
  | cls k => exact ⟨d_Scale_negative.by_.tail, evD P (n + 5) d_Scale_negative, by kernel_rfl, by rw [e_Scale_negative]; exact negative_ (M_req _) (M_opp _) (.cls k) hm⟩
theorem M_twice (n : Nat) : Mth (tb P (n + 6)) "twice" KW := fun m hm => by
  cases m with
  | sums => exact ⟨d_Scale_twice.by_.tail, evD P (n + 5) d_Scale_twice, by kernel_rfl, by rw [e_Scale_twice]; exact twice_ (M_req _) (M_added _) .sums hm⟩
  | odds => exact ⟨d_Scale_twice.by_.tail, evD P (n + 5) d_Scale_twice, by kernel_rfl, by rw [e_Scale_twice]; exact twice_ (M_req _) (M_added _) .odds hm⟩
  | cls k => exact ⟨d_Scale_twice.by_.tail, evD P (n + 5) d_Scale_twice, by kernel_rfl, by rw [e_Scale_twice]; exact twice_ (M_req _) (M_added _) (.cls k) hm⟩
theorem M_plusall (n : Nat) : Mth (tb P (n + 7)) "plus_all" KT := fun m hm => by
  cases m with
  | sums => exact ⟨d_Scale_plus_all.by_.tail, evD P (n + 6) d_Scale_plus_all, by kernel_rfl, by rw [e_Scale_plus_all]; exact plus_all (M_reqs _) (M_total _) .sums hm⟩
  | odds => exact ⟨d_Scale_plus_all.by_.tail, evD P (n + 6) d_Scale_plus_all, by kernel_rfl, by rw [e_Scale_plus_all]; exact plus_all (M_reqs _) (M_total _) .odds hm⟩
  | cls k => exact ⟨d_Scale_plus_all.by_.tail, evD P (n + 6) d_Scale_plus_all, by kernel_rfl, by rw [e_Scale_plus_all]; exact plus_all (M_reqs _) (M_total _) (.cls k) hm⟩
theorem Q_plus (n : Nat) : PlusQ (tb P (n + 7)) := fun m hm => by
  cases m with
  | sums => exact ⟨false, evD P (n + 6) d_Scale_plus, fun k hk => by rcases k with _ | _ | _ | _ | _ | k <;> first | kernel_rfl | omega, by rw [e_Scale_plus]; exact plus_ (M_reqs _) (M_total _) .sums hm⟩
  | odds => exact ⟨false, evD P (n + 6) d_Scale_plus, fun k hk => by rcases k with _ | _ | _ | _ | _ | k <;> first | kernel_rfl | omega, by rw [e_Scale_plus]; exact plus_ (M_reqs _) (M_total _) .odds hm⟩
  | cls j => exact ⟨false, evD P (n + 6) d_Scale_plus, fun k hk => by rcases k with _ | _ | _ | _ | _ | k <;> first | kernel_rfl | omega, by rw [e_Scale_plus]; exact plus_ (M_reqs _) (M_total _) (.cls j) hm⟩
theorem oLplus (n : Nat) : LAd (evD P (n + 2) d__law_plus) := by rw [e__law_plus]; exact ok_lplus (oLow n)
theorem oLminus (n : Nat) : LMn (evD P (n + 2) d__law_minus) := by rw [e__law_minus]; exact ok_lminus (oLow n)
theorem oLtotal (n : Nat) : LTt (evD P (n + 3) d__law_total) := by rw [e__law_total]; exact ok_ltotal (oZero _) (oLplus n)
theorem oAmount (n : Nat) : OkDraw (evD P (n + 2) d__law_amount) := by rw [e__law_amount]; exact ok_amount (oPull n) (oLow n)
theorem oSome (n : Nat) : OkSome (evD P (n + 3) d__law_some_amounts) := by rw [e__law_some_amounts]; exact ok_some_am (oPull _) (oLminus n) (oZero _) (oPick n) (oWeight n) (oAmount n)
theorem oSums (n : Nat) : OkSums (evD P (n + 7) d__law_sums_right) := by rw [e__law_sums_right]; exact ok_sums (Q_plus n) (M_plusall n) (oLtotal (n + 3))
theorem oPairs (n : Nat) : OkPairs (evD P (n + 7) d__law_pairs_right) := by rw [e__law_pairs_right]; exact ok_pairs (M_minus (n + 1)) (M_neg (n + 1)) (M_twice (n + 1)) (oLminus (n + 4)) (oZero _) (oLplus (n + 4))
theorem hev (ns : List Int) (h : ns.length ≤ 63) : ∃ e', evD P 12 d_law [.sh (.scr ns)] = .ok (.sh (.bl true), e') := by
  rw [e_law]
  exact ok_law07 (oDice 10) (oScale 9) (oMade 8) (oSome 8) (oSums 4) (oPairs 4) (oPick 9) (oMkC 9) (oMkS 9) (oMkO 9) (Q_plus 5) (M_minus 6) (M_twice 6) (M_neg 6) (M_plusall 5) ns h
abbrev R : PySem.W.OpenRow := PySem.W.OpenLaw.row PySem.Challenge.rw_mostkept_k07_sums_and_differences
abbrev hk : PySem.W.Hook := hookP 6 P
def ob (s : PySem.W.SharedT) : AlP := obsPG 6 P (HandSHeadRun.getT s)
theorem ob_eq (s : PySem.W.SharedT) : ob s = hk.obs s.abs := obsPG_eq (HandSHeadRun.getT_eq s)
def loose : List Str := ["_wall", "TableError", "InvalidOperation", "InvalidNumber", "is_integer", "MAX_SIZE", "SUMS", "CLASSES", "ODDS", "common_divisor", "reduced", "is_fraction", "Scale", "SumScale", "ClassScale", "OddsScale", "_law_dice", "_law_pull", "_law_pick", "_law_scale", "_law_lowest", "_law_weight", "_law_zero", "_law_plus", "_law_minus", "_law_total", "_law_made", "_law_amount", "_law_some_amounts", "_law_sums_right", "_law_pairs_right"]
theorem run (w : World) : HandSHeadRun.RunEq R (PySem.W.view R.prog [35]) hk ob 30000 loose w := by
  intro os
  kernel_rfl
end Kmostkept_k07_sums_and_differences
open PySem PySem.W PySem.Calls PyProof.Rows
theorem PySem.Challenge.cw_mostkept_k07_sums_and_differences_holds : PySem.Challenge.rw_mostkept_k07_sums_and_differences.Holds := by
  w_on; o_law
  refine HandSHeadRun.head_any (r := OpenLaw.row PySem.Challenge.rw_mostkept_k07_sums_and_differences) (q := view (OpenLaw.row PySem.Challenge.rw_mostkept_k07_sums_and_differences).prog [35]) (H := Kmostkept_k07_sums_and_differences.hk) (ob := Kmostkept_k07_sums_and_differences.ob) (M := 30000) (loose := Kmostkept_k07_sums_and_differences.loose) (d := HandSHeadRun.topDef (OpenLaw.row PySem.Challenge.rw_mostkept_k07_sums_and_differences).prog 35) (kwd := []) Kmostkept_k07_sums_and_differences.ob_eq
    (by kernel_rfl) (fun s => by kernel_rfl) Kmostkept_k07_sums_and_differences.run (by kernel_rfl) (by kernel_rfl) (by kernel_rfl) (by rfl) (by first | assumption | decide +kernel) (by decide +kernel) ⟨rfl, rfl, rfl, rfl, rfl, by decide +kernel⟩ ?hw ?hc
  case hw => w_witness2
  case hc =>
    refine Qv.walk_ofG (l := PySem.Challenge.rw_mostkept_k07_sums_and_differences) (n := 63) (k := 3 * 12 + 3) (x := "_law_script") (ev := Qv.evD Kmostkept_k07_sums_and_differences.P 12 Kmostkept_k07_sums_and_differences.d_law) rfl (by decide) (by kernel_rfl) ⟨rfl, by decide, by decide⟩ ?F Kmostkept_k07_sums_and_differences.hev
    intro w mg fa h Y G hmg0
    obtain ⟨K, KX, c⟩ := Y
    have hmg : mg ("law" : PySem.Str) = some (.ref fa) := by
      have e : (HandSHeadRun.topDef (OpenLaw.row PySem.Challenge.rw_mostkept_k07_sums_and_differences).prog 35).name = ("law" : PySem.Str) := by kernel_rfl
      rw [← e]
      exact hmg0
    obtain ⟨fd, hb, hF⟩ := Qv.law_facts (P := Kmostkept_k07_sums_and_differences.P) (prog := (PySem.Challenge.rw_mostkept_k07_sums_and_differences).prog) (w := w) (p := "_law_script") (d := Kmostkept_k07_sums_and_differences.d_law) KX G (by decide +kernel) (by decide +kernel) Kmostkept_k07_sums_and_differences.defs_ok (by kernel_rfl) (by kernel_rfl) (by kernel_rfl) hmg c 12
    exact ⟨K, fd, KX, hb, hF⟩
