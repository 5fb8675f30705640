import PyProof.Rows.All
import Wide.All
import OpenK.AllK
import Wide.FinOn
import HandS.ForMost
import HandS.Evl
import HandS.Wide
import HandS.TupAny
import HandS.TupMul
import HandS.IsInst
import HandS.Zip
import HandS.Flow
import HandS.HeadHook1
import HandS.Exc
import HandS.CallSlots
import PyProof.StrOps2
import PyProof.EqKinds
import PyProof.NeKinds
import HandS.RaiseMore
import HandS.SortInts
import HandS.Dict
import HandS.SetKeys
import Wide.Txt2
import PyProof.ReprReads
import PyProof.ReprRoads
import KE.GoesNew
import HandS.Small
import HandS.Words
import HandS.WordsExc
import HandS.Strs
import HandS.Style
import HandS.Defaults
import HandS.Head0
import HandS.Head1
import HandS.Head2
import HandS.HeadEnd
import HandS.HeadHook2
import PyProof.FitsInt
import PyProof.StrLawsRepr
import PyProof.P3Eq
import PySem.Challenge.RW_mostkept_k01_names_columns_and_rows
set_option Elab.async false
set_option linter.all false
set_option maxRecDepth 100000
set_option maxHeartbeats 4000000
set_option exponentiation.threshold 20000
namespace Qv
open PySem L2

/-- plain data, as deep as it goes; box: a child that only its container knows -/
inductive D where
  | non | bl (b : Bool) | int (i : Int) | str (s : Str) | tup (l : List D) | lst (l : List D) | dct (l : List (D × D)) | scr (l : List Int) | ins (c : Str) (fs : List (Str × D)) | ty (c : Str) | box (d : D)
deriving Inhabited
mutual
def D.eqb : D → D → Bool
  | .non, .non => true
  | .bl a, .bl b => a == b
  | .int a, .int b => decide (a = b)
  | .str a, .str b => decide (a = b)
  | .tup a, .tup b => eqbL a b
  | .lst a, .lst b => eqbL a b
  | .dct a, .dct b => eqbK a b
  | .scr a, .scr b => decide (a = b)
  | .ins c a, .ins d b => decide (c = d) && eqbF a b
  | .ty a, .ty b => decide (a = b)
  | .box a, .box b => D.eqb a b
  | _, _ => false
def eqbL : List D → List D → Bool
  | [], [] => true
  | a :: r, b :: s => D.eqb a b && eqbL r s
  | _, _ => false
def eqbK : List (D × D) → List (D × D) → Bool
  | [], [] => true
  | (a, x) :: r, (b, y) :: s => (D.eqb a b && D.eqb x y) && eqbK r s
  | _, _ => false
def eqbF : List (Str × D) → List (Str × D) → Bool
  | [], [] => true
  | (a, x) :: r, (b, y) :: s => (decide (a = b) && D.eqb x y) && eqbF r s
  | _, _ => false
end
mutual
theorem D.eqb_iff : ∀ a b : D, D.eqb a b = true ↔ a = b
  | .non, b => by cases b <;> simp [D.eqb]
  | .bl a, b => by cases b <;> simp [D.eqb]
  | .int a, b => by cases b <;> simp [D.eqb]
  | .str a, b => by cases b <;> simp [D.eqb]
  | .tup a, b => by cases b <;> simp [D.eqb, eqbL_iff a]
  | .lst a, b => by cases b <;> simp [D.eqb, eqbL_iff a]
  | .dct a, b => by cases b <;> simp [D.eqb, eqbK_iff a]
  | .scr a, b => by cases b <;> simp [D.eqb]
  | .ins c a, b => by cases b <;> simp [D.eqb, eqbF_iff a]
  | .ty a, b => by cases b <;> simp [D.eqb]
  | .box a, b => by cases b <;> simp [D.eqb, D.eqb_iff a]
theorem eqbL_iff : ∀ a b : List D, eqbL a b = true ↔ a = b
  | [], b => by cases b <;> simp [eqbL]
  | x :: r, b => by cases b <;> simp [eqbL, D.eqb_iff x, eqbL_iff r]
theorem eqbK_iff : ∀ a b : List (D × D), eqbK a b = true ↔ a = b
  | [], b => by cases b <;> simp [eqbK]
  | (x, y) :: r, b => by
    cases b with
    | nil => simp [eqbK]
    | cons p s => obtain ⟨u, v⟩ := p; simp [eqbK, D.eqb_iff x, D.eqb_iff y, eqbK_iff r]
theorem eqbF_iff : ∀ a b : List (Str × D), eqbF a b = true ↔ a = b
  | [], b => by cases b <;> simp [eqbF]
  | (x, y) :: r, b => by
    cases b with
    | nil => simp [eqbF]
    | cons p s => obtain ⟨u, v⟩ := p; simp [eqbF, D.eqb_iff y, eqbF_iff r]
end
instance : DecidableEq D := fun a b => decidable_of_iff _ (D.eqb_iff a b)

mutual
def D.py : D → PyData
  | .non => .none | .bl b => .bool b | .int i => .int i | .str s => .str s
  | .tup l => .tuple (pyL l) | .lst l => .list (pyL l) | .dct l => .dict (pyK l)
  | .scr l => .list (l.map .int) | .ins _ _ => .none | .ty _ => .none | .box _ => .none
def pyL : List D → List PyData
  | [] => [] | d :: r => D.py d :: pyL r
def pyK : List (D × D) → List (PyData × PyData)
  | [] => [] | (k, v) :: r => (D.py k, D.py v) :: pyK r
end
mutual
/-- no instance, no class, no box in it -/
def D.pl : D → Bool
  | .tup l | .lst l => plL l
  | .dct l => plK l
  | .ins _ _ | .ty _ | .box _ => false
  | _ => true
def plL : List D → Bool
  | [] => true | d :: r => D.pl d && plL r
def plK : List (D × D) → Bool
  | [] => true | (k, v) :: r => D.pl k && (D.pl v && plK r)
end
mutual
/-- no list, no instance in it; dicts have texts and ints for keys -/
def D.nl : D → Bool
  | .tup l => nlL l
  | .dct l => nlK l
  | .non | .bl _ | .int _ | .str _ => true
  | _ => false
def nlL : List D → Bool
  | [] => true | d :: r => D.nl d && nlL r
def nlK : List (D × D) → Bool
  | [] => true | (k, v) :: r => (match k with | .int _ => true | .str _ => true | _ => false) && (D.nl v && nlK r)
end
def D.isBox : D → Bool
  | .box _ => true
  | _ => false
/-- no child is a box -/
def D.flat : D → Bool
  | .lst l => l.all fun d => !d.isBox
  | .dct l => l.all fun p => !p.2.isBox
  | .ins _ fs => fs.all fun p => !p.2.isBox
  | .box _ => false
  | _ => true
/-- a step to a child -/
inductive Pt where
  | ix (n : Nat) | fd (f : Str) | dx
deriving DecidableEq
def kvGet (l : List (D × D)) (x : D) : Option D := (l.find? fun q => decide (q.1 = x)).map (·.2)
def kvSet (l : List (D × D)) (x y : D) : List (D × D) := if (l.any fun q => decide (q.1 = x)) = true then l.map (fun q => if q.1 = x then (q.1, y) else q) else l ++ [(x, y)]
def kvDel (l : List (D × D)) (x : D) : List (D × D) := l.filter fun q => decide (q.1 ≠ x)
def fsGet : List (Str × D) → Str → Option D
  | [], _ => none
  | (k, v) :: r, x => if k = x then some v else fsGet r x
def fsSet : List (Str × D) → Str → D → List (Str × D)
  | [], x, y => [(x, y)]
  | (k, v) :: r, x, y => if k = x then (k, y) :: r else (k, v) :: fsSet r x y
/-- where a key stands -/
def kvIdx (l : List (D × D)) (x : D) : Option Nat := l.findIdx? fun q => decide (q.1 = x)
/-- keys: ints and texts; tuples of them -/
def keyS : D → Option Key
  | .int i => some (.inl i)
  | .str x => some (.inr x)
  | _ => none
def keyL : List D → Option (List Key)
  | [] => some []
  | d :: r => match keyS d, keyL r with
    | some k, some ks => some (k :: ks)
    | _, _ => none
def keyT : D → Option (List Key)
  | .tup l => keyL l
  | _ => none
/-- a key of the dict's own kind -/
def keyFits (l : List (D × D)) (k : D) : Bool := ((keyS k).isSome && (match l with | [] => true | q :: _ => (keyS q.1).isSome)) || ((keyT k).isSome && (match l with | [] => true | q :: _ => (keyT q.1).isSome))
def D.kid : D → Pt → Option D
  | .lst l, .ix n => l[n]?
  | .dct l, .ix n => (l[n]?).map Prod.snd
  | .ins _ fs, .fd f => fsGet fs f
  | _, _ => none
def D.kidSet : D → Pt → D → D
  | .lst l, .ix n, x => .lst (l.set n x)
  | .dct l, .ix n, x => match l[n]? with
    | some q => .dct (l.set n (q.1, x))
    | none => .dct l
  | .ins c fs, .fd f, x => .ins c (fsSet fs f x)
  | d, _, _ => d
/-- the node at a path, through boxes -/
def D.at : D → List Pt → Option D
  | d, [] => some d
  | d, p :: r => match d.kid p with
    | some (.box c) => c.at r
    | _ => none
def D.put : D → List Pt → D → D
  | _, [], x => x
  | d, p :: r, x => match d.kid p with
    | some (.box c) => d.kidSet p (.box (c.put r x))
    | _ => d
mutual
/-- without boxes -/
def D.fz : D → D
  | .lst l => .lst (fzL l)
  | .dct l => .dct (fzK l)
  | .ins c fs => .ins c (fzF fs)
  | .box d => d.fz
  | d => d
def fzL : List D → List D
  | [] => []
  | .box d :: r => d.fz :: fzL r
  | d :: r => d :: fzL r
def fzK : List (D × D) → List (D × D)
  | [] => []
  | (k, .box d) :: r => (k, d.fz) :: fzK r
  | (k, d) :: r => (k, d) :: fzK r
def fzF : List (Str × D) → List (Str × D)
  | [] => []
  | (k, .box d) :: r => (k, d.fz) :: fzF r
  | (k, d) :: r => (k, d) :: fzF r
end

/-- an exception: its class, its fields -/
structure Xn where
  cls : Str
  fs : List (Str × D)
/-- what an expression hands back: a shared thing, a new thing of nobody's, the thing owned at a slot; a new thing with boxes, a node of a slot with boxes -/
inductive Val where
  | sh (d : D) | fr (d : D) | ow (i : Nat) | fn (d : D) | np (i : Nat) (p : List Pt)
/-- a slot: empty, a shared thing, a thing owned here (io: the caller's, passed by reference), one with boxes -/
inductive Slot where
  | em | sh (d : D) | ow (io : Bool) (d : D) | nt (io : Bool) (d : D)
abbrev En := List Slot
inductive Out (α : Type) where
  | ok (a : α) | ex (x : Xn) (e : En) | err
abbrev M (α : Type) := En → Out (α × En)
def ret {α : Type} (a : α) : M α := fun e => .ok (a, e)
def fail {α : Type} : M α := fun _ => .err
def bnd {α β : Type} (m : M α) (f : α → M β) : M β := fun e => match m e with
  | .ok (a, e') => f a e'
  | .ex x e' => .ex x e'
  | .err => .err
/-- a pending operand is shared -/
def opd : Val → Val
  | .fr d => .sh d
  | v => v
/-- .. and stays what it is while others are asked -/
def pend : Val → M Val
  | .fr d => ret (.sh d)
  | .sh d => ret (.sh d)
  | .ow i => ret (.ow i)
  | .np i [] => ret (.np i [])
  | _ => fail
def opt {α : Type} : Option α → M α
  | some a => ret a
  | none => fail
/-- read -/
def der : Val → M D
  | .sh d => ret d
  | .fr d => ret d
  | .ow i => fun e => match e[i]? with
    | some (.ow _ d) => .ok (d, e)
    | _ => .err
  | .fn _ => fail
  | .np i π => fun e => match e[i]? with
    | some (.nt _ d) => match d.at π with
      | some c => if c.flat then .ok (c, e) else .err
      | none => .err
    | _ => .err
/-- shared from here on -/
def shr : Val → M D
  | .sh d => ret d
  | .fr d => ret d
  | .ow i => fun e => match e[i]? with
    | some (.ow false d) => .ok (d, e.set i (.sh d))
    | _ => .err
  | .fn d => ret d.fz
  | .np i [] => fun e => match e[i]? with
    | some (.nt false d) => .ok (d.fz, e.set i (.sh d.fz))
    | _ => .err
  | .np i (_ :: _) => fail

/-! ### operations on data -/
def lenLim : Nat := 16777216
def addD : D → D → Option Val
  | .int i, .int j => some (.sh (.int (i + j)))
  | .str a, .str b => if a.length + b.length ≤ lenLim then some (.sh (.str (a ++ b))) else none
  | .lst a, .lst b => if a.length + b.length ≤ lenLim then some (.fr (.lst (a ++ b))) else none
  | .tup a, .tup b => if a.length + b.length ≤ lenLim then some (.sh (.tup (a ++ b))) else none
  | _, _ => none
def subD : D → D → Option Val
  | .int i, .int j => some (.sh (.int (i - j)))
  | _, _ => none
/-- a text, again and again -/
def repS (a : Str) (n : Nat) : Str := ⟨(List.replicate n a.cps).foldl (· ++ ·) #[]⟩
def mulD : D → D → Option Val
  | .int i, .int j => if i.natAbs.log2 + j.natAbs.log2 < 1000000 then some (.sh (.int (i * j))) else none
  | .lst a, .int k => if a.length * k.toNat ≤ lenLim ∧ -(2 ^ 63) ≤ k ∧ k < 2 ^ 63 then some (.fr (.lst (List.replicate k.toNat a).flatten)) else none
  | .tup a, .int k => if a ≠ [] ∧ 2 ≤ k ∧ k ≤ 1000 ∧ a.length ≤ 1000 then some (.sh (.tup (List.replicate k.toNat a).flatten)) else none
  | .str a, .int k => if 2 ≤ k ∧ k ≤ 1000 ∧ a.length ≤ 1000 ∧ a.length ≠ 0 then some (.sh (.str (repS a k.toNat))) else none
  | _, _ => none
def fdivD : D → D → Option Val
  | .int i, .int j => if 0 < j ∧ j.natAbs.log2 < 9000 then some (.sh (.int (i / j))) else none
  | _, _ => none
def modD : D → D → Option Val
  | .int i, .int j => if 0 < j then some (.sh (.int (i % j))) else none
  | _, _ => none
def powD : D → D → Option Val
  | .int i, .int j => if 0 ≤ j ∧ (Builtin.Int.intBits i : Int) * j ≤ 2 ^ 27 then some (.sh (.int (i ^ j.toNat))) else none
  | _, _ => none
def binOf : Operator → D → D → Option Val
  | .Add => addD | .Sub => subD | .Mult => mulD | .FloorDiv => fdivD | .Mod => modD | .Pow => powD
  | _ => fun _ _ => none

def eqOk (d : D) : Bool := d.pl && SeqAt.shaped d.py
/-- lists of different lengths -/
def difLen : D → D → Bool
  | .lst l, .lst m => decide (l.length ≠ m.length)
  | _, _ => false
def eqD : D → D → Option Val
  | .str a, .str b => some (.sh (.bl (decide (a = b))))
  | a, b => if eqOk a && eqOk b then some (.sh (.bl (PyData.eqv a.py b.py))) else if difLen a b then some (.sh (.bl false)) else none
def neD : D → D → Option Val
  | .str a, .str b => some (.sh (.bl (!decide (a = b))))
  | a, b => if eqOk a && eqOk b then some (.sh (.bl (!PyData.eqv a.py b.py))) else if difLen a b then some (.sh (.bl true)) else none
def ltD : D → D → Option Val
  | .int i, .int j => some (.sh (.bl (decide (i < j))))
  | .str a, .str b => some (.sh (.bl (decide (a.cps.toList < b.cps.toList))))
  | _, _ => none
def leD : D → D → Option Val
  | .int i, .int j => some (.sh (.bl (decide (i ≤ j))))
  | .str a, .str b => some (.sh (.bl (!decide (b.cps.toList < a.cps.toList))))
  | _, _ => none
def gtD : D → D → Option Val
  | .int i, .int j => some (.sh (.bl (decide (j < i))))
  | .str a, .str b => some (.sh (.bl (decide (b.cps.toList < a.cps.toList))))
  | _, _ => none
def geD : D → D → Option Val
  | .int i, .int j => some (.sh (.bl (decide (j ≤ i))))
  | .str a, .str b => some (.sh (.bl (!decide (a.cps.toList < b.cps.toList))))
  | _, _ => none
def flatD : D → Option V
  | .non => some .non | .bl b => some (.bl b) | .int i => some (.int i) | .str s => some (.str s)
  | _ => none
def flatL : List D → Option (List V)
  | [] => some []
  | d :: r => match flatD d, flatL r with
    | some v, some vs => some (v :: vs)
    | _, _ => none
def inD (neg : Bool) : D → D → Option Val
  | .str a, .str z => match a.cps.toList with
    | [c] => some (.sh (.bl (if neg then !decide (c ∈ z.cps.toList) else decide (c ∈ z.cps.toList))))
    | _ => none
  | x, .tup l => match flatD x, flatL l with
    | some v, some vs => some (.sh (.bl (if neg then !inV v vs else inV v vs)))
    | _, _ => none
  | x, .lst l => match flatD x, flatL l with
    | some v, some vs => some (.sh (.bl (if neg then !inV v vs else inV v vs)))
    | _, _ => none
  | _, _ => none
def isND (neg : Bool) (x : D) : D → Option Val
  | .non => some (.sh (.bl (match x with | .non => !neg | _ => neg)))
  | _ => none
def cmpOf : CmpOp → D → D → Option Val
  | .Eq => eqD | .NotEq => neD | .Lt => ltD | .LtE => leD | .Gt => gtD | .GtE => geD
  | .In => inD false | .NotIn => inD true | .Is => isND false | .IsNot => isND true
def truD : D → Option Bool
  | .non => some false | .bl b => some b | .int i => some (i != 0)
  | .str s => if s.length ≤ lenLim then some ((s.length : Int) != 0) else none
  | .tup l => some (!l.isEmpty) | .lst l => some (!l.isEmpty)
  | _ => none
def ixD : D → D → Option D
  | .lst l, .int i => atI l i
  | .tup l, .int i => atI l i
  | .scr l, .int i => (atI l i).map .int
  | .str z, .int i => if z.length ≤ lenLim then (atI z.cps.toList i).map fun c => .str ⟨#[c]⟩ else none
  | _, _ => none
def cutD (l : List D) (lo hi : Option Int) : List D := (l.drop (HT.sIx l.length 0 lo)).take (HT.sIx l.length l.length hi - HT.sIx l.length 0 lo)
def slD : D → Option Int → Option Int → Option Val
  | .lst l, lo, hi => some (.fr (.lst (cutD l lo hi)))
  | .tup l, lo, hi => some (.sh (.tup (cutD l lo hi)))
  | .str z, lo, hi => if z.length ≤ lenLim then some (.sh (.str (cutS z lo hi))) else none
  | _, _, _ => none
end Qv
namespace Qv
open PySem L2
open Evl (Ex)

/-! ### how data lies in the abstract heap -/
def keyD : Key → D
  | .inl i => .int i
  | .inr x => .str x
mutual
inductive Rep (K : PySem.W.Frag) (H : Hp) : V → D → Prop
  | non : Rep K H .non .non
  | bl (b : Bool) : Rep K H (.bl b) (.bl b)
  | int (i : Int) : Rep K H (.int i) (.int i)
  | str (x : Str) : Rep K H (.str x) (.str x)
  | lst {a : Addr} {xs : List V} {ds : List D} : H a = some (.lst xs) → RepL K H xs ds → Rep K H (.ref a) (.lst ds)
  | tup {a : Addr} {xs : List V} {ds : List D} : H a = some (.tup xs) → RepL K H xs ds → Rep K H (.ref a) (.tup ds)
  | dct {a : Addr} {kvs : List (Key × V)} {es : List (D × D)} : H a = some (.dK kvs) → RepK K H kvs es → Rep K H (.ref a) (.dct es)
  | dcT {a : Addr} {kvs : List (List Key × V)} {es : List (D × D)} : H a = some (.dT kvs) → RepT K H kvs es → Rep K H (.ref a) (.dct es)
  | scr {a : Addr} {ns : List Int} : SqL K H a (ns.map V.int) → Rep K H (.ref a) (.scr ns)
  | ins {a dx : Addr} {c : Str} {vs : List (Str × V)} {fs : List (Str × D)} : H a = some (.ins (He.ga K c) dx vs) → H dx = some (.own a) → (∀ f, (vs.lookup f).isSome = (fsGet fs f).isSome) → (∀ f v d, vs.lookup f = some v → fsGet fs f = some d → Rep K H v d) → Rep K H (.ref a) (.ins c fs)
  | ty (c : Str) : Rep K H (.ref (He.ga K c)) (.ty c)
inductive RepL (K : PySem.W.Frag) (H : Hp) : List V → List D → Prop
  | nil : RepL K H [] []
  | cons {v : V} {vs : List V} {d : D} {ds : List D} : Rep K H v d → RepL K H vs ds → RepL K H (v :: vs) (d :: ds)
inductive RepK (K : PySem.W.Frag) (H : Hp) : List (Key × V) → List (D × D) → Prop
  | nil : RepK K H [] []
  | cons {k : Key} {v : V} {kvs : List (Key × V)} {d : D} {es : List (D × D)} : Rep K H v d → RepK K H kvs es → RepK K H ((k, v) :: kvs) ((keyD k, d) :: es)
inductive RepT (K : PySem.W.Frag) (H : Hp) : List (List Key × V) → List (D × D) → Prop
  | nil : RepT K H [] []
  | cons {k : List Key} {v : V} {kvs : List (List Key × V)} {d : D} {es : List (D × D)} : Rep K H v d → RepT K H kvs es → RepT K H ((k, v) :: kvs) ((.tup (k.map keyD), d) :: es)
end
section
variable {K : PySem.W.Frag} {G H H' R : Hp}
mutual
theorem Rep.mono (e : Ex H H') : ∀ {v : V} {d : D}, Rep K H v d → Rep K H' v d
  | _, _, .non => .non
  | _, _, .bl b => .bl b
  | _, _, .int i => .int i
  | _, _, .str x => .str x
  | _, _, .lst h r => .lst (e _ _ h) (RepL.mono e r)
  | _, _, .tup h r => .tup (e _ _ h) (RepL.mono e r)
  | _, _, .dct h r => .dct (e _ _ h) (RepK.mono e r)
  | _, _, .dcT h r => .dcT (e _ _ h) (RepT.mono e r)
  | _, _, .scr h => .scr (Evl.ex_l e h)
  | _, _, .ins h1 h2 h3 h4 => .ins (e _ _ h1) (e _ _ h2) h3 fun f v d a b => Rep.mono e (h4 f v d a b)
  | _, _, .ty c => .ty c
theorem RepL.mono (e : Ex H H') : ∀ {vs : List V} {ds : List D}, RepL K H vs ds → RepL K H' vs ds
  | _, _, .nil => .nil
  | _, _, .cons h r => .cons (Rep.mono e h) (RepL.mono e r)
theorem RepK.mono (e : Ex H H') : ∀ {vs : List (Key × V)} {ds : List (D × D)}, RepK K H vs ds → RepK K H' vs ds
  | _, _, .nil => .nil
  | _, _, .cons h r => .cons (Rep.mono e h) (RepK.mono e r)
theorem RepT.mono (e : Ex H H') : ∀ {vs : List (List Key × V)} {ds : List (D × D)}, RepT K H vs ds → RepT K H' vs ds
  | _, _, .nil => .nil
  | _, _, .cons h r => .cons (Rep.mono e h) (RepT.mono e r)
end
theorem RepL.length : ∀ {vs : List V} {ds : List D}, RepL K H vs ds → vs.length = ds.length
  | _, _, .nil => rfl
  | _, _, .cons _ r => congrArg Nat.succ (RepL.length r)
theorem RepL.get : ∀ {vs : List V} {ds : List D} {i : Nat} {d : D}, RepL K H vs ds → ds[i]? = some d → ∃ v, vs[i]? = some v ∧ Rep K H v d
  | _, _, _, _, .nil, e => by simp at e
  | _, _, 0, _, .cons h _, e => by simp at e; subst e; exact ⟨_, rfl, h⟩
  | _, _, i + 1, _, .cons _ r, e => by
    obtain ⟨v, a, b⟩ := RepL.get (i := i) r (by simpa using e)
    exact ⟨v, by simpa using a, b⟩
theorem RepL.getV : ∀ {vs : List V} {ds : List D} {i : Nat} {v : V}, RepL K H vs ds → vs[i]? = some v → ∃ d, ds[i]? = some d ∧ Rep K H v d
  | _, _, _, _, .nil, e => by simp at e
  | _, _, 0, _, .cons h _, e => by simp at e; subst e; exact ⟨_, rfl, h⟩
  | _, _, i + 1, _, .cons _ r, e => by
    obtain ⟨v, a, b⟩ := RepL.getV (i := i) r (by simpa using e)
    exact ⟨v, by simpa using a, b⟩
theorem RepL.append : ∀ {vs ws : List V} {ds es : List D}, RepL K H vs ds → RepL K H ws es → RepL K H (vs ++ ws) (ds ++ es)
  | _, _, _, _, .nil, s => s
  | _, _, _, _, .cons h r, s => .cons h (RepL.append r s)
theorem RepL.take : ∀ {vs : List V} {ds : List D} (n : Nat), RepL K H vs ds → RepL K H (vs.take n) (ds.take n)
  | _, _, 0, _ => .nil
  | _, _, _ + 1, .nil => .nil
  | _, _, n + 1, .cons h r => .cons h (RepL.take n r)
theorem RepL.drop : ∀ {vs : List V} {ds : List D} (n : Nat), RepL K H vs ds → RepL K H (vs.drop n) (ds.drop n)
  | _, _, 0, r => r
  | _, _, _ + 1, .nil => .nil
  | _, _, n + 1, .cons _ r => RepL.drop n r
theorem RepL.set {v : V} {d : D} (h : Rep K H v d) : ∀ {vs : List V} {ds : List D} (i : Nat), RepL K H vs ds → RepL K H (vs.set i v) (ds.set i d)
  | _, _, _, .nil => .nil
  | _, _, 0, .cons _ r => .cons h r
  | _, _, i + 1, .cons h' r => .cons h' (RepL.set h i r)
theorem RepL.rep {vs : List V} {ds : List D} (h : RepL K H vs ds) : ∀ k : Nat, RepL K H (List.replicate k vs).flatten (List.replicate k ds).flatten
  | 0 => .nil
  | k + 1 => by
    simp only [List.replicate_succ, List.flatten_cons]
    exact h.append (RepL.rep h k)
theorem RepL.rev : ∀ {vs : List V} {ds : List D}, RepL K H vs ds → RepL K H vs.reverse ds.reverse
  | _, _, .nil => .nil
  | _, _, .cons h r => by
    simp only [List.reverse_cons]
    exact (RepL.rev r).append (.cons h .nil)
theorem RepL.ints : ∀ (ns : List Int), RepL K H (ns.map V.int) (ns.map D.int)
  | [] => .nil
  | _ :: r => .cons (.int _) (RepL.ints r)
theorem RepL.of : ∀ {vs : List V} {ds : List D}, vs.length = ds.length → (∀ (n : Nat) v d, vs[n]? = some v → ds[n]? = some d → Rep K H v d) → RepL K H vs ds
  | [], [], _, _ => .nil
  | v :: vs, d :: ds, l, h => .cons (h 0 v d rfl rfl) (RepL.of (by simpa using l) fun n v d a b => h (n + 1) v d (by simpa using a) (by simpa using b))
theorem RepK.keys : ∀ {vs : List (Key × V)} {ds : List (D × D)}, RepK K H vs ds → ds.map Prod.fst = vs.map fun q => keyD q.1
  | _, _, .nil => rfl
  | _, _, .cons _ r => by rw [List.map_cons, List.map_cons, RepK.keys r]
theorem RepT.keys : ∀ {vs : List (List Key × V)} {ds : List (D × D)}, RepT K H vs ds → ds.map Prod.fst = vs.map fun q => .tup (q.1.map keyD)
  | _, _, .nil => rfl
  | _, _, .cons _ r => by rw [List.map_cons, List.map_cons, RepT.keys r]
theorem RepK.of : ∀ {vs : List (Key × V)} {ds : List (D × D)}, (ds.map Prod.fst = vs.map fun q => keyD q.1) → (∀ (n : Nat) k v kd d, vs[n]? = some (k, v) → ds[n]? = some (kd, d) → Rep K H v d) → RepK K H vs ds
  | [], [], _, _ => .nil
  | (k, v) :: vs, (kd, d) :: ds, l, h => by
    simp only [List.map_cons, List.cons.injEq] at l
    obtain ⟨rfl, l⟩ := l
    exact .cons (h 0 k v _ d rfl rfl) (RepK.of l fun n k v kd d a b => h (n + 1) k v kd d (by simpa using a) (by simpa using b))
  | [], _ :: _, l, _ => by simp at l
  | _ :: _, [], l, _ => by simp at l
theorem RepT.of : ∀ {vs : List (List Key × V)} {ds : List (D × D)}, (ds.map Prod.fst = vs.map fun q => D.tup (q.1.map keyD)) → (∀ (n : Nat) k v kd d, vs[n]? = some (k, v) → ds[n]? = some (kd, d) → Rep K H v d) → RepT K H vs ds
  | [], [], _, _ => .nil
  | (k, v) :: vs, (kd, d) :: ds, l, h => by
    simp only [List.map_cons, List.cons.injEq] at l
    obtain ⟨rfl, l⟩ := l
    exact .cons (h 0 k v _ d rfl rfl) (RepT.of l fun n k v kd d a b => h (n + 1) k v kd d (by simpa using a) (by simpa using b))
  | [], _ :: _, l, _ => by simp at l
  | _ :: _, [], l, _ => by simp at l

/-! ### the value read: its own object by H, what lies in it by G -/
def RdV (K : PySem.W.Frag) (G H : Hp) (v : V) : D → Prop
  | .lst ds => ∃ a xs, v = .ref a ∧ H a = some (.lst xs) ∧ RepL K G xs ds
  | .dct es => ∃ a, v = .ref a ∧ ((∃ kvs, H a = some (.dK kvs) ∧ RepK K G kvs es) ∨ ∃ kvs, H a = some (.dT kvs) ∧ RepT K G kvs es)
  | .ins c fs => ∃ a dx vs, v = .ref a ∧ H a = some (.ins (He.ga K c) dx vs) ∧ H dx = some (.own a) ∧ (∀ f, (vs.lookup f).isSome = (fsGet fs f).isSome) ∧ (∀ f v d, vs.lookup f = some v → fsGet fs f = some d → Rep K G v d)
  | d => Rep K G v d
theorem RdV.of {v : V} {d : D} (e : Ex G H) (h : Rep K G v d) : RdV K G H v d := by
  cases h with
  | lst h r => exact ⟨_, _, rfl, e _ _ h, r⟩
  | dct h r => exact ⟨_, rfl, .inl ⟨_, e _ _ h, r⟩⟩
  | dcT h r => exact ⟨_, rfl, .inr ⟨_, e _ _ h, r⟩⟩
  | ins h1 h2 h3 h4 => exact ⟨_, _, _, rfl, e _ _ h1, e _ _ h2, h3, h4⟩
  | non => exact .non
  | bl b => exact .bl b
  | int i => exact .int i
  | str x => exact .str x
  | tup h r => exact .tup h r
  | scr h => exact .scr h
  | ty c => exact .ty c
theorem RdV.rep {v : V} {d : D} (e : Ex G H) (h : RdV K G H v d) : Rep K H v d := by
  cases d with
  | lst ds => obtain ⟨a, xs, rfl, h, r⟩ := h; exact .lst h (r.mono e)
  | dct es =>
    obtain ⟨a, rfl, h⟩ := h
    rcases h with ⟨kvs, h, r⟩ | ⟨kvs, h, r⟩
    · exact .dct h (r.mono e)
    · exact .dcT h (r.mono e)
  | ins c fs => obtain ⟨a, dx, vs, rfl, h1, h2, h3, h4⟩ := h; exact .ins h1 h2 h3 fun f v d p q => (h4 f v d p q).mono e
  | non => exact Rep.mono e h
  | bl b => exact Rep.mono e h
  | int i => exact Rep.mono e h
  | str x => exact Rep.mono e h
  | tup l => exact Rep.mono e h
  | scr l => exact Rep.mono e h
  | ty c => exact Rep.mono e h
  | box c => exact Rep.mono e h
theorem RdV.monoG {G' : Hp} {v : V} {d : D} (x : Ex G G') (h : RdV K G H v d) : RdV K G' H v d := by
  cases d with
  | lst ds => obtain ⟨a, xs, e, h, r⟩ := h; exact ⟨a, xs, e, h, r.mono x⟩
  | dct es =>
    obtain ⟨a, e, h⟩ := h
    rcases h with ⟨kvs, h, r⟩ | ⟨kvs, h, r⟩
    · exact ⟨a, e, .inl ⟨kvs, h, r.mono x⟩⟩
    · exact ⟨a, e, .inr ⟨kvs, h, r.mono x⟩⟩
  | ins c fs => obtain ⟨a, dx, vs, e, h1, h2, h3, h4⟩ := h; exact ⟨a, dx, vs, e, h1, h2, h3, fun f v d p q => (h4 f v d p q).mono x⟩
  | non => exact Rep.mono x h
  | bl b => exact Rep.mono x h
  | int i => exact Rep.mono x h
  | str y => exact Rep.mono x h
  | tup l => exact Rep.mono x h
  | scr l => exact Rep.mono x h
  | ty c => exact Rep.mono x h
  | box c => exact Rep.mono x h
end

/-! ### owned trees -/
abbrev Lb := List Pt → Option Addr
def Lb.sub (A : Lb) (s : Pt) : Lb := fun τ => A (s :: τ)
inductive Tr (K : PySem.W.Frag) (G H : Hp) : Lb → V → D → Prop
  | lst {A : Lb} {p : Addr} {xs : List V} {ds : List D} : A [] = some p → H p = some (.lst xs) → xs.length = ds.length →
      (∀ (n : Nat) x d, xs[n]? = some x → ds[n]? = some d → d.isBox = false → Rep K G x d) → (∀ (n : Nat) x d, xs[n]? = some x → ds[n]? = some (.box d) → Tr K G H (A.sub (.ix n)) x d) → Tr K G H A (.ref p) (.lst ds)
  | dct {A : Lb} {p : Addr} {kvs : List (Key × V)} {es : List (D × D)} : A [] = some p → H p = some (.dK kvs) → (es.map Prod.fst = kvs.map fun q => keyD q.1) →
      (∀ (n : Nat) k x kd d, kvs[n]? = some (k, x) → es[n]? = some (kd, d) → d.isBox = false → Rep K G x d) → (∀ (n : Nat) k x kd d, kvs[n]? = some (k, x) → es[n]? = some (kd, .box d) → Tr K G H (A.sub (.ix n)) x d) → Tr K G H A (.ref p) (.dct es)
  | dcT {A : Lb} {p : Addr} {kvs : List (List Key × V)} {es : List (D × D)} : A [] = some p → H p = some (.dT kvs) → (es.map Prod.fst = kvs.map fun q => D.tup (q.1.map keyD)) →
      (∀ (n : Nat) k x kd d, kvs[n]? = some (k, x) → es[n]? = some (kd, d) → d.isBox = false → Rep K G x d) → (∀ (n : Nat) k x kd d, kvs[n]? = some (k, x) → es[n]? = some (kd, .box d) → Tr K G H (A.sub (.ix n)) x d) → Tr K G H A (.ref p) (.dct es)
  | ins {A : Lb} {p dx : Addr} {c : Str} {vs : List (Str × V)} {fs : List (Str × D)} : A [] = some p → A [.dx] = some dx → H p = some (.ins (He.ga K c) dx vs) → H dx = some (.own p) → (∀ f, (vs.lookup f).isSome = (fsGet fs f).isSome) →
      (∀ f x d, vs.lookup f = some x → fsGet fs f = some d → d.isBox = false → Rep K G x d) → (∀ f x d, vs.lookup f = some x → fsGet fs f = some (.box d) → Tr K G H (A.sub (.fd f)) x d) → Tr K G H A (.ref p) (.ins c fs)
section
variable {K : PySem.W.Frag} {G G' H H' R : Hp}
theorem Tr.root {A : Lb} {v : V} {d : D} (h : Tr K G H A v d) : ∃ p, v = .ref p ∧ A [] = some p ∧ ∃ o, H p = some o := by
  cases h with
  | lst a b => exact ⟨_, rfl, a, _, b⟩
  | dct a b => exact ⟨_, rfl, a, _, b⟩
  | dcT a b => exact ⟨_, rfl, a, _, b⟩
  | ins a _ b => exact ⟨_, rfl, a, _, b⟩
theorem Tr.monoG (x : Ex G G') {A : Lb} {v : V} {d : D} (h : Tr K G H A v d) : Tr K G' H A v d := by
  induction h with
  | lst a b c d e ih => exact .lst a b c (fun n y d' p q r => (d n y d' p q r).mono x) fun n y d' p q => ih n y d' p q
  | dct a b c d e ih => exact .dct a b c (fun n k y kd d' p q r => (d n k y kd d' p q r).mono x) fun n k y kd d' p q => ih n k y kd d' p q
  | dcT a b c d e ih => exact .dcT a b c (fun n k y kd d' p q r => (d n k y kd d' p q r).mono x) fun n k y kd d' p q => ih n k y kd d' p q
  | ins a a2 b b2 c d e ih => exact .ins a a2 b b2 c (fun f y d' p q r => (d f y d' p q r).mono x) fun f y d' p q => ih f y d' p q
/-- its objects stand, its labels stand -/
theorem Tr.frame {A A' : Lb} {v : V} {d : D} (h : Tr K G H A v d) (k : ∀ τ a, A τ = some a → H' a = H a ∧ A' τ = some a) : Tr K G H' A' v d := by
  induction h generalizing A' with
  | lst a b c d e ih => exact .lst (k _ _ a).2 ((k _ _ a).1.trans b) c d fun n y d' p q => ih n y d' p q fun τ a' h => k (_ :: τ) a' h
  | dct a b c d e ih => exact .dct (k _ _ a).2 ((k _ _ a).1.trans b) c d fun n kk y kd d' p q => ih n kk y kd d' p q fun τ a' h => k (_ :: τ) a' h
  | dcT a b c d e ih => exact .dcT (k _ _ a).2 ((k _ _ a).1.trans b) c d fun n kk y kd d' p q => ih n kk y kd d' p q fun τ a' h => k (_ :: τ) a' h
  | ins a a2 b b2 c d e ih => exact .ins (k _ _ a).2 (k _ _ a2).2 ((k _ _ a).1.trans b) ((k _ _ a2).1.trans b2) c d fun f y d' p q => ih f y d' p q fun τ a' h => k (_ :: τ) a' h
theorem fzL_len : ∀ l : List D, (fzL l).length = l.length
  | [] => rfl
  | d :: r => by cases d <;> simp [fzL, fzL_len r]
theorem fzL_get : ∀ (l : List D) (n : Nat), (fzL l)[n]? = (l[n]?).map fun d => match d with | .box c => c.fz | d => d
  | [], n => by simp [fzL]
  | d :: r, 0 => by cases d <;> simp [fzL]
  | d :: r, n + 1 => by cases d <;> simp [fzL, fzL_get r n]
theorem fzK_get : ∀ (l : List (D × D)) (n : Nat), (fzK l)[n]? = (l[n]?).map fun q => (q.1, match q.2 with | .box c => c.fz | d => d)
  | [], n => by simp [fzK]
  | (k, d) :: r, 0 => by cases d <;> simp [fzK]
  | (k, d) :: r, n + 1 => by cases d <;> simp [fzK, fzK_get r n]
theorem fzK_keys : ∀ l : List (D × D), (fzK l).map Prod.fst = l.map Prod.fst
  | [] => rfl
  | (k, d) :: r => by cases d <;> simp [fzK, fzK_keys r]
theorem fzF_get : ∀ (l : List (Str × D)) (f : Str), fsGet (fzF l) f = (fsGet l f).map fun d => match d with | .box c => c.fz | d => d
  | [], f => rfl
  | (k, d) :: r, f => by
    have ih := fzF_get r f
    cases d <;> (simp only [fzF, fsGet]; split <;> first | rfl | exact ih)
/-- it is frozen: all its objects are known from here on -/
theorem Tr.fz {A : Lb} {v : V} {d : D} (h : Tr K G H A v d) (x : Ex G G') (k : ∀ τ a o, A τ = some a → H a = some o → G' a = some o) : Rep K G' v d.fz := by
  induction h with
  | @lst A p xs ds a b c d e ih =>
    refine .lst (k _ _ _ a b) (RepL.of (by rw [fzL_len]; exact c) fun n y d' p q => ?_)
    rw [fzL_get] at q
    obtain ⟨d0, h0, rfl⟩ := Option.map_eq_some_iff.mp q
    cases hd : d0.isBox with
    | false =>
      have z := (d n y d0 p h0 hd).mono x
      cases d0 <;> first | exact z | cases hd
    | true =>
      cases d0 <;> first | exact ih n y _ p h0 fun τ a' o h => k (_ :: τ) a' o h | cases hd
  | @dct A p xs ds a b c d e ih =>
    refine .dct (k _ _ _ a b) (RepK.of (by rw [fzK_keys]; exact c) fun n kk y kd d' p q => ?_)
    rw [fzK_get] at q
    obtain ⟨⟨k0, d0⟩, h0, q0⟩ := Option.map_eq_some_iff.mp q
    simp only [Prod.mk.injEq] at q0
    obtain ⟨rfl, rfl⟩ := q0
    cases hd : d0.isBox with
    | false =>
      have z := (d n kk y k0 d0 p h0 hd).mono x
      cases d0 <;> first | exact z | cases hd
    | true =>
      cases d0 <;> first | exact ih n kk y k0 _ p h0 fun τ a' o h => k (_ :: τ) a' o h | cases hd
  | @dcT A p xs ds a b c d e ih =>
    refine .dcT (k _ _ _ a b) (RepT.of (by rw [fzK_keys]; exact c) fun n kk y kd d' p q => ?_)
    rw [fzK_get] at q
    obtain ⟨⟨k0, d0⟩, h0, q0⟩ := Option.map_eq_some_iff.mp q
    simp only [Prod.mk.injEq] at q0
    obtain ⟨rfl, rfl⟩ := q0
    cases hd : d0.isBox with
    | false =>
      have z := (d n kk y k0 d0 p h0 hd).mono x
      cases d0 <;> first | exact z | cases hd
    | true =>
      cases d0 <;> first | exact ih n kk y k0 _ p h0 fun τ a' o h => k (_ :: τ) a' o h | cases hd
  | @ins A p dx c vs fs a a2 b b2 c d e ih =>
    refine .ins (k _ _ _ a b) (k _ _ _ a2 b2) (fun f => ?_) fun f y d' p q => ?_
    · rw [fzF_get, Option.isSome_map]; exact c f
    · rw [fzF_get] at q
      obtain ⟨d0, h0, rfl⟩ := Option.map_eq_some_iff.mp q
      cases hd : d0.isBox with
      | false =>
        have z := (d f y d0 p h0 hd).mono x
        cases d0 <;> first | exact z | cases hd
      | true =>
        cases d0 <;> first | exact ih f y _ p h0 fun τ a' o h => k (_ :: τ) a' o h | cases hd
/-- a flat one is read -/
theorem Tr.rd {A : Lb} {v : V} {d : D} (h : Tr K G H A v d) (f : d.flat = true) : RdV K G H v d := by
  cases h with
  | lst a b c d e =>
    refine ⟨_, _, rfl, b, RepL.of c fun n y d' p q => d n y d' p q ?_⟩
    have := List.all_eq_true.mp f d' (List.mem_of_getElem? q)
    simpa using this
  | dct a b c d e =>
    refine ⟨_, rfl, .inl ⟨_, b, RepK.of c fun n kk y kd d' p q => d n kk y kd d' p q ?_⟩⟩
    have := List.all_eq_true.mp f _ (List.mem_of_getElem? q)
    simpa using this
  | dcT a b c d e =>
    refine ⟨_, rfl, .inr ⟨_, b, RepT.of c fun n kk y kd d' p q => d n kk y kd d' p q ?_⟩⟩
    have := List.all_eq_true.mp f _ (List.mem_of_getElem? q)
    simpa using this
  | ins a a2 b b2 c d e =>
    refine ⟨_, _, _, rfl, b, b2, c, fun g y d' p q => d g y d' p q ?_⟩
    have key : ∀ l : List (Str × D), (l.all fun p => !p.2.isBox) = true → fsGet l g = some d' → d'.isBox = false := by
      intro l
      induction l with
      | nil => intro _ h; cases h
      | cons z r ih =>
        obtain ⟨k, y⟩ := z
        intro h1 h2
        rw [List.all_cons, Bool.and_eq_true] at h1
        unfold fsGet at h2
        split at h2
        · cases h2; simpa using h1.1
        · exact ih h1.2 h2
    exact key _ f q
/-- the node at a path -/
theorem Tr.node {A : Lb} {v : V} {d c : D} {π : List Pt} (h : Tr K G H A v d) (q : d.at π = some c) : ∃ p, A π = some p ∧ Tr K G H (fun τ => A (π ++ τ)) (.ref p) c := by
  induction π generalizing A v d with
  | nil =>
    cases q
    obtain ⟨p, rfl, a, _⟩ := h.root
    exact ⟨p, a, h⟩
  | cons s π ih =>
    unfold D.at at q
    split at q
    · rename_i d1 hk
      have go : ∀ x, Tr K G H (A.sub s) x d1 → ∃ p, A (s :: π) = some p ∧ Tr K G H (fun τ => A (s :: π ++ τ)) (.ref p) c := fun x t => ih t q
      cases h with
      | @lst _ p xs ds a b l e f =>
        cases s with
        | ix n =>
          have hk' : ds[n]? = some (.box d1) := hk
          have hn : n < xs.length := by rw [l]; exact (List.getElem?_eq_some_iff.mp hk').1
          exact go _ (f n xs[n] d1 (by simp [hn]) hk')
        | fd f => cases hk
        | dx => cases hk
      | @dct _ p xs ds a b l e f =>
        cases s with
        | ix n =>
          have hk' : (ds[n]?).map Prod.snd = some (.box d1) := hk
          obtain ⟨⟨kd, y⟩, h1, h2⟩ := Option.map_eq_some_iff.mp hk'
          simp only at h2
          subst h2
          have hlen : ds.length = xs.length := by simpa using congrArg List.length l
          have hn : n < xs.length := by rw [← hlen]; exact (List.getElem?_eq_some_iff.mp h1).1
          exact go _ (f n xs[n].1 xs[n].2 kd d1 (by simp [hn]) h1)
        | fd f => cases hk
        | dx => cases hk
      | @dcT _ p xs ds a b l e f =>
        cases s with
        | ix n =>
          have hk' : (ds[n]?).map Prod.snd = some (.box d1) := hk
          obtain ⟨⟨kd, y⟩, h1, h2⟩ := Option.map_eq_some_iff.mp hk'
          simp only at h2
          subst h2
          have hlen : ds.length = xs.length := by simpa using congrArg List.length l
          have hn : n < xs.length := by rw [← hlen]; exact (List.getElem?_eq_some_iff.mp h1).1
          exact go _ (f n xs[n].1 xs[n].2 kd d1 (by simp [hn]) h1)
        | fd f => cases hk
        | dx => cases hk
      | @ins _ p dx c0 vs fs a a2 b b2 l e f =>
        cases s with
        | ix n => cases hk
        | fd g =>
          have hk' : fsGet fs g = some (.box d1) := hk
          have hv := l g
          rw [hk'] at hv
          obtain ⟨y, hy⟩ := Option.isSome_iff_exists.mp hv
          exact go _ (f g y d1 hy hk')
        | dx => cases hk
    · cases q
theorem fsGet_set {l : List (Str × D)} {f g : Str} {x : D} : fsGet (fsSet l f x) g = if f = g then some x else fsGet l g := by
  induction l with
  | nil => rfl
  | cons p r ih =>
    obtain ⟨k, v⟩ := p
    unfold fsSet
    split
    · rename_i h
      subst h
      unfold fsGet
      split
      · rfl
      · rfl
    · rename_i h
      unfold fsGet
      rw [ih]
      split
      · rename_i h2
        subst h2
        rw [if_neg (Ne.symm h)]
      · rfl
/-- the node at a path is exchanged -/
theorem Tr.put {A A' : Lb} {v : V} {d c c' : D} {π : List Pt} (h : Tr K G H A v d) (q : d.at π = some c) (hn : ∀ p, A π = some p → Tr K G H' (fun τ => A' (π ++ τ)) (.ref p) c')
    (ho : ∀ τ a, ¬ π <+: τ → A τ = some a → H' a = H a ∧ A' τ = some a) : Tr K G H' A' v (d.put π c') := by
  induction π generalizing A A' v d with
  | nil =>
    obtain ⟨p, rfl, a, _⟩ := h.root
    exact hn p a
  | cons s π ih =>
    have q' := q
    unfold D.at at q
    split at q
    · rename_i d1 hk
      have put_eq : d.put (s :: π) c' = d.kidSet s (.box (d1.put π c')) := by
        show (match d.kid s with
          | some (.box c) => d.kidSet s (.box (c.put π c'))
          | _ => d) = _
        rw [hk]
      rw [put_eq]
      have go : ∀ x, Tr K G H (A.sub s) x d1 → Tr K G H' (A'.sub s) x (d1.put π c') := fun x t => ih t q (fun p hp => hn p hp) fun τ a hτ ha => ho (s :: τ) a (fun z => hτ (by simpa using z)) ha
      have r0 : ∀ a, A [] = some a → H' a = H a ∧ A' [] = some a := fun a ha => ho [] a (by simp) ha
      have other : ∀ s' x d2, s' ≠ s → Tr K G H (A.sub s') x d2 → Tr K G H' (A'.sub s') x d2 := fun s' x d2 hne t => t.frame fun τ a ha => ho (s' :: τ) a (fun z => hne (by simpa using (List.cons_prefix_cons.mp z).1.symm)) ha
      cases h with
      | @lst _ p xs ds a b l e f =>
        cases s with
        | ix n =>
          have hk' : ds[n]? = some (.box d1) := hk
          have hn' : n < ds.length := (List.getElem?_eq_some_iff.mp hk').1
          refine .lst (r0 p a).2 ((r0 p a).1.trans b) (by simpa using l) (fun m x d2 hx hd hb => ?_) fun m x d2 hx hd => ?_
          · by_cases hm : m = n
            · subst hm; rw [List.getElem?_set_self hn'] at hd; cases hd; cases hb
            · rw [List.getElem?_set_ne (Ne.symm hm)] at hd; exact e m x d2 hx hd hb
          · by_cases hm : m = n
            · subst hm; rw [List.getElem?_set_self hn'] at hd; cases hd; exact go x (f m x d1 hx hk')
            · rw [List.getElem?_set_ne (Ne.symm hm)] at hd; exact other _ _ _ (fun z => hm (by cases z; rfl)) (f m x d2 hx hd)
        | fd f => cases hk
        | dx => cases hk
      | @dct _ p xs ds a b l e f =>
        cases s with
        | ix n =>
          have hk' : (ds[n]?).map Prod.snd = some (.box d1) := hk
          obtain ⟨⟨kd, y⟩, h1, h2⟩ := Option.map_eq_some_iff.mp hk'
          simp only at h2
          subst h2
          have hn' : n < ds.length := (List.getElem?_eq_some_iff.mp h1).1
          have se : D.kidSet (.dct ds) (.ix n) (.box (d1.put π c')) = .dct (ds.set n (kd, .box (d1.put π c'))) := by unfold D.kidSet; simp only [h1]
          rw [se]
          refine .dct (r0 p a).2 ((r0 p a).1.trans b) ?_ (fun m k x kd2 d2 hx hd hb => ?_) fun m k x kd2 d2 hx hd => ?_
          · rw [← l, List.map_set]
            apply List.ext_getElem?
            intro m
            by_cases hm : m = n
            · subst hm; rw [List.getElem?_set_self (by simpa using hn'), List.getElem?_map, h1]; rfl
            · rw [List.getElem?_set_ne (Ne.symm hm)]
          · by_cases hm : m = n
            · subst hm; rw [List.getElem?_set_self hn'] at hd; cases hd; cases hb
            · rw [List.getElem?_set_ne (Ne.symm hm)] at hd; exact e m k x kd2 d2 hx hd hb
          · by_cases hm : m = n
            · subst hm; rw [List.getElem?_set_self hn'] at hd; cases hd; exact go x (f m k x _ d1 hx h1)
            · rw [List.getElem?_set_ne (Ne.symm hm)] at hd; exact other _ _ _ (fun z => hm (by cases z; rfl)) (f m k x kd2 d2 hx hd)
        | fd f => cases hk
        | dx => cases hk
      | @dcT _ p xs ds a b l e f =>
        cases s with
        | ix n =>
          have hk' : (ds[n]?).map Prod.snd = some (.box d1) := hk
          obtain ⟨⟨kd, y⟩, h1, h2⟩ := Option.map_eq_some_iff.mp hk'
          simp only at h2
          subst h2
          have hn' : n < ds.length := (List.getElem?_eq_some_iff.mp h1).1
          have se : D.kidSet (.dct ds) (.ix n) (.box (d1.put π c')) = .dct (ds.set n (kd, .box (d1.put π c'))) := by unfold D.kidSet; simp only [h1]
          rw [se]
          refine .dcT (r0 p a).2 ((r0 p a).1.trans b) ?_ (fun m k x kd2 d2 hx hd hb => ?_) fun m k x kd2 d2 hx hd => ?_
          · rw [← l, List.map_set]
            apply List.ext_getElem?
            intro m
            by_cases hm : m = n
            · subst hm; rw [List.getElem?_set_self (by simpa using hn'), List.getElem?_map, h1]; rfl
            · rw [List.getElem?_set_ne (Ne.symm hm)]
          · by_cases hm : m = n
            · subst hm; rw [List.getElem?_set_self hn'] at hd; cases hd; cases hb
            · rw [List.getElem?_set_ne (Ne.symm hm)] at hd; exact e m k x kd2 d2 hx hd hb
          · by_cases hm : m = n
            · subst hm; rw [List.getElem?_set_self hn'] at hd; cases hd; exact go x (f m k x _ d1 hx h1)
            · rw [List.getElem?_set_ne (Ne.symm hm)] at hd; exact other _ _ _ (fun z => hm (by cases z; rfl)) (f m k x kd2 d2 hx hd)
        | fd f => cases hk
        | dx => cases hk
      | @ins _ p dx c0 vs fs a a2 b b2 l e f =>
        cases s with
        | ix n => cases hk
        | fd g =>
          have hk' : fsGet fs g = some (.box d1) := hk
          have rx := ho [.dx] dx (fun z => by simp at z) a2
          refine .ins (r0 p a).2 rx.2 ((r0 p a).1.trans b) (rx.1.trans b2) (fun g' => ?_) (fun g' x d2 hx hd hb => ?_) fun g' x d2 hx hd => ?_
          · rw [fsGet_set]
            split
            · rename_i h; subst h; rw [l g, hk']; rfl
            · exact l g'
          · rw [fsGet_set] at hd
            split at hd
            · cases hd; cases hb
            · exact e g' x d2 hx hd hb
          · rw [fsGet_set] at hd
            split at hd
            · rename_i h; subst h; cases hd; exact go x (f g x d1 hx hk')
            · rename_i h; exact other _ _ _ (fun z => h (by cases z; rfl)) (f g' x d2 hx hd)
        | dx => cases hk
    · cases q
end
end Qv
namespace Qv
open PySem L2
open Evl (Ex)

/-! ### the state -/
abbrev Pn := List (Nat × Addr)
abbrev LA := Nat → Lb
def Owd (A : LA) (a : Addr) : Prop := ∃ i τ, A i τ = some a
def Slot.io : Slot → Bool
  | .ow true _ => true
  | .nt true _ => true
  | _ => false
/-- an owned flat object's content -/
def OwnR (K : PySem.W.Frag) (G H : Hp) (p : Addr) : D → Prop
  | .lst ds => ∃ xs, H p = some (.lst xs) ∧ RepL K G xs ds
  | .dct es => (∃ kvs, H p = some (.dK kvs) ∧ RepK K G kvs es) ∨ ∃ kvs, H p = some (.dT kvs) ∧ RepT K G kvs es
  | _ => False
def SlR (K : PySem.W.Frag) (G H : Hp) (L : Lb) : Slot → Option (Option V) → Prop
  | .em, _ => True
  | .sh d, o => ∃ v, o = some (some v) ∧ Rep K G v d
  | .ow _ d, o => ∃ p, o = some (some (.ref p)) ∧ L [] = some p ∧ OwnR K G H p d
  | .nt _ d, o => ∃ v, o = some (some v) ∧ Tr K G H L v d
structure RelG (K : PySem.W.Frag) (pn : Pn) (A : LA) (e : En) (σ : L2.St) (G R H : Hp) : Prop where
  gh : Ex G H
  rh : Ex R H
  dj : ∀ a, R a ≠ none → G a = none
  len : e.length = σ.length
  own : ∀ i τ a, A i τ = some a → G a = none ∧ R a = none ∧ H a ≠ none
  inj : ∀ i τ j π a, A i τ = some a → A j π = some a → i = j ∧ τ = π
  sl : ∀ (i : Nat) (s : Slot), e[i]? = some s → SlR K G H (A i) s σ[i]?
  pin : ∀ q ∈ pn, σ[q.1]? = some (some (.ref q.2)) ∧ ∃ s, e[q.1]? = some s ∧ s.io = true
def LInj (B : Lb) : Prop := ∀ τ π a, B τ = some a → B π = some a → τ = π
def one (p : Addr) : Lb
  | [] => some p
  | _ :: _ => none
theorem one_eq {p a : Addr} : ∀ {τ : List Pt}, one p τ = some a → τ = [] ∧ a = p
  | [], h => by cases h; exact ⟨rfl, rfl⟩
  | _ :: _, h => by cases h
/-- a fresh tree -/
def FrT (K : PySem.W.Frag) (A : LA) (G R H : Hp) (B : Lb) (v : V) (d : D) : Prop := Tr K G H B v d ∧ LInj B ∧ ∀ τ a, B τ = some a → G a = none ∧ R a = none ∧ H a ≠ none ∧ ¬ Owd A a
def RepVal (K : PySem.W.Frag) (A : LA) (G R H : Hp) (e : En) (σ : L2.St) (v : V) : Val → Prop
  | .sh d => Rep K G v d
  | .fr d => ∃ p, v = .ref p ∧ G p = none ∧ R p = none ∧ ¬ Owd A p ∧ OwnR K G H p d
  | .ow i => σ[i]? = some (some v) ∧ ∃ (b : Bool) (d : D), e[i]? = some (.ow b d)
  | .fn d => ∃ B, FrT K A G R H B v d
  | .np i π => ∃ b d c p, e[i]? = some (.nt b d) ∧ d.at π = some c ∧ v = .ref p ∧ A i π = some p
section
variable {K : PySem.W.Frag} {pn : Pn} {A : LA} {e : En} {σ : L2.St} {G G' R H H' : Hp} {v : V} {val : Val}
theorem OwnR.isS {p : Addr} {d : D} (h : OwnR K G H p d) : ∃ o, H p = some o := by
  cases d with
  | lst ds => obtain ⟨xs, h, _⟩ := h; exact ⟨_, h⟩
  | dct es => rcases h with ⟨xs, h, _⟩ | ⟨xs, h, _⟩ <;> exact ⟨_, h⟩
  | _ => exact h.elim
theorem OwnR.rdv {p : Addr} {d : D} (h : OwnR K G H p d) : RdV K G H (.ref p) d := by
  cases d with
  | lst ds => obtain ⟨xs, h, r⟩ := h; exact ⟨_, _, rfl, h, r⟩
  | dct es => exact ⟨_, rfl, h⟩
  | _ => exact h.elim
theorem OwnR.monoG {p : Addr} {d : D} (x : Ex G G') (h : OwnR K G H p d) : OwnR K G' H p d := by
  cases d with
  | lst ds => obtain ⟨xs, h, r⟩ := h; exact ⟨xs, h, r.mono x⟩
  | dct es =>
    rcases h with ⟨xs, h, r⟩ | ⟨xs, h, r⟩
    · exact .inl ⟨xs, h, r.mono x⟩
    · exact .inr ⟨xs, h, r.mono x⟩
  | _ => exact h.elim
theorem OwnR.at {p : Addr} {d : D} (x : H' p = H p) (h : OwnR K G H p d) : OwnR K G H' p d := by
  cases d with
  | lst ds => obtain ⟨xs, h, r⟩ := h; exact ⟨xs, x.trans h, r⟩
  | dct es =>
    rcases h with ⟨xs, h, r⟩ | ⟨xs, h, r⟩
    · exact .inl ⟨xs, x.trans h, r⟩
    · exact .inr ⟨xs, x.trans h, r⟩
  | _ => exact h.elim
theorem RepL.nobox : ∀ {vs : List V} {ds : List D}, RepL K H vs ds → ∀ (n : Nat) d, ds[n]? ≠ some (.box d)
  | _, _, .nil, n, d => by simp
  | _, _, .cons h r, 0, d => fun z => by simp at z; subst z; cases h
  | _, _, .cons h r, n + 1, d => fun z => RepL.nobox r n d (by simpa using z)
theorem RepK.nobox : ∀ {vs : List (Key × V)} {ds : List (D × D)}, RepK K H vs ds → ∀ (n : Nat) k d, ds[n]? ≠ some (k, .box d)
  | _, _, .nil, n, k, d => by simp
  | _, _, .cons h r, 0, k, d => fun z => by simp at z; obtain ⟨_, rfl⟩ := z; cases h
  | _, _, .cons h r, n + 1, k, d => fun z => RepK.nobox r n k d (by simpa using z)
theorem RepT.nobox : ∀ {vs : List (List Key × V)} {ds : List (D × D)}, RepT K H vs ds → ∀ (n : Nat) k d, ds[n]? ≠ some (k, .box d)
  | _, _, .nil, n, k, d => by simp
  | _, _, .cons h r, 0, k, d => fun z => by simp at z; obtain ⟨_, rfl⟩ := z; cases h
  | _, _, .cons h r, n + 1, k, d => fun z => RepT.nobox r n k d (by simpa using z)
theorem RepK.get : ∀ {vs : List (Key × V)} {ds : List (D × D)}, RepK K H vs ds → ∀ (n : Nat) k v kd d, vs[n]? = some (k, v) → ds[n]? = some (kd, d) → Rep K H v d
  | _, _, .nil, n, k, v, kd, d, a, b => by simp at a
  | _, _, .cons h r, 0, k, v, kd, d, a, b => by simp at a b; obtain ⟨_, rfl⟩ := a; obtain ⟨_, rfl⟩ := b; exact h
  | _, _, .cons h r, n + 1, k, v, kd, d, a, b => RepK.get r n k v kd d (by simpa using a) (by simpa using b)
theorem RepT.get : ∀ {vs : List (List Key × V)} {ds : List (D × D)}, RepT K H vs ds → ∀ (n : Nat) k v kd d, vs[n]? = some (k, v) → ds[n]? = some (kd, d) → Rep K H v d
  | _, _, .nil, n, k, v, kd, d, a, b => by simp at a
  | _, _, .cons h r, 0, k, v, kd, d, a, b => by simp at a b; obtain ⟨_, rfl⟩ := a; obtain ⟨_, rfl⟩ := b; exact h
  | _, _, .cons h r, n + 1, k, v, kd, d, a, b => RepT.get r n k v kd d (by simpa using a) (by simpa using b)
/-- a flat one is a tree of one node -/
theorem OwnR.tr {p : Addr} {d : D} {L : Lb} (h : OwnR K G H p d) (l : L [] = some p) : Tr K G H L (.ref p) d := by
  cases d with
  | lst ds =>
    obtain ⟨xs, h, r⟩ := h
    refine .lst l h r.length (fun n x d a b _ => ?_) fun n x d a b => absurd b (r.nobox n d)
    obtain ⟨v, c1, c2⟩ := r.get b
    rw [a] at c1; cases c1; exact c2
  | dct es =>
    rcases h with ⟨xs, h, r⟩ | ⟨xs, h, r⟩
    · exact .dct l h r.keys (fun n k x kd d a b _ => r.get n k x kd d a b) fun n k x kd d a b => absurd b (r.nobox n kd d)
    · exact .dcT l h r.keys (fun n k x kd d a b _ => r.get n k x kd d a b) fun n k x kd d a b => absurd b (r.nobox n kd d)
  | _ => exact h.elim
theorem fzL_id : ∀ {l : List D}, (∀ (n : Nat) d, l[n]? ≠ some (.box d)) → fzL l = l
  | [], _ => rfl
  | d :: r, h => by
    have ih := fzL_id (l := r) fun n d z => h (n + 1) d (by simpa using z)
    cases d <;> first
      | (exact absurd rfl (h 0 _))
      | (unfold fzL; rw [ih])
theorem fzK_id : ∀ {l : List (D × D)}, (∀ (n : Nat) k d, l[n]? ≠ some (k, .box d)) → fzK l = l
  | [], _ => rfl
  | (k, d) :: r, h => by
    have ih := fzK_id (l := r) fun n k d z => h (n + 1) k d (by simpa using z)
    cases d <;> first
      | (exact absurd rfl (h 0 _ _))
      | (unfold fzK; rw [ih])
theorem OwnR.fz {p : Addr} {d : D} (h : OwnR K G H p d) : d.fz = d := by
  cases d with
  | lst ds => obtain ⟨xs, h, r⟩ := h; show D.lst (fzL ds) = _; rw [fzL_id r.nobox]
  | dct es =>
    rcases h with ⟨xs, h, r⟩ | ⟨xs, h, r⟩
    · show D.dct (fzK es) = _; rw [fzK_id r.nobox]
    · show D.dct (fzK es) = _; rw [fzK_id r.nobox]
  | _ => exact h.elim
theorem OwnR.of_flat {p : Addr} {d : D} (h : RdV K G H (.ref p) d) (m : ∃ l, d = .lst l ∨ ∃ l, d = .dct l) : OwnR K G H p d := by
  obtain ⟨l, rfl | ⟨l, rfl⟩⟩ := m
  · obtain ⟨a, xs, e, h, r⟩ := h; cases e; exact ⟨xs, h, r⟩
  · obtain ⟨a, e, h⟩ := h; cases e; exact h
theorem SlR.monoG {L : Lb} {s : Slot} {o : Option (Option V)} (x : Ex G G') (h : SlR K G H L s o) : SlR K G' H L s o := by
  cases s with
  | em => exact trivial
  | sh d => obtain ⟨v, a, b⟩ := h; exact ⟨v, a, b.mono x⟩
  | ow b d => obtain ⟨p, a, l, c⟩ := h; exact ⟨p, a, l, c.monoG x⟩
  | nt b d => obtain ⟨v, a, c⟩ := h; exact ⟨v, a, c.monoG x⟩
theorem SlR.frame {L L' : Lb} {s : Slot} {o : Option (Option V)} (h : SlR K G H L s o) (k : ∀ τ a, L τ = some a → H' a = H a ∧ L' τ = some a) : SlR K G H' L' s o := by
  cases s with
  | em => exact trivial
  | sh d => exact h
  | ow b d => obtain ⟨p, a, l, c⟩ := h; exact ⟨p, a, (k _ _ l).2, c.at (k _ _ l).1⟩
  | nt b d => obtain ⟨v, a, c⟩ := h; exact ⟨v, a, c.frame k⟩
/-- what an owning slot holds is a tree -/
theorem RelG.tree {i : Nat} {b : Bool} {d : D} (g : RelG K pn A e σ G R H) (h : e[i]? = some (.ow b d) ∨ e[i]? = some (.nt b d)) : ∃ p, σ[i]? = some (some (.ref p)) ∧ A i [] = some p ∧ Tr K G H (A i) (.ref p) d := by
  rcases h with h | h
  · obtain ⟨p, a, l, c⟩ := g.sl i _ h
    exact ⟨p, a, l, c.tr l⟩
  · obtain ⟨v, a, c⟩ := g.sl i _ h
    obtain ⟨p, rfl, l, _⟩ := c.root
    exact ⟨p, a, l, c⟩
theorem RelG.own_ow {i : Nat} {b : Bool} {d : D} (g : RelG K pn A e σ G R H) (h : e[i]? = some (.ow b d)) : ∃ p, σ[i]? = some (some (.ref p)) ∧ A i [] = some p ∧ G p = none ∧ R p = none ∧ OwnR K G H p d := by
  obtain ⟨p, a, l, c⟩ := g.sl i _ h
  exact ⟨p, a, l, (g.own _ _ _ l).1, (g.own _ _ _ l).2.1, c⟩
/-- a value is read -/
theorem RelG.rd {d : D} {e' : En} (g : RelG K pn A e σ G R H) (r : RepVal K A G R H e σ v val) (h : der val e = .ok (d, e')) : e' = e ∧ RdV K G H v d := by
  cases val with
  | sh d' => cases h; exact ⟨rfl, RdV.of g.gh r⟩
  | fr d' =>
    cases h
    obtain ⟨p, rfl, _, _, _, h⟩ := r
    exact ⟨rfl, h.rdv⟩
  | ow i =>
    obtain ⟨h1, b, d', h2⟩ := r
    unfold der at h
    simp only [h2] at h
    cases h
    obtain ⟨p, h3, _, _, _, h4⟩ := g.own_ow h2
    rw [h1] at h3
    cases h3
    exact ⟨rfl, h4.rdv⟩
  | fn d' => cases h
  | np i π =>
    obtain ⟨b, d', c, p, h1, h2, rfl, h3⟩ := r
    unfold der at h
    simp only [h1, h2] at h
    split at h
    · rename_i hf
      cases h
      obtain ⟨q, _, _, t⟩ := g.tree (.inr h1)
      obtain ⟨p', k1, k2⟩ := t.node h2
      rw [h3] at k1
      cases k1
      exact ⟨rfl, k2.rd hf⟩
    · cases h
/-- more is known -/
theorem RelG.grow (x : Ex G G') (gh : Ex G' H) (dj : ∀ a, R a ≠ none → G' a = none) (hn : ∀ a, Owd A a → G' a = none) (g : RelG K pn A e σ G R H) : RelG K pn A e σ G' R H where
  gh := gh
  rh := g.rh
  dj := dj
  len := g.len
  own := fun i τ a h => ⟨hn a ⟨i, τ, h⟩, (g.own i τ a h).2⟩
  inj := g.inj
  sl := fun i s h => (g.sl i s h).monoG x
  pin := g.pin
open Classical in
/-- G and all that B names -/
noncomputable def upB (G H : Hp) (B : Lb) : Hp := fun a => if ∃ τ, B τ = some a then H a else G a
theorem upB_ex {B : Lb} (h : ∀ τ a, B τ = some a → G a = none) : Ex G (upB G H B) := fun a u q => by
  unfold upB
  rw [if_neg]
  · exact q
  · rintro ⟨τ, z⟩; rw [h τ a z] at q; cases q
theorem upB_in {B : Lb} {τ : List Pt} {a : Addr} (h : B τ = some a) : upB G H B a = H a := by
  unfold upB; rw [if_pos ⟨τ, h⟩]
theorem upB_out {B : Lb} {a : Addr} (h : ∀ τ, B τ ≠ some a) : upB G H B a = G a := by
  unfold upB; rw [if_neg fun ⟨τ, z⟩ => h τ z]
theorem upB_gh {B : Lb} (gh : Ex G H) : Ex (upB G H B) H := fun a u q => by
  unfold upB at q
  split at q
  · exact q
  · exact gh _ _ q
/-- a fresh tree is shared -/
theorem RelG.shareN {d : D} {B : Lb} (g : RelG K pn A e σ G R H) (r : FrT K A G R H B v d) : ∃ G', Ex G G' ∧ RelG K pn A e σ G' R H ∧ Rep K G' v d.fz := by
  obtain ⟨t, ij, nw⟩ := r
  have x : Ex G (upB G H B) := upB_ex fun τ a h => (nw τ a h).1
  refine ⟨_, x, g.grow x (upB_gh g.gh) (fun a ha => ?_) (fun a ha => ?_), t.fz x fun τ a o h q => by rw [upB_in h]; exact q⟩
  · rw [upB_out fun τ z => ha (nw τ a z).2.1]; exact g.dj a ha
  · rw [upB_out fun τ z => (nw τ a z).2.2.2 ha]; obtain ⟨i, τ, h⟩ := ha; exact (g.own i τ a h).1
theorem RepVal.frT {d : D} (g : RelG K pn A e σ G R H) (r : RepVal K A G R H e σ v (.fr d)) : ∃ B, FrT K A G R H B v d := by
  obtain ⟨p, rfl, h1, h2, h3, h4⟩ := r
  refine ⟨one p, h4.tr rfl, fun τ π a h h' => by rw [(one_eq h).1, (one_eq h').1], fun τ a h => ?_⟩
  obtain ⟨_, rfl⟩ := one_eq h
  obtain ⟨o, ho⟩ := h4.isS
  exact ⟨h1, h2, by rw [ho]; simp, h3⟩
theorem OwnR.of_fr {d : D} {p : Addr} (r : RepVal K A G R H e σ (.ref p) (.fr d)) : OwnR K G H p d := by
  obtain ⟨p', e1, _, _, _, h⟩ := r
  cases e1
  exact h
/-- a new object of nobody's is shared -/
theorem RelG.share {d : D} (g : RelG K pn A e σ G R H) (r : RepVal K A G R H e σ v (.fr d)) : ∃ G', Ex G G' ∧ RelG K pn A e σ G' R H ∧ Rep K G' v d := by
  obtain ⟨B, fr⟩ := r.frT g
  obtain ⟨G', x, g', r'⟩ := g.shareN fr
  obtain ⟨p, _, _, _, _, o⟩ := r
  rw [o.fz] at r'
  exact ⟨G', x, g', r'⟩
theorem getElem?_setB {α : Type} {l : List α} {i : Nat} {x : α} (h : i < l.length) : (l.set i x)[i]? = some x := by simp [h]
theorem set_ne {α : Type} {l : List α} {i j : Nat} {x : α} (h : j ≠ i) : (l.set i x)[j]? = l[j]? := List.getElem?_set_ne (Ne.symm h)
def LA.set (A : LA) (i : Nat) (L : Lb) : LA := fun j => if j = i then L else A j
theorem LA.set_eq {A : LA} {i : Nat} {L : Lb} : A.set i L i = L := if_pos rfl
theorem LA.set_ne {A : LA} {i j : Nat} {L : Lb} (h : j ≠ i) : A.set i L j = A j := if_neg h
/-- slot i alone is changed: its content, what it names, what stands there -/
theorem RelG.slot {i : Nat} {s : Slot} {L : Lb} {σ' : L2.St} (g : RelG K pn A e σ G R H) (hi : i < e.length) (hs : SlR K G H' L s σ'[i]?) (hl : σ'.length = σ.length) (ho : ∀ j, j ≠ i → σ'[j]? = σ[j]?)
    (keep : ∀ a, (G a ≠ none ∨ R a ≠ none ∨ ∃ j τ, j ≠ i ∧ A j τ = some a) → H' a = H a)
    (own : ∀ τ a, L τ = some a → G a = none ∧ R a = none ∧ H' a ≠ none ∧ ∀ j π, j ≠ i → A j π ≠ some a) (ij : LInj L)
    (hp : ∀ q ∈ pn, q.1 = i → σ'[i]? = some (some (.ref q.2)) ∧ s.io = true) : RelG K pn (A.set i L) (e.set i s) σ' G R H' where
  gh := fun a u q => by rw [keep a (.inl (by rw [q]; simp))]; exact g.gh _ _ q
  rh := fun a u q => by rw [keep a (.inr (.inl (by rw [q]; simp)))]; exact g.rh _ _ q
  dj := g.dj
  len := by rw [List.length_set, hl]; exact g.len
  own := fun j τ a h => by
    by_cases hj : j = i
    · subst hj; rw [LA.set_eq] at h; obtain ⟨a1, a2, a3, _⟩ := own τ a h; exact ⟨a1, a2, a3⟩
    · rw [LA.set_ne hj] at h
      obtain ⟨a1, a2, a3⟩ := g.own j τ a h
      exact ⟨a1, a2, by rw [keep a (.inr (.inr ⟨j, τ, hj, h⟩))]; exact a3⟩
  inj := fun j τ k π a h h' => by
    by_cases hj : j = i
    · subst hj
      rw [LA.set_eq] at h
      by_cases hk : k = j
      · subst hk; rw [LA.set_eq] at h'; exact ⟨rfl, ij _ _ _ h h'⟩
      · rw [LA.set_ne hk] at h'; exact absurd h' ((own τ a h).2.2.2 k π hk)
    · rw [LA.set_ne hj] at h
      by_cases hk : k = i
      · subst hk; rw [LA.set_eq] at h'; exact absurd h ((own π a h').2.2.2 j τ hj)
      · rw [LA.set_ne hk] at h'; exact g.inj _ _ _ _ _ h h'
  sl := fun j t q => by
    by_cases hj : j = i
    · subst hj; rw [getElem?_setB hi] at q; cases q; rw [LA.set_eq]; exact hs
    · rw [Qv.set_ne hj] at q
      rw [ho j hj, LA.set_ne hj]
      exact (g.sl j t q).frame fun τ a h => ⟨keep a (.inr (.inr ⟨j, τ, hj, h⟩)), h⟩
  pin := fun q hq => by
    obtain ⟨a, t, b, c⟩ := g.pin q hq
    by_cases hj : q.1 = i
    · obtain ⟨z1, z2⟩ := hp q hq hj
      rw [hj]
      exact ⟨z1, s, getElem?_setB hi, z2⟩
    · rw [ho _ hj, Qv.set_ne hj]; exact ⟨a, t, b, c⟩
/-- an owning slot (not the caller's) is shared -/
theorem RelG.frz {i : Nat} {d : D} (g : RelG K pn A e σ G R H) (h : e[i]? = some (.ow false d) ∨ e[i]? = some (.nt false d)) (hv : σ[i]? = some (some v)) : ∃ A' G', Ex G G' ∧ RelG K pn A' (e.set i (.sh d.fz)) σ G' R H ∧ Rep K G' v d.fz := by
  obtain ⟨p, h1, h2, h3⟩ := g.tree h
  rw [hv] at h1
  cases h1
  have hi : i < e.length := by rcases h with h | h <;> exact (List.getElem?_eq_some_iff.mp h).1
  have x : Ex G (upB G H (A i)) := upB_ex fun τ a h => (g.own i τ a h).1
  have hrep : Rep K (upB G H (A i)) (.ref p) d.fz := h3.fz x fun τ a o h q => by rw [upB_in h]; exact q
  have hio : ∀ q ∈ pn, q.1 ≠ i := fun q hq z => by
    obtain ⟨_, s, b, c⟩ := g.pin q hq
    rw [z] at b
    rcases h with h | h <;> (rw [h] at b; cases b; cases c)
  have nG : ∀ j τ a, j ≠ i → A j τ = some a → upB G H (A i) a = none := fun j τ a hj z => by
    rw [upB_out fun π w => hj (g.inj _ _ _ _ _ z w).1]; exact (g.own j τ a z).1
  refine ⟨A.set i fun _ => none, _, x, ?_, hrep⟩
  have g2 : RelG K pn (A.set i fun _ => none) (e.set i .em) σ G R H := g.slot hi trivial rfl (fun _ _ => rfl) (fun _ _ => rfl) (fun τ a z => nomatch z) (fun τ π a z => nomatch z) fun q hq z => absurd z (hio q hq)
  have g3 := RelG.grow x (upB_gh g.gh) (fun a ha => by rw [upB_out fun τ z => ha (g.own i τ a z).2.1]; exact g.dj a ha) (fun a ha => by
    obtain ⟨j, τ, z⟩ := ha
    by_cases hj : j = i
    · subst hj; rw [LA.set_eq] at z; cases z
    · rw [LA.set_ne hj] at z; exact nG j τ a hj z) g2
  have g4 := RelG.slot (i := i) (s := .sh d.fz) (L := fun _ => none) (σ' := σ) (H' := H) g3 (by simpa using hi) ⟨_, hv, hrep⟩ rfl (fun _ _ => rfl) (fun _ _ => rfl) (fun τ a z => nomatch z) (fun τ π a z => nomatch z) fun q hq z => absurd z (hio q hq)
  rw [List.set_set] at g4
  have eA : (A.set i fun _ => none).set i (fun _ => none) = A.set i fun _ => none := by
    funext j; unfold LA.set; split <;> rfl
  rw [eA] at g4
  exact g4
/-- a new object is laid: shared -/
theorem RelG.laid {p : Addr} {o : HO} (g : RelG K pn A e σ G R H) (h : H p = none) : RelG K pn A e σ (upd G p o) R (upd H p o) ∧ Ex G (upd G p o) := by
  have hG : G p = none := Evl.fresh_back g.gh h
  have hR : R p = none := Evl.fresh_back g.rh h
  have x : Ex G (upd G p o) := Ex.new hG
  have hH : Ex H (upd H p o) := Ex.new h
  have no : ∀ i τ a, A i τ = some a → a ≠ p := fun i τ a z w => (g.own i τ a z).2.2 (by rw [w]; exact h)
  refine ⟨⟨fun a u q => ?_, g.rh.trans hH, fun a ha => ?_, g.len, fun i τ a z => ?_, g.inj, fun i s q => ?_, g.pin⟩, x⟩
  · by_cases ha : a = p
    · subst ha; rw [upd_same] at q ⊢; exact q
    · rw [upd_ne ha] at q ⊢; exact g.gh _ _ q
  · rw [upd_ne (show a ≠ p from fun z => ha (by rw [z]; exact hR))]; exact g.dj a ha
  · obtain ⟨a1, a2, a3⟩ := g.own i τ a z
    rw [upd_ne (no i τ a z), upd_ne (no i τ a z)]
    exact ⟨a1, a2, a3⟩
  · exact ((g.sl i s q).frame fun τ a z => ⟨upd_ne (no i τ a z), z⟩).monoG x
/-- a new object is laid: nobody's -/
theorem RelG.laidF {p : Addr} {o : HO} (g : RelG K pn A e σ G R H) (h : H p = none) : RelG K pn A e σ G R (upd H p o) ∧ G p = none ∧ R p = none ∧ ¬ Owd A p := by
  have hG : G p = none := Evl.fresh_back g.gh h
  have hR : R p = none := Evl.fresh_back g.rh h
  have hH : Ex H (upd H p o) := Ex.new h
  have no : ∀ i τ a, A i τ = some a → a ≠ p := fun i τ a z w => (g.own i τ a z).2.2 (by rw [w]; exact h)
  refine ⟨⟨g.gh.trans hH, g.rh.trans hH, g.dj, g.len, fun i τ a z => ?_, g.inj, fun i s q => ?_, g.pin⟩, hG, hR, fun ⟨i, τ, z⟩ => no i τ p z rfl⟩
  · obtain ⟨a1, a2, a3⟩ := g.own i τ a z
    exact ⟨a1, a2, by rw [upd_ne (no i τ a z)]; exact a3⟩
  · exact (g.sl i s q).frame fun τ a z => ⟨upd_ne (no i τ a z), z⟩
/-- a slot is written: shared -/
theorem RelG.putS {i : Nat} {d : D} (g : RelG K pn A e σ G R H) (hi : i < e.length) (hn : ∀ s, e[i]? = some s → s.io = false) (hs : Rep K G v d) : ∃ A', RelG K pn A' (e.set i (.sh d)) (σ.set i (some v)) G R H := by
  have hi2 : i < σ.length := by rw [← g.len]; exact hi
  refine ⟨A.set i fun _ => none, g.slot hi ⟨v, getElem?_setB hi2, hs⟩ (by simp) (fun j hj => Qv.set_ne hj) (fun _ _ => rfl) (fun τ a z => nomatch z) (fun τ π a z => nomatch z) fun q hq z => ?_⟩
  obtain ⟨_, s, b, c⟩ := g.pin q hq
  rw [z] at b
  rw [hn s b] at c; cases c
/-- .. a fresh flat object -/
theorem RelG.putO {i : Nat} {d : D} (g : RelG K pn A e σ G R H) (hi : i < e.length) (hn : ∀ s, e[i]? = some s → s.io = false) (hs : RepVal K A G R H e σ v (.fr d)) : RelG K pn (A.set i (match v with | .ref p => one p | _ => fun _ => none)) (e.set i (.ow false d)) (σ.set i (some v)) G R H := by
  have hi2 : i < σ.length := by rw [← g.len]; exact hi
  obtain ⟨p, rfl, h1, h2, h3, h4⟩ := hs
  obtain ⟨o, ho⟩ := h4.isS
  refine g.slot hi ⟨p, getElem?_setB hi2, rfl, h4⟩ (by simp) (fun j hj => Qv.set_ne hj) (fun _ _ => rfl) (fun τ a z => ?_) (fun τ π a z w => by rw [(one_eq z).1, (one_eq w).1]) fun q hq z => ?_
  · obtain ⟨_, rfl⟩ := one_eq z
    exact ⟨h1, h2, by rw [ho]; simp, fun j π _ w => h3 ⟨j, π, w⟩⟩
  · obtain ⟨_, s, b, c⟩ := g.pin q hq
    rw [z] at b
    rw [hn s b] at c; cases c
/-- .. a fresh tree -/
theorem RelG.putN {i : Nat} {d : D} {B : Lb} (g : RelG K pn A e σ G R H) (hi : i < e.length) (hn : ∀ s, e[i]? = some s → s.io = false) (hs : FrT K A G R H B v d) : RelG K pn (A.set i B) (e.set i (.nt false d)) (σ.set i (some v)) G R H := by
  have hi2 : i < σ.length := by rw [← g.len]; exact hi
  obtain ⟨t, ij, nw⟩ := hs
  refine g.slot hi ⟨v, getElem?_setB hi2, t⟩ (by simp) (fun j hj => Qv.set_ne hj) (fun _ _ => rfl) (fun τ a z => ?_) ij fun q hq z => ?_
  · obtain ⟨a1, a2, a3, a4⟩ := nw τ a z
    exact ⟨a1, a2, a3, fun j π _ w => a4 ⟨j, π, w⟩⟩
  · obtain ⟨_, s, b, c⟩ := g.pin q hq
    rw [z] at b
    rw [hn s b] at c; cases c
/-- an owned flat object's content is written -/
theorem RelG.updO {i : Nat} {b : Bool} {d d' : D} {p : Addr} {o : HO} (g : RelG K pn A e σ G R H) (h : e[i]? = some (.ow b d)) (hv : σ[i]? = some (some (.ref p))) (ho : OwnR K G (upd H p o) p d') : RelG K pn (A.set i (A i)) (e.set i (.ow b d')) σ G R (upd H p o) := by
  obtain ⟨p', h1, h2, h3, h4, h5⟩ := g.own_ow h
  rw [hv] at h1
  cases h1
  have hi : i < e.length := (List.getElem?_eq_some_iff.mp h).1
  refine g.slot hi ⟨p, hv, h2, ho⟩ rfl (fun _ _ => rfl) (fun a ha => upd_ne fun z => ?_) (fun τ a z => ?_) (fun τ π a z w => (g.inj _ _ _ _ _ z w).2) fun q hq z => ?_
  · subst z
    rcases ha with ha | ha | ⟨j, τ, hj, ha⟩
    · exact ha h3
    · exact ha h4
    · exact hj (g.inj _ _ _ _ _ ha h2).1
  · obtain ⟨a1, a2, a3⟩ := g.own i τ a z
    refine ⟨a1, a2, ?_, fun j π hj w => hj (g.inj _ _ _ _ _ w z).1⟩
    by_cases ha : a = p
    · subst ha; rw [upd_same]; simp
    · rw [upd_ne ha]; exact a3
  · obtain ⟨a1, s, b1, c1⟩ := g.pin q hq
    rw [z] at b1 a1
    rw [h] at b1
    cases b1
    refine ⟨a1, ?_⟩
    cases b
    · cases c1
    · rfl
theorem LA.set_self {A : LA} {i : Nat} : A.set i (A i) = A := by
  funext j; unfold LA.set; split
  · rename_i h; rw [h]
  · rfl
/-- what is framed grows smaller -/
theorem RelG.weakR {R' : Hp} (g : RelG K pn A e σ G R' H) (x : Ex R R') : RelG K pn A e σ G R H where
  gh := g.gh
  rh := x.trans g.rh
  dj := fun a ha => g.dj a fun z => ha (by
    cases q : R a with
    | none => rfl
    | some o => rw [x _ _ q] at z; cases z)
  len := g.len
  own := fun i τ a h => by
    obtain ⟨a1, a2, a3⟩ := g.own i τ a h
    refine ⟨a1, ?_, a3⟩
    cases q : R a with
    | none => rfl
    | some o => rw [x _ _ q] at a2; cases a2
  inj := g.inj
  sl := g.sl
  pin := g.pin
theorem low {R' : Hp} (x : Ex R R') {p : Addr} (z : R' p = none) : R p = none := by
  cases q : R p with
  | none => rfl
  | some o => rw [x _ _ q] at z; cases z
theorem RepVal.weakR {R' : Hp} (r : RepVal K A G R' H e σ v val) (x : Ex R R') : RepVal K A G R H e σ v val := by
  cases val with
  | sh d => exact r
  | ow i => exact r
  | fr d => obtain ⟨p, h1, h2, h3, h4⟩ := r; exact ⟨p, h1, h2, low x h3, h4⟩
  | fn d => obtain ⟨B, t, ij, nw⟩ := r; exact ⟨B, t, ij, fun τ a z => ⟨(nw τ a z).1, low x (nw τ a z).2.1, (nw τ a z).2.2⟩⟩
  | np i π => exact r
/-- objects of nobody's are framed -/
theorem RelG.addB {B : Lb} (g : RelG K pn A e σ G R H) (nw : ∀ τ a, B τ = some a → G a = none ∧ R a = none ∧ H a ≠ none ∧ ¬ Owd A a) : RelG K pn A e σ G (upB R H B) H ∧ Ex R (upB R H B) := by
  refine ⟨⟨g.gh, upB_gh g.rh, fun a ha => ?_, g.len, fun i τ a h => ?_, g.inj, g.sl, g.pin⟩, upB_ex fun τ a h => (nw τ a h).2.1⟩
  · by_cases z : ∃ τ, B τ = some a
    · obtain ⟨τ, z⟩ := z; exact (nw τ a z).1
    · rw [upB_out fun τ w => z ⟨τ, w⟩] at ha; exact g.dj a ha
  · obtain ⟨a1, a2, a3⟩ := g.own i τ a h
    refine ⟨a1, ?_, a3⟩
    rw [upB_out fun π w => (nw π a w).2.2.2 ⟨i, τ, h⟩]; exact a2
theorem RelG.addR {p : Addr} {o : HO} (g : RelG K pn A e σ G R H) (h1 : G p = none) (h2 : H p = some o) (h3 : ¬ Owd A p) : RelG K pn A e σ G (upd R p o) H where
  gh := g.gh
  rh := fun a u q => by
    by_cases ha : a = p
    · subst ha; rw [upd_same] at q; cases q; exact h2
    · rw [upd_ne ha] at q; exact g.rh _ _ q
  dj := fun a ha => by
    by_cases hp : a = p
    · rw [hp]; exact h1
    · rw [upd_ne hp] at ha; exact g.dj a ha
  len := g.len
  own := fun i τ a h => by
    obtain ⟨a1, a2, a3⟩ := g.own i τ a h
    exact ⟨a1, by rw [upd_ne fun z => h3 (by rw [← z]; exact ⟨i, τ, h⟩)]; exact a2, a3⟩
  inj := g.inj
  sl := g.sl
  pin := g.pin
/-- a framed object is written -/
theorem RelG.frameSet {p : Addr} {o o' : HO} (g : RelG K pn A e σ G (upd R p o) H) : RelG K pn A e σ G (upd R p o') (upd H p o') where
  gh := fun a u q => by
    have hne : a ≠ p := fun z => by
      have := g.dj p (by rw [upd_same]; simp)
      rw [z, this] at q; cases q
    rw [upd_ne hne]; exact g.gh _ _ q
  rh := fun a u q => by
    by_cases ha : a = p
    · subst ha; rw [upd_same] at q ⊢; exact q
    · rw [upd_ne ha] at q ⊢; exact g.rh _ _ (by rw [upd_ne ha]; exact q)
  dj := fun a ha => by
    by_cases hp : a = p
    · rw [hp]; exact g.dj p (by rw [upd_same]; simp)
    · rw [upd_ne hp] at ha; exact g.dj a (by rw [upd_ne hp]; exact ha)
  len := g.len
  own := fun i τ a h => by
    obtain ⟨a1, a2, a3⟩ := g.own i τ a h
    have hne : a ≠ p := fun z => by rw [z, upd_same] at a2; cases a2
    rw [upd_ne hne] at a2
    exact ⟨a1, by rw [upd_ne hne]; exact a2, by rw [upd_ne hne]; exact a3⟩
  inj := g.inj
  sl := fun i s h => (g.sl i s h).frame fun τ a z => by
    obtain ⟨a1, a2, a3⟩ := g.own i τ a z
    have hne : a ≠ p := fun z => by rw [z, upd_same] at a2; cases a2
    exact ⟨upd_ne hne, z⟩
  pin := g.pin
/-- a slot is forgotten: its reading, then its state -/
theorem RelG.em {i : Nat} {σ' : L2.St} (g : RelG K pn A e σ G R H) (hl : σ'.length = σ.length) (hs : ∀ k, k ≠ i → σ'[k]? = σ[k]?) (ho : ∀ s, e[i]? = some s → s.io = false) : ∃ A', RelG K pn A' (e.set i .em) σ' G R H := by
  by_cases hi : i < e.length
  · refine ⟨A.set i fun _ => none, g.slot hi trivial hl hs (fun _ _ => rfl) (fun τ a z => nomatch z) (fun τ π a z => nomatch z) fun q hq z => ?_⟩
    obtain ⟨_, s, b, c⟩ := g.pin q hq
    rw [z] at b
    rw [ho s b] at c; cases c
  · rw [List.set_eq_of_length_le (by omega)]
    refine ⟨A, g.gh, g.rh, g.dj, by rw [hl]; exact g.len, g.own, g.inj, fun j s q => ?_, fun q hq => ?_⟩
    · have hj : j ≠ i := fun z => by subst z; exact hi (List.getElem?_eq_some_iff.mp q).1
      rw [hs j hj]; exact g.sl j s q
    · obtain ⟨a, s, b, c⟩ := g.pin q hq
      have hj : q.1 ≠ i := fun z => by rw [z] at b; exact hi (List.getElem?_eq_some_iff.mp b).1
      rw [hs _ hj]; exact ⟨a, s, b, c⟩
end
end Qv
namespace Qv
open PySem L2
open Evl (Ex)

/-! ### outcomes -/
/-- an exception's object, told of by G -/
def XnR (K : PySem.W.Frag) (G : Hp) (x : Xn) (d : Option Addr) : Prop := (d = none ∧ x.fs = []) ∨ ∃ a vs, d = some a ∧ G a = some (.xd vs) ∧ (∀ f, (vs.lookup f).isSome = (fsGet x.fs f).isSome) ∧ ∀ f v d, vs.lookup f = some v → fsGet x.fs f = some d → Rep K G v d
theorem XnR.mono {K : PySem.W.Frag} {G G' : Hp} {x : Xn} {d : Option Addr} (y : Ex G G') (h : XnR K G x d) : XnR K G' x d := by
  rcases h with h | ⟨a, vs, h1, h2, h3, h4⟩
  · exact .inl h
  · exact .inr ⟨a, vs, h1, y _ _ h2, h3, fun f v d p q => (h4 f v d p q).mono y⟩
abbrev Rv (β α : Type) := LA → Hp → Hp → Hp → En → L2.St → β → α → Prop
def FinV {α β : Type} (K : PySem.W.Frag) (rv : Rv β α) (pn : Pn) (e : En) (σ : L2.St) (G R : Hp) (a : α) (Q : β → Hp → Prop) : Prop :=
  ∀ b A' G' H', Ex G G' → RelG K pn A' e σ G' R H' → rv A' G' R H' e σ b a → Q b H'
def FinX (K : PySem.W.Frag) (W : WX) (pn : Pn) (e : En) (σ : L2.St) (G R : Hp) (x : Xn) : Prop :=
  ∀ A' G' H' d, Ex G G' → RelG K pn A' e σ G' R H' → XnR K G' x d → W (.ref (He.ga K x.cls)) d σ H'
def Oc {α : Type} (P : α → En → Prop) (PX : Xn → En → Prop) : Out (α × En) → Prop
  | .ok (a, e) => P a e
  | .ex x e => PX x e
  | .err => False
def OcV {α β : Type} (K : PySem.W.Frag) (W : WX) (rv : Rv β α) (pn : Pn) (σ : L2.St) (R : Hp) (Q : β → Hp → Prop) (G : Hp) (o : Out (α × En)) : Prop :=
  Oc (fun a e' => FinV K rv pn e' σ G R a Q) (fun x e' => FinX K W pn e' σ G R x) o
def tG {α β : Type} (K : PySem.W.Frag) (W : WX) (rv : Rv β α) (f : M α) : L2.St → Hp → (β → Hp → Prop) → Prop := fun σ H Q => ∃ pn A e G R, RelG K pn A e σ G R H ∧ OcV K W rv pn σ R Q G (f e)
abbrev rvE (K : PySem.W.Frag) : Rv V Val := fun A G R H e σ v val => RepVal K A G R H e σ v val
abbrev rvB {α : Type} : Rv α α := fun _ _ _ _ _ _ b a => b = a
abbrev tEv (K : PySem.W.Frag) (W : WX) (f : M Val) : TE := tG K W (rvE K) f
abbrev tTv (K : PySem.W.Frag) (W : WX) (f : M Bool) : TT := tG K W rvB f
section
variable {α β γ δ : Type} {K : PySem.W.Frag} {W : WX} {rv : Rv β α} {rv' : Rv δ γ} {pn : Pn} {A : LA} {e e' : En} {σ : L2.St} {G G' R R' H H' : Hp} {v : V} {val : Val} {Q : β → Hp → Prop} {Q' : δ → Hp → Prop}
theorem FinV.ext {a : α} (h : FinV K rv pn e σ G R a Q) (x : Ex G G') : FinV K rv pn e σ G' R a Q := fun b A' G2 H' y g r => h b A' G2 H' (x.trans y) g r
theorem FinX.ext {x : Xn} (h : FinX K W pn e σ G R x) (y : Ex G G') : FinX K W pn e σ G' R x := fun A' G2 H' d z g r => h A' G2 H' d (y.trans z) g r
theorem OcV.ext {o : Out (α × En)} (h : OcV K W rv pn σ R Q G o) (x : Ex G G') : OcV K W rv pn σ R Q G' o := by
  cases o with
  | ok p => exact FinV.ext (h : FinV K rv pn p.2 σ G R p.1 Q) x
  | ex y e => exact FinX.ext (h : FinX K W pn e σ G R y) x
  | err => exact h
/-- one step, then another; what waits may be framed -/
theorem chainR {m : M α} {k : α → M γ} (xr : Ex R R') (g : RelG K pn A e σ G R' H) (oc : OcV K W rv' pn σ R Q' G (bnd m k e))
    (step : ∀ b a A1 e1 G1 H1, Ex G G1 → RelG K pn A1 e1 σ G1 R' H1 → rv A1 G1 R' H1 e1 σ b a → OcV K W rv' pn σ R Q' G1 (k a e1) → Q b H1) : tG K W rv m σ H Q := by
  refine ⟨pn, A, e, G, R', g, ?_⟩
  unfold bnd at oc
  unfold OcV
  cases h : m e with
  | ok p => rw [h] at oc; exact fun b A' G' H' x g' r => step b _ A' _ G' H' x g' r (oc.ext x)
  | ex x e' => rw [h] at oc; exact fun A' G' H' d y g' r => (oc : FinX K W pn e' σ G R x) A' G' H' d y (g'.weakR xr) r
  | err => rw [h] at oc; exact oc
theorem chain {m : M α} {k : α → M γ} (g : RelG K pn A e σ G R H) (oc : OcV K W rv' pn σ R Q' G (bnd m k e))
    (step : ∀ b a A1 e1 G1 H1, Ex G G1 → RelG K pn A1 e1 σ G1 R H1 → rv A1 G1 R H1 e1 σ b a → OcV K W rv' pn σ R Q' G1 (k a e1) → Q b H1) : tG K W rv m σ H Q := chainR (Ex.refl R) g oc step
/-- the last step -/
theorem last {m : M α} (g : RelG K pn A e σ G R H) (oc : OcV K W rv pn σ R Q G (m e)) : tG K W rv m σ H Q := ⟨pn, A, e, G, R, g, oc⟩
theorem tG_mono {m : M α} {Q2 : β → Hp → Prop} (h : tG K W rv m σ H Q) (f : ∀ b H', Q b H' → Q2 b H') : tG K W rv m σ H Q2 := by
  obtain ⟨pn, A, e, G, R, g, oc⟩ := h
  refine ⟨pn, A, e, G, R, g, ?_⟩
  unfold OcV at *
  cases q : m e with
  | ok p => rw [q] at oc; exact fun b A' G' H' x g' r => f _ _ (oc b A' G' H' x g' r)
  | ex x e' => rw [q] at oc; exact oc
  | err => rw [q] at oc; exact oc
theorem oc_ret {a : α} (oc : OcV K W rv pn σ R Q G (ret a e)) : FinV K rv pn e σ G R a Q := oc
theorem oc_fail {P : Prop} (oc : OcV K W rv pn σ R Q G ((fail : M α) e)) : P := False.elim oc
theorem oc_opt {o : Option α} {k : α → M γ} (oc : OcV K W rv' pn σ R Q' G (bnd (opt o) k e)) : ∃ a, o = some a ∧ OcV K W rv' pn σ R Q' G (k a e) := by
  cases o with
  | none => exact False.elim oc
  | some a => exact ⟨a, rfl, oc⟩
theorem oc_optE {o : Option α} (oc : OcV K W rv pn σ R Q G (opt o e)) : ∃ a, o = some a ∧ FinV K rv pn e σ G R a Q := by
  cases o with
  | none => exact False.elim oc
  | some a => exact ⟨a, rfl, oc⟩
theorem oc_bret {a : α} {k : α → M γ} (oc : OcV K W rv' pn σ R Q' G (bnd (ret a) k e)) : OcV K W rv' pn σ R Q' G (k a e) := oc
theorem der_no {x : Xn} : der val e ≠ .ex x e' := by
  intro h
  cases val with
  | sh d => cases h
  | fr d => cases h
  | fn d => cases h
  | ow i =>
    unfold der at h
    dsimp only at h
    split at h <;> cases h
  | np i π =>
    unfold der at h
    dsimp only at h
    repeat (split at h)
    all_goals cases h
theorem oc_der {k : D → M γ} (g : RelG K pn A e σ G R H) (r : RepVal K A G R H e σ v val) (oc : OcV K W rv' pn σ R Q' G (bnd (der val) k e)) : ∃ d, RdV K G H v d ∧ OcV K W rv' pn σ R Q' G (k d e) := by
  unfold bnd at oc
  cases h : der val e with
  | ok p =>
    obtain ⟨h1, h2⟩ := g.rd r (d := p.1) (e' := p.2) h
    rw [h] at oc
    exact ⟨p.1, h2, by rw [← h1]; exact oc⟩
  | ex x e' => exact absurd h der_no
  | err => rw [h] at oc; exact oc.elim
theorem shr_no {x : Xn} : shr val e ≠ .ex x e' := by
  intro h
  cases val with
  | sh d => cases h
  | fr d => cases h
  | fn d => cases h
  | ow i =>
    unfold shr at h
    dsimp only at h
    split at h <;> cases h
  | np i π =>
    cases π with
    | nil =>
      unfold shr at h
      dsimp only at h
      split at h <;> cases h
    | cons => cases h
/-- shared from here on -/
theorem RelG.shr {d : D} (g : RelG K pn A e σ G R H) (r : RepVal K A G R H e σ v val) (h : Qv.shr val e = .ok (d, e')) : ∃ A' G', Ex G G' ∧ RelG K pn A' e' σ G' R H ∧ Rep K G' v d := by
  cases val with
  | sh d' => cases h; exact ⟨A, G, Ex.refl G, g, r⟩
  | fr d' => cases h; obtain ⟨G', x, g', r'⟩ := g.share r; exact ⟨A, G', x, g', r'⟩
  | fn d' => cases h; obtain ⟨B, fr⟩ := r; obtain ⟨G', x, g', r'⟩ := g.shareN fr; exact ⟨A, G', x, g', r'⟩
  | ow i =>
    unfold Qv.shr at h
    dsimp only at h
    split at h
    · rename_i d' z
      cases h
      obtain ⟨A', G', x, g', r'⟩ := g.frz (.inl z) r.1
      obtain ⟨p, _, _, _, _, o⟩ := g.own_ow z
      rw [o.fz] at g' r'
      exact ⟨A', G', x, g', r'⟩
    · cases h
  | np i π =>
    cases π with
    | cons => cases h
    | nil =>
      unfold Qv.shr at h
      dsimp only at h
      split at h
      · rename_i d' z
        cases h
        obtain ⟨b, d2, c, p, h1, h2, rfl, h3⟩ := r
        rw [z] at h1
        cases h1
        obtain ⟨p', k1, k2, _⟩ := g.tree (.inr z)
        rw [h3] at k2
        cases k2
        exact g.frz (.inr z) k1
      · cases h
theorem oc_shr {k : D → M γ} (g : RelG K pn A e σ G R H) (r : RepVal K A G R H e σ v val) (oc : OcV K W rv' pn σ R Q' G (bnd (shr val) k e)) : ∃ d A' e' G', Ex G G' ∧ RelG K pn A' e' σ G' R H ∧ Rep K G' v d ∧ OcV K W rv' pn σ R Q' G' (k d e') := by
  unfold bnd at oc
  cases h : shr val e with
  | ok p =>
    obtain ⟨A', G', x, g', r'⟩ := g.shr r (d := p.1) (e' := p.2) h
    rw [h] at oc
    exact ⟨p.1, A', p.2, G', x, g', r', oc.ext x⟩
  | ex x e' => exact absurd h shr_no
  | err => rw [h] at oc; exact oc.elim
/-- what waits: it can be found again -/
def PnV (K : PySem.W.Frag) (G : Hp) (σ : L2.St) (v : V) : Val → Prop
  | .sh d => Rep K G v d
  | .ow i => σ[i]? = some (some v)
  | .np i [] => σ[i]? = some (some v)
  | _ => False
theorem PnV.mono (x : Ex G G') (h : PnV K G σ v val) : PnV K G' σ v val := by
  cases val with
  | sh d => exact Rep.mono x h
  | ow i => exact h
  | fr d => exact h
  | fn d => exact h
  | np i π => cases π <;> exact h
theorem oc_pend {k : Val → M γ} (g : RelG K pn A e σ G R H) (r : RepVal K A G R H e σ v val) (oc : OcV K W rv' pn σ R Q' G (bnd (pend val) k e)) : ∃ w G', Ex G G' ∧ RelG K pn A e σ G' R H ∧ PnV K G' σ v w ∧ OcV K W rv' pn σ R Q' G' (k w e) := by
  cases val with
  | sh d => exact ⟨.sh d, G, Ex.refl G, g, r, oc⟩
  | fr d =>
    obtain ⟨G', x, g', r'⟩ := g.share r
    exact ⟨.sh d, G', x, g', r', (show OcV K W rv' pn σ R Q' G (k (.sh d) e) from oc).ext x⟩
  | ow i => exact ⟨.ow i, G, Ex.refl G, g, r.1, oc⟩
  | fn d => exact False.elim oc
  | np i π =>
    cases π with
    | cons => exact False.elim oc
    | nil =>
      obtain ⟨b, d2, c, p, h1, h2, rfl, h3⟩ := r
      obtain ⟨p', k1, k2, _⟩ := g.tree (.inr h1)
      rw [h3] at k2
      cases k2
      exact ⟨.np i [], G, Ex.refl G, g, k1, oc⟩
/-- .. read later: the value is back -/
theorem PnV.back (r : PnV K G σ v val) (g : RelG K pn A e σ G R H) (h : ∀ i, (val = .ow i ∨ val = .np i []) → ∃ b d, (val = .ow i ∧ e[i]? = some (.ow b d)) ∨ (val = .np i [] ∧ e[i]? = some (.nt b d))) : RepVal K A G R H e σ v val := by
  cases val with
  | sh d => exact r
  | fr d => exact r.elim
  | fn d => exact r.elim
  | ow i =>
    obtain ⟨b, d, ⟨_, z⟩ | ⟨z, _⟩⟩ := h i (.inl rfl)
    · exact ⟨r, b, d, z⟩
    · cases z
  | np i π =>
    cases π with
    | cons => exact r.elim
    | nil =>
      obtain ⟨b, d, ⟨z, _⟩ | ⟨_, z⟩⟩ := h i (.inr rfl)
      · cases z
      · obtain ⟨p', k1, k2, _⟩ := g.tree (.inr z)
        have r' : σ[i]? = some (some v) := r
        rw [r'] at k1
        cases k1
        exact ⟨b, d, d, p', z, rfl, rfl, k2⟩
theorem oc_derP {k : D → M γ} (g : RelG K pn A e σ G R H) (r : PnV K G σ v val) (oc : OcV K W rv' pn σ R Q' G (bnd (der val) k e)) : ∃ d, RdV K G H v d ∧ OcV K W rv' pn σ R Q' G (k d e) := by
  refine oc_der (A := A) g (r.back g fun i hi => ?_) oc
  rcases hi with rfl | rfl
  · unfold bnd der at oc
    dsimp only at oc
    split at oc
    · rename_i p z
      split at z
      · exact ⟨_, _, .inl ⟨rfl, by assumption⟩⟩
      · cases z
    · rename_i z
      split at z <;> cases z
    · exact oc.elim
  · unfold bnd der at oc
    dsimp only at oc
    split at oc
    · rename_i p z
      split at z
      · exact ⟨_, _, .inr ⟨rfl, by assumption⟩⟩
      · cases z
    · rename_i z
      repeat (split at z)
      all_goals cases z
    · exact oc.elim
theorem oc_shrP {k : D → M γ} (g : RelG K pn A e σ G R H) (r : PnV K G σ v val) (oc : OcV K W rv' pn σ R Q' G (bnd (shr val) k e)) : ∃ d A' e' G', Ex G G' ∧ RelG K pn A' e' σ G' R H ∧ Rep K G' v d ∧ OcV K W rv' pn σ R Q' G' (k d e') := by
  refine oc_shr (A := A) g (r.back g fun i hi => ?_) oc
  rcases hi with rfl | rfl
  · unfold bnd shr at oc
    dsimp only at oc
    split at oc
    · rename_i p z
      split at z
      · exact ⟨_, _, .inl ⟨rfl, by assumption⟩⟩
      · cases z
    · rename_i z
      split at z <;> cases z
    · exact oc.elim
  · unfold bnd shr at oc
    dsimp only at oc
    split at oc
    · rename_i p z
      split at z
      · exact ⟨_, _, .inr ⟨rfl, by assumption⟩⟩
      · cases z
    · rename_i z
      split at z <;> cases z
    · exact oc.elim
theorem FinV.sc {d : D} {Q : VK} (g : RelG K pn A e σ G R H) (f : FinV K (rvE K) pn e σ G R (.sh d) Q) (r : Rep K G v d) : Q v H := f v A G H (Ex.refl G) g r
theorem FinV.newF {ds : List D} {vs : List V} {Q : VK} (g : RelG K pn A e σ G R H) (f : FinV K (rvE K) pn e σ G R (.fr (.lst ds)) Q) (r : RepL K G vs ds) : ∀ p, H p = none → Q (.ref p) (upd H p (.lst vs)) := fun p hp => by
  obtain ⟨g', a, b, c⟩ := g.laidF (o := .lst vs) hp
  exact f _ A G _ (Ex.refl G) g' ⟨p, rfl, a, b, c, ⟨vs, upd_same, r⟩⟩
theorem FinV.newT {ds : List D} {vs : List V} {Q : VK} (g : RelG K pn A e σ G R H) (f : FinV K (rvE K) pn e σ G R (.sh (.tup ds)) Q) (r : RepL K G vs ds) : ∀ p, H p = none → Q (.ref p) (upd H p (.tup vs)) := fun p hp => by
  obtain ⟨g', x⟩ := g.laid (o := .tup vs) hp
  exact f _ A _ _ x g' (.tup upd_same (r.mono x))
theorem lim_eq : lenLim = sizeLine := by rw [sizeLine_eq]; rfl
end
section
variable {X : Cx} {ex : Expr} {t t' : TE}
theorem PE_mono (h : PE X ex t) (m : ∀ σ H Q, t' σ H Q → t σ H Q) : PE X ex t' := ⟨fun pins s σ H Q I q => h.run pins s σ H Q I (m σ H Q q)⟩
theorem PT_mono {t t' : TT} (h : PT X ex t) (m : ∀ σ H Q, t' σ H Q → t σ H Q) : PT X ex t' := ⟨fun pins s σ H Q I q => h.run pins s σ H Q I (m σ H Q q)⟩
theorem PW_mono {t t' : TT} (h : PW X ex t) (m : ∀ σ H Q, t' σ H Q → t σ H Q) : PW X ex t' := ⟨fun wh pins s σ H Q I q => h.run wh pins s σ H Q I (m σ H Q q)⟩
theorem PA_mono {es : List Expr} {t t' : TA} (h : PA X es t) (m : ∀ σ H Q, t' σ H Q → t σ H Q) : PA X es t' := ⟨fun p pins s σ H Q I q => h.run p pins s σ H Q I (m σ H Q q)⟩
theorem PS_mono {st : Stmt} {t t' : TS} (h : PS X st t) (m : ∀ D σ H, t' D σ H → t D σ H) : PS X st t' := ⟨fun pins s σ H D I q => h.run pins s σ H D I (m D σ H q)⟩
theorem PSs_mono {st : List Stmt} {t t' : TS} (h : PSs X st t) (m : ∀ D σ H, t' D σ H → t D σ H) : PSs X st t' := ⟨fun pins s σ H D I q => h.run pins s σ H D I (m D σ H q)⟩
theorem PI_mono {tg : Expr} {t t' : TI} (h : PI X tg ex t) (m : ∀ σ H R, t' σ H R → t σ H R) : PI X tg ex t' := ⟨fun pins s σ H R I q => h.run pins s σ H R I (m σ H R q)⟩
theorem OpR_mono {f : Value → Value → Sem Value} {r r' : R2} (h : OpR X f r) (m : ∀ x y H Q, r' x y H Q → r x y H Q) : OpR X f r' := fun pins s σ H x y v u Q I a b q => h pins s σ H x y v u Q I a b (m x y H Q q)
theorem CallR_mono {f : Value} {r r' : List V → Hp → VK → Prop} (h : CallR X f r) (m : ∀ xs H Q, r' xs H Q → r xs H Q) : CallR X f r' := fun pins s σ H xs us Q I a q => h pins s σ H xs us Q I a (m xs H Q q)
end
/-! ### two-place operations -/
/-- a rule r of the layer does what g says of data -/
def ROK (K : PySem.W.Frag) (r : R2) (g : D → D → Option Val) : Prop :=
  ∀ (pn : Pn) (A : LA) (e : En) (σ : L2.St) (G R H : Hp) (x y : V) (dx dy : D) (val : Val), RelG K pn A e σ G R H → RdV K G H x dx → RdV K G H y dy → g dx dy = some val → ∀ Q : VK, FinV K (rvE K) pn e σ G R val Q → r x y H Q
def binC (g : D → D → Option Val) (fa fb : M Val) : M Val := bnd fa fun va => bnd (pend va) fun va => bnd fb fun vb => bnd (der va) fun da => bnd (der vb) fun db => opt (g da db)
theorem tbin {K : PySem.W.Frag} {W : WX} {r : R2} {g : D → D → Option Val} {fa fb : M Val} (hr : ROK K r g) {σ : L2.St} {H : Hp} {Q : VK} (h : tEv K W (binC g fa fb) σ H Q) : tOp r (tEv K W fa) (tEv K W fb) σ H Q := by
  obtain ⟨pn, A, e, G, R, g0, oc⟩ := h
  refine chain g0 oc fun x va A1 e1 G1 H1 x1 g1 r1 oc1 => ?_
  obtain ⟨wa, G2, x2, g2, r2, oc2⟩ := oc_pend g1 r1 oc1
  refine chain g2 oc2 fun y vb A3 e3 G3 H3 x3 g3 r3 oc3 => ?_
  obtain ⟨da, d1, oc4⟩ := oc_derP g3 (r2.mono x3) oc3
  obtain ⟨db, d2, oc5⟩ := oc_der g3 r3 oc4
  obtain ⟨val, q5, fin⟩ := oc_optE oc5
  exact hr pn A3 e3 σ G3 R H3 x y da db val g3 d1 d2 q5 Q fin
theorem se_bin {X : Cx} {W : WX} {op : Operator} {a b : Expr} {pos : Pos} {r : R2} {g : D → D → Option Val} {fa fb : M Val} (ho : OpR X (binaryOp op) r) (hr : ROK X.K r g) (ha : PE X a (tEv X.K W fa)) (hb : PE X b (tEv X.K W fb)) :
    PE X (.BinOp a op b pos) (tEv X.K W (binC g fa fb)) := PE_mono (pe_op ho ha hb) fun _ _ _ h => tbin hr h
theorem se_cmp {X : Cx} {W : WX} {op : CmpOp} {a b : Expr} {pos : Pos} {r : R2} {g : D → D → Option Val} {fa fb : M Val} (ho : OpR X (compareOp op) r) (hr : ROK X.K r g) (ha : PE X a (tEv X.K W fa)) (hb : PE X b (tEv X.K W fb)) (hm : behindInMarks op b = false) :
    PE X (.Compare a [op] [b] pos) (tEv X.K W (binC g fa fb)) := PE_mono (pe_cmpR ho ha hb hm) fun _ _ _ h => tbin hr h
end Qv
namespace Qv
open PySem L2
open Evl (Ex)

/-! ### operators -/
section
variable {K : PySem.W.Frag}
def rAdd (K : PySem.W.Frag) : R2 := fun x y H Q => rI0 (fun i j => .int (i + j)) x y H Q ∨ (∃ i j, x = .str i ∧ y = .str j ∧ i.length + j.length ≤ sizeLine ∧ Q (.str (i ++ j)) H) ∨ rCat x y H Q ∨ rCatA K x y H Q
theorem op_addA {X : Cx} : OpR X (binaryOp .Add) (rAdd X.K) := op_add.or (op_add_str.or (op_cat.or op_catA))
theorem ok_add : ROK K (rAdd K) addD := by
  intro pn A e σ G R H x y dx dy val g rx ry h Q f
  unfold addD at h
  split at h
  · cases h; cases rx; cases ry
    exact .inl ⟨_, _, rfl, rfl, f.sc g (.int _)⟩
  · split at h
    · cases h; cases rx; cases ry
      exact .inr (.inl ⟨_, _, rfl, rfl, by rw [← lim_eq]; assumption, f.sc g (.str _)⟩)
    · cases h
  · rename_i a b
    split at h
    · cases h
      obtain ⟨p, xs, rfl, hp, ra⟩ := rx
      obtain ⟨q, ys, rfl, hq, rb⟩ := ry
      exact .inr (.inr (.inl ⟨p, q, xs, ys, rfl, rfl, hp, hq, by rw [← lim_eq, ra.length, rb.length]; assumption, f.newF g (ra.append rb)⟩))
    · cases h
  · rename_i a b
    split at h
    · cases h
      have rx' : Rep K G x (.tup a) := rx
      have ry' : Rep K G y (.tup b) := ry
      cases rx' with
      | @tup p xs _ sp ra =>
        cases ry' with
        | @tup q ys _ sq rb =>
          refine .inr (.inr (.inr ⟨p, q, xs, ys, rfl, rfl, SqT.of (g.gh _ _ sp), SqT.of (g.gh _ _ sq), by rw [← lim_eq, ra.length, rb.length]; assumption, fun z => ?_, fun z z2 => ?_, fun _ _ => f.newT g (ra.append rb)⟩))
          · subst z
            cases ra
            exact f.sc g (.tup sq rb)
          · subst z2
            cases rb
            rw [List.append_nil] at f
            exact f.sc g (.tup sp ra)
    · cases h
  · cases h
theorem ok_sub : ROK K (rI0 fun i j => .int (i - j)) subD := by
  intro pn A e σ G R H x y dx dy val g rx ry h Q f
  unfold subD at h
  split at h
  · cases h; cases rx; cases ry
    exact ⟨_, _, rfl, rfl, f.sc g (.int _)⟩
  · cases h
theorem repS_size (c : Array Nat) : ∀ (n : Nat) (acc : Array Nat), ((List.replicate n c).foldl (· ++ ·) acc).size = acc.size + n * c.size
  | 0, acc => by simp
  | n + 1, acc => by
    rw [List.replicate_succ, List.foldl_cons, repS_size c n, Array.size_append, Nat.succ_mul]
    omega
theorem repS_len (a : Str) (n : Nat) : (repS a n).length = n * a.length := by
  have := repS_size a.cps n #[]
  show ((List.replicate n a.cps).foldl (· ++ ·) #[]).size = _
  rw [this]
  simp
  rfl
def rMulS : R2 := fun x y H Q => ∃ a k, x = .str a ∧ y = .int k ∧ 2 ≤ k ∧ k ≤ 1000 ∧ a.length ≤ 1000 ∧ a.length ≠ 0 ∧ Q (.str (repS a k.toNat)) H
theorem op_mulS {X : Cx} : OpR X (binaryOp .Mult) rMulS := by
  intro pins s σ H x y v u Q I rx ry h
  obtain ⟨a, k, rfl, rfl, k1, k2, l1, l2, q⟩ := h
  obtain ⟨t, rfl⟩ := rx
  obtain ⟨t2, rfl⟩ := ry
  have big : a.length * k.toNat ≤ 1000 * 1000 := Nat.mul_le_mul l1 (by omega)
  have n1 : ¬ k < 1 := by omega
  have n2 : (k == 1 || a.length == 0) = false := by
    have z1 : (k == 1) = false := by rw [beq_eq_false_iff_ne]; omega
    have z2 : (a.length == 0) = false := by rw [beq_eq_false_iff_ne]; exact l2
    rw [z1, z2]; rfl
  refine PySem.P.mul_str ?_ (fun _ _ => ?_) (fun _ _ => ?_) ?_
  · have z1 : ¬ k < -(2 ^ 63 : Int) := by omega
    have z2 : ¬ k ≥ 2 ^ 63 := by omega
    rw [decide_eq_false z1, decide_eq_false z2]; rfl
  · have z : (1000 : Int) ≤ (2 ^ 63 - 1) / k := Int.le_ediv_of_mul_le (by omega) (by omega)
    have l3 : (a.length : Int) ≤ 1000 := by exact_mod_cast l1
    omega
  · refine decide_eq_false ?_
    rw [sizeLine_eq]
    omega
  · rw [if_neg n1, if_neg (by rw [n2]; exact Bool.false_ne_true)]
    refine ⟨?_, .str _, H, I.tok _, ⟨_, rfl⟩, q⟩
    have e := repS_len a k.toNat
    rw [Nat.mul_comm] at e
    show (repS a k.toNat).length ≤ sizeLine
    rw [e, sizeLine_eq]
    omega
def rMulA (K : PySem.W.Frag) : R2 := fun x y H Q => rI CMulW (fun i j => .int (i * j)) x y H Q ∨ rRep x y H Q ∨ rRepT K x y H Q ∨ rMulS x y H Q
theorem op_mulA {X : Cx} : OpR X (binaryOp .Mult) (rMulA X.K) := op_mulW.or (op_rep.or (op_repT.or op_mulS))
theorem ok_mul : ROK K (rMulA K) mulD := by
  intro pn A e σ G R H x y dx dy val g rx ry h Q f
  unfold mulD at h
  split at h
  · split at h
    · cases h; cases rx; cases ry
      exact .inl ⟨_, _, rfl, rfl, by assumption, f.sc g (.int _)⟩
    · cases h
  · split at h
    · rename_i c
      cases h; cases ry
      obtain ⟨p, xs, rfl, hp, ra⟩ := rx
      exact .inr (.inl ⟨p, _, xs, rfl, rfl, hp, c.2.1, c.2.2, by rw [← lim_eq, ra.length]; exact c.1, f.newF g (ra.rep _)⟩)
    · cases h
  · split at h
    · rename_i c
      cases h; cases ry
      have rx' : Rep K G x (.tup _) := rx
      cases rx' with
      | @tup p xs _ hp ra =>
        exact .inr (.inr (.inl ⟨p, _, xs, rfl, rfl, SqT.of (g.gh _ _ hp), fun z => by subst z; cases ra; exact c.1 rfl, c.2.1, c.2.2.1, by rw [ra.length]; exact c.2.2.2, f.newT g (ra.rep _)⟩))
    · cases h
  · split at h
    · rename_i c
      cases h; cases rx; cases ry
      exact .inr (.inr (.inr ⟨_, _, rfl, rfl, c.1, c.2.1, c.2.2.1, c.2.2.2, f.sc g (.str _)⟩))
    · cases h
  · cases h
theorem ok_fdiv : ROK K (rI CDivW fun i j => .int (i / j)) fdivD := by
  intro pn A e σ G R H x y dx dy val g rx ry h Q f
  unfold fdivD at h
  split at h
  · split at h
    · cases h; cases rx; cases ry
      exact ⟨_, _, rfl, rfl, by assumption, f.sc g (.int _)⟩
    · cases h
  · cases h
theorem ok_mod : ROK K (rI (fun _ j => 0 < j) fun i j => .int (i % j)) modD := by
  intro pn A e σ G R H x y dx dy val g rx ry h Q f
  unfold modD at h
  split at h
  · split at h
    · cases h; cases rx; cases ry
      exact ⟨_, _, rfl, rfl, by assumption, f.sc g (.int _)⟩
    · cases h
  · cases h
def CPowW (i j : Int) : Prop := 0 ≤ j ∧ (Builtin.Int.intBits i : Int) * j ≤ 2 ^ 27
theorem op_powW {X : Cx} : OpR X (binaryOp .Pow) (rI CPowW fun i j => .int (i ^ j.toNat)) := opI fun _ _ _ _ _ _ _ hc q => PyProof.Rows.pow_int hc.1 hc.2 q
theorem ok_pow : ROK K (rI CPowW fun i j => .int (i ^ j.toNat)) powD := by
  intro pn A e σ G R H x y dx dy val g rx ry h Q f
  unfold powD at h
  split at h
  · split at h
    · cases h; cases rx; cases ry
      exact ⟨_, _, rfl, rfl, by assumption, f.sc g (.int _)⟩
    · cases h
  · cases h

/-! ### comparisons -/
mutual
theorem Rep.dp {H : Hp} : ∀ {d : D} {v : V}, d.pl = true → SeqAt.shaped d.py = true → Rep K H v d → Dp K H v d.py
  | _, _, _, _, .non => .non
  | _, _, _, _, .bl b => .bl b
  | _, _, _, _, .int i => .int i
  | _, _, _, _, .str x => .str x
  | _, _, p, s, .lst h r => .lst (SqL.of h) (RepL.dp p (by
      have c := SeqAt.canLay_of_shaped s
      simpa [D.py, PyData.canLay0] using c) r)
  | _, _, p, s, .tup h r => .tup (SqT.of h) (RepL.dp p (by
      have c := SeqAt.canLay_of_shaped s
      simpa [D.py, PyData.canLay0] using c) r)
  | _, _, p, s, .dct h r => by
      have c := SeqAt.canLay_of_shaped s
      simp [D.py, PyData.canLay0] at c
  | _, _, p, s, .scr h => .lst h (by
      rename_i ns _
      clear s p h
      induction ns with
      | nil => exact .nil
      | cons n r ih => exact .cons (.int n) ih)
  | _, _, p, s, .dcT h r => by
      have c := SeqAt.canLay_of_shaped s
      simp [D.py, PyData.canLay0] at c
  | _, _, p, s, .ins .. => by simp [D.pl] at p
  | _, _, p, s, .ty _ => by simp [D.pl] at p
theorem RepL.dp {H : Hp} : ∀ {ds : List D} {vs : List V}, plL ds = true → PyData.canLayAll0 (pyL ds) = true → RepL K H vs ds → DpAll K H vs (pyL ds)
  | _, _, _, _, .nil => .nil
  | _, _, p, s, .cons h r => by
      rw [plL, Bool.and_eq_true] at p
      rw [pyL, PyData.canLayAll0, Bool.and_eq_true] at s
      exact .cons (Rep.dp' p.1 s.1 h) (RepL.dp p.2 s.2 r)
theorem Rep.dp' {H : Hp} : ∀ {d : D} {v : V}, d.pl = true → d.py.canLay0 = true → Rep K H v d → Dp K H v d.py
  | _, _, _, _, .non => .non
  | _, _, _, _, .bl b => .bl b
  | _, _, _, _, .int i => .int i
  | _, _, _, _, .str x => .str x
  | _, _, p, s, .lst h r => .lst (SqL.of h) (RepL.dp p (by simpa [D.py, PyData.canLay0] using s) r)
  | _, _, p, s, .tup h r => .tup (SqT.of h) (RepL.dp p (by simpa [D.py, PyData.canLay0] using s) r)
  | _, _, p, s, .dct h r => by simp [D.py, PyData.canLay0] at s
  | _, _, p, s, .scr h => .lst h (by
      rename_i ns _
      clear s p h
      induction ns with
      | nil => exact .nil
      | cons n r ih => exact .cons (.int n) ih)
  | _, _, p, s, .dcT h r => by simp [D.py, PyData.canLay0] at s
  | _, _, p, s, .ins .. => by simp [D.pl] at p
  | _, _, p, s, .ty _ => by simp [D.pl] at p
end
theorem dec_strV (a b : Str) : decide (V.str a = V.str b) = decide (a = b) := by
  by_cases h : a = b
  · subst h; simp
  · have : V.str a ≠ V.str b := fun z => h (by cases z; rfl)
    simp [h, this]
/-- lists of different lengths -/
def rLn (K : PySem.W.Frag) (r : Bool) : R2 := fun x y H Q => ∃ a b xs ys, x = .ref a ∧ y = .ref b ∧ SqL K H a xs ∧ SqL K H b ys ∧ xs.length ≠ ys.length ∧ Q (.bl r) H
section
variable {X : Cx}
theorem rLn_go {op : CmpOp} {r : Bool} (hu : X.A.units + 64 < cLine) (go : ∀ {s : Shared} {a b : Addr} {i j : Array Value} {E Q : Value → Shared → Prop}, s.heap.IsList a i → s.heap.IsList b j → (i.size != j.size) = true → X.A.units < cLine → Q (.bool r) s → wpAny (model X.prog X.w) X.A (compareOp op (.ref a) (.ref b)) Q E s) : OpR X (compareOp op) (rLn X.K r) := by
  intro pins s σ H x y v u Q I rx ry h
  obtain ⟨a, b, xs, ys, rfl, rfl, ha, hb, hne, q⟩ := h
  cases rx
  cases ry
  obtain ⟨its, r1, l1, _⟩ := I.list ha
  obtain ⟨jts, r2, l2, _⟩ := I.list hb
  refine go l1.isList l2.isList ?_ (by omega) ⟨.bl _, H, I, rfl, q⟩
  rw [bne_iff_ne]
  intro z
  apply hne
  rw [r1.length, r2.length]
  simpa using z
theorem op_eqLen (hu : X.A.units + 64 < cLine) : OpR X (compareOp .Eq) (rLn X.K false) := rLn_go hu fun h1 h2 h3 h4 h5 => SeqAt.eq_list_lengthsAt h1 h2 h3 h4 h5
theorem op_neLen (hu : X.A.units + 64 < cLine) : OpR X (compareOp .NotEq) (rLn X.K true) := rLn_go hu fun h1 h2 h3 h4 h5 => SeqAt.RcNeAt.lists_lengths h1 h2 h3 h4 _ _ _ _ h5
end
theorem dif_rep {G H : Hp} {x y : V} {a b : D} (h : difLen a b = true) (rx : RdV K G H x a) (ry : RdV K G H y b) : ∃ p q xs ys, x = .ref p ∧ y = .ref q ∧ SqL K H p xs ∧ SqL K H q ys ∧ xs.length ≠ ys.length := by
  unfold difLen at h
  split at h
  · obtain ⟨p, xs, rfl, hp, ra⟩ := rx
    obtain ⟨q, ys, rfl, hq, rb⟩ := ry
    exact ⟨p, q, xs, ys, rfl, rfl, SqL.of hp, SqL.of hq, by rw [ra.length, rb.length]; exact of_decide_eq_true h⟩
  · cases h
def rEqA (K : PySem.W.Frag) : R2 := fun x y H Q => rEq x y H Q ∨ rEqD K x y H Q ∨ rLn K false x y H Q
def rNeA (K : PySem.W.Frag) : R2 := fun x y H Q => rNe x y H Q ∨ rNeD K x y H Q ∨ rLn K true x y H Q
theorem ok_eq : ROK K (rEqA K) eqD := by
  intro pn A e σ G R H x y dx dy val g rx ry h Q f
  unfold eqD at h
  split at h
  · cases h; cases rx; cases ry
    exact .inl ⟨rfl, by rw [dec_strV]; exact f.sc g (.bl _)⟩
  · split at h
    · rename_i c
      cases h
      rw [Bool.and_eq_true] at c
      obtain ⟨c1, c2⟩ := c
      unfold eqOk at c1 c2
      rw [Bool.and_eq_true] at c1 c2
      exact .inr (.inl ⟨_, _, Rep.dp c1.1 c1.2 (rx.rep g.gh), Rep.dp c2.1 c2.2 (ry.rep g.gh), c1.2, c2.2, f.sc g (.bl _)⟩)
    · split at h
      · rename_i c
        cases h
        obtain ⟨p, q, xs, ys, h1, h2, h3, h4, h5⟩ := dif_rep c rx ry
        exact .inr (.inr ⟨p, q, xs, ys, h1, h2, h3, h4, h5, f.sc g (.bl _)⟩)
      · cases h
theorem ok_ne : ROK K (rNeA K) neD := by
  intro pn A e σ G R H x y dx dy val g rx ry h Q f
  unfold neD at h
  split at h
  · cases h; cases rx; cases ry
    exact .inl ⟨rfl, by rw [dec_strV]; exact f.sc g (.bl _)⟩
  · split at h
    · rename_i c
      cases h
      rw [Bool.and_eq_true] at c
      obtain ⟨c1, c2⟩ := c
      unfold eqOk at c1 c2
      rw [Bool.and_eq_true] at c1 c2
      exact .inr (.inl ⟨_, _, Rep.dp c1.1 c1.2 (rx.rep g.gh), Rep.dp c2.1 c2.2 (ry.rep g.gh), c1.2, c2.2, f.sc g (.bl _)⟩)
    · split at h
      · rename_i c
        cases h
        obtain ⟨p, q, xs, ys, h1, h2, h3, h4, h5⟩ := dif_rep c rx ry
        exact .inr (.inr ⟨p, q, xs, ys, h1, h2, h3, h4, h5, f.sc g (.bl _)⟩)
      · cases h
def rOrd (p : Int → Int → Bool) (q : Str → Str → Bool) : R2 := fun x y H Q => rI0 (fun i j => .bl (p i j)) x y H Q ∨ ∃ i j, x = .str i ∧ y = .str j ∧ Q (.bl (q i j)) H
theorem op_ltA {X : Cx} : OpR X (compareOp .Lt) (rOrd (fun i j => decide (i < j)) fun a b => decide (a.cps.toList < b.cps.toList)) := op_lt.or op_lt_str
theorem op_leA {X : Cx} : OpR X (compareOp .LtE) (rOrd (fun i j => decide (i ≤ j)) fun a b => !decide (b.cps.toList < a.cps.toList)) := op_le.or op_le_str
theorem op_gtA {X : Cx} : OpR X (compareOp .Gt) (rOrd (fun i j => decide (j < i)) fun a b => decide (b.cps.toList < a.cps.toList)) := op_gt.or op_gt_str
theorem op_geA {X : Cx} : OpR X (compareOp .GtE) (rOrd (fun i j => decide (j ≤ i)) fun a b => !decide (a.cps.toList < b.cps.toList)) := op_ge.or op_ge_str
theorem ok_lt : ROK K (rOrd (fun i j => decide (i < j)) fun a b => decide (a.cps.toList < b.cps.toList)) ltD := by
  intro pn A e σ G R H x y dx dy val g rx ry h Q f
  unfold ltD at h
  split at h
  · cases h; cases rx; cases ry; exact .inl ⟨_, _, rfl, rfl, f.sc g (.bl _)⟩
  · cases h; cases rx; cases ry; exact .inr ⟨_, _, rfl, rfl, f.sc g (.bl _)⟩
  · cases h
theorem ok_le : ROK K (rOrd (fun i j => decide (i ≤ j)) fun a b => !decide (b.cps.toList < a.cps.toList)) leD := by
  intro pn A e σ G R H x y dx dy val g rx ry h Q f
  unfold leD at h
  split at h
  · cases h; cases rx; cases ry; exact .inl ⟨_, _, rfl, rfl, f.sc g (.bl _)⟩
  · cases h; cases rx; cases ry; exact .inr ⟨_, _, rfl, rfl, f.sc g (.bl _)⟩
  · cases h
theorem ok_gt : ROK K (rOrd (fun i j => decide (j < i)) fun a b => decide (b.cps.toList < a.cps.toList)) gtD := by
  intro pn A e σ G R H x y dx dy val g rx ry h Q f
  unfold gtD at h
  split at h
  · cases h; cases rx; cases ry; exact .inl ⟨_, _, rfl, rfl, f.sc g (.bl _)⟩
  · cases h; cases rx; cases ry; exact .inr ⟨_, _, rfl, rfl, f.sc g (.bl _)⟩
  · cases h
theorem ok_ge : ROK K (rOrd (fun i j => decide (j ≤ i)) fun a b => !decide (a.cps.toList < b.cps.toList)) geD := by
  intro pn A e σ G R H x y dx dy val g rx ry h Q f
  unfold geD at h
  split at h
  · cases h; cases rx; cases ry; exact .inl ⟨_, _, rfl, rfl, f.sc g (.bl _)⟩
  · cases h; cases rx; cases ry; exact .inr ⟨_, _, rfl, rfl, f.sc g (.bl _)⟩
  · cases h
theorem flat_of {H : Hp} {d : D} {v w : V} (h : flatD d = some w) (r : Rep K H v d) : v = w ∧ flatV v = true := by
  cases r <;> first
    | (cases h; exact ⟨rfl, rfl⟩)
    | cases h
theorem flatL_of {H : Hp} : ∀ {ds : List D} {vs ws : List V}, flatL ds = some ws → RepL K H vs ds → vs = ws ∧ vs.all flatV = true
  | _, _, _, h, .nil => by cases h; exact ⟨rfl, rfl⟩
  | d :: ds, v :: vs, ws, h, .cons a b => by
    unfold flatL at h
    split at h
    · rename_i w ws' h1 h2
      cases h
      obtain ⟨e1, f1⟩ := flat_of h1 a
      obtain ⟨e2, f2⟩ := flatL_of h2 b
      exact ⟨by rw [e1, e2], by rw [List.all_cons, f1, f2]; rfl⟩
    · cases h
def rInA (K : PySem.W.Frag) (neg : Bool) : R2 := fun x y H Q => (∃ (c : Nat) (z : Str), x = .str ⟨#[c]⟩ ∧ y = .str z ∧ Q (.bl (if neg then !decide (c ∈ z.cps.toList) else decide (c ∈ z.cps.toList))) H) ∨ rIn K neg x y H Q
theorem op_inA {X : Cx} : OpR X (compareOp .In) (rInA X.K false) := op_in_sign.or op_in_seq
theorem op_ninA {X : Cx} : OpR X (compareOp .NotIn) (rInA X.K true) := op_notIn_sign.or op_notIn_seq
theorem str1 {a : Str} {c : Nat} (h : a.cps.toList = [c]) : a = ⟨#[c]⟩ := by
  cases a with
  | mk l =>
    cases l with
    | mk l =>
      simp at h
      subst h
      rfl
theorem ok_in (neg : Bool) : ROK K (rInA K neg) (inD neg) := by
  intro pn A e σ G R H x y dx dy val g rx ry h Q f
  unfold inD at h
  split at h
  · split at h
    · rename_i a z l c hc
      cases h
      cases rx
      cases ry
      exact .inl ⟨c, z, by rw [str1 hc], rfl, f.sc g (.bl _)⟩
    · cases h
  · split at h
    · rename_i w ws h1 h2
      cases h
      have ry' : Rep K G y (.tup _) := ry
      cases ry' with
      | @tup q ys _ sq rb =>
        obtain ⟨e2, f2⟩ := flatL_of h2 rb
        obtain ⟨e1, f1⟩ := flat_of h1 (rx.rep g.gh)
        subst e1 e2
        exact .inr ⟨q, _, rfl, .inr (SqT.of (g.gh _ _ sq)), f1, f2, f.sc g (.bl _)⟩
    · cases h
  · split at h
    · rename_i w ws h1 h2
      cases h
      obtain ⟨p, xs, rfl, hp, rb⟩ := ry
      obtain ⟨e2, f2⟩ := flatL_of h2 rb
      obtain ⟨e1, f1⟩ := flat_of h1 (rx.rep g.gh)
      subst e1 e2
      exact .inr ⟨p, _, rfl, .inl (SqL.of hp), f1, f2, f.sc g (.bl _)⟩
    · cases h
  · cases h
def rIsA (neg : Bool) : R2 := fun x y H Q => y = .non ∧ Q (.bl (if neg then !decide (x = .non) else decide (x = .non))) H
theorem op_isA {X : Cx} : OpR X (compareOp .Is) (rIsA false) := op_isN
theorem op_nisA {X : Cx} : OpR X (compareOp .IsNot) (rIsA true) := op_notN
theorem ok_is (neg : Bool) : ROK K (rIsA neg) (isND neg) := by
  intro pn A e σ G R H x y dx dy val g rx ry h Q f
  unfold isND at h
  split at h
  · cases h
    cases ry
    refine ⟨rfl, ?_⟩
    have z : Rep K H x dx := rx.rep g.gh
    cases z <;> (cases neg <;> exact f.sc g (.bl _))
  · cases h
end
end Qv
namespace Qv
open PySem L2
open Evl (Ex)

/-! ### constants, names -/
def conC (d : D) : M Val := ret (.sh d)
def nameC (i : Nat) : M Val := fun e => match e[i]? with
  | some (.sh d) => .ok (.sh d, e)
  | some (.ow _ _) => .ok (.ow i, e)
  | some (.nt _ _) => .ok (.np i [], e)
  | _ => .err
section
variable {X : Cx} {W : WX} {pos : Pos}
theorem t_con {K : PySem.W.Frag} {d : D} {v : V} (h : ∀ G, Rep K G v d) {σ : L2.St} {H : Hp} {Q : VK} (q : tEv K W (conC d) σ H Q) : tC v σ H Q := by
  obtain ⟨pn, A, e, G, R, g, oc⟩ := q
  exact (oc_ret oc).sc g (h G)
theorem se_int {i : Int} {j : Nat} : PE X (.Constant (.int i) j pos) (tEv X.K W (conC (.int i))) := PE_mono pe_int fun _ _ _ q => t_con (fun _ => .int i) q
theorem se_bl {b : Bool} {j : Nat} : PE X (.Constant (.bool b) j pos) (tEv X.K W (conC (.bl b))) := PE_mono pe_bl fun _ _ _ q => t_con (fun _ => .bl b) q
theorem se_non {j : Nat} : PE X (.Constant .none j pos) (tEv X.K W (conC .non)) := PE_mono pe_non fun _ _ _ q => t_con (fun _ => .non) q
theorem se_str {x : Str} {j : Nat} : PE X (.Constant (.str x) j pos) (tEv X.K W (conC (.str x))) := PE_mono pe_str fun _ _ _ q => t_con (fun _ => .str x) q
theorem se_glob {x : Str} {d : D} {u : Value} {v : V} (hg : Gl X x) (hm : X.mg x = some u) (r : RelV v u) (h : ∀ G, Rep X.K G v d) (hd : (x == ("__debug__" : Str)) = false) : PE X (.Name x pos) (tEv X.K W (conC d)) :=
  PE_mono (pe_glob hg hm r hd) fun _ _ _ q => t_con h q
theorem se_name {i : Nat} {x : Str} (hN : X.N[i]? = some x) (hv : Vis X.env.scope x) (hd : (x == ("__debug__" : Str)) = false) (hcd : (x == ("__classdict__" : Str)) = false) : PE X (.Name x pos) (tEv X.K W (nameC i)) :=
  PE_mono (pe_var hN hv hd hcd) fun σ H Q q => by
    obtain ⟨pn, A, e, G, R, g, oc⟩ := q
    unfold nameC at oc
    cases h : e[i]? with
    | none => simp only [h] at oc; exact oc.elim
    | some s =>
      have z := g.sl i s h
      simp only [h] at oc
      cases s with
      | em => exact oc.elim
      | sh d =>
        obtain ⟨v, h1, h2⟩ := z
        exact ⟨v, h1, (oc_ret oc).sc g h2⟩
      | ow b d =>
        obtain ⟨p, h1, _⟩ := z
        have f : FinV X.K (rvE X.K) pn e σ G R (.ow i) Q := oc
        exact ⟨_, h1, f _ A G H (Ex.refl G) g ⟨h1, b, d, h⟩⟩
      | nt b d =>
        obtain ⟨p, h1, h2, _⟩ := g.tree (.inr h)
        have f : FinV X.K (rvE X.K) pn e σ G R (.np i []) Q := oc
        exact ⟨_, h1, f _ A G H (Ex.refl G) g ⟨b, d, d, p, h, rfl, rfl, h2⟩⟩
end

/-! ### truth, not, and, or -/
def truC (f : M Val) : M Bool := bnd f fun v => bnd (der v) fun d => opt (truD d)
theorem truV {K : PySem.W.Frag} {G H : Hp} {v : V} {d : D} {k : Bool} (x : Ex G H) (r : RdV K G H v d) (h : truD d = some k) : TruV K v H k := by
  unfold truD at h
  split at h
  · cases h; cases r; rfl
  · cases h; cases r; rfl
  · cases h; cases r; rfl
  · split at h
    · cases h; cases r; exact ⟨by rw [← lim_eq]; assumption, rfl⟩
    · cases h
  · cases h
    have r' : Rep K G v (.tup _) := r
    cases r' with
    | tup hp ra =>
      refine .inr (.inl ⟨_, SqT.of (x _ _ hp), ?_⟩)
      cases ra <;> rfl
  · cases h
    obtain ⟨p, xs, rfl, hp, ra⟩ := r
    refine .inl ⟨_, SqL.of hp, ?_⟩
    cases ra <;> rfl
  · cases h
section
variable {K : PySem.W.Frag} {W : WX}
theorem tru_fin {f : M Val} {σ : L2.St} {H : Hp} {Q : Bool → Hp → Prop} (h : tTv K W (truC f) σ H Q) : tEv K W f σ H fun x H1 => ∃ k, TruV K x H1 k ∧ Q k H1 := by
  obtain ⟨pn, A, e, G, R, g, oc⟩ := h
  refine chain g oc fun x v A1 e1 G1 H1 x1 g1 r1 oc1 => ?_
  obtain ⟨d, rd, oc2⟩ := oc_der g1 r1 oc1
  obtain ⟨b, q3, fin⟩ := oc_optE oc2
  exact ⟨b, truV g1.gh rd q3, fin b A1 G1 H1 (Ex.refl _) g1 rfl⟩
end
section
variable {X : Cx} {W : WX}
theorem st_tru {a : Expr} {f : M Val} (ha : PE X a (tEv X.K W f)) (he : ∀ whole, isTrue a X.env whole = (do let v ← whole; standAt a.pos; holding [v] (truthy v))) : PT X a (tTv X.K W (truC f)) :=
  PT_mono (pt_truth ha he) fun _ _ _ h => tru_fin h
def notC (f : M Bool) : M Val := bnd f fun b => ret (.sh (.bl (!b)))
theorem se_not {a : Expr} {f : M Val} {pos : Pos} (ha : PE X a (tEv X.K W f)) : PE X (.UnaryOp .Not a pos) (tEv X.K W (notC (truC f))) :=
  PE_mono (pe_notT ha) fun σ H Q h => by
    obtain ⟨pn, A, e, G, R, g, oc⟩ := h
    have z : tTv X.K W (truC f) σ H fun k H1 => Q (.bl (!k)) H1 := chain g oc fun b b' A1 e1 G1 H1 x1 g1 r1 oc1 => by subst r1; exact (oc_ret oc1).sc g1 (.bl _)
    exact tru_fin z
def notT (f : M Bool) : M Bool := bnd f fun b => ret (!b)
theorem st_not {a : Expr} {f : M Bool} {pos : Pos} (ha : PT X a (tTv X.K W f)) : PT X (.UnaryOp .Not a pos) (tTv X.K W (notT f)) :=
  PT_mono (pt_not ha) fun σ H Q h => by
    obtain ⟨pn, A, e, G, R, g, oc⟩ := h
    exact chain g oc fun b b' A1 e1 G1 H1 x1 g1 r1 oc1 => by subst r1; exact (oc_ret oc1) _ A1 G1 H1 (Ex.refl _) g1 rfl
/-- and, or as tests (w: the answer that ends it) -/
def bopT (w : Bool) : List (M Bool) → M Bool
  | [] => fail
  | [a] => a
  | a :: b :: r => bnd a fun c => if c = w then ret w else bopT w (b :: r)
theorem st_bop {pos : Pos} (op : BoolOp) : ∀ (es : List Expr) (fs : List (M Bool)), Paired (fun a f => PT X a (tTv X.K W f)) es fs → PW X (.BoolOp op es pos) (tTv X.K W (bopT (op == .Or) fs))
  | _, _, .nil => ⟨fun wh pins s σ H Q I h => by obtain ⟨_, _, _, _, _, _, oc⟩ := h; exact oc.elim⟩
  | [a], [f], .cons h .nil => by
    cases op
    · exact pw_and1 h
    · exact pw_or1 h
  | a :: b :: es, f :: f2 :: fs, .cons h (.cons h2 hr) => by
    have ih := st_bop (pos := pos) op (b :: es) (f2 :: fs) (.cons h2 hr)
    cases op
    · refine PW_mono (pw_and h ih) fun σ H Q q => ?_
      obtain ⟨pn, A, e, G, R, g, oc⟩ := q
      refine chain g oc fun c c' A1 e1 G1 H1 x1 g1 r1 oc1 => ?_
      subst r1
      cases c with
      | true =>
        rw [if_pos rfl]
        exact last g1 oc1
      | false =>
        rw [if_neg Bool.false_ne_true]
        exact (oc_ret (a := false) oc1) _ A1 G1 H1 (Ex.refl _) g1 rfl
    · refine PW_mono (pw_or h ih) fun σ H Q q => ?_
      obtain ⟨pn, A, e, G, R, g, oc⟩ := q
      refine chain g oc fun c c' A1 e1 G1 H1 x1 g1 r1 oc1 => ?_
      subst r1
      cases c with
      | true =>
        rw [if_pos rfl]
        exact (oc_ret (a := true) oc1) _ A1 G1 H1 (Ex.refl _) g1 rfl
      | false =>
        rw [if_neg Bool.false_ne_true]
        exact last g1 oc1
/-- .. as values -/
def bopC (w : Bool) : List (M Val) → M Val
  | [] => fail
  | [a] => a
  | a :: b :: r => bnd a fun v => bnd (der v) fun d => bnd (opt (truD d)) fun c => if c = w then ret v else bopC w (b :: r)
theorem se_bop {pos : Pos} (op : BoolOp) : ∀ (es : List Expr) (fs : List (M Val)), Paired (fun a f => PE X a (tEv X.K W f)) es fs → PE X (.BoolOp op es pos) (tEv X.K W (bopC (op == .Or) fs))
  | _, _, .nil => ⟨fun pins s σ H Q I h => by obtain ⟨_, _, _, _, _, _, oc⟩ := h; exact oc.elim⟩
  | [a], [f], .cons h .nil => pe_one h
  | a :: b :: es, f :: f2 :: fs, .cons h (.cons h2 hr) => by
    have ih := se_bop (pos := pos) op (b :: es) (f2 :: fs) (.cons h2 hr)
    cases op
    · refine PE_mono (pe_andT h ih) fun σ H Q q => ?_
      obtain ⟨pn, A, e, G, R, g, oc⟩ := q
      refine chain g oc fun x v A1 e1 G1 H1 x1 g1 r1 oc1 => ?_
      obtain ⟨d, rd, oc2⟩ := oc_der g1 r1 oc1
      obtain ⟨c, q4, oc3⟩ := oc_opt oc2
      refine ⟨c, truV g1.gh rd q4, ?_⟩
      cases c with
      | true =>
        rw [if_pos rfl]
        exact last g1 oc3
      | false =>
        rw [if_neg Bool.false_ne_true]
        exact (oc_ret (a := v) oc3) _ A1 G1 H1 (Ex.refl _) g1 r1
    · refine PE_mono (pe_orT h ih) fun σ H Q q => ?_
      obtain ⟨pn, A, e, G, R, g, oc⟩ := q
      refine chain g oc fun x v A1 e1 G1 H1 x1 g1 r1 oc1 => ?_
      obtain ⟨d, rd, oc2⟩ := oc_der g1 r1 oc1
      obtain ⟨c, q4, oc3⟩ := oc_opt oc2
      refine ⟨c, truV g1.gh rd q4, ?_⟩
      cases c with
      | true =>
        rw [if_pos rfl]
        exact (oc_ret (a := v) oc3) _ A1 G1 H1 (Ex.refl _) g1 r1
      | false =>
        rw [if_neg Bool.false_ne_true]
        exact last g1 oc3
/-- a if t else b -/
def ifC (t : M Bool) (a b : M Val) : M Val := bnd t fun c => if c = true then a else b
theorem se_if {c a b : Expr} {pos : Pos} {t : M Bool} {fa fb : M Val} (hc : PT X c (tTv X.K W t)) (ha : PE X a (tEv X.K W fa)) (hb : PE X b (tEv X.K W fb)) : PE X (.IfExp c a b pos) (tEv X.K W (ifC t fa fb)) :=
  PE_mono (pe_ifExp hc ha hb) fun σ H Q q => by
    obtain ⟨pn, A, e, G, R, g, oc⟩ := q
    refine chain g oc fun c c' A1 e1 G1 H1 x1 g1 r1 oc1 => ?_
    subst r1
    cases c with
    | true => rw [if_pos rfl] at oc1 ⊢; exact last g1 oc1
    | false => rw [if_neg Bool.false_ne_true] at oc1 ⊢; exact last g1 oc1
end
/-! ### comparisons as tests, chains -/
def asBl : Val → M Bool
  | .sh (.bl b) => ret b
  | _ => fail
def cmpT (f : M Val) : M Bool := bnd f asBl
section
variable {K : PySem.W.Frag} {W : WX}
theorem asBl_fin {β : Type} {rv' : Rv β Bool} {pn : Pn} {A : LA} {e : En} {σ : L2.St} {G R H : Hp} {Q : β → Hp → Prop} {x : V} {v : Val} (r : RepVal K A G R H e σ x v) (oc : OcV K W rv' pn σ R Q G (asBl v e)) : ∃ b, x = .bl b ∧ v = .sh (.bl b) ∧ FinV K rv' pn e σ G R b Q := by
  unfold asBl at oc
  split at oc
  · rename_i b
    have r1' : Rep K G x (.bl b) := r
    cases r1'
    exact ⟨b, rfl, rfl, oc_ret oc⟩
  · exact oc.elim
theorem oc_asBl {γ δ : Type} {rv' : Rv δ γ} {pn : Pn} {e : En} {σ : L2.St} {G R : Hp} {Q' : δ → Hp → Prop} {v : Val} {k : Bool → M γ} (oc : OcV K W rv' pn σ R Q' G (bnd (asBl v) k e)) : ∃ b, v = .sh (.bl b) ∧ OcV K W rv' pn σ R Q' G (k b e) := by
  cases v with
  | sh d =>
    cases d with
    | bl b => exact ⟨b, rfl, oc⟩
    | _ => exact False.elim oc
  | _ => exact False.elim oc
theorem cmp_fin {f : M Val} {σ : L2.St} {H : Hp} {Q : Bool → Hp → Prop} (h : tTv K W (cmpT f) σ H Q) : tEv K W f σ H fun x H1 => ∃ k, x = .bl k ∧ Q k H1 := by
  obtain ⟨pn, A, e, G, R, g, oc⟩ := h
  refine chain g oc fun x v A1 e1 G1 H1 x1 g1 r1 oc1 => ?_
  obtain ⟨b, rfl, _, fin⟩ := asBl_fin r1 oc1
  exact ⟨b, rfl, fin b A1 G1 H1 (Ex.refl _) g1 rfl⟩
theorem st_cmp {X : Cx} {op : CmpOp} {a b : Expr} {pos : Pos} {r : R2} {g : D → D → Option Val} {fa fb : M Val} (ho : OpR X (compareOp op) r) (hr : ROK X.K r g) (ha : PE X a (tEv X.K W fa)) (hb : PE X b (tEv X.K W fb)) (hm : behindInMarks op b = false) :
    PT X (.Compare a [op] [b] pos) (tTv X.K W (cmpT (binC g fa fb))) := PT_mono (pt_cmpR ho ha hb hm) fun _ _ _ h => tbin hr (cmp_fin h)
/-- a op b op' c -/
def chnC (g g' : D → D → Option Val) (fa fb fc : M Val) : M Val :=
  bnd fa fun va => bnd (pend va) fun va => bnd fb fun vb => bnd (pend vb) fun vb => bnd (der va) fun da => bnd (der vb) fun db => bnd (opt (g da db)) fun z => bnd (asBl z) fun k =>
    if k = true then bnd fc fun vc => bnd (der vb) fun db' => bnd (der vc) fun dc => opt (g' db' dc) else ret (.sh (.bl false))
theorem tchn {r r' : R2} {g g' : D → D → Option Val} {fa fb fc : M Val} (hr : ROK K r g) (hr' : ROK K r' g') {σ : L2.St} {H : Hp} {Q : VK} (h : tEv K W (chnC g g' fa fb fc) σ H Q) :
    tChain r r' (tEv K W fa) (tEv K W fb) (tEv K W fc) σ H Q := by
  obtain ⟨pn, A, e, G, R, g0, oc⟩ := h
  refine chain g0 oc fun x va A1 e1 G1 H1 x1 g1 r1 oc1 => ?_
  obtain ⟨wa, G2, x2, g2, r2, oc2⟩ := oc_pend g1 r1 oc1
  refine chain g2 oc2 fun y vb A3 e3 G3 H3 x3 g3 r3 oc3 => ?_
  obtain ⟨wb, G4, x4, g4, r4, oc4⟩ := oc_pend g3 r3 oc3
  obtain ⟨da, d1, oc5⟩ := oc_derP g4 (r2.mono (x3.trans x4)) oc4
  obtain ⟨db, d2, oc6⟩ := oc_derP g4 r4 oc5
  obtain ⟨z, q5, oc7⟩ := oc_opt oc6
  refine hr pn A3 e3 σ G4 R H3 x y da db z g4 d1 d2 q5 _ fun zv A5 G5 H5 x5 g5 r5 => ?_
  obtain ⟨b, rfl, oc8⟩ := oc_asBl oc7
  have r5' : Rep K G5 zv (.bl b) := r5
  cases r5'
  refine ⟨_, rfl, ?_⟩
  cases b with
  | false =>
    rw [if_neg Bool.false_ne_true] at oc8 ⊢
    exact ((oc_ret oc8).ext x5).sc g5 (.bl _)
  | true =>
    rw [if_pos rfl] at oc8 ⊢
    refine chain g5 (oc8.ext x5) fun w vc A6 e6 G6 H6 x6 g6 r6 oc9 => ?_
    obtain ⟨db', d3, oc10⟩ := oc_derP g6 (r4.mono (x5.trans x6)) oc9
    obtain ⟨dc, d4, oc11⟩ := oc_der g6 r6 oc10
    obtain ⟨val, q10, fin⟩ := oc_optE oc11
    exact hr' pn A6 e6 σ G6 R H6 y w db' dc val g6 d3 d4 q10 Q fin
end
section
variable {X : Cx} {W : WX} {pos : Pos} {a b c : Expr} {fa fb fc : M Val}
def asInt : D → M Int
  | .int i => ret i
  | _ => fail
theorem oc_int {γ δ : Type} {K : PySem.W.Frag} {rv' : Rv δ γ} {pn : Pn} {e : En} {σ : L2.St} {G R H : Hp} {Q' : δ → Hp → Prop} {d : D} {x : V} {k : Int → M γ} (r : RdV K G H x d) (oc : OcV K W rv' pn σ R Q' G (bnd (asInt d) k e)) : ∃ i, x = .int i ∧ d = .int i ∧ OcV K W rv' pn σ R Q' G (k i e) := by
  cases d with
  | int i => cases r; exact ⟨i, rfl, rfl, oc⟩
  | _ => exact False.elim oc
def negC (f : M Val) : M Val := bnd f fun v => bnd (der v) fun d => bnd (asInt d) fun i => ret (.sh (.int (-i)))
theorem se_neg (ha : PE X a (tEv X.K W fa)) : PE X (.UnaryOp .USub a pos) (tEv X.K W (negC fa)) := PE_mono (pe_un un_neg ha) fun σ H Q q => by
  obtain ⟨pn, A, e, G, R, g, oc⟩ := q
  refine chain g oc fun x v A1 e1 G1 H1 x1 g1 r1 oc1 => ?_
  obtain ⟨d, rd, oc2⟩ := oc_der g1 r1 oc1
  obtain ⟨i, rfl, _, oc3⟩ := oc_int rd oc2
  exact ⟨i, rfl, (oc_ret oc3).sc g1 (.int _)⟩
theorem se_chn {op op' : CmpOp} {r r' : R2} {g g' : D → D → Option Val} (ho : OpR X (compareOp op) r) (ho' : OpR X (compareOp op') r') (hr : ROK X.K r g) (hr' : ROK X.K r' g') (ha : PE X a (tEv X.K W fa)) (hb : PE X b (tEv X.K W fb)) (hc : PE X c (tEv X.K W fc))
    (hm : lastMarks [op, op'] [b, c] = false) : PE X (.Compare a [op, op'] [b, c] pos) (tEv X.K W (chnC g g' fa fb fc)) := PE_mono (pe_chain ho ho' ha hb hc hm) fun _ _ _ h => tchn hr hr' h
theorem st_chn {op op' : CmpOp} {r r' : R2} {g g' : D → D → Option Val} (ho : OpR X (compareOp op) r) (ho' : OpR X (compareOp op') r') (hr : ROK X.K r g) (hr' : ROK X.K r' g') (ha : PE X a (tEv X.K W fa)) (hb : PE X b (tEv X.K W fb)) (hc : PE X c (tEv X.K W fc))
    (hm : lastMarks [op, op'] [b, c] = false) : PT X (.Compare a [op, op'] [b, c] pos) (tTv X.K W (cmpT (chnC g g' fa fb fc))) := PT_mono (pt_chain ho ho' ha hb hc hm) fun _ _ _ h => tchn hr hr' (cmp_fin h)
end
end Qv
namespace Qv
open PySem L2
open Evl (Ex)

/-! ### argument lists -/
def argsN : List (M Val) → M (List Val)
  | [] => ret []
  | f :: r => bnd f fun v => bnd (pend v) fun w => bnd (argsN r) fun vs => ret (w :: vs)
/-- one alone need not wait -/
def argsC : List (M Val) → M (List Val)
  | [f] => bnd f fun v => ret [opd v]
  | fs => argsN fs
abbrev PnVs (K : PySem.W.Frag) (G : Hp) (σ : L2.St) : List V → List Val → Prop := Paired (PnV K G σ)
theorem PnVs.mono {K : PySem.W.Frag} {G G' : Hp} {σ : L2.St} (x : Ex G G') : ∀ {vs : List V} {vals : List Val}, PnVs K G σ vs vals → PnVs K G' σ vs vals
  | _, _, .nil => .nil
  | _, _, .cons h r => .cons (PnV.mono x h) (PnVs.mono x r)
def PnA (K : PySem.W.Frag) (A : LA) (G R H : Hp) (e : En) (σ : L2.St) (vs : List V) (vals : List Val) : Prop := PnVs K G σ vs vals ∨ ∃ v val, vs = [v] ∧ vals = [val] ∧ RepVal K A G R H e σ v val
abbrev rvN (K : PySem.W.Frag) : Rv (List V) (List Val) := fun _ G _ _ _ σ vs vals => PnVs K G σ vs vals
abbrev rvA (K : PySem.W.Frag) : Rv (List V) (List Val) := fun A G R H e σ vs vals => PnA K A G R H e σ vs vals
abbrev tNv (K : PySem.W.Frag) (W : WX) (f : M (List Val)) : TA := tG K W (rvN K) f
abbrev tAv (K : PySem.W.Frag) (W : WX) (f : M (List Val)) : TA := tG K W (rvA K) f
def notStar : Expr → Bool
  | .Starred _ _ => false
  | _ => true
theorem star_cons {e : Expr} {es : List Expr} {env : Env} (h : notStar e = true) : starEach (e :: es) env = (false, eval e env) :: starEach es env := by
  cases e <;> first | rfl | cases h
theorem star_plain {env : Env} {pos : Pos} : ∀ {es : List Expr}, es.all notStar = true → (backTo pos (starEach es env)).any (·.1) = false
  | [], _ => rfl
  | e :: es, h => by
    rw [List.all_cons, Bool.and_eq_true] at h
    rw [star_cons h.1]
    show (false || (backTo pos (starEach es env)).any (·.1)) = false
    rw [star_plain h.2]
    rfl
section
variable {X : Cx} {W : WX}
theorem sa_argsN : ∀ (es : List Expr) (fs : List (M Val)), es.all notStar = true → Paired (fun a f => PE X a (tEv X.K W f)) es fs → PA X es (tNv X.K W (argsN fs))
  | _, _, _, .nil => PA_mono pa_nil fun σ H Q h => by
    obtain ⟨pn, A, e, G, R, g, oc⟩ := h
    exact (oc_ret (rv := rvN X.K) oc) [] A G H (Ex.refl G) g .nil
  | a :: es, f :: fs, hn, .cons h hr => by
    rw [List.all_cons, Bool.and_eq_true] at hn
    refine PA_mono (pa_cons h (sa_argsN es fs hn.2 hr) (star_cons hn.1)) fun σ H Q q => ?_
    obtain ⟨pn, A, e, G, R, g, oc⟩ := q
    refine chain g oc fun x v A1 e1 G1 H1 x1 g1 r1 oc1 => ?_
    obtain ⟨w, G2, x2, g2, r2, oc2⟩ := oc_pend g1 r1 oc1
    refine chain g2 oc2 fun ws vs A3 e3 G3 H3 x3 g3 r3 oc3 => ?_
    exact (oc_ret (rv := rvN X.K) oc3) (x :: ws) A3 G3 H3 (Ex.refl _) g3 (.cons (r2.mono x3) r3)
theorem tNA {K : PySem.W.Frag} {f : M (List Val)} {σ : L2.St} {H : Hp} {Q : List V → Hp → Prop} (h : tAv K W f σ H Q) : tNv K W f σ H Q := by
  obtain ⟨pn, A, e, G, R, g, oc⟩ := h
  refine ⟨pn, A, e, G, R, g, ?_⟩
  unfold OcV at *
  cases q : f e with
  | ok p => rw [q] at oc; exact fun b A' G' H' x g' r => oc b A' G' H' x g' (.inl r)
  | ex x e' => rw [q] at oc; exact oc
  | err => rw [q] at oc; exact oc
theorem sa_args (es : List Expr) (fs : List (M Val)) (hn : es.all notStar = true) (h : Paired (fun a f => PE X a (tEv X.K W f)) es fs) : PA X es (tAv X.K W (argsC fs)) := by
  cases h with
  | nil => exact PA_mono (sa_argsN [] [] rfl .nil) fun σ H Q q => tNA q
  | @cons a f es fs h hr =>
    cases hr with
    | nil =>
      rw [List.all_cons, Bool.and_eq_true] at hn
      refine PA_mono (pa_cons h pa_nil (star_cons hn.1)) fun σ H Q q => ?_
      obtain ⟨pn, A, e, G, R, g, oc⟩ := q
      refine chain g oc fun x v A1 e1 G1 H1 x1 g1 r1 oc1 => ?_
      show Q [x] H1
      have f1 : FinV X.K (rvA X.K) pn e1 σ G1 R [opd v] Q := oc1
      cases v with
      | fr d => obtain ⟨G2, x2, g2, r2⟩ := g1.share r1; exact f1 [x] A1 G2 H1 x2 g2 (.inr ⟨_, _, rfl, rfl, r2⟩)
      | sh d => exact f1 [x] A1 G1 H1 (Ex.refl _) g1 (.inr ⟨_, _, rfl, rfl, r1⟩)
      | ow d => exact f1 [x] A1 G1 H1 (Ex.refl _) g1 (.inr ⟨_, _, rfl, rfl, r1⟩)
      | fn d => exact f1 [x] A1 G1 H1 (Ex.refl _) g1 (.inr ⟨_, _, rfl, rfl, r1⟩)
      | np i d => exact f1 [x] A1 G1 H1 (Ex.refl _) g1 (.inr ⟨_, _, rfl, rfl, r1⟩)
    | cons h2 hr => exact PA_mono (sa_argsN _ _ hn (.cons h (.cons h2 hr))) fun σ H Q q => tNA q
end
/-- all are shared -/
def shrAll : List Val → M (List D)
  | [] => ret []
  | v :: r => bnd (shr v) fun d => bnd (shrAll r) fun ds => ret (d :: ds)
def derAll : List Val → M (List D)
  | [] => ret []
  | v :: r => bnd (der v) fun d => bnd (derAll r) fun ds => ret (d :: ds)
abbrev RdVs (K : PySem.W.Frag) (G H : Hp) : List V → List D → Prop := Paired (RdV K G H)
section
variable {γ δ : Type} {K : PySem.W.Frag} {W : WX} {rv' : Rv δ γ} {pn : Pn} {A : LA} {e e' : En} {σ : L2.St} {G G' R R' H H' : Hp} {Q' : δ → Hp → Prop}
theorem oc_assoc {α β : Type} {m : M α} {f : α → M β} {k : β → M γ} (oc : OcV K W rv' pn σ R Q' G (bnd (bnd m f) k e)) : OcV K W rv' pn σ R Q' G (bnd m (fun a => bnd (f a) k) e) := by
  unfold bnd at *
  cases h : m e with
  | ok p => rw [h] at oc; exact oc
  | ex x e' => rw [h] at oc; exact oc
  | err => rw [h] at oc; exact oc
theorem oc_shrN : ∀ {vals : List Val} {vs : List V} {A : LA} {e : En} {G : Hp} {k : List D → M γ}, RelG K pn A e σ G R H → PnVs K G σ vs vals → OcV K W rv' pn σ R Q' G (bnd (shrAll vals) k e) →
    ∃ ds A' e' G', Ex G G' ∧ RelG K pn A' e' σ G' R H ∧ RepL K G' vs ds ∧ OcV K W rv' pn σ R Q' G' (k ds e')
  | _, _, A, e, G, k, g, .nil, oc => ⟨[], A, e, G, Ex.refl G, g, .nil, oc⟩
  | _, _, A, e, G, k, g, .cons r rr, oc => by
    obtain ⟨d, A1, e1, G1, x1, g1, r1, oc1⟩ := oc_shrP g r (oc_assoc oc)
    obtain ⟨ds, A2, e2, G2, x2, g2, r2, oc2⟩ := oc_shrN g1 (PnVs.mono x1 rr) (oc_assoc oc1)
    exact ⟨d :: ds, A2, e2, G2, x1.trans x2, g2, .cons (r1.mono x2) r2, oc2⟩
theorem oc_shrA {vals : List Val} {vs : List V} {k : List D → M γ} (g : RelG K pn A e σ G R H) (r : PnA K A G R H e σ vs vals) (oc : OcV K W rv' pn σ R Q' G (bnd (shrAll vals) k e)) :
    ∃ ds A' e' G', Ex G G' ∧ RelG K pn A' e' σ G' R H ∧ RepL K G' vs ds ∧ OcV K W rv' pn σ R Q' G' (k ds e') := by
  rcases r with r | ⟨v, val, rfl, rfl, r⟩
  · exact oc_shrN g r oc
  · obtain ⟨d, A1, e1, G1, x1, g1, r1, oc1⟩ := oc_shr g r (oc_assoc oc)
    exact ⟨[d], A1, e1, G1, x1, g1, .cons r1 .nil, oc1⟩
theorem oc_derN : ∀ {vals : List Val} {vs : List V} {k : List D → M γ}, RelG K pn A e σ G R H → PnVs K G σ vs vals → OcV K W rv' pn σ R Q' G (bnd (derAll vals) k e) → ∃ ds, RdVs K G H vs ds ∧ OcV K W rv' pn σ R Q' G (k ds e)
  | _, _, k, g, .nil, oc => ⟨[], .nil, oc⟩
  | _, _, k, g, .cons r rr, oc => by
    obtain ⟨d, rd, oc1⟩ := oc_derP g r (oc_assoc oc)
    obtain ⟨ds, rds, oc2⟩ := oc_derN g rr (oc_assoc oc1)
    exact ⟨d :: ds, .cons rd rds, oc2⟩
theorem oc_derA {vals : List Val} {vs : List V} {k : List D → M γ} (g : RelG K pn A e σ G R H) (r : PnA K A G R H e σ vs vals) (oc : OcV K W rv' pn σ R Q' G (bnd (derAll vals) k e)) : ∃ ds, RdVs K G H vs ds ∧ OcV K W rv' pn σ R Q' G (k ds e) := by
  rcases r with r | ⟨v, val, rfl, rfl, r⟩
  · exact oc_derN g r oc
  · obtain ⟨d, rd, oc1⟩ := oc_der g r (oc_assoc oc)
    exact ⟨[d], .cons rd .nil, oc1⟩
theorem oc_if {α : Type} {rv : Rv δ α} {c : Prop} [Decidable c] {m : M α} (oc : OcV K W rv pn σ R Q' G ((if c then m else fail) e)) : c ∧ OcV K W rv pn σ R Q' G (m e) := by
  by_cases h : c
  · rw [if_pos h] at oc; exact ⟨h, oc⟩
  · rw [if_neg h] at oc; exact False.elim oc
end
def tupC (fs : List (M Val)) : M Val := bnd (argsC fs) fun vs => bnd (shrAll vs) fun ds => if ds.length ≤ lenLim then ret (.sh (.tup ds)) else fail
def lstC (fs : List (M Val)) : M Val := bnd (argsC fs) fun vs => bnd (shrAll vs) fun ds => if ds.length ≤ lenLim then ret (.fr (.lst ds)) else fail
section
variable {X : Cx} {W : WX} {pos : Pos}
theorem se_tup {k : Nat} {es : List Expr} {fs : List (M Val)} (hn : es.all notStar = true) (h : Paired (fun a f => PE X a (tEv X.K W f)) es fs) : PE X (.Tuple es k pos) (tEv X.K W (tupC fs)) :=
  PE_mono (pe_tup (sa_args es fs hn h)) fun σ H Q q => by
    obtain ⟨pn, A, e, G, R, g, oc⟩ := q
    refine chain g oc fun ws vs A1 e1 G1 H1 x1 g1 r1 oc1 => ?_
    obtain ⟨ds, A2, e2, G2, x2, g2, r2, oc2⟩ := oc_shrA g1 r1 oc1
    obtain ⟨hl, oc3⟩ := oc_if oc2
    exact ⟨by rw [r2.length, ← lim_eq]; exact hl, (oc_ret oc3).newT g2 r2⟩
theorem se_lst {es : List Expr} {fs : List (M Val)} (hn : es.all notStar = true) (h : Paired (fun a f => PE X a (tEv X.K W f)) es fs) : PE X (.List es pos) (tEv X.K W (lstC fs)) :=
  PE_mono (pe_lst (sa_args es fs hn h)) fun σ H Q q => by
    obtain ⟨pn, A, e, G, R, g, oc⟩ := q
    refine chain g oc fun ws vs A1 e1 G1 H1 x1 g1 r1 oc1 => ?_
    obtain ⟨ds, A2, e2, G2, x2, g2, r2, oc2⟩ := oc_shrA g1 r1 oc1
    obtain ⟨hl, oc3⟩ := oc_if oc2
    exact ⟨by rw [r2.length, ← lim_eq]; exact hl, (oc_ret oc3).newF g2 r2⟩
/-! ### subscripts -/
theorem atI_rep {K : PySem.W.Frag} {G : Hp} {vs : List V} {ds : List D} {i : Int} {d : D} (r : RepL K G vs ds) (h : atI ds i = some d) : ∃ v, atI vs i = some v ∧ Rep K G v d := by
  unfold atI at h ⊢
  rw [r.length]
  cases q : ixN ds.length i with
  | none => rw [q] at h; cases h
  | some j =>
    rw [q] at h
    exact r.get h
theorem ok_ix {K : PySem.W.Frag} : ROK K (rIx K) fun a b => (ixD a b).map Val.sh := by
  intro pn A e σ G R H x y dx dy val g rx ry h Q f
  have h0 : (ixD dx dy).map Val.sh = some val := h
  clear h
  obtain ⟨d, h, rfl⟩ := Option.map_eq_some_iff.mp h0
  clear h0
  unfold ixD at h
  split at h
  · cases ry
    obtain ⟨p, xs, rfl, hp, ra⟩ := rx
    obtain ⟨v, h1, h2⟩ := atI_rep ra h
    exact .inl ⟨p, xs, _, v, rfl, rfl, SqL.of hp, h1, f.sc g h2⟩
  · cases ry
    have rx' : Rep K G x (.tup _) := rx
    cases rx' with
    | tup hp ra =>
      obtain ⟨v, h1, h2⟩ := atI_rep ra h
      exact .inr (.inl ⟨_, _, _, v, rfl, rfl, SqT.of (g.gh _ _ hp), h1, f.sc g h2⟩)
  · cases ry
    have rx' : Rep K G x (.scr _) := rx
    cases rx' with
    | scr hp =>
      obtain ⟨n, h1, rfl⟩ := Option.map_eq_some_iff.mp h
      refine .inl ⟨_, _, _, .int n, rfl, rfl, Evl.ex_l g.gh hp, ?_, f.sc g (.int n)⟩
      unfold atI at h1 ⊢
      rw [List.length_map]
      cases q : ixN _ _ with
      | none => rw [q] at h1; cases h1
      | some j =>
        rw [q] at h1
        have h1' : (_ : List Int)[j]? = some n := h1
        simp [h1']
  · split at h
    · cases ry
      have rx' : Rep K G x (.str _) := rx
      cases rx'
      obtain ⟨c, h1, rfl⟩ := Option.map_eq_some_iff.mp h
      exact .inr (.inr ⟨_, _, c, rfl, rfl, by rw [← lim_eq]; assumption, h1, f.sc g (.str _)⟩)
    · cases h
  · cases h
def ixC (fa fb : M Val) : M Val := binC (fun a b => (ixD a b).map Val.sh) fa fb
def notSlice : Expr → Bool
  | .Slice .. => false
  | _ => true
theorem plainIx_of {b : Expr} (h : notSlice b = true) : PlainIx b := by
  intro o i
  cases b <;> first | rfl | cases h
theorem se_ix {a b : Expr} {fa fb : M Val} (ha : PE X a (tEv X.K W fa)) (hb : PE X b (tEv X.K W fb)) (hs : notSlice b = true) : PE X (.Subscript a b pos) (tEv X.K W (ixC fa fb)) :=
  PE_mono (pe_ix ix_seq ha hb (plainIx_of hs)) fun _ _ _ h => tbin ok_ix h
/-- a part of a slice: left out, or an int -/
def noC : M (Option Int) := ret none
def partC (f : M Val) : M (Option Int) := bnd f fun v => bnd (der v) fun d => bnd (asInt d) fun i => ret (some i)
abbrev tOv (K : PySem.W.Frag) (W : WX) (f : M (Option Int)) : TO := tG K W rvB f
theorem PO_mono {e : Option Expr} {t t' : TO} (h : PO X e t) (m : ∀ σ H Q, t' σ H Q → t σ H Q) : PO X e t' := ⟨fun pins s σ H Q I q => h.run pins s σ H Q I (m σ H Q q)⟩
theorem so_no : PO X none (tOv X.K W noC) := PO_mono po_none fun σ H Q q => by
  obtain ⟨pn, A, e, G, R, g, oc⟩ := q
  exact (oc_ret oc) none A G H (Ex.refl G) g rfl
theorem so_part {a : Expr} {f : M Val} (ha : PE X a (tEv X.K W f)) : PO X (some a) (tOv X.K W (partC f)) := PO_mono (po_some ha) fun σ H Q q => by
  obtain ⟨pn, A, e, G, R, g, oc⟩ := q
  refine chain g oc fun x v A1 e1 G1 H1 x1 g1 r1 oc1 => ?_
  obtain ⟨d, rd, oc2⟩ := oc_der g1 r1 oc1
  obtain ⟨i, rfl, _, oc3⟩ := oc_int rd oc2
  exact ⟨i, rfl, (oc_ret oc3) (some i) A1 G1 H1 (Ex.refl _) g1 rfl⟩
def sliC (fa : M Val) (lo hi : M (Option Int)) : M Val := bnd fa fun v => bnd (pend v) fun v => bnd lo fun l => bnd hi fun u => bnd (der v) fun d => opt (slD d l u)
def rSlA3 (K : PySem.W.Frag) : V → Option Int → Option Int → Hp → VK → Prop := fun x lo hi H Q => rSlL K x lo hi H Q ∨ rSlA K x lo hi H Q ∨ rSlS x lo hi H Q
theorem cut_rep {K : PySem.W.Frag} {G : Hp} {vs : List V} {ds : List D} (lo hi : Option Int) (r : RepL K G vs ds) : RepL K G (cutV vs lo hi) (cutD ds lo hi) := by
  unfold cutV cutD
  rw [r.length]
  exact (r.drop _).take _
theorem cut_all {α : Type} {l : List α} {lo hi : Option Int} (h : HT.sIx l.length 0 lo = 0 ∧ HT.sIx l.length l.length hi = l.length) : (l.drop (HT.sIx l.length 0 lo)).take (HT.sIx l.length l.length hi - HT.sIx l.length 0 lo) = l := by
  rw [h.1, h.2]
  simp
theorem se_sli {a : Expr} {lo hi : Option Expr} {fa : M Val} {fl fh : M (Option Int)} {p2 : Pos} (ha : PE X a (tEv X.K W fa)) (hl : PO X lo (tOv X.K W fl)) (hu : PO X hi (tOv X.K W fh)) : PE X (.Subscript a (.Slice lo hi none p2) pos) (tEv X.K W (sliC fa fl fh)) :=
  PE_mono (pe_slice (r := rSlA3 X.K) (sl_list.or (sl_tupA.or sl_str)) ha hl hu) fun σ H Q q => by
    obtain ⟨pn, A, e, G, R, g, oc⟩ := q
    refine chain g oc fun x v A1 e1 G1 H1 x1 g1 r1 oc1 => ?_
    obtain ⟨w, G2, x2, g2, r2, oc2⟩ := oc_pend g1 r1 oc1
    refine chain g2 oc2 fun l l' A3 e3 G3 H3 x3 g3 r3 oc3 => ?_
    subst r3
    refine chain g3 oc3 fun u u' A4 e4 G4 H4 x4 g4 r4 oc4 => ?_
    subst r4
    obtain ⟨d, rd, oc5⟩ := oc_derP g4 (r2.mono (x3.trans x4)) oc4
    obtain ⟨val, q5, fin⟩ := oc_optE oc5
    cases d with
    | lst ds =>
      cases q5
      obtain ⟨p, xs, rfl, hp, ra⟩ := rd
      exact .inl ⟨p, xs, rfl, SqL.of hp, fin.newF g4 (cut_rep l u ra)⟩
    | tup ds =>
      cases q5
      have rd' : Rep X.K G4 x (.tup ds) := rd
      cases rd' with
      | @tup p xs _ hp ra =>
        refine .inr (.inl ⟨p, xs, rfl, SqT.of (g4.gh _ _ hp), fun w => ?_, fun w => fin.newT g4 (cut_rep l u ra)⟩)
        rw [ra.length] at w
        have e5 : cutD ds l u = ds := cut_all w
        rw [e5] at fin
        exact fin.sc g4 (.tup hp ra)
    | str z =>
      unfold slD at q5
      dsimp only at q5
      split at q5
      · cases q5
        cases rd
        exact .inr (.inr ⟨_, rfl, by rw [← lim_eq]; assumption, fin.sc g4 (.str _)⟩)
      · cases q5
    | _ => cases q5
end
/-! ### calls of built-ins on data -/
def callC (g : List D → Option Val) (fs : List (M Val)) : M Val := bnd (argsC fs) fun vs => bnd (derAll vs) fun ds => opt (g ds)
/-- a rule does what g says of data -/
def COK (K : PySem.W.Frag) (r : List V → Hp → VK → Prop) (g : List D → Option Val) : Prop :=
  ∀ (pn : Pn) (A : LA) (e : En) (σ : L2.St) (G R H : Hp) (xs : List V) (ds : List D) (val : Val), RelG K pn A e σ G R H → RdVs K G H xs ds → g ds = some val → ∀ Q : VK, FinV K (rvE K) pn e σ G R val Q → r xs H Q
theorem tcall {K : PySem.W.Frag} {W : WX} {r : List V → Hp → VK → Prop} {g : List D → Option Val} {fs : List (M Val)} (hr : COK K r g) {σ : L2.St} {H : Hp} {Q : VK} (h : tEv K W (callC g fs) σ H Q) : tCB r (tAv K W (argsC fs)) σ H Q := by
  obtain ⟨pn, A, e, G, R, g0, oc⟩ := h
  refine chain g0 oc fun ws vs A1 e1 G1 H1 x1 g1 r1 oc1 => ?_
  obtain ⟨ds, rd, oc2⟩ := oc_derA g1 r1 oc1
  obtain ⟨val, q3, fin⟩ := oc_optE oc2
  exact hr pn A1 e1 σ G1 R H1 ws ds val g1 rd q3 Q fin
section
variable {X : Cx} {W : WX} {pos p : Pos} {x : Str} {id T : String} {r : List V → Hp → VK → Prop} {g : List D → Option Val} {a : Expr} {es : List Expr} {fs : List (M Val)}
theorem se_callB (hc : CallR X (.builtin id) r) (hr : COK X.K r g) (hg : Gl X x) (hm : X.mg x = none) (hv : bootBuiltins x = some (.builtin id)) (hn : x ≠ "__name__") (hdb : (x == ("__debug__" : Str)) = false) (hs : (a :: es).all notStar = true)
    (h : Paired (fun a f => PE X a (tEv X.K W f)) (a :: es) fs) : PE X (.Call (.Name x p) (a :: es) [] pos) (tEv X.K W (callC g fs)) := by
  have hs' := hs
  rw [List.all_cons, Bool.and_eq_true] at hs'
  exact PE_mono (pe_callB hc hg hm hv (sa_args _ fs hs h) hn hdb (star_cons hs'.1) (star_plain hs'.2)) fun _ _ _ q => tcall hr q
theorem se_callTy (hc : CallR X (.type T) r) (hr : COK X.K r g) (hg : Gl X x) (hm : X.mg x = none) (hv : bootBuiltins x = some (.type T)) (hn : x ≠ "__name__") (hdb : (x == ("__debug__" : Str)) = false) (hs : (a :: es).all notStar = true)
    (h : Paired (fun a f => PE X a (tEv X.K W f)) (a :: es) fs) : PE X (.Call (.Name x p) (a :: es) [] pos) (tEv X.K W (callC g fs)) := by
  have hs' := hs
  rw [List.all_cons, Bool.and_eq_true] at hs'
  exact PE_mono (pe_callTy hc hg hm hv (sa_args _ fs hs h) hn hdb (star_cons hs'.1) (star_plain hs'.2)) fun _ _ _ q => tcall hr q
end
end Qv
namespace Qv
open PySem L2 PySem.Spec PyProof.Rows
open Evl (Ex)

/-! ### built-ins -/
def lenB : List D → Option Val
  | [.lst l] => some (.sh (.int l.length))
  | [.tup l] => some (.sh (.int l.length))
  | [.scr l] => some (.sh (.int l.length))
  | [.str z] => if z.length ≤ lenLim then some (.sh (.int z.length)) else none
  | _ => none
def absB : List D → Option Val
  | [.int i] => some (.sh (.int (if i < 0 then -i else i)))
  | _ => none
def maxB : List D → Option Val
  | [.int i, .int j] => some (.sh (.int (if j > i then j else i)))
  | _ => none
def minB : List D → Option Val
  | [.int i, .int j] => some (.sh (.int (if j < i then j else i)))
  | _ => none
def intB : List D → Option Val
  | [.int i] => some (.sh (.int i))
  | [.bl k] => some (.sh (.int (if k then 1 else 0)))
  | _ => none
def bls : List D → Option (List Bool)
  | [] => some []
  | .bl b :: r => (bls r).map (b :: ·)
  | _ => none
def intsOf : List D → Option (List Int)
  | [] => some []
  | .int b :: r => (intsOf r).map (b :: ·)
  | _ => none
def strsOf : List D → Option (List Str)
  | [] => some []
  | .str b :: r => (strsOf r).map (b :: ·)
  | _ => none
def allB : List D → Option Val
  | [.lst l] => (bls l).map fun bs => .sh (.bl (bs.all id))
  | _ => none
def anyB : List D → Option Val
  | [.lst l] => (bls l).map fun bs => .sh (.bl (bs.any id))
  | _ => none
def sumB : List D → Option Val
  | [.lst l] => (intsOf l).map fun bs => .sh (.int bs.sum)
  | _ => none
def listB : List D → Option Val
  | [.lst l] => some (.fr (.lst l))
  | [.tup l] => some (.fr (.lst l))
  | _ => none
def tupleB : List D → Option Val
  | [.lst l] => some (.sh (.tup l))
  | [.tup l] => some (.sh (.tup l))
  | _ => none
def reprD (d : D) : Option Str := if (d.nl || (d.pl && d.py.canLay0)) && (d.py.showable && (decide (d.py.shown.length ≤ lenLim) && decide (d.py.depth ≤ 64))) then some d.py.shown else none
def reprB : List D → Option Val
  | [d] => (reprD d).map fun x => .sh (.str x)
  | _ => none
def strB : List D → Option Val
  | [.str x] => some (.sh (.str x))
  | [.int i] => if i.natAbs.log2 < 1920 then some (.sh (.str (toString i))) else none
  | _ => none
def txtLe (a b : Str) : Bool := !ltCps b.cps.toList a.cps.toList
def sortS (xs : List Str) : List Str := xs.mergeSort txtLe
def sortedB : List D → Option Val
  | [.lst l] => match intsOf l with
    | some ns => some (.fr (.lst ((PySem.W.sortI ns).map .int)))
    | none => match strsOf l with
      | some xs => if xs.length < 64 then some (.fr (.lst ((sortS xs).map .str))) else none
      | none => none
  | _ => none
section
variable {X : Cx} {K : PySem.W.Frag}
theorem rd1 {G H : Hp} {xs : List V} {d : D} (h : RdVs K G H xs [d]) : ∃ x, xs = [x] ∧ RdV K G H x d := by
  cases h with
  | cons a b => cases b; exact ⟨_, rfl, a⟩
theorem rd2 {G H : Hp} {xs : List V} {d d2 : D} (h : RdVs K G H xs [d, d2]) : ∃ x y, xs = [x, y] ∧ RdV K G H x d ∧ RdV K G H y d2 := by
  cases h with
  | cons a b =>
    cases b with
    | cons c e => cases e; exact ⟨_, _, rfl, a, c⟩
def rLenA (K : PySem.W.Frag) : List V → Hp → VK → Prop := fun xs H Q => ∃ x n, xs = [x] ∧ LenV K x H n ∧ Q (.int n) H
theorem ok_len : COK K (rLenA K) lenB := by
  intro pn A e σ G R H xs ds val g r h Q f
  unfold lenB at h
  split at h
  · cases h
    obtain ⟨x, rfl, rx⟩ := rd1 r
    obtain ⟨p, ys, rfl, hp, ra⟩ := rx
    exact ⟨_, _, rfl, .inl ⟨ys, SqL.of hp, ra.length.symm⟩, f.sc g (.int _)⟩
  · cases h
    obtain ⟨x, rfl, rx⟩ := rd1 r
    have rx' : Rep K G x (.tup _) := rx
    cases rx' with
    | tup hp ra => exact ⟨_, _, rfl, .inr ⟨_, SqT.of (g.gh _ _ hp), ra.length.symm⟩, f.sc g (.int _)⟩
  · cases h
    obtain ⟨x, rfl, rx⟩ := rd1 r
    have rx' : Rep K G x (.scr _) := rx
    cases rx' with
    | scr hp => exact ⟨_, _, rfl, .inl ⟨_, Evl.ex_l g.gh hp, by rw [List.length_map]⟩, f.sc g (.int _)⟩
  · split at h
    · cases h
      obtain ⟨x, rfl, rx⟩ := rd1 r
      cases rx
      exact ⟨_, _, rfl, ⟨by rw [← lim_eq]; assumption, rfl⟩, f.sc g (.int _)⟩
    · cases h
  · cases h
theorem ok_abs : COK K (fun xs H Q => ∃ i, xs = [.int i] ∧ Q (.int (if i < 0 then -i else i)) H) absB := by
  intro pn A e σ G R H xs ds val g r h Q f
  unfold absB at h
  split at h
  · cases h
    obtain ⟨x, rfl, rx⟩ := rd1 r
    cases rx
    exact ⟨_, rfl, f.sc g (.int _)⟩
  · cases h
theorem ok_max : COK K (fun xs H Q => ∃ i j, xs = [.int i, .int j] ∧ Q (.int (if j > i then j else i)) H) maxB := by
  intro pn A e σ G R H xs ds val g r h Q f
  unfold maxB at h
  split at h
  · cases h
    obtain ⟨x, y, rfl, rx, ry⟩ := rd2 r
    cases rx; cases ry
    exact ⟨_, _, rfl, f.sc g (.int _)⟩
  · cases h
theorem ok_min : COK K (fun xs H Q => ∃ i j, xs = [.int i, .int j] ∧ Q (.int (if j < i then j else i)) H) minB := by
  intro pn A e σ G R H xs ds val g r h Q f
  unfold minB at h
  split at h
  · cases h
    obtain ⟨x, y, rfl, rx, ry⟩ := rd2 r
    cases rx; cases ry
    exact ⟨_, _, rfl, f.sc g (.int _)⟩
  · cases h
theorem ok_int : COK K (fun xs H Q => (∃ i, xs = [.int i] ∧ Q (.int i) H) ∨ ∃ k, xs = [.bl k] ∧ Q (.int (if k then 1 else 0)) H) intB := by
  intro pn A e σ G R H xs ds val g r h Q f
  unfold intB at h
  split at h
  · cases h
    obtain ⟨x, rfl, rx⟩ := rd1 r
    cases rx
    exact .inl ⟨_, rfl, f.sc g (.int _)⟩
  · cases h
    obtain ⟨x, rfl, rx⟩ := rd1 r
    cases rx
    exact .inr ⟨_, rfl, f.sc g (.int _)⟩
  · cases h
theorem bls_rep {G : Hp} : ∀ {l : List D} {bs : List Bool} {vs : List V}, bls l = some bs → RepL K G vs l → vs = bs.map V.bl
  | _, _, _, h, .nil => by cases h; rfl
  | d :: l, bs, v :: vs, h, .cons a b => by
    cases d with
    | bl c =>
      unfold bls at h
      obtain ⟨bs', h1, rfl⟩ := Option.map_eq_some_iff.mp h
      cases a
      rw [bls_rep h1 b]
      rfl
    | _ => cases h
theorem ints_rep {G : Hp} : ∀ {l : List D} {bs : List Int} {vs : List V}, intsOf l = some bs → RepL K G vs l → vs = bs.map V.int
  | _, _, _, h, .nil => by cases h; rfl
  | d :: l, bs, v :: vs, h, .cons a b => by
    cases d with
    | int c =>
      unfold intsOf at h
      obtain ⟨bs', h1, rfl⟩ := Option.map_eq_some_iff.mp h
      cases a
      rw [ints_rep h1 b]
      rfl
    | _ => cases h
theorem strs_rep {G : Hp} : ∀ {l : List D} {bs : List Str} {vs : List V}, strsOf l = some bs → RepL K G vs l → vs = bs.map V.str
  | _, _, _, h, .nil => by cases h; rfl
  | d :: l, bs, v :: vs, h, .cons a b => by
    cases d with
    | str c =>
      unfold strsOf at h
      obtain ⟨bs', h1, rfl⟩ := Option.map_eq_some_iff.mp h
      cases a
      rw [strs_rep h1 b]
      rfl
    | _ => cases h
theorem ok_all : COK K (rAll K) allB := by
  intro pn A e σ G R H xs ds val g r h Q f
  unfold allB at h
  split at h
  · obtain ⟨bs, h1, rfl⟩ := Option.map_eq_some_iff.mp h
    obtain ⟨x, rfl, rx⟩ := rd1 r
    obtain ⟨p, ys, rfl, hp, ra⟩ := rx
    rw [bls_rep h1 ra] at hp
    exact ⟨p, bs, rfl, SqL.of hp, f.sc g (.bl _)⟩
  · cases h
theorem ok_any : COK K (rAny K) anyB := by
  intro pn A e σ G R H xs ds val g r h Q f
  unfold anyB at h
  split at h
  · obtain ⟨bs, h1, rfl⟩ := Option.map_eq_some_iff.mp h
    obtain ⟨x, rfl, rx⟩ := rd1 r
    obtain ⟨p, ys, rfl, hp, ra⟩ := rx
    rw [bls_rep h1 ra] at hp
    exact ⟨p, bs, rfl, SqL.of hp, f.sc g (.bl _)⟩
  · cases h
theorem ok_sum : COK K (rSum K) sumB := by
  intro pn A e σ G R H xs ds val g r h Q f
  unfold sumB at h
  split at h
  · obtain ⟨bs, h1, rfl⟩ := Option.map_eq_some_iff.mp h
    obtain ⟨x, rfl, rx⟩ := rd1 r
    obtain ⟨p, ys, rfl, hp, ra⟩ := rx
    rw [ints_rep h1 ra] at hp
    exact ⟨p, bs, rfl, SqL.of hp, f.sc g (.int _)⟩
  · cases h
theorem ok_list : COK K (fun xs H Q => ∃ p ys, xs = [.ref p] ∧ (SqL K H p ys ∨ SqT K H p ys) ∧ ∀ l, H l = none → Q (.ref l) (upd H l (.lst ys))) listB := by
  intro pn A e σ G R H xs ds val g r h Q f
  unfold listB at h
  split at h
  · cases h
    obtain ⟨x, rfl, rx⟩ := rd1 r
    obtain ⟨p, ys, rfl, hp, ra⟩ := rx
    exact ⟨p, ys, rfl, .inl (SqL.of hp), f.newF g ra⟩
  · cases h
    obtain ⟨x, rfl, rx⟩ := rd1 r
    have rx' : Rep K G x (.tup _) := rx
    cases rx' with
    | tup hp ra => exact ⟨_, _, rfl, .inr (SqT.of (g.gh _ _ hp)), f.newF g ra⟩
  · cases h
theorem ok_tuple : COK K (fun xs H Q => ∃ p ys, xs = [.ref p] ∧ ((SqL K H p ys ∧ ∀ l, H l = none → Q (.ref l) (upd H l (.tup ys))) ∨ (SqT K H p ys ∧ Q (.ref p) H))) tupleB := by
  intro pn A e σ G R H xs ds val g r h Q f
  unfold tupleB at h
  split at h
  · cases h
    obtain ⟨x, rfl, rx⟩ := rd1 r
    obtain ⟨p, ys, rfl, hp, ra⟩ := rx
    exact ⟨p, ys, rfl, .inl ⟨SqL.of hp, f.newT g ra⟩⟩
  · cases h
    obtain ⟨x, rfl, rx⟩ := rd1 r
    have rx' : Rep K G x (.tup _) := rx
    cases rx' with
    | tup hp ra => exact ⟨_, _, rfl, .inr ⟨SqT.of (g.gh _ _ hp), f.sc g (.tup hp ra)⟩⟩
  · cases h
def rStr : List V → Hp → VK → Prop := fun xs H Q => (∃ a, xs = [.str a] ∧ Q (.str a) H) ∨ ∃ i, xs = [.int i] ∧ i.natAbs.log2 < 1920 ∧ Q (.str (toString i)) H
theorem call_strA : CallR X (.type "str") rStr := SkE.call_str_str.or call_str_int
theorem ok_str : COK K rStr strB := by
  intro pn A e σ G R H xs ds val g r h Q f
  unfold strB at h
  split at h
  · cases h
    obtain ⟨x, rfl, rx⟩ := rd1 r
    cases rx
    exact .inl ⟨_, rfl, f.sc g (.str _)⟩
  · split at h
    · cases h
      obtain ⟨x, rfl, rx⟩ := rd1 r
      cases rx
      exact .inr ⟨_, rfl, by assumption, f.sc g (.str _)⟩
    · cases h
  · cases h
/-! ### repr -/
def rRepr (K : PySem.W.Frag) : List V → Hp → VK → Prop := fun xs H Q => ∃ x d, xs = [x] ∧ Rep K H x d ∧ (d.nl || (d.pl && d.py.canLay0)) = true ∧ d.py.showable = true ∧ d.py.shown.length ≤ sizeLine ∧ d.py.depth ≤ 64 ∧ Q (.str d.py.shown) H
section
variable {pins : List (Addr × Obj)} {σ : L2.St} {H : Hp} {s : Shared}
mutual
theorem rdsD (I : Inv X pins σ H s) : ∀ (d : D) (v : V) (u : Value), d.nl = true → Rep X.K H v d → RelV v u → ∃ as, Reads s.heap u d.py as ∧ sysModules ∉ as
  | .non, _, _, _, h, r => by cases h; cases r; exact ⟨_, Reads.none, List.not_mem_nil⟩
  | .bl b, _, _, _, h, r => by cases h; cases r; exact ⟨_, Reads.bool b, List.not_mem_nil⟩
  | .int i, _, _, _, h, r => by cases h; obtain ⟨t, rfl⟩ := r; exact ⟨_, Reads.int i t, List.not_mem_nil⟩
  | .str x, _, _, _, h, r => by cases h; obtain ⟨t, rfl⟩ := r; exact ⟨_, Reads.str x t, List.not_mem_nil⟩
  | .tup ds, _, _, n, h, r => by
    cases h with
    | tup hp ra =>
      cases r
      obtain ⟨_, its, rv, o, h1, h2, m, h3⟩ := (show ObjOk X.prog X.w H s.heap _ (.tup _) from I.hok _ _ hp)
      obtain ⟨as, q1, q2⟩ := rdsL I ds _ its n ra rv
      exact ⟨as, Reads.tuple h1 h2 h3 q1, q2⟩
  | .dct es, v, u, n, h, r => by
    have fin : ∀ (a : Addr) (o : Obj) (en : Array DictEntry) (m : Nat), u = .ref a → (a == sysModules) = false → s.heap.get? a = some o → o.cls = .type "dict" → o.data = .dict en m →
        (∃ as, ReadsAll s.heap (en.toList.map (·.key)) ((pyK es).map (·.1)) as ∧ sysModules ∉ as) → (∃ bs, ReadsAll s.heap (en.toList.map (·.val)) ((pyK es).map (·.2)) bs ∧ sysModules ∉ bs) → ∃ as, Reads s.heap u (D.dct es).py as ∧ sysModules ∉ as := by
      intro a o en m e1 ne ho hc hd ⟨as, q1, q2⟩ ⟨bs, q3, q4⟩
      subst e1
      refine ⟨_, Reads.dict ho hc hd q1 q3, fun hm => ?_⟩
      rcases List.mem_cons.mp hm with z | z
      · rw [← z] at ne; simp at ne
      · rcases List.mem_append.mp z with z | z
        · exact q2 z
        · exact q4 z
    cases h with
    | dct hp ra =>
      cases r
      obtain ⟨_, ne, vs, kv, o, en, m, ho, hx, hd, hk, pr, _⟩ := dk_of I.hok hp
      obtain ⟨q1, q2⟩ := rdsK I es _ vs en.toList n ra kv pr
      exact fin _ o en m rfl ne ho hx.1 hd q1 q2
    | dcT hp ra =>
      cases r
      cases ra with
      | nil =>
        obtain ⟨_, ne, xs, kt, o, en, m, ho, hx, hd, hk, _⟩ := dt_of I.hok hp
        cases kt
        have e : en.toList = [] := hk
        refine fin _ o en m rfl ne ho hx.1 hd ?_ ?_
        · rw [e]; exact ⟨_, ReadsAll.nil, List.not_mem_nil⟩
        · rw [e]; exact ⟨_, ReadsAll.nil, List.not_mem_nil⟩
      | cons a b => simp [D.nl, nlK] at n
  | .lst _, _, _, n, _, _ => by cases n
  | .scr _, _, _, n, _, _ => by cases n
  | .ins _ _, _, _, n, _, _ => by cases n
  | .ty _, _, _, n, _, _ => by cases n
  | .box _, _, _, n, _, _ => by cases n
theorem rdsL (I : Inv X pins σ H s) : ∀ (ds : List D) (vs : List V) (us : List Value), nlL ds = true → RepL X.K H vs ds → Vals vs us → ∃ as, ReadsAll s.heap us (pyL ds) as ∧ sysModules ∉ as
  | [], _, _, _, .nil, r => by cases r; exact ⟨_, ReadsAll.nil, List.not_mem_nil⟩
  | d :: ds, _, _, n, .cons a b, r => by
    cases r with
    | cons r1 r2 =>
      obtain ⟨n1, n2⟩ := Bool.and_eq_true_iff.mp (show (d.nl && nlL ds) = true from n)
      obtain ⟨as, q1, q2⟩ := rdsD I d _ _ n1 a r1
      obtain ⟨bs, q3, q4⟩ := rdsL I ds _ _ n2 b r2
      exact ⟨_, ReadsAll.cons q1 q3, fun z => (List.mem_append.mp z).elim q2 q4⟩
theorem rdsK (I : Inv X pins σ H s) : ∀ (es : List (D × D)) (kvs : List (L2.Key × V)) (vs : List (L2.Key × Value)) (en : List DictEntry), nlK es = true → RepK X.K H kvs es → KV kvs vs → Pairs (mixKind X.prog X.w) en vs →
    (∃ as, ReadsAll s.heap (en.map (·.key)) ((pyK es).map (·.1)) as ∧ sysModules ∉ as) ∧ ∃ bs, ReadsAll s.heap (en.map (·.val)) ((pyK es).map (·.2)) bs ∧ sysModules ∉ bs
  | [], _, _, _, _, .nil, r, p => by cases r; cases p; exact ⟨⟨_, ReadsAll.nil, List.not_mem_nil⟩, ⟨_, ReadsAll.nil, List.not_mem_nil⟩⟩
  | (_, d) :: es, (k, v) :: kvs, _, _, n, .cons a b, r, p => by
    cases r with
    | cons r1 r2 =>
      cases p with
      | cons p1 p2 p3 =>
        obtain ⟨_, n2⟩ := Bool.and_eq_true_iff.mp n
        obtain ⟨n3, n4⟩ := Bool.and_eq_true_iff.mp n2
        obtain ⟨⟨as, q1, q2⟩, ⟨bs, q3, q4⟩⟩ := rdsK I es kvs _ _ n4 b r2 p3
        obtain ⟨cs, q5, q6⟩ := rdsD I d _ _ n3 a r1.2
        obtain ⟨e1, _⟩ := r1
        rw [← p2] at q5
        refine ⟨?_, ⟨_, ReadsAll.cons q5 q3, fun z => (List.mem_append.mp z).elim q6 q4⟩⟩
        have e1' : k = _ := e1
        rw [← e1'] at p1
        cases k with
        | inl i =>
          rcases @L2.keyIs_shape (.inl i) _ p1 with ⟨i', t, z1, z2⟩ | ⟨x', t, z1, z2⟩
          · cases z1; exact ⟨_, ReadsAll.cons (by show Reads s.heap (DictEntry.key _) _ []; rw [z2]; exact Reads.int _ t) q1, q2⟩
          · cases z1
        | inr x =>
          rcases @L2.keyIs_shape (.inr x) _ p1 with ⟨i', t, z1, z2⟩ | ⟨x', t, z1, z2⟩
          · cases z1
          · cases z1; exact ⟨_, ReadsAll.cons (by show Reads s.heap (DictEntry.key _) _ []; rw [z2]; exact Reads.str _ t) q1, q2⟩
end
end
theorem call_reprA (hg : X.A.guards = some []) (hu : X.A.units + 200 < cLine) : CallR X (.builtin "repr") (rRepr X.K) := by
  intro pins s σ H xs us Q I r h
  obtain ⟨x, d, rfl, hd, hc, hs, hl, hz, q⟩ := h
  obtain ⟨u, rfl, ru⟩ := vals1 r
  have go : ∀ (a : Addr), u = .ref a → wpAny (model X.prog X.w) X.A (call (.builtin "repr") [u]) (EP X pins σ Q) X.xe s := by
    intro a eu
    subst eu
    have rd : ∃ as, Reads s.heap (.ref a) d.py as ∧ (d.py.hasDict = true → sysModules ∉ as) := by
      rcases Bool.or_eq_true_iff.mp hc with z | z
      · obtain ⟨as, q1, q2⟩ := rdsD I d x _ z hd ru
        exact ⟨as, q1, fun _ => q2⟩
      · obtain ⟨z1, z2⟩ := Bool.and_eq_true_iff.mp z
        obtain ⟨as, q1⟩ := Dp.reads I _ _ _ (Rep.dp' z1 z2 hd) ru
        exact ⟨as, q1, PyData.noDict_hsm (PyData.hasDict_of_canLay _ z2)⟩
    obtain ⟨as, q1, q2⟩ := rd
    exact PySem.repr_of_reads' q1 hs q2 hg (by omega) (fun _ _ z => z) (fun h' u tk k => ⟨.str _, H, I.kept k, ⟨_, rfl⟩, q⟩) hl
  cases hd with
  | non => cases ru; exact PySem.P.repr_of_none ⟨.str _, H, I.tok _, ⟨_, rfl⟩, q⟩
  | bl b =>
    cases ru
    refine PySem.P.repr_of_bool ⟨.str _, H, I.tok _, ⟨_, rfl⟩, ?_⟩
    cases b <;> exact q
  | int i =>
    obtain ⟨t, rfl⟩ := ru
    exact PySem.P.repr_of_int (of_decide_eq_true hs) ⟨.str _, H, I.tok _, ⟨_, rfl⟩, q⟩
  | str y =>
    obtain ⟨t, rfl⟩ := ru
    exact PySem.P.repr_of_str ⟨.str _, H, I.tok _, ⟨_, rfl⟩, q⟩ hl
  | lst a b => exact go _ ru
  | tup a b => exact go _ ru
  | dct a b => exact go _ ru
  | dcT a b => exact go _ ru
  | scr a => exact go _ ru
  | ins a b c d => exact go _ ru
  | ty c => exact go _ ru
theorem ok_repr : COK K (rRepr K) reprB := by
  intro pn A e σ G R H xs ds val g r h Q f
  unfold reprB at h
  split at h
  · rename_i d
    obtain ⟨bs, h1, rfl⟩ := Option.map_eq_some_iff.mp h
    obtain ⟨x, rfl, rx⟩ := rd1 r
    unfold reprD at h1
    split at h1
    · rename_i c
      cases h1
      rw [Bool.and_eq_true, Bool.and_eq_true, Bool.and_eq_true, decide_eq_true_eq, decide_eq_true_eq] at c
      obtain ⟨c1, c3, c4, c5⟩ := c
      exact ⟨x, d, rfl, rx.rep g.gh, c1, c3, by rw [← lim_eq]; exact c4, c5, f.sc g (.str _)⟩
    · cases h1
  · cases h
/-! ### sorted -/
theorem txtLe_trans (a b c : Str) : txtLe a b = true → txtLe b c = true → txtLe a c = true := by
  unfold txtLe
  rw [ltCps_eq, ltCps_eq, ltCps_eq]
  simp only [Bool.not_eq_true', decide_eq_false_iff_not]
  intro h1 h2 h3
  exact h1 (List.lt_of_le_of_lt (List.not_lt.mp h2) h3)
theorem txtLe_total (a b : Str) : (txtLe a b || txtLe b a) = true := by
  unfold txtLe
  rw [ltCps_eq, ltCps_eq]
  rw [Bool.or_eq_true]
  simp only [Bool.not_eq_true', decide_eq_false_iff_not]
  by_cases h : b.cps.toList < a.cps.toList
  · exact .inr (List.lt_asymm h)
  · exact .inl h
theorem txtLe_anti (a b : Str) (h1 : txtLe a b = true) (h2 : txtLe b a = true) : a = b := by
  unfold txtLe at h1 h2
  rw [ltCps_eq] at h1 h2
  simp only [Bool.not_eq_true', decide_eq_false_iff_not] at h1 h2
  have e : a.cps.toList = b.cps.toList := List.le_antisymm (List.not_lt.mp h1) (List.not_lt.mp h2)
  obtain ⟨x⟩ := a
  obtain ⟨y⟩ := b
  obtain ⟨x⟩ := x
  obtain ⟨y⟩ := y
  cases e
  rfl
theorem rising_pw : ∀ (p : Str) (l : List Str), risingS p l = true → (p :: l).Pairwise (fun a b => txtLe a b = true)
  | p, [], _ => List.pairwise_cons.mpr ⟨fun _ h => (nomatch h), .nil⟩
  | p, x :: r, h => by
    obtain ⟨h1, h2⟩ := Bool.and_eq_true_iff.mp (show (!ltCps x.cps.toList p.cps.toList && risingS x r) = true from h)
    have ih := rising_pw x r h2
    refine List.pairwise_cons.mpr ⟨fun z hz => ?_, ih⟩
    rcases List.mem_cons.mp hz with rfl | hz
    · exact h1
    · exact txtLe_trans _ _ _ h1 ((List.pairwise_cons.mp ih).1 z hz)
theorem sortedS_pw {l : List Str} (h : sortedS l = true) : l.Pairwise (fun a b => txtLe a b = true) := by
  cases l with
  | nil => exact .nil
  | cons x r => exact rising_pw x r h
theorem sortS_perm (xs : List Str) : (sortS xs).Perm xs := List.mergeSort_perm xs _
theorem sortS_pw (xs : List Str) : (sortS xs).Pairwise (fun a b => txtLe a b = true) := List.pairwise_mergeSort txtLe_trans txtLe_total xs
theorem eq_sortS {xs ys : List Str} (hp : ys.Perm xs) (hs : sortedS ys = true) : ys = sortS xs :=
  List.Perm.eq_of_pairwise (fun _ _ _ _ a b => txtLe_anti _ _ a b) (sortedS_pw hs) (sortS_pw xs) (hp.trans (sortS_perm xs).symm)
theorem RepL.strs {G : Hp} : ∀ (xs : List Str), RepL K G (xs.map V.str) (xs.map D.str)
  | [] => .nil
  | _ :: r => .cons (.str _) (RepL.strs r)
def rSrt (K : PySem.W.Frag) : List V → Hp → VK → Prop := fun xs H Q => rSortedI K xs H Q ∨ rSortedS K xs H Q
theorem cr_srt : CallR X (.builtin "sorted") (rSrt X.K) := cr_sortedI.or cr_sortedS
theorem ok_srt : COK K (rSrt K) sortedB := by
  intro pn A e σ G R H xs ds val g r h Q f
  unfold sortedB at h
  split at h
  · obtain ⟨x, rfl, rx⟩ := rd1 r
    obtain ⟨p, ys, rfl, hp, ra⟩ := rx
    split at h
    · rename_i ns hn
      cases h
      rw [ints_rep hn ra] at hp
      refine .inl ⟨p, ns, rfl, SqL.of hp, fun ns' q h1 h2 h3 => ?_⟩
      rw [PySem.W.eq_sortI h1 h2]
      exact f.newF g (RepL.ints _) q h3
    · split at h
      · rename_i zs hz
        split at h
        · rename_i hl
          cases h
          rw [strs_rep hz ra] at hp
          refine .inr ⟨p, zs, rfl, SqL.of hp, hl, fun ys' q h1 h2 h3 => ?_⟩
          rw [eq_sortS h1 h2]
          exact f.newF g (RepL.strs _) q h3
        · cases h
      · cases h
  · cases h
/-! ### isinstance -/
/-- the built-in type of data -/
def tyD : D → Option String
  | .non => some "NoneType" | .bl _ => some "bool" | .int _ => some "int" | .str _ => some "str"
  | .tup _ => some "tuple" | .lst _ => some "list" | .dct _ => some "dict" | .scr _ => none | .ins _ _ => none | .ty _ => none | .box _ => none
def isiD (T : String) (d : D) : Option Bool := (tyD d).bind fun t => kitB t T
def isiC (T : String) (f : M Val) : M Val := bnd f fun v => bnd (der v) fun d => bnd (opt (isiD T d)) fun b => ret (.sh (.bl b))
theorem tyX_of {G H : Hp} {v : V} {d : D} {t : String} (x : Ex G H) (h : RdV K G H v d) (q : tyD d = some t) : TyX K H v (.type t) := by
  cases d with
  | non => cases q; cases h; exact .base .non
  | bl b => cases q; cases h; exact .base (.bl _)
  | int b => cases q; cases h; exact .base (.int _)
  | str b => cases q; cases h; exact .base (.str _)
  | lst b => cases q; obtain ⟨a, xs, rfl, h, _⟩ := h; exact .base (.lst h)
  | dct b =>
    cases q
    obtain ⟨a, rfl, h⟩ := h
    rcases h with ⟨kvs, h, _⟩ | ⟨kvs, h, _⟩
    · exact .base (.dK h)
    · exact .base (.dT h)
  | tup b =>
    cases q
    have h' : Rep K G v (.tup b) := h
    cases h' with
    | tup hp ra =>
      rcases SqT.of (x _ _ hp) with (hp | ⟨o, hp⟩) | ⟨o, its, n, k1, k2, _⟩
      · exact .base (.tup hp)
      · exact .fTuple hp
      · exact .kTuple k1 k2
  | _ => cases q
theorem se_isi {y : Str} {p p2 pos : Pos} {a : Expr} {f : M Val} {T : String} {W : WX} (ha : PE X a (tEv X.K W f)) (hg : Gl X "isinstance") (hm : X.mg "isinstance" = none) (hy : Gl X y) (hmy : X.mg y = none) (hv : bootBuiltins y = some (.type T)) (hn : y ≠ "__name__") (hdb : (y == ("__debug__" : Str)) = false)
    (hs : notStar a = true) : PE X (.Call (.Name "isinstance" p) [a, .Name y p2] [] pos) (tEv X.K W (isiC T f)) := by
  have hv0 : bootBuiltins ("isinstance" : Str) = some (.builtin "isinstance") := by decide +kernel
  refine PE_mono (pe_callB call_isi hg hm hv0 (pa_cons ha (pa_cons (pe_bltn (v := .ty T) hy hmy hv rfl hn hdb) pa_nil rfl) (star_cons hs)) (by decide +kernel) (by decide +kernel) (star_cons hs) rfl) fun σ H Q q => ?_
  obtain ⟨pn, A, e, G, R, g, oc⟩ := q
  refine chain g oc fun x v A1 e1 G1 H1 x1 g1 r1 oc1 => ?_
  obtain ⟨d, rd, oc2⟩ := oc_der g1 r1 oc1
  obtain ⟨b, q3, oc3⟩ := oc_opt oc2
  unfold isiD at q3
  obtain ⟨t, q4, q5⟩ := Option.bind_eq_some_iff.mp q3
  exact ⟨x, .ty T, .type t, .type T, b, rfl, .ty T, tyX_of g1.gh rd q4, kit_ty q5, (oc_ret oc3).sc g1 (.bl _)⟩
end
end Qv
namespace Qv
open PySem L2
open Evl (Ex)

/-! ### what is walked, whatever it is: the list of what it yields -/
/-- J yields ds, over whatever G grows into -/
def ItOk (K : PySem.W.Frag) (J : It) (G : Hp) (ds : List D) : Prop :=
  ∀ (pn : Pn) (A : LA) (e : En) (σ : L2.St) (G1 R H1 : Hp) (i : Nat), Ex G G1 → RelG K pn A e σ G1 R H1 → (i < ds.length → J.go i H1) ∧ (i = ds.length → J.stop i H1) ∧
    ∀ x H2 d, J.yld i H1 x H2 → ds[i]? = some d → ∃ G2, Ex G1 G2 ∧ RelG K pn A e σ G2 R H2 ∧ Rep K G2 x d
abbrev rvI (K : PySem.W.Frag) : Rv It (List D) := fun _ G _ _ _ _ J ds => ItOk K J G ds
abbrev tIv (K : PySem.W.Frag) (W : WX) (f : M (List D)) : TI := tG K W (rvI K) f
section
variable {K : PySem.W.Frag} {G : Hp}
theorem it_list {a : Addr} {xs : List V} {ds : List D} (h : G a = some (.lst xs)) (r : RepL K G xs ds) : ItOk K (Itl K a) G ds := by
  intro pn A e σ G1 R H1 i x g
  have hq : SqL K H1 a xs := SqL.of (g.gh _ _ (x _ _ h))
  refine ⟨fun hi => ?_, fun hi => ⟨xs, hq, by rw [r.length]; omega⟩, fun v H2 d hy hd => ?_⟩
  · have hi' : i < xs.length := by rw [r.length]; exact hi
    exact ⟨xs, xs[i], hq, by simp [hi']⟩
  · obtain ⟨rfl, hy⟩ := hy
    obtain ⟨w, hw, rw'⟩ := r.get hd
    have e2 := hy xs hq
    rw [hw] at e2
    cases e2
    exact ⟨G1, Ex.refl _, g, rw'.mono x⟩
theorem it_tup {a : Addr} {xs : List V} {ds : List D} (h : G a = some (.tup xs)) (r : RepL K G xs ds) : ItOk K (Itt K a) G ds := by
  intro pn A e σ G1 R H1 i x g
  have hq : SqT K H1 a xs := SqT.of (g.gh _ _ (x _ _ h))
  refine ⟨fun hi => ?_, fun hi => ⟨xs, hq, by rw [r.length]; omega⟩, fun v H2 d hy hd => ?_⟩
  · have hi' : i < xs.length := by rw [r.length]; exact hi
    exact ⟨xs, xs[i], hq, by simp [hi']⟩
  · obtain ⟨rfl, hy⟩ := hy
    obtain ⟨w, hw, rw'⟩ := r.get hd
    have e2 := hy xs hq
    rw [hw] at e2
    cases e2
    exact ⟨G1, Ex.refl _, g, rw'.mono x⟩
theorem it_scr {a : Addr} {ns : List Int} (h : SqL K G a (ns.map V.int)) : ItOk K (Itl K a) G (ns.map D.int) := by
  intro pn A e σ G1 R H1 i x g
  have hq : SqL K H1 a (ns.map V.int) := Evl.ex_l g.gh (Evl.ex_l x h)
  refine ⟨fun hi => ?_, fun hi => ⟨_, hq, by rw [List.length_map] at hi ⊢; omega⟩, fun v H2 d hy hd => ?_⟩
  · have hi' : i < ns.length := by simpa using hi
    exact ⟨_, .int ns[i], hq, by simp [hi']⟩
  · obtain ⟨rfl, hy⟩ := hy
    have e2 := hy _ hq
    rw [List.getElem?_map] at hd e2
    cases z : ns[i]? with
    | none => rw [z] at hd; cases hd
    | some n =>
      rw [z] at hd e2
      cases hd
      cases e2
      exact ⟨G1, Ex.refl _, g, .int n⟩
theorem it_str {x : Str} : ItOk K (Its x) G (x.cps.toList.map fun c => D.str ⟨#[c]⟩) := by
  intro pn A e σ G1 R H1 i x1 g
  refine ⟨fun hi => ?_, fun hi => ?_, fun v H2 d hy hd => ?_⟩
  · have hi' : i < x.cps.size := by simpa using hi
    exact hi'
  · show x.cps.size ≤ i
    simp at hi
    omega
  · obtain ⟨rfl, c, hc, rfl⟩ := hy
    rw [List.getElem?_map, Array.getElem?_toList, hc] at hd
    cases hd
    exact ⟨G1, Ex.refl _, g, .str _⟩
/-- lo, lo + 1, .. -/
def rngD (lo : Int) (n : Nat) : List D := (List.range n).map fun i => .int (lo + (i : Nat))
theorem it_rng {lo : Int} {n : Nat} : ItOk K (Itr lo n) G (rngD lo n) := by
  intro pn A e σ G1 R H1 i x1 g
  refine ⟨fun hi => ?_, fun hi => ?_, fun v H2 d hy hd => ?_⟩
  · have hi' : i < n := by simpa [rngD] using hi
    exact hi'
  · show n ≤ i
    simp [rngD] at hi
    omega
  · obtain ⟨rfl, rfl⟩ := hy
    have hi : i < n := by
      have := (List.getElem?_eq_some_iff.mp hd).1
      simpa [rngD] using this
    unfold rngD at hd
    rw [List.getElem?_map, List.getElem?_range hi] at hd
    cases hd
    exact ⟨G1, Ex.refl _, g, .int _⟩
end
/-- walked as it is: a list, a tuple, a text, the script -/
def itemsD : D → Option (List D)
  | .lst l => some l
  | .tup l => some l
  | .scr l => some (l.map .int)
  | .str z => some (z.cps.toList.map fun c => .str ⟨#[c]⟩)
  | _ => none
def iterC (f : M Val) : M (List D) := bnd f fun v => bnd (shr v) fun d => opt (itemsD d)
section
variable {X : Cx} {W : WX} {tg a : Expr}
theorem PI_or {t t' : TI} (h : PI X tg a t) (h' : PI X tg a t') : PI X tg a (fun σ H R => t σ H R ∨ t' σ H R) := ⟨fun pins s σ H R I q => q.elim (h.run pins s σ H R I) (h'.run pins s σ H R I)⟩
theorem si_iter {f : M Val} (ha : PE X a (tEv X.K W f)) : PI X tg a (tIv X.K W (iterC f)) :=
  PI_mono (PI_or (pi_list ha) (PI_or (pi_tup ha) (pi_str ha))) fun σ H Rr q => by
    obtain ⟨pn, A, e, G, R, g, oc⟩ := q
    have key : ∀ (P : V → Hp → Prop), (∀ x d A2 e2 G2 H1 ds, RelG X.K pn A2 e2 σ G2 R H1 → Rep X.K G2 x d → itemsD d = some ds → FinV X.K (rvI X.K) pn e2 σ G2 R ds Rr → P x H1) → tEv X.K W f σ H P := fun P hP => by
      refine chain g oc fun x v A1 e1 G1 H1 x1 g1 r1 oc1 => ?_
      obtain ⟨d, A2, e2, G2, x2, g2, r2, oc2⟩ := oc_shr g1 r1 oc1
      obtain ⟨ds, q3, fin⟩ := oc_optE oc2
      exact hP x d A2 e2 G2 H1 ds g2 r2 q3 fin
    have z : tEv X.K W f σ H fun x H1 => ∃ d A2 e2 G2 ds, RelG X.K pn A2 e2 σ G2 R H1 ∧ Rep X.K G2 x d ∧ itemsD d = some ds ∧ FinV X.K (rvI X.K) pn e2 σ G2 R ds Rr := key _ fun x d A2 e2 G2 H1 ds a b c f => ⟨d, A2, e2, G2, ds, a, b, c, f⟩
    -- which of the three: by the outcome of f
    obtain ⟨pn', A', e', G', R', g', oc'⟩ := z
    have pick : ∀ (P : V → Hp → Prop), (∀ x H1, (∃ d A2 e2 G2 ds, RelG X.K pn A2 e2 σ G2 R H1 ∧ Rep X.K G2 x d ∧ itemsD d = some ds ∧ FinV X.K (rvI X.K) pn e2 σ G2 R ds Rr) → P x H1) → tEv X.K W f σ H P := fun P hP => key P fun x d A2 e2 G2 H1 ds a b c f => hP x H1 ⟨d, A2, e2, G2, ds, a, b, c, f⟩
    clear pick oc' g'
    have oc0 : OcV X.K W (rvI X.K) pn σ R Rr G (bnd f (fun v => bnd (shr v) fun d => opt (itemsD d)) e) := oc
    unfold bnd at oc0
    cases hf : f e with
    | err => rw [hf] at oc0; exact oc0.elim
    | ex x e2 =>
      rw [hf] at oc0
      refine .inl ⟨pn, A, e, G, R, g, ?_⟩
      unfold OcV; rw [hf]; exact oc0
    | ok p =>
      obtain ⟨v, e1⟩ := p
      rw [hf] at oc0
      have oc1 : OcV X.K W (rvI X.K) pn σ R Rr G (bnd (shr v) (fun d => opt (itemsD d)) e1) := oc0
      have mk : ∀ P : V → Hp → Prop, (∀ x A1 G1 H1, Ex G G1 → RelG X.K pn A1 e1 σ G1 R H1 → RepVal X.K A1 G1 R H1 e1 σ x v → P x H1) → tEv X.K W f σ H P := fun P hP => ⟨pn, A, e, G, R, g, by unfold OcV; rw [hf]; exact fun b A' G' H' x g' r => hP b A' G' H' x g' r⟩
      have sh1 : ∀ (x : V) (A1 : LA) (G1 H1 : Hp), Ex G G1 → RelG X.K pn A1 e1 σ G1 R H1 → RepVal X.K A1 G1 R H1 e1 σ x v → ∃ d A2 e2 G2 ds, Ex G1 G2 ∧ RelG X.K pn A2 e2 σ G2 R H1 ∧ Rep X.K G2 x d ∧ shr v e1 = .ok (d, e2) ∧ itemsD d = some ds ∧ FinV X.K (rvI X.K) pn e2 σ G2 R ds Rr := fun x A1 G1 H1 x1 g1 r1 => by
        have oc2 := oc1.ext x1
        unfold bnd at oc2
        cases hs : shr v e1 with
        | err => rw [hs] at oc2; exact oc2.elim
        | ex y e2 => exact absurd hs shr_no
        | ok p =>
          obtain ⟨A2, G2, x2, g2, r2⟩ := g1.shr r1 (d := p.1) (e' := p.2) hs
          rw [hs] at oc2
          have oc3 : OcV X.K W (rvI X.K) pn σ R Rr G1 (opt (itemsD p.1) p.2) := oc2
          obtain ⟨ds, q3, fin⟩ := oc_optE oc3
          exact ⟨p.1, A2, p.2, G2, ds, x2, g2, r2, rfl, q3, fin.ext x2⟩
      have kind : ∃ d e2, shr v e1 = .ok (d, e2) ∧ ∃ ds, itemsD d = some ds := by
        have oc2 := oc1
        unfold bnd at oc2
        cases hs : shr v e1 with
        | err => rw [hs] at oc2; exact oc2.elim
        | ex y e2 => exact absurd hs shr_no
        | ok p =>
          rw [hs] at oc2
          have oc3 : OcV X.K W (rvI X.K) pn σ R Rr G (opt (itemsD p.1) p.2) := oc2
          obtain ⟨ds, q3, _⟩ := oc_optE oc3
          exact ⟨p.1, p.2, rfl, ds, q3⟩
      obtain ⟨d, e2, hs, ds, hd⟩ := kind
      cases d with
      | lst l =>
        refine .inl (mk _ fun x A1 G1 H1 x1 g1 r1 => ?_)
        obtain ⟨d', A2, e3, G2, ds', x2, g2, r2, hs', hd', fin⟩ := sh1 x A1 G1 H1 x1 g1 r1
        rw [hs] at hs'
        cases hs'
        cases hd'
        cases r2 with
        | lst hp ra => exact ⟨_, rfl, ⟨_, SqL.of (g2.gh _ _ hp)⟩, fin _ A2 G2 H1 (Ex.refl _) g2 (it_list hp ra)⟩
      | scr l =>
        refine .inl (mk _ fun x A1 G1 H1 x1 g1 r1 => ?_)
        obtain ⟨d', A2, e3, G2, ds', x2, g2, r2, hs', hd', fin⟩ := sh1 x A1 G1 H1 x1 g1 r1
        rw [hs] at hs'
        cases hs'
        cases hd'
        cases r2 with
        | scr hp => exact ⟨_, rfl, ⟨_, Evl.ex_l g2.gh hp⟩, fin _ A2 G2 H1 (Ex.refl _) g2 (it_scr hp)⟩
      | tup l =>
        refine .inr (.inl (mk _ fun x A1 G1 H1 x1 g1 r1 => ?_))
        obtain ⟨d', A2, e3, G2, ds', x2, g2, r2, hs', hd', fin⟩ := sh1 x A1 G1 H1 x1 g1 r1
        rw [hs] at hs'
        cases hs'
        cases hd'
        cases r2 with
        | tup hp ra => exact ⟨_, rfl, ⟨_, SqT.of (g2.gh _ _ hp)⟩, fin _ A2 G2 H1 (Ex.refl _) g2 (it_tup hp ra)⟩
      | str l =>
        refine .inr (.inr (mk _ fun x A1 G1 H1 x1 g1 r1 => ?_))
        obtain ⟨d', A2, e3, G2, ds', x2, g2, r2, hs', hd', fin⟩ := sh1 x A1 G1 H1 x1 g1 r1
        rw [hs] at hs'
        cases hs'
        cases hd'
        cases r2
        exact ⟨_, rfl, fin _ A2 G2 H1 (Ex.refl _) g2 it_str⟩
      | _ => cases hd
/-! ### range -/
def rng1B : List D → Option (List D)
  | [.int j] => if -(2 ^ 62) ≤ j ∧ j < 2 ^ 62 then some (rngD 0 j.toNat) else none
  | _ => none
def rng2B : List D → Option (List D)
  | [.int i, .int j] => if -(2 ^ 62) ≤ i ∧ i < 2 ^ 62 ∧ -(2 ^ 62) ≤ j ∧ j < 2 ^ 62 then some (rngD i (j - i).toNat) else none
  | _ => none
def rngC (g : List D → Option (List D)) (fs : List (M Val)) : M (List D) := bnd (argsC fs) fun vs => bnd (derAll vs) fun ds => opt (g ds)
theorem si_rng1 {x : Expr} {f : M Val} {p pos : Pos} (hg : Gl X "range") (hm : X.mg "range" = none) (hn : notStar x = true) (ha : PE X x (tEv X.K W f)) : PI X tg (.Call (.Name "range" p) [x] [] pos) (tIv X.K W (rngC rng1B [f])) :=
  PI_mono (pi_range1 hg hm (sa_args [x] [f] (by simp [hn]) (.cons ha .nil)) (star_cons hn)) fun σ H Rr q => by
    obtain ⟨pn, A, e, G, R, g, oc⟩ := q
    refine chain g oc fun ws vs A1 e1 G1 H1 x1 g1 r1 oc1 => ?_
    obtain ⟨es, r2, oc2⟩ := oc_derA g1 r1 oc1
    obtain ⟨ds, q3, fin⟩ := oc_optE oc2
    unfold rng1B at q3
    split at q3
    · split at q3
      · rename_i c
        cases q3
        obtain ⟨x, rfl, rx⟩ := rd1 r2
        cases rx
        exact ⟨_, rfl, c.1, c.2, fin _ A1 G1 H1 (Ex.refl _) g1 it_rng⟩
      · cases q3
    · cases q3
theorem si_rng2 {x y : Expr} {f f2 : M Val} {p pos : Pos} (hg : Gl X "range") (hm : X.mg "range" = none) (hn : notStar x = true) (hn2 : notStar y = true) (ha : PE X x (tEv X.K W f)) (hb : PE X y (tEv X.K W f2)) :
    PI X tg (.Call (.Name "range" p) [x, y] [] pos) (tIv X.K W (rngC rng2B [f, f2])) :=
  PI_mono (pi_range2 hg hm (sa_args [x, y] [f, f2] (by simp [hn, hn2]) (.cons ha (.cons hb .nil))) (by rw [star_cons hn, star_cons hn2]; rfl) (star_cons hn2)) fun σ H Rr q => by
    obtain ⟨pn, A, e, G, R, g, oc⟩ := q
    refine chain g oc fun ws vs A1 e1 G1 H1 x1 g1 r1 oc1 => ?_
    obtain ⟨es, r2, oc2⟩ := oc_derA g1 r1 oc1
    obtain ⟨ds, q3, fin⟩ := oc_optE oc2
    unfold rng2B at q3
    split at q3
    · split at q3
      · rename_i c
        cases q3
        obtain ⟨x, y, rfl, rx, ry⟩ := rd2 r2
        cases rx
        cases ry
        exact ⟨_, _, rfl, c, fin _ A1 G1 H1 (Ex.refl _) g1 it_rng⟩
      · cases q3
    · cases q3
end
end Qv
namespace Qv
open PySem L2
open Evl (Ex)

/-! ### enumerate, zip over lists and tuples in any mix -/
/-- a list (false) or a tuple (true) at a -/
def SqK (K : PySem.W.Frag) (t : Bool) (H : Hp) (a : Addr) (xs : List V) : Prop := if t then SqT K H a xs else SqL K H a xs
def IsK (t : Bool) (h : Heap) (a : Addr) (its : Array Value) : Prop := if t then h.IsTuple a its else h.IsList a its
def ItK (t : Bool) (h : Heap) (it a : Addr) (i : Nat) : Prop := if t then h.IsTupleIter it a i else h.IsListIter it a i
def obK (t : Bool) (a : Addr) : Obj := if t then { cls := .type "tuple_iterator", data := .fields #[.ref a, .int 0 0] } else { cls := .type "list_iterator", data := .fields #[.ref a, .int 0 0] }
theorem SqK.ex {K : PySem.W.Frag} {t : Bool} {H H' : Hp} {a : Addr} {xs : List V} (x : Ex H H') (h : SqK K t H a xs) : SqK K t H' a xs := by
  cases t
  · exact Evl.ex_l x h
  · exact Evl.ex_t x h
section
variable {X : Cx} {pins : List (Addr × Obj)} {σ : L2.St} {H : Hp} {s : Shared} {a : Addr} {xs : List V}
theorem inv_sq {t : Bool} (I : Inv X pins σ H s) (h : SqK X.K t H a xs) : ∃ its : List Value, Vals xs its ∧ IsK t s.heap a its.toArray ∧ xs.length ≤ sizeLine ∧ a < s.heap.objs.size := by
  cases t
  · obtain ⟨its, rv, p, hz⟩ := I.list h
    exact ⟨its, rv, p.isList, hz, p.lt⟩
  · obtain ⟨its, rv, p, hz⟩ := I.tuple h
    exact ⟨its, rv, p, hz, p.lt⟩
theorem inv_inj {t : Bool} {ys : List V} (I : Inv X pins σ H s) (h : SqK X.K t H a xs) (h' : SqK X.K t H a ys) : xs = ys := by
  cases t
  · exact I.list_inj h h'
  · exact I.tuple_inj h h'
end
theorem ItK.obj {t : Bool} {h : Heap} {it a : Addr} {i : Nat} (x : ItK t h it a i) : ∃ o, h.get? it = some o ∧ ∀ v, o.data ≠ .cell v := by
  cases t
  · obtain ⟨o, ho, hc, hd⟩ := x
    exact ⟨o, ho, fun v q => by rw [hd] at q; cases q⟩
  · obtain ⟨o, ho, hc, hd⟩ := x
    exact ⟨o, ho, fun v q => by rw [hd] at q; cases q⟩
theorem ItK.at {t : Bool} {h h' : Heap} {it a : Addr} {i : Nat} (x : ItK t h it a i) (k : ∀ o, h.get? it = some o → h'.get? it = some o) : ItK t h' it a i := by
  cases t
  · exact Heap.IsListIter.at x k
  · exact Heap.IsTupleIter.at x k
theorem drawsK {prog : Program} {w : World} {A : Around} (t : Bool) (hh : A.handled = none) (it l : Addr) (hne : l ≠ it) (items : Array Value) :
    Draws prog w A it [it, l] items.size (fun i v => items[i]? = some v) (fun i h => ItK t h it l i ∧ IsK t h l items) := by
  cases t
  · exact .list hh it l hne items
  · exact .tuple hh it l hne items
theorem beginsK (t : Bool) (l : Addr) (items : Array Value) : Begins (.ref l) (obK t l) fun h => IsK t h l items := by
  cases t
  · exact begins_list l items
  · exact begins_tuple l items
theorem obK_it {t : Bool} {h : Heap} {it a : Addr} (e : h.get? it = some (obK t a)) : ItK t h it a 0 := by
  cases t
  · exact ⟨_, e, rfl, rfl⟩
  · exact ⟨_, e, rfl, rfl⟩
/-- an iterator of new tuples -/
def Itn (yi : Nat → Hp → List V → Prop) (go stop : Nat → Hp → Prop) : It := ⟨go, fun i H v H' => ∃ T xs, v = .ref T ∧ H T = none ∧ H' = upd H T (.tup xs) ∧ yi i H xs, stop⟩
/-- enumerate -/
def yEn (K : PySem.W.Frag) (t : Bool) (a : Addr) (i : Nat) (H : Hp) (xs : List V) : Prop := ∃ x, (∀ ys, SqK K t H a ys → ys[i]? = some x) ∧ xs = [.int (i : Nat), x]
def JEn (K : PySem.W.Frag) (t : Bool) (a : Addr) : It := Itn (yEn K t a) (fun i H => ∃ ys x, SqK K t H a ys ∧ ys[i]? = some x) fun i H => ∃ ys : List V, SqK K t H a ys ∧ i = ys.length
theorem turn_enK {P : Program} {w : World} {K : PySem.W.Frag} {elts : List Expr} {kk : Nat} {tpos : Pos} (t : Bool) (a e it : Addr) :
    Turn P w K (.Tuple elts kk tpos) (JEn K t a) [e, it] e (fun i h => (∃ old, IsEnum h e it ((i : Nat) : Int) old) ∧ ItK t h it a i ∧ e ≠ it ∧ a ≠ it ∧ a ≠ e) where
  mem := by simp
  obj := fun i h st b hb => by
    obtain ⟨⟨old, he⟩, hi, _⟩ := st
    have e' : b = e ∨ b = it := by simpa using hb
    rcases e' with z | z
    · subst z; exact ⟨_, he, fun v q => nomatch q⟩
    · subst z; exact hi.obj
  keep := fun i h h' st k => let ⟨⟨old, he⟩, hi, hne⟩ := st; ⟨⟨old, k e (by simp) _ he⟩, hi.at fun o q => k it (by simp) o q, hne⟩
  item := by
    intro X hP hw hK hc i pins s σ H E I hf st hg
    subst hP hw hK
    obtain ⟨ys, x, hq, hx⟩ := hg
    obtain ⟨⟨old, he⟩, hi, hne, hne2, hne3⟩ := st
    obtain ⟨its, rv, p, hz, hlt⟩ := inv_sq I hq
    obtain ⟨u, hu, ru⟩ := rv.get hx
    have W := GoesN.enumFrom (prog := X.prog) (w := X.w) (A := X.A) (elts := elts) (x1 := kk) (pos := tpos) 0 (drawsK t (A := X.A.in1) (I.ok.hd hc) it a hne2 its.toArray) e hne (by simp; exact ⟨hne, Ne.symm hne3⟩) (by simp)
    have hlen : i < its.toArray.size := by
      have := (List.getElem?_eq_some_iff.mp hu).1
      simpa using this
    refine W.goes i s _ E hlen ⟨⟨old, by rw [Int.zero_add]; exact he⟩, hi, p⟩ fun v h' tk hY st' hk htk => ?_
    obtain ⟨T, t', x', rfl, hT, hx', hTup⟩ := hY
    obtain ⟨⟨old', he'⟩, hi', p'⟩ := st'
    have hxu : x' = u := by
      have : its[i]? = some x' := by simpa using hx'
      rw [hu] at this
      exact (Option.some.inj this).symm
    subst hxu
    have new : ObjOk X.prog X.w (upd H T (.tup [.int (i : Nat), x])) h' T (.tup [.int (i : Nat), x]) :=
      ⟨by show 2 ≤ sizeLine; decide, [.int (0 + (i : Int)) t', x'], .cons ⟨t', by rw [Int.zero_add]⟩ (.cons ru .nil), hTup⟩
    have I1 := I.turnedNew (t' := tk) (ch := [e, it]) hk hf hT new
    refine ⟨.ref T, _, I1, rfl, ⟨T, _, rfl, I.hok.fresh hT, rfl, x, fun ys' hy => by rw [inv_inj I hy hq]; exact hx, rfl⟩, ⟨⟨old', ?_⟩, hi', hne, hne2, hne3⟩, fun b hb => ?_⟩
    · rw [Int.zero_add] at he'; exact he'
    · have hb' : b < s.heap.objs.size := by
        have e' : b = e ∨ b = it := by simpa using hb
        rcases e' with z | z
        · rw [z]; exact Heap.lt_size he
        · rw [z]; obtain ⟨o, ho, _⟩ := hi.obj; exact Heap.lt_size ho
      rw [upd_ne (Nat.ne_of_lt (Nat.lt_of_lt_of_le hb' hT))]
      exact (hf b hb).1
  done := by
    intro X hP hw hK hc i pins s σ H E I hf st hg
    subst hP hw hK
    obtain ⟨ys, hq, hx⟩ := hg
    obtain ⟨⟨old, he⟩, hi, hne, hne2, hne3⟩ := st
    obtain ⟨its, rv, p, hz, hlt⟩ := inv_sq I hq
    have W := GoesN.enumFrom (prog := X.prog) (w := X.w) (A := X.A) (elts := elts) (x1 := kk) (pos := tpos) 0 (drawsK t (A := X.A.in1) (I.ok.hd hc) it a hne2 its.toArray) e hne (by simp; exact ⟨hne, Ne.symm hne3⟩) (by simp)
    have hn : i = its.toArray.size := by rw [hx, rv.length]; simp
    rw [hn] at he hi
    exact W.stops s _ E ⟨⟨old, by rw [Int.zero_add]; exact he⟩, hi, p⟩ fun h' tk hk htk => I.turnedL (ch := [e, it]) hk hf
  self := fun A i s Q E st h => let ⟨⟨_, he⟩, _⟩ := st; wpAny_pyIter_enum he h
/-- zip of two -/
def yZ2 (K : PySem.W.Frag) (t u : Bool) (a b : Addr) (i : Nat) (H : Hp) (zs : List V) : Prop := ∃ x y, (∀ xs, SqK K t H a xs → xs[i]? = some x) ∧ (∀ ys, SqK K u H b ys → ys[i]? = some y) ∧ zs = [x, y]
def JZ2 (K : PySem.W.Frag) (t u : Bool) (a b : Addr) : It := Itn (yZ2 K t u a b) (fun i H => ∃ xs ys x y, SqK K t H a xs ∧ SqK K u H b ys ∧ xs[i]? = some x ∧ ys[i]? = some y) fun i H => ∃ xs ys : List V, SqK K t H a xs ∧ SqK K u H b ys ∧ i = min xs.length ys.length
theorem turn_z2K {P : Program} {w : World} {K : PySem.W.Frag} {elts : List Expr} {kk : Nat} {tpos : Pos} (t u : Bool) (a b z TI TO i1 i2 : Addr) (S : ZipSep2 z TI TO i1 i2 [i1, a] [i2, b]) (ha : a ≠ i1) (hb : b ≠ i2) :
    Turn P w K (.Tuple elts kk tpos) (JZ2 K t u a b) [z, TI, TO, i1, i2] z (fun i h => IsZip h z TI TO .none ∧ IsTupOf2 h TI (.ref i1) (.ref i2) ∧ (∃ a1 a2, IsTupOf2 h TO a1 a2) ∧ ItK t h i1 a i ∧ ItK u h i2 b i) where
  mem := by simp
  obj := fun i h st c hc => by
    obtain ⟨hz, hTI, ⟨a1, a2, hTO⟩, h1, h2⟩ := st
    have e' : c = z ∨ c = TI ∨ c = TO ∨ c = i1 ∨ c = i2 := by simpa using hc
    rcases e' with q | q | q | q | q
    · subst q; exact ⟨_, hz, fun v q => nomatch q⟩
    · subst q; exact ⟨_, hTI, fun v q => nomatch q⟩
    · subst q; exact ⟨_, hTO, fun v q => nomatch q⟩
    · subst q; exact h1.obj
    · subst q; exact h2.obj
  keep := fun i h h' st k => by
    obtain ⟨hz, hTI, ⟨a1, a2, hTO⟩, h1, h2⟩ := st
    exact ⟨k z (by simp) _ hz, k TI (by simp) _ hTI, ⟨a1, a2, k TO (by simp) _ hTO⟩, h1.at fun o q => k i1 (by simp) o q, h2.at fun o q => k i2 (by simp) o q⟩
  item := by
    intro X hP hw hK hc i pins s σ H E I hf st hg
    subst hP hw hK
    obtain ⟨xs, ys, x, y, hqx, hqy, hx, hy⟩ := hg
    obtain ⟨hz, hTI, hTO, h1, h2⟩ := st
    obtain ⟨its, rv, p, _, _⟩ := inv_sq I hqx
    obtain ⟨its2, rv2, p2, _, _⟩ := inv_sq I hqy
    obtain ⟨v1, hv1, r1⟩ := rv.get hx
    obtain ⟨v2, hv2, r2⟩ := rv2.get hy
    have W := GoesN.zip2 (prog := X.prog) (w := X.w) (A := X.A) (elts := elts) (x1 := kk) (pos := tpos) S (drawsK t (A := X.A.in1) (I.ok.hd hc) i1 a ha its.toArray) (drawsK u (A := X.A.in1) (I.ok.hd hc) i2 b hb its2.toArray)
    have hl1 : i < its.toArray.size := by
      have := (List.getElem?_eq_some_iff.mp hv1).1
      simpa using this
    have hl2 : i < its2.toArray.size := by
      have := (List.getElem?_eq_some_iff.mp hv2).1
      simpa using this
    refine W.goes i s _ E (by omega) ⟨hz, hTI, hTO, ⟨h1, p⟩, h2, p2⟩ fun v h' tk hY st' hk htk => ?_
    obtain ⟨T, x', y', rfl, hT, hx', hy', hTup⟩ := hY
    obtain ⟨hz', hTI', hTO', ⟨h1', _⟩, h2', _⟩ := st'
    have e1 : x' = v1 := by
      have : its[i]? = some x' := by simpa using hx'
      rw [hv1] at this
      exact (Option.some.inj this).symm
    have e2 : y' = v2 := by
      have : its2[i]? = some y' := by simpa using hy'
      rw [hv2] at this
      exact (Option.some.inj this).symm
    subst e1 e2
    have new : ObjOk X.prog X.w (upd H T (.tup [x, y])) h' T (.tup [x, y]) := ⟨by show 2 ≤ sizeLine; decide, [x', y'], .cons r1 (.cons r2 .nil), hTup⟩
    have I1 := I.turnedNew (t' := tk) (ch := [z, TI, TO, i1, i2]) (fun c o hb q => hk c o (fun m => hb (by
      have e' : c = z ∨ c = TO ∨ c = i1 ∨ c = i2 := by simpa using m
      rcases e' with q | q | q | q <;> simp [q])) q) hf hT new
    refine ⟨.ref T, _, I1, rfl, ⟨T, _, rfl, I.hok.fresh hT, rfl, x, y, fun ys' h' => by rw [inv_inj I h' hqx]; exact hx, fun ys' h' => by rw [inv_inj I h' hqy]; exact hy, rfl⟩, ⟨hz', hTI', hTO', h1', h2'⟩, fun c hcm => ?_⟩
    have hc' : c < s.heap.objs.size := by
      have e' : c = z ∨ c = TI ∨ c = TO ∨ c = i1 ∨ c = i2 := by simpa using hcm
      rcases e' with q | q | q | q | q
      · rw [q]; exact Heap.lt_size hz
      · rw [q]; exact Heap.lt_size hTI
      · rw [q]; obtain ⟨_, _, e⟩ := hTO; exact Heap.lt_size e
      · rw [q]; obtain ⟨o, ho, _⟩ := h1.obj; exact Heap.lt_size ho
      · rw [q]; obtain ⟨o, ho, _⟩ := h2.obj; exact Heap.lt_size ho
    rw [upd_ne (Nat.ne_of_lt (Nat.lt_of_lt_of_le hc' hT))]
    exact (hf c hcm).1
  done := by
    intro X hP hw hK hc i pins s σ H E I hf st hg
    subst hP hw hK
    obtain ⟨xs, ys, hqx, hqy, hx⟩ := hg
    obtain ⟨hz, hTI, hTO, h1, h2⟩ := st
    obtain ⟨its, rv, p, _, _⟩ := inv_sq I hqx
    obtain ⟨its2, rv2, p2, _, _⟩ := inv_sq I hqy
    have W := GoesN.zip2 (prog := X.prog) (w := X.w) (A := X.A) (elts := elts) (x1 := kk) (pos := tpos) S (drawsK t (A := X.A.in1) (I.ok.hd hc) i1 a ha its.toArray) (drawsK u (A := X.A.in1) (I.ok.hd hc) i2 b hb its2.toArray)
    have hn : i = min its.toArray.size its2.toArray.size := by rw [hx, rv.length, rv2.length]; simp
    rw [hn] at h1 h2
    exact W.stops s _ E ⟨hz, hTI, hTO, ⟨h1, p⟩, h2, p2⟩ fun h' tk hk htk => I.turnedL (ch := [z, TI, TO, i1, i2]) (fun c o hb q => hk c o (fun m => hb (by
      have e' : c = z ∨ c = TO ∨ c = i1 ∨ c = i2 := by simpa using m
      rcases e' with q | q | q | q <;> simp [q])) q) hf
  self := fun A i s Q E st h => wpAny_pyIter_zip st.1 h
/-- zip of three -/
def yZ3 (K : PySem.W.Frag) (t u v : Bool) (a b c : Addr) (i : Nat) (H : Hp) (ws : List V) : Prop := ∃ x y z, (∀ xs, SqK K t H a xs → xs[i]? = some x) ∧ (∀ ys, SqK K u H b ys → ys[i]? = some y) ∧ (∀ zs, SqK K v H c zs → zs[i]? = some z) ∧ ws = [x, y, z]
def JZ3 (K : PySem.W.Frag) (t u v : Bool) (a b c : Addr) : It := Itn (yZ3 K t u v a b c) (fun i H => ∃ xs ys zs x y z, SqK K t H a xs ∧ SqK K u H b ys ∧ SqK K v H c zs ∧ xs[i]? = some x ∧ ys[i]? = some y ∧ zs[i]? = some z)
  fun i H => ∃ xs ys zs : List V, SqK K t H a xs ∧ SqK K u H b ys ∧ SqK K v H c zs ∧ i = min (min xs.length ys.length) zs.length
theorem turn_z3K {P : Program} {w : World} {K : PySem.W.Frag} {elts : List Expr} {kk : Nat} {tpos : Pos} (t u v : Bool) (a b c z TI TO i1 i2 i3 : Addr) (S : ZipSep3 z TI TO i1 i2 i3 [i1, a] [i2, b] [i3, c]) (ha : a ≠ i1) (hb : b ≠ i2) (hc3 : c ≠ i3) :
    Turn P w K (.Tuple elts kk tpos) (JZ3 K t u v a b c) [z, TI, TO, i1, i2, i3] z (fun i h => IsZip h z TI TO .none ∧ IsTupOf3 h TI (.ref i1) (.ref i2) (.ref i3) ∧ (∃ a1 a2 a3, IsTupOf3 h TO a1 a2 a3) ∧ ItK t h i1 a i ∧ ItK u h i2 b i ∧ ItK v h i3 c i) where
  mem := by simp
  obj := fun i h st d hd => by
    obtain ⟨hz, hTI, ⟨a1, a2, a3, hTO⟩, h1, h2, h3⟩ := st
    have e' : d = z ∨ d = TI ∨ d = TO ∨ d = i1 ∨ d = i2 ∨ d = i3 := by simpa using hd
    rcases e' with q | q | q | q | q | q
    · subst q; exact ⟨_, hz, fun v q => nomatch q⟩
    · subst q; exact ⟨_, hTI, fun v q => nomatch q⟩
    · subst q; exact ⟨_, hTO, fun v q => nomatch q⟩
    · subst q; exact h1.obj
    · subst q; exact h2.obj
    · subst q; exact h3.obj
  keep := fun i h h' st k => by
    obtain ⟨hz, hTI, ⟨a1, a2, a3, hTO⟩, h1, h2, h3⟩ := st
    exact ⟨k z (by simp) _ hz, k TI (by simp) _ hTI, ⟨a1, a2, a3, k TO (by simp) _ hTO⟩, h1.at fun o q => k i1 (by simp) o q, h2.at fun o q => k i2 (by simp) o q, h3.at fun o q => k i3 (by simp) o q⟩
  item := by
    intro X hP hw hK hc i pins s σ H E I hf st hg
    subst hP hw hK
    obtain ⟨xs, ys, zs, x, y, z3, hqx, hqy, hqz, hx, hy, hz3⟩ := hg
    obtain ⟨hz, hTI, hTO, h1, h2, h3⟩ := st
    obtain ⟨its, rv, p, _, _⟩ := inv_sq I hqx
    obtain ⟨its2, rv2, p2, _, _⟩ := inv_sq I hqy
    obtain ⟨its3, rv3, p3, _, _⟩ := inv_sq I hqz
    obtain ⟨v1, hv1, r1⟩ := rv.get hx
    obtain ⟨v2, hv2, r2⟩ := rv2.get hy
    obtain ⟨v3, hv3, r3⟩ := rv3.get hz3
    have W := GoesN.zip3 (prog := X.prog) (w := X.w) (A := X.A) (elts := elts) (x1 := kk) (pos := tpos) S (drawsK t (A := X.A.in1) (I.ok.hd hc) i1 a ha its.toArray) (drawsK u (A := X.A.in1) (I.ok.hd hc) i2 b hb its2.toArray) (drawsK v (A := X.A.in1) (I.ok.hd hc) i3 c hc3 its3.toArray)
    have hl1 : i < its.toArray.size := by
      have := (List.getElem?_eq_some_iff.mp hv1).1
      simpa using this
    have hl2 : i < its2.toArray.size := by
      have := (List.getElem?_eq_some_iff.mp hv2).1
      simpa using this
    have hl3 : i < its3.toArray.size := by
      have := (List.getElem?_eq_some_iff.mp hv3).1
      simpa using this
    refine W.goes i s _ E (by omega) ⟨hz, hTI, hTO, ⟨h1, p⟩, ⟨h2, p2⟩, h3, p3⟩ fun v h' tk hY st' hk htk => ?_
    obtain ⟨T, x', y', z', rfl, hT, hx', hy', hz', hTup⟩ := hY
    obtain ⟨hz2', hTI', hTO', ⟨h1', _⟩, ⟨h2', _⟩, h3', _⟩ := st'
    have e1 : x' = v1 := by
      have : its[i]? = some x' := by simpa using hx'
      rw [hv1] at this
      exact (Option.some.inj this).symm
    have e2 : y' = v2 := by
      have : its2[i]? = some y' := by simpa using hy'
      rw [hv2] at this
      exact (Option.some.inj this).symm
    have e3 : z' = v3 := by
      have : its3[i]? = some z' := by simpa using hz'
      rw [hv3] at this
      exact (Option.some.inj this).symm
    subst e1 e2 e3
    have new : ObjOk X.prog X.w (upd H T (.tup [x, y, z3])) h' T (.tup [x, y, z3]) := ⟨by show 3 ≤ sizeLine; decide, [x', y', z'], .cons r1 (.cons r2 (.cons r3 .nil)), hTup⟩
    have I1 := I.turnedNew (t' := tk) (ch := [z, TI, TO, i1, i2, i3]) (fun d o hb q => hk d o (fun m => hb (by
      have e' : d = z ∨ d = TO ∨ d = i1 ∨ d = i2 ∨ d = i3 := by simpa using m
      rcases e' with q | q | q | q | q <;> simp [q])) q) hf hT new
    refine ⟨.ref T, _, I1, rfl, ⟨T, _, rfl, I.hok.fresh hT, rfl, x, y, z3, fun ys' h' => by rw [inv_inj I h' hqx]; exact hx, fun ys' h' => by rw [inv_inj I h' hqy]; exact hy, fun ys' h' => by rw [inv_inj I h' hqz]; exact hz3, rfl⟩, ⟨hz2', hTI', hTO', h1', h2', h3'⟩, fun d hdm => ?_⟩
    have hc' : d < s.heap.objs.size := by
      have e' : d = z ∨ d = TI ∨ d = TO ∨ d = i1 ∨ d = i2 ∨ d = i3 := by simpa using hdm
      rcases e' with q | q | q | q | q | q
      · rw [q]; exact Heap.lt_size hz
      · rw [q]; exact Heap.lt_size hTI
      · rw [q]; obtain ⟨_, _, _, e⟩ := hTO; exact Heap.lt_size e
      · rw [q]; obtain ⟨o, ho, _⟩ := h1.obj; exact Heap.lt_size ho
      · rw [q]; obtain ⟨o, ho, _⟩ := h2.obj; exact Heap.lt_size ho
      · rw [q]; obtain ⟨o, ho, _⟩ := h3.obj; exact Heap.lt_size ho
    rw [upd_ne (Nat.ne_of_lt (Nat.lt_of_lt_of_le hc' hT))]
    exact (hf d hdm).1
  done := by
    intro X hP hw hK hc i pins s σ H E I hf st hg
    subst hP hw hK
    obtain ⟨xs, ys, zs, hqx, hqy, hqz, hx⟩ := hg
    obtain ⟨hz, hTI, hTO, h1, h2, h3⟩ := st
    obtain ⟨its, rv, p, _, _⟩ := inv_sq I hqx
    obtain ⟨its2, rv2, p2, _, _⟩ := inv_sq I hqy
    obtain ⟨its3, rv3, p3, _, _⟩ := inv_sq I hqz
    have W := GoesN.zip3 (prog := X.prog) (w := X.w) (A := X.A) (elts := elts) (x1 := kk) (pos := tpos) S (drawsK t (A := X.A.in1) (I.ok.hd hc) i1 a ha its.toArray) (drawsK u (A := X.A.in1) (I.ok.hd hc) i2 b hb its2.toArray) (drawsK v (A := X.A.in1) (I.ok.hd hc) i3 c hc3 its3.toArray)
    have hn : i = min (min its.toArray.size its2.toArray.size) its3.toArray.size := by rw [hx, rv.length, rv2.length, rv3.length]; simp
    rw [hn] at h1 h2 h3
    exact W.stops s _ E ⟨hz, hTI, hTO, ⟨h1, p⟩, ⟨h2, p2⟩, h3, p3⟩ fun h' tk hk htk => I.turnedL (ch := [z, TI, TO, i1, i2, i3]) (fun d o hb q => hk d o (fun m => hb (by
      have e' : d = z ∨ d = TO ∨ d = i1 ∨ d = i2 ∨ d = i3 := by simpa using m
      rcases e' with q | q | q | q | q <;> simp [q])) q) hf
  self := fun A i s Q E st h => wpAny_pyIter_zip st.1 h
end Qv
namespace Qv
open PySem L2
open Evl (Ex)

theorem fpNew {X : Cx} {pins : List (Addr × Obj)} {σ : L2.St} {H : Hp} {s : Shared} {h' : Heap} {l : List Addr} (I : Inv X pins σ H s) (h : ∀ b ∈ l, s.heap.objs.size ≤ b) : ∀ b ∈ l, FpOk X pins H b := fun b hb => I.fpOk (h b hb) (I.hok.fresh (h b hb))
def iEnK (K : PySem.W.Frag) (ta : TA) : TI := fun σ H R => ta σ H fun vs H1 => ∃ t a xs, vs = [.ref a] ∧ SqK K t H1 a xs ∧ R (JEn K t a) H1
def iZ2K (K : PySem.W.Frag) (ta : TA) : TI := fun σ H R => ta σ H fun vs H1 => ∃ t u a b xs ys, vs = [.ref a, .ref b] ∧ SqK K t H1 a xs ∧ SqK K u H1 b ys ∧ R (JZ2 K t u a b) H1
def iZ3K (K : PySem.W.Frag) (ta : TA) : TI := fun σ H R => ta σ H fun vs H1 => ∃ t u v a b c xs ys zs, vs = [.ref a, .ref b, .ref c] ∧ SqK K t H1 a xs ∧ SqK K u H1 b ys ∧ SqK K v H1 c zs ∧ R (JZ3 K t u v a b c) H1
/-- enumerate.__new__ over whatever begins -/
theorem enum_new1 {v : Value} {ob : Obj} {Hh : Heap → Prop} (B : Begins v ob Hh) :
    Meets (Builtin.«enumerate.__new__» ⟨[.type "enumerate", v], []⟩) (fun _ R z => Hh z.heap ∧
      R (.ok (.ret (.ref (z.heap.push ob).objs.size)))
        { z with heap := (z.heap.push ob).push { cls := .type "enumerate", data := .fields #[.none, .bool false, .ref z.heap.objs.size, rawInt 0, .none, .none] } }) :=
  .of_wp fun prog w A R z hyp => by
    obtain ⟨hp, gs, dr, tk, os⟩ := z
    obtain ⟨hB, hR⟩ := hyp
    have subE := sub_enumerate
    have itB : ∀ {A' : Around} {E' : Value → Shared → Prop} {Q' : Value → Shared → Prop}, Q' (.ref hp.objs.size) ⟨hp.push ob, gs, dr, tk, os⟩ → wpAny (model prog w) A' (pyIter v) Q' E' ⟨hp, gs, dr, tk, os⟩ :=
      fun q' => B.iter prog w _ _ ⟨hp, gs, dr, tk, os⟩ _ hB q'
    wp_walk using itB
    refine wpAny_stack_any fun _ => wpAny_pure ?_
    split
    · rename_i cl _ _ _ _ _
      cases (cl == Value.type "enumerate")
      all_goals
        wp_walk using itB
        exact ⟨_, rfl, hR⟩
    · wp_walk using itB
      exact ⟨_, rfl, hR⟩
theorem enum_beginsK {prog : Program} {w : World} {A : Around} {E : Value → Shared → Prop} {s : Shared} (t : Bool) {l : Addr} {its : Array Value} {Q : Value → Shared → Prop} (h1 : IsK t s.heap l its)
    (h : ∀ h', IsEnum h' (s.heap.objs.size + 1) s.heap.objs.size 0 .none → ItK t h' s.heap.objs.size l 0 → (∀ b o, s.heap.get? b = some o → h'.get? b = some o) → Q (.ref (s.heap.objs.size + 1)) { s with heap := h' }) :
    wpAny (model prog w) A (call (.type "enumerate") [.ref l]) Q E s := by
  have B := beginsK t l its
  refine callType_new F.called_enumerate (by decide) (F.typeCall_enumerate_1 _) (F.newCall_enumerate_1 _) (fun obj => F.args_object_init_2 obj _) F.entry_enumerate_new (enum_new1 B) ⟨h1, ?_⟩
  have sz : (s.heap.push (obK t l)).objs.size = s.heap.objs.size + 1 := Heap.size_push ..
  have he := Heap.get?_push_size (s.heap.push (obK t l)) (o := { cls := .type "enumerate", data := .fields #[.none, .bool false, .ref s.heap.objs.size, rawInt 0, .none, .none] }) rfl
  rw [sz] at he
  show _ ∧ _
  rw [sz]
  exact ⟨⟨_, he, rfl⟩, h _ he (obK_it (Heap.get?_push_of_some _ (Heap.get?_push_size _ B.free))) fun b o q => Heap.get?_push_of_some _ (Heap.get?_push_of_some _ q)⟩
section
variable {X : Cx}
theorem pi_z2K {e e2 : Expr} {ta : TA} {p pos tpos : Pos} {elts : List Expr} {kk : Nat} (hg : Gl X "zip") (hm : X.mg "zip" = none) (ha : PA X [e, e2] ta)
    (hs : starEach [e, e2] X.env = (false, eval e X.env) :: starEach [e2] X.env) (hpl : (backTo pos (starEach [e2] X.env)).any (·.1) = false) :
    PI X (.Tuple elts kk tpos) (.Call (.Name "zip" p) [e, e2] [] pos) (iZ2K X.K ta) := by
  refine ⟨fun pins s σ H R I h => ?_⟩
  refine PyProof.Rows.Call_ (ld_blt I hg hm PyProof.Rows.boot_zip (PyProof.Rows.callWith_type1 (thn (ha.run pos pins s σ H _ I h) fun us s1 ⟨vs, H1, I1, r1, q1⟩ => ?_) hs hpl))
  obtain ⟨t, u, a, b, xs, ys, ev, hqx, hqy, q⟩ := q1
  subst ev
  obtain ⟨u1, u2, rfl, z1, z2⟩ := vals2 r1
  cases z1
  cases z2
  obtain ⟨its, rv, p1, _, l1⟩ := inv_sq I1 hqx
  obtain ⟨its2, rv2, p2, _, l2⟩ := inv_sq I1 hqy
  refine zip_begins2 (beginsK t a its.toArray) (beginsK u b its2.toArray) p1 p2 fun h' hz hTI hTO g1 g2 hsz hk => wpAny_pyIter_zip hz ?_
  have I2 : Inv X pins σ H1 { s1 with heap := h' } := I1.kept (t' := s1.toks) hk
  have na : a ≠ s1.heap.objs.size := Nat.ne_of_lt l1
  have nb : b ≠ s1.heap.objs.size + 1 := Nat.ne_of_lt (Nat.lt_succ_of_lt l2)
  refine ⟨s1.heap.objs.size + 4, [s1.heap.objs.size + 4, s1.heap.objs.size + 2, s1.heap.objs.size + 3, s1.heap.objs.size, s1.heap.objs.size + 1], _, _, H1, rfl, I2,
    turn_z2K t u a b _ _ _ _ _ (zip_sep2 (N := s1.heap.objs.size) (fp1 := [a]) (fp2 := [b]) (by simpa using l1) (by simpa using l2)) na nb, ⟨hz, hTI, ⟨_, _, hTO⟩, obK_it g1, obK_it g2⟩, fpNew (h' := h') I1 ?_, q⟩
  intro c hc
  have e' : c = s1.heap.objs.size + 4 ∨ c = s1.heap.objs.size + 2 ∨ c = s1.heap.objs.size + 3 ∨ c = s1.heap.objs.size ∨ c = s1.heap.objs.size + 1 := by simpa using hc
  rcases e' with z | z | z | z | z <;> (rw [z]; first | exact Nat.le_add_right _ _ | exact Nat.le_refl _)
theorem pi_z3K {e e2 e3 : Expr} {ta : TA} {p pos tpos : Pos} {elts : List Expr} {kk : Nat} (hg : Gl X "zip") (hm : X.mg "zip" = none) (ha : PA X [e, e2, e3] ta)
    (hs : starEach [e, e2, e3] X.env = (false, eval e X.env) :: starEach [e2, e3] X.env) (hpl : (backTo pos (starEach [e2, e3] X.env)).any (·.1) = false) :
    PI X (.Tuple elts kk tpos) (.Call (.Name "zip" p) [e, e2, e3] [] pos) (iZ3K X.K ta) := by
  refine ⟨fun pins s σ H R I h => ?_⟩
  refine PyProof.Rows.Call_ (ld_blt I hg hm PyProof.Rows.boot_zip (PyProof.Rows.callWith_type1 (thn (ha.run pos pins s σ H _ I h) fun us s1 ⟨vs, H1, I1, r1, q1⟩ => ?_) hs hpl))
  obtain ⟨t, u, v, a, b, c, xs, ys, zs, ev, hqx, hqy, hqz, q⟩ := q1
  subst ev
  obtain ⟨u1, u2, u3, rfl, z1, z2, z3⟩ : ∃ u1 u2 u3, us = [u1, u2, u3] ∧ RelV (.ref a) u1 ∧ RelV (.ref b) u2 ∧ RelV (.ref c) u3 := by
    cases r1 with
    | cons x1 r =>
      cases r with
      | cons x2 r =>
        cases r with
        | cons x3 r => cases r; exact ⟨_, _, _, rfl, x1, x2, x3⟩
  cases z1
  cases z2
  cases z3
  obtain ⟨its, rv, p1, _, l1⟩ := inv_sq I1 hqx
  obtain ⟨its2, rv2, p2, _, l2⟩ := inv_sq I1 hqy
  obtain ⟨its3, rv3, p3, _, l3⟩ := inv_sq I1 hqz
  refine zip_begins3 (beginsK t a its.toArray) (beginsK u b its2.toArray) (beginsK v c its3.toArray) p1 p2 p3 fun h' hz hTI hTO g1 g2 g3 hsz hk => wpAny_pyIter_zip hz ?_
  have I2 : Inv X pins σ H1 { s1 with heap := h' } := I1.kept (t' := s1.toks) hk
  have na : a ≠ s1.heap.objs.size := Nat.ne_of_lt l1
  have nb : b ≠ s1.heap.objs.size + 1 := Nat.ne_of_lt (Nat.lt_succ_of_lt l2)
  have nc : c ≠ s1.heap.objs.size + 2 := Nat.ne_of_lt (Nat.lt_succ_of_lt (Nat.lt_succ_of_lt l3))
  refine ⟨s1.heap.objs.size + 5, [s1.heap.objs.size + 5, s1.heap.objs.size + 3, s1.heap.objs.size + 4, s1.heap.objs.size, s1.heap.objs.size + 1, s1.heap.objs.size + 2], _, _, H1, rfl, I2,
    turn_z3K t u v a b c _ _ _ _ _ _ (zip_sep3 (N := s1.heap.objs.size) (fp1 := [a]) (fp2 := [b]) (fp3 := [c]) (by simpa using l1) (by simpa using l2) (by simpa using l3)) na nb nc, ⟨hz, hTI, ⟨_, _, _, hTO⟩, obK_it g1, obK_it g2, obK_it g3⟩, fpNew (h' := h') I1 ?_, q⟩
  intro d hd
  have e' : d = s1.heap.objs.size + 5 ∨ d = s1.heap.objs.size + 3 ∨ d = s1.heap.objs.size + 4 ∨ d = s1.heap.objs.size ∨ d = s1.heap.objs.size + 1 ∨ d = s1.heap.objs.size + 2 := by simpa using hd
  rcases e' with z | z | z | z | z | z <;> (rw [z]; first | exact Nat.le_add_right _ _ | exact Nat.le_refl _)
theorem pi_enK {e : Expr} {ta : TA} {p pos tpos : Pos} {elts : List Expr} {kk : Nat} (hg : Gl X "enumerate") (hm : X.mg "enumerate" = none) (ha : PA X [e] ta) (hs : starEach [e] X.env = [(false, eval e X.env)]) :
    PI X (.Tuple elts kk tpos) (.Call (.Name "enumerate" p) [e] [] pos) (iEnK X.K ta) := by
  refine ⟨fun pins s σ H R I h => ?_⟩
  refine PyProof.Rows.Call_ (ld_blt I hg hm PyProof.Rows.boot_enumerate (PyProof.Rows.callWith_type1 (thn (ha.run pos pins s σ H _ I h) fun us s1 ⟨vs, H1, I1, r1, q1⟩ => ?_) hs rfl))
  obtain ⟨t, a, xs, ev, hq, q⟩ := q1
  subst ev
  obtain ⟨u, rfl, z⟩ := vals1 r1
  cases z
  obtain ⟨its, rv, p1, _, l1⟩ := inv_sq I1 hq
  refine enum_beginsK t p1 fun h' he hit hk => wpAny_pyIter_enum he ?_
  have I2 : Inv X pins σ H1 { s1 with heap := h' } := I1.kept (t' := s1.toks) hk
  refine ⟨s1.heap.objs.size + 1, [s1.heap.objs.size + 1, s1.heap.objs.size], _, _, H1, rfl, I2, turn_enK t a (s1.heap.objs.size + 1) s1.heap.objs.size, ⟨⟨.none, he⟩, hit, Nat.succ_ne_self _, Nat.ne_of_lt l1, Nat.ne_of_lt (Nat.lt_succ_of_lt l1)⟩, fpNew (h' := h') I1 ?_, q⟩
  intro b hb
  have e' : b = s1.heap.objs.size + 1 ∨ b = s1.heap.objs.size := by simpa using hb
  rcases e' with z | z <;> (rw [z]; first | exact Nat.le_add_right _ _ | exact Nat.le_refl _)
end
end Qv
namespace Qv
open PySem L2
open Evl (Ex)

def seqD : D → Option (List D)
  | .lst l => some l
  | .tup l => some l
  | .scr l => some (l.map .int)
  | _ => none
def isT : D → Bool
  | .tup _ => true
  | _ => false
theorem sq_of {K : PySem.W.Frag} {G : Hp} {v : V} {d : D} {l : List D} (h : seqD d = some l) (r : Rep K G v d) : ∃ a xs, v = .ref a ∧ SqK K (isT d) G a xs ∧ RepL K G xs l := by
  cases r with
  | lst hp ra => cases h; exact ⟨_, _, rfl, SqL.of hp, ra⟩
  | tup hp ra => cases h; exact ⟨_, _, rfl, SqT.of hp, ra⟩
  | scr hp => cases h; exact ⟨_, _, rfl, hp, .ints _⟩
  | _ => cases h
def enL (l : List D) : List D := l.zipIdx.map fun p => .tup [.int (p.2 : Nat), p.1]
def z2L (l m : List D) : List D := List.zipWith (fun a b => .tup [a, b]) l m
def z3L (l m n : List D) : List D := List.zipWith (fun (p : D × D) c => .tup [p.1, p.2, c]) (l.zip m) n
section
variable {K : PySem.W.Frag} {G : Hp}
theorem new_tup {pn : Pn} {A : LA} {e : En} {σ : L2.St} {G1 R H1 : Hp} {T : Addr} {xs : List V} {ds : List D} (g : RelG K pn A e σ G1 R H1) (hT : H1 T = none) (r : RepL K G1 xs ds) :
    ∃ G2, Ex G1 G2 ∧ RelG K pn A e σ G2 R (upd H1 T (.tup xs)) ∧ Rep K G2 (.ref T) (.tup ds) := by
  obtain ⟨g2, x2⟩ := g.laid (o := .tup xs) hT
  exact ⟨_, x2, g2, .tup upd_same (r.mono x2)⟩
/-- the walked thing is what it was: its items stand (by any state that bears it) -/
theorem it_en {t : Bool} {a : Addr} {xs : List V} {l : List D} (h : SqK K t G a xs) (r : RepL K G xs l) : ItOk K (JEn K t a) G (enL l) := by
  intro pn A e σ G1 R H1 i x g
  have hq : SqK K t H1 a xs := (h.ex x).ex g.gh
  have hl : (enL l).length = l.length := by simp [enL]
  refine ⟨fun hi => ?_, fun hi => ⟨xs, hq, by rw [r.length]; omega⟩, fun v H2 d hy hd => ?_⟩
  · have hi' : i < xs.length := by rw [r.length]; omega
    exact ⟨xs, xs[i], hq, by simp [hi']⟩
  · obtain ⟨T, zs, rfl, hT, rfl, y, hys, rfl⟩ := hy
    have hyi := hys xs hq
    unfold enL at hd
    rw [List.getElem?_map] at hd
    cases z : l.zipIdx[i]? with
    | none => rw [z] at hd; cases hd
    | some p =>
      rw [z] at hd
      cases hd
      rw [List.getElem?_zipIdx] at z
      obtain ⟨d0, hd0, rfl⟩ := Option.map_eq_some_iff.mp z
      obtain ⟨w, hw, rw'⟩ := r.get hd0
      rw [hyi] at hw
      cases hw
      simp only [Nat.zero_add]
      exact new_tup g hT (.cons (.int _) (.cons (rw'.mono x) .nil))
theorem it_z2 {t s : Bool} {a b : Addr} {xs ys : List V} {l m : List D} 
    (h1 : SqK K t G a xs) (r1 : RepL K G xs l) (h2 : SqK K s G b ys) (r2 : RepL K G ys m) : ItOk K (JZ2 K t s a b) G (z2L l m) := by
  intro pn A e σ G1 R H1 i x g
  have q1 : SqK K t H1 a xs := (h1.ex x).ex g.gh
  have q2 : SqK K s H1 b ys := (h2.ex x).ex g.gh
  have hl : (z2L l m).length = min l.length m.length := by simp [z2L]
  refine ⟨fun hi => ?_, fun hi => ⟨xs, ys, q1, q2, by rw [r1.length, r2.length]; omega⟩, fun v H2 d hy hd => ?_⟩
  · have i1 : i < xs.length := by rw [r1.length]; omega
    have i2 : i < ys.length := by rw [r2.length]; omega
    exact ⟨xs, ys, xs[i], ys[i], q1, q2, by simp [i1], by simp [i2]⟩
  · obtain ⟨T, zs, rfl, hT, rfl, x', y', a1, a2, rfl⟩ := hy
    have b1 := a1 xs q1
    have b2 := a2 ys q2
    unfold z2L at hd
    rw [List.getElem?_zipWith] at hd
    split at hd
    · rename_i da db c1 c2
      cases hd
      obtain ⟨w, hw, rw'⟩ := r1.get c1
      obtain ⟨w2, hw2, rw2'⟩ := r2.get c2
      rw [b1] at hw; rw [b2] at hw2
      cases hw; cases hw2
      exact new_tup g hT (.cons (rw'.mono x) (.cons (rw2'.mono x) .nil))
    · cases hd
theorem it_z3 {t s q : Bool} {a b c : Addr} {xs ys zs : List V} {l m n : List D} 
    (h1 : SqK K t G a xs) (r1 : RepL K G xs l) (h2 : SqK K s G b ys) (r2 : RepL K G ys m) (h3 : SqK K q G c zs) (r3 : RepL K G zs n) : ItOk K (JZ3 K t s q a b c) G (z3L l m n) := by
  intro pn A e σ G1 R H1 i x g
  have q1 : SqK K t H1 a xs := (h1.ex x).ex g.gh
  have q2 : SqK K s H1 b ys := (h2.ex x).ex g.gh
  have q3 : SqK K q H1 c zs := (h3.ex x).ex g.gh
  have hl : (z3L l m n).length = min (min l.length m.length) n.length := by simp [z3L]
  refine ⟨fun hi => ?_, fun hi => ⟨xs, ys, zs, q1, q2, q3, by rw [r1.length, r2.length, r3.length]; omega⟩, fun v H2 d hy hd => ?_⟩
  · have i1 : i < xs.length := by rw [r1.length]; omega
    have i2 : i < ys.length := by rw [r2.length]; omega
    have i3 : i < zs.length := by rw [r3.length]; omega
    exact ⟨xs, ys, zs, xs[i], ys[i], zs[i], q1, q2, q3, by simp [i1], by simp [i2], by simp [i3]⟩
  · obtain ⟨T, ws, rfl, hT, rfl, x', y', z', a1, a2, a3, rfl⟩ := hy
    have b1 := a1 xs q1
    have b2 := a2 ys q2
    have b3 := a3 zs q3
    unfold z3L at hd
    rw [List.getElem?_zipWith] at hd
    split at hd
    · rename_i pp dc c1 c3
      cases hd
      rw [List.getElem?_zip_eq_some] at c1
      obtain ⟨w, hw, rw'⟩ := r1.get c1.1
      obtain ⟨w2, hw2, rw2'⟩ := r2.get c1.2
      obtain ⟨w3, hw3, rw3'⟩ := r3.get c3
      rw [b1] at hw; rw [b2] at hw2; rw [b3] at hw3
      cases hw; cases hw2; cases hw3
      exact new_tup g hT (.cons (rw'.mono x) (.cons (rw2'.mono x) (.cons (rw3'.mono x) .nil)))
    · cases hd
end
def enB : List D → Option (List D)
  | [d] => (seqD d).map enL
  | _ => none
def zp2B : List D → Option (List D)
  | [a, b] => match seqD a, seqD b with
    | some l, some m => some (z2L l m)
    | _, _ => none
  | _ => none
def zp3B : List D → Option (List D)
  | [a, b, c] => match seqD a, seqD b, seqD c with
    | some l, some m, some n => some (z3L l m n)
    | _, _, _ => none
  | _ => none
/-- the arguments are shared; what g makes of them is walked -/
def walkC (g : List D → Option (List D)) (fs : List (M Val)) : M (List D) := bnd (argsC fs) fun vs => bnd (shrAll vs) fun ds => opt (g ds)
section
variable {X : Cx} {W : WX} {p pos tpos : Pos} {elts : List Expr} {kk : Nat}
theorem si_en {x : Expr} {f : M Val} (hg : Gl X "enumerate") (hm : X.mg "enumerate" = none) (hn : notStar x = true) (ha : PE X x (tEv X.K W f)) : PI X (.Tuple elts kk tpos) (.Call (.Name "enumerate" p) [x] [] pos) (tIv X.K W (walkC enB [f])) :=
  PI_mono (pi_enK hg hm (sa_args [x] [f] (by simp [hn]) (.cons ha .nil)) (star_cons hn)) fun σ H Rr q => by
    obtain ⟨pn, A, e, G, R, g, oc⟩ := q
    refine chain g oc fun ws vs A1 e1 G1 H1 x1 g1 r1 oc1 => ?_
    obtain ⟨es, A2, e2, G2, x2, g2, r2, oc2⟩ := oc_shrA g1 r1 oc1
    obtain ⟨ds, q3, fin⟩ := oc_optE oc2
    unfold enB at q3
    split at q3
    · obtain ⟨l, hl, rfl⟩ := Option.map_eq_some_iff.mp q3
      cases r2 with
      | cons rd rr =>
        cases rr
        obtain ⟨a, xs, rfl, hs, rl⟩ := sq_of hl rd
        exact ⟨_, a, xs, rfl, hs.ex g2.gh, fin _ A2 G2 H1 (Ex.refl _) g2 (it_en hs rl)⟩
    · cases q3
theorem si_zp2 {x y : Expr} {f f2 : M Val} (hg : Gl X "zip") (hm : X.mg "zip" = none) (hn : notStar x = true) (hn2 : notStar y = true) (ha : PE X x (tEv X.K W f)) (hb : PE X y (tEv X.K W f2)) :
    PI X (.Tuple elts kk tpos) (.Call (.Name "zip" p) [x, y] [] pos) (tIv X.K W (walkC zp2B [f, f2])) :=
  PI_mono (pi_z2K hg hm (sa_args [x, y] [f, f2] (by simp [hn, hn2]) (.cons ha (.cons hb .nil))) (star_cons hn) (star_plain (by simp [hn2]))) fun σ H Rr q => by
    obtain ⟨pn, A, e, G, R, g, oc⟩ := q
    refine chain g oc fun ws vs A1 e1 G1 H1 x1 g1 r1 oc1 => ?_
    obtain ⟨es, A2, e2, G2, x2, g2, r2, oc2⟩ := oc_shrA g1 r1 oc1
    obtain ⟨ds, q3, fin⟩ := oc_optE oc2
    unfold zp2B at q3
    split at q3
    · split at q3
      · rename_i l m hl hm2
        cases q3
        cases r2 with
        | cons rd rr =>
          cases rr with
          | cons rd2 rr =>
            cases rr
            obtain ⟨a, xs, rfl, hs, rl⟩ := sq_of hl rd
            obtain ⟨b, ys, rfl, hs2, rl2⟩ := sq_of hm2 rd2
            exact ⟨_, _, a, b, xs, ys, rfl, hs.ex g2.gh, hs2.ex g2.gh, fin _ A2 G2 H1 (Ex.refl _) g2 (it_z2 hs rl hs2 rl2)⟩
      · cases q3
    · cases q3
theorem si_zp3 {x y z : Expr} {f f2 f3 : M Val} (hg : Gl X "zip") (hm : X.mg "zip" = none) (hn : notStar x = true) (hn2 : notStar y = true) (hn3 : notStar z = true) (ha : PE X x (tEv X.K W f)) (hb : PE X y (tEv X.K W f2)) (hc : PE X z (tEv X.K W f3)) :
    PI X (.Tuple elts kk tpos) (.Call (.Name "zip" p) [x, y, z] [] pos) (tIv X.K W (walkC zp3B [f, f2, f3])) :=
  PI_mono (pi_z3K hg hm (sa_args [x, y, z] [f, f2, f3] (by simp [hn, hn2, hn3]) (.cons ha (.cons hb (.cons hc .nil)))) (star_cons hn) (star_plain (by simp [hn2, hn3]))) fun σ H Rr q => by
    obtain ⟨pn, A, e, G, R, g, oc⟩ := q
    refine chain g oc fun ws vs A1 e1 G1 H1 x1 g1 r1 oc1 => ?_
    obtain ⟨es, A2, e2, G2, x2, g2, r2, oc2⟩ := oc_shrA g1 r1 oc1
    obtain ⟨ds, q3, fin⟩ := oc_optE oc2
    unfold zp3B at q3
    split at q3
    · split at q3
      · rename_i l m n hl hm2 hn2
        cases q3
        cases r2 with
        | cons rd rr =>
          cases rr with
          | cons rd2 rr =>
            cases rr with
            | cons rd3 rr =>
              cases rr
              obtain ⟨a, xs, rfl, hs, rl⟩ := sq_of hl rd
              obtain ⟨b, ys, rfl, hs2, rl2⟩ := sq_of hm2 rd2
              obtain ⟨c, zs, rfl, hs3, rl3⟩ := sq_of hn2 rd3
              exact ⟨_, _, _, a, b, c, xs, ys, zs, rfl, hs.ex g2.gh, hs2.ex g2.gh, hs3.ex g2.gh, fin _ A2 G2 H1 (Ex.refl _) g2 (it_z3 hs rl hs2 rl2 hs3 rl3)⟩
      · cases q3
    · cases q3
end
end Qv
namespace Qv
open PySem L2
open Evl (Ex)

/-! ### keys -/
section
variable {K : PySem.W.Frag} {H : Hp}
theorem keyD_inj {a b : Key} (h : keyD a = keyD b) : a = b := by
  cases a <;> cases b <;> first | (cases h; rfl) | cases h
theorem keyS_D : ∀ {k : Key}, keyS (keyD k) = some k
  | .inl _ => rfl
  | .inr _ => rfl
theorem keyS_ok : ∀ {d : D} {k : Key}, keyS d = some k → d = keyD k
  | .int i, k, h => by cases h; rfl
  | .str x, k, h => by cases h; rfl
  | .non, _, h => by cases h
  | .bl _, _, h => by cases h
  | .tup _, _, h => by cases h
  | .lst _, _, h => by cases h
  | .dct _, _, h => by cases h
  | .scr _, _, h => by cases h
  | .ins _ _, _, h => by cases h
  | .ty _, _, h => by cases h
  | .box _, _, h => by cases h
theorem keyL_ok : ∀ {l : List D} {ks : List Key}, keyL l = some ks → l = ks.map keyD
  | [], ks, h => by cases h; rfl
  | d :: r, ks, h => by
    unfold keyL at h
    split at h
    · rename_i k ks' h1 h2
      cases h
      rw [keyS_ok h1, keyL_ok h2]
      rfl
    · cases h
theorem keyT_ok {d : D} {ks : List Key} (h : keyT d = some ks) : d = .tup (ks.map keyD) := by
  cases d <;> first | (rw [keyL_ok (show keyL _ = some ks from h)]) | cases h
theorem keyL_D : ∀ {ks : List Key}, keyL (ks.map keyD) = some ks
  | [] => rfl
  | k :: r => by
    unfold keyL
    rw [List.map_cons]
    simp only [keyS_D, keyL_D]
theorem keyT_D {ks : List Key} : keyT (.tup (ks.map keyD)) = some ks := keyL_D
theorem tupD_inj {a b : List Key} (h : D.tup (a.map keyD) = D.tup (b.map keyD)) : a = b := by
  have := congrArg keyT h
  rw [keyT_D, keyT_D] at this
  exact Option.some.inj this
theorem rep_keyS : ∀ {k : Key} {v : V}, Rep K H v (keyD k) → v = kV k
  | .inl _, _, h => by cases h; rfl
  | .inr _, _, h => by cases h; rfl
theorem keyS_rep {k : Key} : Rep K H (kV k) (keyD k) := by
  cases k
  · exact .int _
  · exact .str _
theorem repL_keys : ∀ {ks : List Key} {vs : List V}, RepL K H vs (ks.map keyD) → vs = ks.map kV
  | [], _, .nil => rfl
  | k :: ks, _, .cons a b => by rw [rep_keyS a, repL_keys b]; rfl
theorem rep_keyT {ks : List Key} {v : V} (h : Rep K H v (.tup (ks.map keyD))) : ∃ a, v = .ref a ∧ H a = some (.tup (ks.map kV)) := by
  cases h with
  | tup hp ra => rw [repL_keys ra] at hp; exact ⟨_, rfl, hp⟩
theorem RepK.put {kvs : List (Key × V)} {es : List (D × D)} {k : Key} {v : V} {d : D} (r : RepK K H kvs es) (h : Rep K H v d) : RepK K H (putK kvs k v) (kvSet es (keyD k) d) := by
  have any : ∀ {kvs : List (Key × V)} {es : List (D × D)}, RepK K H kvs es → (kvs.any fun kv => decide (kv.1 = k)) = es.any fun q => decide (q.1 = keyD k) := by
    intro kvs es r
    induction kvs generalizing es with
    | nil => cases r; rfl
    | cons p kvs ih =>
      cases r with
      | cons a b =>
        rw [List.any_cons, List.any_cons, ih b]
        congr 1
        exact decide_eq_decide.mpr ⟨fun z => congrArg keyD z, fun z => keyD_inj z⟩
  have mp : ∀ {kvs : List (Key × V)} {es : List (D × D)}, RepK K H kvs es → RepK K H (kvs.map fun kv => if kv.1 = k then (kv.1, v) else kv) (es.map fun q => if q.1 = keyD k then (q.1, d) else q) := by
    intro kvs es r
    induction kvs generalizing es with
    | nil => cases r; exact .nil
    | cons p kvs ih =>
      cases r with
      | @cons k' x _ d' _ a b =>
        rw [List.map_cons, List.map_cons]
        by_cases z : k' = k
        · subst z
          simp only [if_pos]
          exact .cons h (ih b)
        · have z2 : keyD k' ≠ keyD k := fun w => z (keyD_inj w)
          rw [if_neg z, if_neg z2]
          exact .cons a (ih b)
  have ap : ∀ {kvs : List (Key × V)} {es : List (D × D)}, RepK K H kvs es → RepK K H (kvs ++ [(k, v)]) (es ++ [(keyD k, d)]) := by
    intro kvs es r
    induction kvs generalizing es with
    | nil => cases r; exact .cons h .nil
    | cons p kvs ih =>
      cases r with
      | cons a b => exact .cons a (ih b)
  unfold putK kvSet
  rw [any r]
  split
  · exact mp r
  · exact ap r
theorem RepT.put {kvs : List (List Key × V)} {es : List (D × D)} {k : List Key} {v : V} {d : D} (r : RepT K H kvs es) (h : Rep K H v d) : RepT K H (putK kvs k v) (kvSet es (.tup (k.map keyD)) d) := by
  have any : ∀ {kvs : List (List Key × V)} {es : List (D × D)}, RepT K H kvs es → (kvs.any fun kv => decide (kv.1 = k)) = es.any fun q => decide (q.1 = .tup (k.map keyD)) := by
    intro kvs es r
    induction kvs generalizing es with
    | nil => cases r; rfl
    | cons p kvs ih =>
      cases r with
      | cons a b =>
        rw [List.any_cons, List.any_cons, ih b]
        congr 1
        exact decide_eq_decide.mpr ⟨fun z => congrArg (fun k => D.tup (k.map keyD)) z, fun z => tupD_inj z⟩
  have mp : ∀ {kvs : List (List Key × V)} {es : List (D × D)}, RepT K H kvs es → RepT K H (kvs.map fun kv => if kv.1 = k then (kv.1, v) else kv) (es.map fun q => if q.1 = .tup (k.map keyD) then (q.1, d) else q) := by
    intro kvs es r
    induction kvs generalizing es with
    | nil => cases r; exact .nil
    | cons p kvs ih =>
      cases r with
      | @cons k' x _ d' _ a b =>
        rw [List.map_cons, List.map_cons]
        by_cases z : k' = k
        · subst z
          simp only [if_pos]
          exact .cons h (ih b)
        · have z2 : D.tup (k'.map keyD) ≠ .tup (k.map keyD) := fun w => z (tupD_inj w)
          rw [if_neg z, if_neg z2]
          exact .cons a (ih b)
  have ap : ∀ {kvs : List (List Key × V)} {es : List (D × D)}, RepT K H kvs es → RepT K H (kvs ++ [(k, v)]) (es ++ [(.tup (k.map keyD), d)]) := by
    intro kvs es r
    induction kvs generalizing es with
    | nil => cases r; exact .cons h .nil
    | cons p kvs ih =>
      cases r with
      | cons a b => exact .cons a (ih b)
  unfold putK kvSet
  rw [any r]
  split
  · exact mp r
  · exact ap r
theorem RepK.at {kvs : List (Key × V)} {es : List (D × D)} {k : Key} (r : RepK K H kvs es) : match kvGet es (keyD k) with
    | some d => ∃ v, valV kvs k = some v ∧ Rep K H v d
    | none => valV kvs k = none := by
  induction kvs generalizing es with
  | nil => cases r; rfl
  | cons p kvs ih =>
    cases r with
    | @cons k' x _ d' _ a b =>
      unfold kvGet valV at *
      rw [List.find?_cons, List.find?_cons]
      by_cases z : k' = k
      · subst z
        simp only [decide_true]
        exact ⟨_, rfl, a⟩
      · have z2 : keyD k' ≠ keyD k := fun w => z (keyD_inj w)
        simp only [z, z2, decide_false]
        exact ih b
theorem RepT.at {kvs : List (List Key × V)} {es : List (D × D)} {k : List Key} (r : RepT K H kvs es) : match kvGet es (.tup (k.map keyD)) with
    | some d => ∃ v, valV kvs k = some v ∧ Rep K H v d
    | none => valV kvs k = none := by
  induction kvs generalizing es with
  | nil => cases r; rfl
  | cons p kvs ih =>
    cases r with
    | @cons k' x _ d' _ a b =>
      unfold kvGet valV at *
      rw [List.find?_cons, List.find?_cons]
      by_cases z : k' = k
      · subst z
        simp only [decide_true]
        exact ⟨_, rfl, a⟩
      · have z2 : D.tup (k'.map keyD) ≠ .tup (k.map keyD) := fun w => z (tupD_inj w)
        simp only [z, z2, decide_false]
        exact ih b
theorem RepK.length : ∀ {kvs : List (Key × V)} {es : List (D × D)}, RepK K H kvs es → kvs.length = es.length
  | _, _, .nil => rfl
  | _, _, .cons _ r => congrArg Nat.succ (RepK.length r)
theorem RepT.length : ∀ {kvs : List (List Key × V)} {es : List (D × D)}, RepT K H kvs es → kvs.length = es.length
  | _, _, .nil => rfl
  | _, _, .cons _ r => congrArg Nat.succ (RepT.length r)
end
/-! ### an empty dict is of either kind -/
section
variable {X : Cx} {pins : List (Addr × Obj)} {σ : L2.St} {H : Hp} {s : Shared} {a : Addr} {o o' : HO}
/-- another description of the same object -/
theorem inv_redo (I : Inv X pins σ H s) (h : H a = some o) (hm : Mut (some o)) (ok : ObjOk X.prog X.w (upd H a o') s.heap a o') : Inv X pins σ (upd H a o') s := by
  have ne : ∀ b, H b = none → b ≠ a := fun b z w => by rw [w, h] at z; cases z
  have nt : ∀ b xs, H b = some (.tup xs) → b ≠ a := fun b xs z w => by subst w; rw [h] at z; cases z; exact hm
  have nf : ∀ b ob u, H b = some (.frz ob u) → b ≠ a := fun b ob u z w => by subst w; rw [h] at z; cases z; exact hm
  have nb : ∀ b ps, H b = some (.tbl ps) → b ≠ a := fun b ps z w => by subst w; rw [h] at z; cases z; exact hm
  have no : ∀ b x, H b = some (.own x) → b ≠ a := fun b x z w => by subst w; rw [h] at z; cases z; exact hm
  refine ⟨I.ok, I.os, I.bare, ?_, I.loc, I.cell, ?_, fun x c hc => ?_, fun p hp => ?_, fun b u e => ?_, I.len⟩
  · have u := I.base
    exact ⟨u.keep, u.slot, fun b ob q n hx => by rw [upd_ne (ne b (u.free b ob q n hx))]; exact u.free b ob q n hx, u.there, fun b xs z => by rw [upd_ne (nt b xs (u.tups b xs z))]; exact u.tups b xs z,
      fun b ob q z => by rw [upd_ne (nf b ob q (u.frzs b ob q z))]; exact u.frzs b ob q z, fun b ps z => by
        obtain ⟨more, w⟩ := u.tbls b ps z
        exact ⟨more, by rw [upd_ne (nb b _ w)]; exact w⟩⟩
  · rw [upd_ne (ne _ I.free)]; exact I.free
  · rw [upd_ne (ne _ (I.freeC x c hc))]; exact I.freeC x c hc
  · obtain ⟨p1, p2, p3⟩ := I.pin p hp
    exact ⟨p1, by rw [upd_ne (ne _ p2)]; exact p2, p3⟩
  · by_cases hb : b = a
    · subst hb; rw [upd_same] at e; cases e; exact ok
    · rw [upd_ne hb] at e
      exact (I.hok b u e).stay (fun c v _ q => q) (fun c q => by rw [upd_ne (no c b q)]; exact q) fun c xs q => by rw [upd_ne (nt c xs q)]; exact q
theorem inv_toT (I : Inv X pins σ H s) (h : H a = some (.dK [])) : Inv X pins σ (upd H a (.dT [])) s := by
  refine inv_redo I h trivial ?_
  obtain ⟨_, hs, vs, kv, dd⟩ := I.hok a _ h
  cases kv
  obtain ⟨o, es, ep, e, c, d, _, l, _⟩ := dd
  have l' : es.toList = [] := by
    cases q : es.toList with
    | nil => rfl
    | cons x r => rw [q] at l; exact nomatch l
  exact ⟨Nat.zero_le _, hs, [], .nil, o, es, ep, e, c, d, l', List.nodup_nil⟩
theorem inv_toK (I : Inv X pins σ H s) (h : H a = some (.dT [])) : Inv X pins σ (upd H a (.dK [])) s := by
  refine inv_redo I h trivial ?_
  obtain ⟨_, hs, xs, pr, o, es, ep, e, c, d, l, _⟩ := I.hok a _ h
  cases pr
  have l' : es = #[] := by simpa using l
  subst l'
  exact ⟨Nat.zero_le _, hs, [], .nil, o, #[], ep, e, c, d, (fun x hx => by simp at hx), .nil, List.nodup_nil⟩
end
end Qv
namespace Qv
open PySem L2
open Evl (Ex)

/-! ### slots are written -/
def setN (i : Nat) (s : Slot) : M Unit := fun e => match e[i]? with
  | some t => if t.io = true then .err else .ok ((), e.set i s)
  | none => .err
def asgN (i : Nat) : Val → M Unit
  | .sh d => setN i (.sh d)
  | .fr d => setN i (.ow false d)
  | .fn d => setN i (.nt false d)
  | .ow j => bnd (shr (.ow j)) fun d => setN i (.sh d)
  | .np j π => bnd (shr (.np j π)) fun d => setN i (.sh d)
/-- only these slots are written -/
def Same (ixs : List Nat) (σ σ' : L2.St) : Prop := σ'.length = σ.length ∧ ∀ k, k ∉ ixs → σ'[k]? = σ[k]?
theorem Same.refl {ixs : List Nat} {σ : L2.St} : Same ixs σ σ := ⟨rfl, fun _ _ => rfl⟩
theorem Same.trans {ixs : List Nat} {σ σ' σ'' : L2.St} (h : Same ixs σ σ') (h' : Same ixs σ' σ'') : Same ixs σ σ'' := ⟨h'.1.trans h.1, fun k hk => (h'.2 k hk).trans (h.2 k hk)⟩
theorem Same.of {ixs jxs : List Nat} {σ σ' : L2.St} (h : Same ixs σ σ') (s : ∀ i ∈ ixs, i ∈ jxs) : Same jxs σ σ' := ⟨h.1, fun k hk => h.2 k fun z => hk (s k z)⟩
theorem Same.set {i : Nat} {σ : L2.St} {v : V} : Same [i] σ (σ.set i (some v)) := ⟨by simp, fun k hk => set_ne (by simpa using hk)⟩
def FinG (K : PySem.W.Frag) (ixs : List Nat) (pn : Pn) (e : En) (σ : L2.St) (G R : Hp) (Q : L2.St → Hp → Prop) : Prop := ∀ σ' A' G' H', Ex G G' → Same ixs σ σ' → RelG K pn A' e σ' G' R H' → Q σ' H'
/-- an exception, wherever the slots stand by then -/
def FinXS (K : PySem.W.Frag) (W : WX) (pn : Pn) (e : En) (n : Nat) (G R : Hp) (x : Xn) : Prop :=
  ∀ σ' A' G' H' d, Ex G G' → σ'.length = n → RelG K pn A' e σ' G' R H' → XnR K G' x d → W (.ref (He.ga K x.cls)) d σ' H'
def OcG (K : PySem.W.Frag) (W : WX) (ixs : List Nat) (pn : Pn) (σ : L2.St) (R : Hp) (Q : L2.St → Hp → Prop) (G : Hp) (o : Out (Unit × En)) : Prop :=
  Oc (fun _ e' => FinG K ixs pn e' σ G R Q) (fun x e' => FinXS K W pn e' σ.length G R x) o
def tGv (K : PySem.W.Frag) (W : WX) (ixs : List Nat) (f : Val → M Unit) : TG := fun v σ H Q => ∃ pn A e G R val, RelG K pn A e σ G R H ∧ RepVal K A G R H e σ v val ∧ OcG K W ixs pn σ R Q G (f val e)
theorem PG_mono {X : Cx} {tg : Expr} {t t' : TG} (h : PG X tg t) (m : ∀ v σ H Q, t' v σ H Q → t v σ H Q) : PG X tg t' := ⟨fun pins s σ H v u Q I r q => h.run pins s σ H v u Q I r (m v σ H Q q)⟩
theorem PGs_mono {X : Cx} {tg : List Expr} {t t' : TGs} (h : PGs X tg t) (m : ∀ v σ H Q, t' v σ H Q → t v σ H Q) : PGs X tg t' := ⟨fun pins s σ H v u Q I r q => h.run pins s σ H v u Q I r (m v σ H Q q)⟩
section
variable {K : PySem.W.Frag} {W : WX} {pn : Pn} {A : LA} {e e' : En} {σ : L2.St} {G G' R R' H H' : Hp} {v : V} {val : Val} {ixs : List Nat} {Q : L2.St → Hp → Prop}
theorem FinG.ext (h : FinG K ixs pn e σ G R Q) (x : Ex G G') : FinG K ixs pn e σ G' R Q := fun σ' A' G2 H' y s g => h σ' A' G2 H' (x.trans y) s g
theorem FinXS.ext {x : Xn} {n : Nat} (h : FinXS K W pn e n G R x) (y : Ex G G') : FinXS K W pn e n G' R x := fun σ' A' G2 H' d z l g r => h σ' A' G2 H' d (y.trans z) l g r
theorem OcG.ext {o : Out (Unit × En)} (h : OcG K W ixs pn σ R Q G o) (x : Ex G G') : OcG K W ixs pn σ R Q G' o := by
  cases o with
  | ok p => exact FinG.ext (h : FinG K ixs pn p.2 σ G R Q) x
  | ex y e => exact FinXS.ext (h : FinXS K W pn e σ.length G R y) x
  | err => exact h
/-- a step of values ahead of what writes slots -/
theorem chainG {α β : Type} {rv : Rv β α} {m : M α} {k : α → M Unit} {Q' : β → Hp → Prop} (g : RelG K pn A e σ G R H) (oc : OcG K W ixs pn σ R Q G (bnd m k e))
    (step : ∀ b a A1 e1 G1 H1, Ex G G1 → RelG K pn A1 e1 σ G1 R H1 → rv A1 G1 R H1 e1 σ b a → OcG K W ixs pn σ R Q G1 (k a e1) → Q' b H1) : tG K W rv m σ H Q' := by
  refine ⟨pn, A, e, G, R, g, ?_⟩
  unfold bnd at oc
  unfold OcV
  cases h : m e with
  | ok p => rw [h] at oc; exact fun b A' G' H' x g' r => step b _ A' _ G' H' x g' r (oc.ext x)
  | ex x e' => rw [h] at oc; exact fun A' G' H' d y g' r => (oc : FinXS K W pn e' σ.length G R x) σ A' G' H' d y rfl g' r
  | err => rw [h] at oc; exact oc
/-- the same, as if it were values -/
theorem OcG.toV {o : Out (Unit × En)} (h : OcG K W ixs pn σ R Q G o) : OcV K W (rvB (α := Unit)) pn σ R (fun _ H' => Q σ H') G o := by
  cases o with
  | ok p => exact fun b A' G' H' x g r => (h : FinG K ixs pn p.2 σ G R Q) σ A' G' H' x Same.refl g
  | ex y e => exact fun A' G' H' d x g r => (h : FinXS K W pn e σ.length G R y) σ A' G' H' d x rfl g r
  | err => exact h
theorem setN_ok {i : Nat} {s : Slot} {e : En} {r : Unit × En} (h : setN i s e = .ok r) : i < e.length ∧ (∀ t, e[i]? = some t → t.io = false) ∧ r.2 = e.set i s := by
  unfold setN at h
  cases q : e[i]? with
  | none => simp only [q] at h; cases h
  | some t =>
    have hi : i < e.length := (List.getElem?_eq_some_iff.mp q).1
    simp only [q] at h
    split at h
    · cases h
    · rename_i z
      cases h
      exact ⟨hi, fun t' ht => by cases ht; simpa using z, rfl⟩
theorem setN_no {i : Nat} {s : Slot} {x : Xn} : setN i s e ≠ .ex x e' := by
  intro h
  unfold setN at h
  repeat (split at h)
  all_goals cases h
theorem asgN_ok {i : Nat} (g : RelG K pn A e σ G R H) (r : RepVal K A G R H e σ v val) (h : asgN i val e = .ok ((), e')) :
    ∃ A' G', Ex G G' ∧ RelG K pn A' e' (σ.set i (some v)) G' R H := by
  have viaS : ∀ val, (val = .sh default → False) → RepVal K A G R H e σ v val → bnd (shr val) (fun d => setN i (.sh d)) e = .ok ((), e') → ∃ A' G', Ex G G' ∧ RelG K pn A' e' (σ.set i (some v)) G' R H := fun val _ r h => by
    unfold bnd at h
    cases hs : shr val e with
    | err => rw [hs] at h; cases h
    | ex x e1 => rw [hs] at h; cases h
    | ok p =>
      rw [hs] at h
      obtain ⟨A2, G2, x2, g2, r2⟩ := g.shr r (d := p.1) (e' := p.2) hs
      obtain ⟨h1, h2, h3⟩ := setN_ok (r := ((), e')) h
      simp only at h3
      subst h3
      obtain ⟨A3, g3⟩ := g2.putS h1 h2 r2
      exact ⟨A3, G2, x2, g3⟩
  cases val with
  | sh d =>
    obtain ⟨h1, h2, h3⟩ := setN_ok h
    simp only at h3
    subst h3
    obtain ⟨A3, g3⟩ := g.putS h1 h2 r
    exact ⟨A3, G, Ex.refl G, g3⟩
  | fr d =>
    obtain ⟨h1, h2, h3⟩ := setN_ok h
    simp only at h3
    subst h3
    exact ⟨_, G, Ex.refl G, g.putO h1 h2 r⟩
  | fn d =>
    obtain ⟨h1, h2, h3⟩ := setN_ok h
    simp only at h3
    subst h3
    obtain ⟨B, fr⟩ := r
    exact ⟨_, G, Ex.refl G, g.putN h1 h2 fr⟩
  | ow j => exact viaS (.ow j) (fun z => nomatch z) r h
  | np j π => exact viaS (.np j π) (fun z => nomatch z) r h
theorem asgN_no {i : Nat} {x : Xn} : asgN i val e ≠ .ex x e' := by
  intro h
  have viaS : ∀ val, bnd (shr val) (fun d => setN i (.sh d)) e ≠ .ex x e' := fun val h => by
    unfold bnd at h
    cases hs : shr val e with
    | err => rw [hs] at h; cases h
    | ex x e1 => exact shr_no hs
    | ok p => rw [hs] at h; exact setN_no h
  cases val with
  | sh d => exact setN_no h
  | fr d => exact setN_no h
  | fn d => exact setN_no h
  | ow j => exact viaS _ h
  | np j π => exact viaS _ h
theorem ocg_asgN {i : Nat} (g : RelG K pn A e σ G R H) (r : RepVal K A G R H e σ v val) (oc : OcG K W ixs pn σ R Q G (asgN i val e)) (hi : i ∈ ixs) : Q (σ.set i (some v)) H := by
  cases h : asgN i val e with
  | err => rw [h] at oc; exact oc.elim
  | ex x e' => exact absurd h asgN_no
  | ok p =>
    rw [h] at oc
    obtain ⟨A', G', x', g'⟩ := asgN_ok (e' := p.2) g r h
    exact (oc : FinG K ixs pn p.2 σ G R Q) _ A' G' H x' (Same.set.of fun j hj => by rw [List.mem_singleton.mp hj]; exact hi) g'
end
/-! ### targets -/
section
variable {X : Cx} {W : WX} {pos : Pos}
theorem sg_name {i : Nat} {x : Str} (hN : X.N.Nodup) (hi : X.N[i]? = some x) (hx : Loc X.env.scope x) (hf : X.fn x = true ∨ X.env.scope.names.lookup x = some .local) : PG X (.Name x pos) (tGv X.K W [i] (asgN i)) :=
  PG_mono (pg_name hN hi hx hf) fun v σ H Q q => by
    obtain ⟨pn, A, e, G, R, val, g, r, oc⟩ := q
    exact ocg_asgN g r oc (List.mem_singleton.mpr rfl)
/-- several, of shared things -/
def asgL : List (Val → M Unit) → List D → M Unit
  | [], [] => ret ()
  | f :: fs, d :: ds => bnd (f (.sh d)) fun _ => asgL fs ds
  | _, _ => fail
def asgT (fs : List (Val → M Unit)) (val : Val) : M Unit := bnd (shr val) fun d => match d with
  | .tup ds => asgL fs ds
  | _ => fail
def tGsv (K : PySem.W.Frag) (W : WX) (ixs : List Nat) (fs : List (Val → M Unit)) : TGs := fun vs σ H Q => ∃ pn A e G R ds, RelG K pn A e σ G R H ∧ RepL K G vs ds ∧ OcG K W ixs pn σ R Q G (asgL fs ds e)
theorem sgs {ixs : List Nat} : ∀ (es : List Expr) (fs : List (Val → M Unit)), es.all notStar = true → Paired (fun a f => PG X a (tGv X.K W ixs f)) es fs → PGs X es (tGsv X.K W ixs fs)
  | _, _, _, .nil => PGs_mono pgs_nil fun vs σ H Q q => by
    obtain ⟨pn, A, e, G, R, ds, g, r, oc⟩ := q
    cases r with
    | nil => exact ⟨rfl, (show FinG X.K ixs pn e σ G R Q from oc) σ A G H (Ex.refl G) Same.refl g⟩
    | cons => exact oc.elim
  | a :: es, f :: fs, hn, .cons h hr => by
    rw [List.all_cons, Bool.and_eq_true] at hn
    refine PGs_mono (pgs_cons h (sgs es fs hn.2 hr) ?_) fun vs σ H Q q => ?_
    · cases a <;> first | rfl | cases hn.1
    · obtain ⟨pn, A, e, G, R, ds, g, r, oc⟩ := q
      cases r with
      | nil => exact oc.elim
      | @cons v vs d ds r rr =>
        refine ⟨v, vs, rfl, pn, A, e, G, R, .sh d, g, r, ?_⟩
        have oc' : OcG X.K W ixs pn σ R Q G (bnd (f (.sh d)) (fun _ => asgL fs ds) e) := oc
        unfold bnd at oc'
        unfold OcG
        cases hf : f (.sh d) e with
        | err => rw [hf] at oc'; exact oc'.elim
        | ex x e1 => rw [hf] at oc'; exact oc'
        | ok p =>
          rw [hf] at oc'
          intro σ1 A1 G1 H1 x1 s1 g1
          refine ⟨pn, A1, p.2, G1, R, ds, g1, rr.mono x1, ?_⟩
          have oc2 : OcG X.K W ixs pn σ R Q G (asgL fs ds p.2) := oc'
          unfold OcG at *
          cases hk : asgL fs ds p.2 with
          | err => rw [hk] at oc2; exact oc2.elim
          | ex x e1 => rw [hk] at oc2; exact fun σ' A' G' H' d y l g r => (oc2 : FinXS X.K W pn e1 σ.length G R x) σ' A' G' H' d (x1.trans y) (l.trans s1.1) g r
          | ok p2 => rw [hk] at oc2; exact fun σ2 A2 G2 H2 x2 s2 g2 => (oc2 : FinG X.K ixs pn p2.2 σ G R Q) σ2 A2 G2 H2 (x1.trans x2) (s1.trans s2) g2
theorem asgL_err : ∀ {fs : List (Val → M Unit)} {ds : List D} {e : En}, ds.length ≠ fs.length → ∀ r, asgL fs ds e ≠ .ok r
  | [], [], _, h, _ => absurd rfl h
  | f :: fs, d :: ds, e, h, r => fun z => by
    have z' : bnd (f (.sh d)) (fun _ => asgL fs ds) e = .ok r := z
    unfold bnd at z'
    cases hf : f (.sh d) e with
    | err => rw [hf] at z'; cases z'
    | ex x e1 => rw [hf] at z'; cases z'
    | ok p => rw [hf] at z'; exact asgL_err (fun w => h (by rw [List.length_cons, List.length_cons, w])) r z'
  | [], _ :: _, _, _, _ => fun z => nomatch z
  | _ :: _, [], _, _, _ => fun z => nomatch z
theorem each_len : ∀ {es : List Expr} {env : Env}, es.all notStar = true → (assignEach es env).length = es.length ∧ (assignEach es env).findIdx? (·.1) = none
  | [], _, _ => ⟨rfl, rfl⟩
  | a :: es, env, h => by
    rw [List.all_cons, Bool.and_eq_true] at h
    obtain ⟨h1, h2⟩ := each_len (env := env) h.2
    have e : assignEach (a :: es) env = (false, assign a env) :: assignEach es env := by cases a <;> first | rfl | cases h.1
    rw [e]
    exact ⟨by rw [List.length_cons, h1, List.length_cons], by rw [List.findIdx?_cons, h2]; rfl⟩
theorem paired_len {α β : Type} {p : α → β → Prop} : ∀ {l : List α} {m : List β}, Paired p l m → l.length = m.length
  | _, _, .nil => rfl
  | _, _, .cons _ r => congrArg Nat.succ (paired_len r)
/-- the tuple's length is looked at first -/
def asgTn (fs : List (Val → M Unit)) (val : Val) : M Unit := bnd (shr val) fun d => match d with
  | .tup ds => if ds.length = fs.length then asgL fs ds else fail
  | _ => fail
theorem sg_tup {ixs : List Nat} {k : Nat} {es : List Expr} {fs : List (Val → M Unit)} (hc : X.calm = true) (hn : es.all notStar = true) (h : Paired (fun a f => PG X a (tGv X.K W ixs f)) es fs) : PG X (.Tuple es k pos) (tGv X.K W ixs (asgTn fs)) :=
  PG_mono (pg_tup (n := es.length) hc (sgs es fs hn h) (each_len hn).1 (each_len hn).2) fun v σ H Q q => by
    obtain ⟨pn, A, e, G, R, val, g, r, oc⟩ := q
    have oc' := oc
    unfold asgTn bnd at oc'
    cases hs : shr val e with
    | err => rw [hs] at oc'; exact oc'.elim
    | ex x e1 => exact absurd hs shr_no
    | ok p =>
      rw [hs] at oc'
      obtain ⟨d, e1⟩ := p
      obtain ⟨A2, G2, x2, g2, r2⟩ := g.shr r hs
      cases d with
      | tup ds =>
        have oc2 : OcG X.K W ixs pn σ R Q G ((if ds.length = fs.length then asgL fs ds else fail) e1) := oc'
        by_cases hl : ds.length = fs.length
        · rw [if_pos hl] at oc2
          cases r2 with
          | tup hp ra => exact ⟨_, _, rfl, SqT.of (g2.gh _ _ hp), by rw [ra.length, hl, paired_len h], pn, A2, e1, G2, R, ds, g2, ra, oc2.ext x2⟩
        · rw [if_neg hl] at oc2; exact False.elim oc2
      | _ => exact False.elim oc'
end
/-! ### stores into containers -/
def setD : D → D → D → Option D
  | .lst l, .int k, d => (ixN l.length k).map fun n => .lst (l.set n d)
  | .dct l, k, d => if l.length < lenLim ∧ keyFits l k = true then some (.dct (kvSet l k d)) else none
  | _, _, _ => none
def rSet0T : TSet := fun o i v H Q => ∃ (a : Addr) (k : List Key) (b : Addr), o = .ref a ∧ H a = some (.dK []) ∧ i = .ref b ∧ H b = some (.tup (k.map kV)) ∧ Q (upd H a (.dT [(k, v)]))
def rSet0K : TSet := fun o i v H Q => ∃ a k, o = .ref a ∧ H a = some (.dT []) ∧ i = kV k ∧ Q (upd H a (.dK [(k, v)]))
theorem set_0T {X : Cx} (hu : X.A.units + 1 < cLine) : PSet X rSet0T := fun pins s σ H o i v ov iv u Q I ro ri rv ⟨a, k, b, eo, ha, ei, hb, q⟩ => by
  have ne : b ≠ a := fun z => by rw [z, ha] at hb; cases hb
  refine set_dict hu pins s σ (upd H a (.dT [])) o i v ov iv u Q (inv_toT I ha) ro ri rv ⟨a, _, eo, ?_, q⟩
  subst ei
  have := DPut.t (k := k) (v := v) (a := a) (b := b) (H := upd H a (.dT [])) (kvs := []) upd_same (by rw [upd_ne ne]; exact hb) (by rw [sizeLine_eq]; decide)
  rw [upd_upd] at this
  exact this
theorem set_0K {X : Cx} (hu : X.A.units + 1 < cLine) : PSet X rSet0K := fun pins s σ H o i v ov iv u Q I ro ri rv ⟨a, k, eo, ha, ei, q⟩ => by
  refine set_dict hu pins s σ (upd H a (.dK [])) o i v ov iv u Q (inv_toK I ha) ro ri rv ⟨a, _, eo, ?_, q⟩
  subst ei
  have := DPut.k (k := k) (v := v) (a := a) (H := upd H a (.dK [])) (kvs := []) upd_same (by rw [sizeLine_eq]; decide)
  rw [upd_upd] at this
  exact this
def rSetA : TSet := fun o i v H Q => rSetL o i v H Q ∨ rSetD o i v H Q ∨ rSet0T o i v H Q ∨ rSet0K o i v H Q
theorem set_any {X : Cx} (hu : X.A.units + 1 < cLine) : PSet X rSetA := fun pins s σ H o i v ov iv u Q I ro ri rv h => by
  rcases h with h | h | h | h
  · exact set_list pins s σ H o i v ov iv u Q I ro ri rv h
  · exact set_dict hu pins s σ H o i v ov iv u Q I ro ri rv h
  · exact set_0T hu pins s σ H o i v ov iv u Q I ro ri rv h
  · exact set_0K hu pins s σ H o i v ov iv u Q I ro ri rv h
theorem keyFits_ok {l : List (D × D)} {k : D} (h : keyFits l k = true) : (∃ x, k = keyD x ∧ (∀ q r, l = q :: r → ∃ y, q.1 = keyD y)) ∨ ∃ x : List Key, k = .tup (x.map keyD) ∧ (∀ q r, l = q :: r → ∃ y : List Key, q.1 = .tup (y.map keyD)) := by
  unfold keyFits at h
  rw [Bool.or_eq_true, Bool.and_eq_true, Bool.and_eq_true] at h
  rcases h with ⟨h1, h2⟩ | ⟨h1, h2⟩
  · obtain ⟨x, hx⟩ := Option.isSome_iff_exists.mp h1
    refine .inl ⟨x, keyS_ok hx, fun q r z => ?_⟩
    subst z
    obtain ⟨y, hy⟩ := Option.isSome_iff_exists.mp h2
    exact ⟨y, keyS_ok hy⟩
  · obtain ⟨x, hx⟩ := Option.isSome_iff_exists.mp h1
    refine .inr ⟨x, keyT_ok hx, fun q r z => ?_⟩
    subst z
    obtain ⟨y, hy⟩ := Option.isSome_iff_exists.mp h2
    exact ⟨y, keyT_ok hy⟩
theorem keyD_tup {a : Key} {b : List D} : keyD a ≠ .tup b := by cases a <;> intro h <;> cases h
theorem set_own {K : PySem.W.Frag} {G H : Hp} {p : Addr} {c c' k d : D} {key v : V} {Q : Hp → Prop} (gh : Ex G H) (h : OwnR K G H p c) (rk : Rep K G key k) (rd : Rep K G v d) (hs : setD c k d = some c') (hp : G p = none) (q : ∀ o, OwnR K G (upd H p o) p c' → Q (upd H p o)) : rSetA (.ref p) key v H Q := by
  cases c with
  | lst ds =>
    obtain ⟨xs, hx, rx⟩ := h
    cases k with
    | int k =>
      cases rk
      obtain ⟨n, hn, rfl⟩ := Option.map_eq_some_iff.mp hs
      exact .inl ⟨p, xs, k, n, rfl, rfl, hx, by rw [rx.length]; exact hn, q _ ⟨_, upd_same, rx.set rd n⟩⟩
    | _ => cases hs
  | dct es =>
    have hs' : (if es.length < lenLim ∧ keyFits es k = true then some (D.dct (kvSet es k d)) else none) = some c' := hs
    split at hs'
    · rename_i hc
      cases hs'
      rcases keyFits_ok hc.2 with ⟨x, rfl, hl⟩ | ⟨x, rfl, hl⟩
      · obtain rfl := rep_keyS rk
        rcases h with ⟨kvs, hx, r⟩ | ⟨kvs, hx, r⟩
        · exact .inr (.inl ⟨p, _, rfl, DPut.k hx (by rw [r.length, ← lim_eq]; exact hc.1), q _ (.inl ⟨_, upd_same, r.put rd⟩)⟩)
        · cases r with
          | nil => exact .inr (.inr (.inr ⟨p, x, rfl, hx, rfl, q _ (.inl ⟨_, upd_same, .cons rd .nil⟩)⟩))
          | cons a b => obtain ⟨y, hy⟩ := hl _ _ rfl; exact absurd hy.symm keyD_tup
      · obtain ⟨a, rfl, ha⟩ := rep_keyT rk
        rcases h with ⟨kvs, hx, r⟩ | ⟨kvs, hx, r⟩
        · cases r with
          | nil => exact .inr (.inr (.inl ⟨p, x, a, rfl, hx, rfl, gh _ _ ha, q _ (.inr ⟨_, upd_same, .cons rd .nil⟩)⟩))
          | cons a b => obtain ⟨y, hy⟩ := hl _ _ rfl; exact absurd hy keyD_tup
        · exact .inr (.inl ⟨p, _, rfl, DPut.t hx (gh _ _ ha) (by rw [r.length, ← lim_eq]; exact hc.1), q _ (.inr ⟨_, upd_same, r.put rd⟩)⟩)
    · cases hs'
  | _ => exact h.elim
/-- the thing owned at slot j is written -/
def updS (j : Nat) (f : D → Option D) : M Unit := fun e => match e[j]? with
  | some (.ow b c) => match f c with
    | some c' => .ok ((), e.set j (.ow b c'))
    | none => .err
  | _ => .err
theorem updS_ok {j : Nat} {f : D → Option D} {e : En} {r : Unit × En} (h : updS j f e = .ok r) : ∃ b c c', e[j]? = some (.ow b c) ∧ f c = some c' ∧ r.2 = e.set j (.ow b c') := by
  unfold updS at h
  split at h
  · split at h
    · cases h; exact ⟨_, _, _, by assumption, by assumption, rfl⟩
    · cases h
  · cases h
theorem updS_no {j : Nat} {f : D → Option D} {e e' : En} {x : Xn} : updS j f e ≠ .ex x e' := by
  intro h
  unfold updS at h
  repeat (split at h)
  all_goals cases h
def owJ : Val → M Nat
  | .ow j => ret j
  | _ => fail
def asgI (fo fi : M Val) (val : Val) : M Unit := bnd (shr val) fun d => bnd fo fun vo => bnd (owJ vo) fun j => bnd fi fun vi => bnd (shr vi) fun k => updS j fun c => setD c k d
section
variable {X : Cx} {W : WX} {pos : Pos}
theorem ocg_shr {K : PySem.W.Frag} {pn : Pn} {A : LA} {e : En} {σ : L2.St} {G R H : Hp} {v : V} {val : Val} {ixs : List Nat} {Q : L2.St → Hp → Prop} {k : D → M Unit} (g : RelG K pn A e σ G R H) (r : RepVal K A G R H e σ v val) (oc : OcG K W ixs pn σ R Q G (bnd (shr val) k e)) :
    ∃ d A' e' G', Ex G G' ∧ RelG K pn A' e' σ G' R H ∧ Rep K G' v d ∧ OcG K W ixs pn σ R Q G' (k d e') := by
  unfold bnd at oc
  cases h : shr val e with
  | ok p =>
    obtain ⟨A', G', x, g', r'⟩ := g.shr r (d := p.1) (e' := p.2) h
    rw [h] at oc
    exact ⟨p.1, A', p.2, G', x, g', r', oc.ext x⟩
  | ex x e' => exact absurd h shr_no
  | err => rw [h] at oc; exact oc.elim
theorem sg_sub {o i : Expr} {fo fi : M Val} (hu : X.A.units + 1 < cLine) (ho : PE X o (tEv X.K W fo)) (hi : PE X i (tEv X.K W fi)) (hs : notSlice i = true) : PG X (.Subscript o i pos) (tGv X.K W [] (asgI fo fi)) :=
  PG_mono (pg_sub ho hi (set_any hu) (by intro v; cases i <;> first | rfl | cases hs)) fun v σ H Q q => by
    obtain ⟨pn, A, e, G, R, val, g, r, oc⟩ := q
    obtain ⟨d, A1, e1, G1, x1, g1, r1, oc1⟩ := ocg_shr g r oc
    refine chainG g1 oc1 fun ov vo A2 e2 G2 H2 x2 g2 r2 oc2 => ?_
    cases vo with
    | ow j =>
      have oc3 : OcG X.K W [] pn σ R Q G2 (bnd fi (fun vi => bnd (shr vi) fun k => updS j fun c => setD c k d) e2) := oc2
      refine chainG g2 oc3 fun iv vi A4 e4 G4 H4 x4 g4 r4 oc4 => ?_
      obtain ⟨k, A5, e5, G5, x5, g5, r5, oc5⟩ := ocg_shr g4 r4 oc4
      cases hk : updS j (fun c => setD c k d) e5 with
      | err => rw [hk] at oc5; exact oc5.elim
      | ex x e' => exact absurd hk updS_no
      | ok p =>
        rw [hk] at oc5
        obtain ⟨b, c, c', q1, q2, q3⟩ := updS_ok hk
        obtain ⟨p', h1, h2, h3, h4, h5⟩ := g5.own_ow q1
        rw [r2.1] at h1
        cases h1
        refine set_own g5.gh h5 r5 (r1.mono (x2.trans (x4.trans x5))) q2 h3 fun o ho => ?_
        have fin : FinG X.K [] pn p.2 σ G5 R Q := oc5
        rw [q3] at fin
        exact fin σ _ G5 _ (Ex.refl _) Same.refl (g5.updO q1 r2.1 ho)
    | _ => exact False.elim oc2
end
end Qv
namespace Qv
open PySem L2
open Evl (Ex)

/-! ### statements -/
inductive Fl where
  | nx | bk | ct | rt (v : Val)
def FinS (K : PySem.W.Frag) (pn : Pn) (e : En) (n : Nat) (G R : Hp) (D : Ends) : Fl → Prop
  | .nx => ∀ σ' A' G' H', Ex G G' → σ'.length = n → RelG K pn A' e σ' G' R H' → D.nx σ' H'
  | .bk => ∀ σ' A' G' H', Ex G G' → σ'.length = n → RelG K pn A' e σ' G' R H' → D.bk σ' H'
  | .ct => ∀ σ' A' G' H', Ex G G' → σ'.length = n → RelG K pn A' e σ' G' R H' → D.ct σ' H'
  | .rt val => ∀ v σ' A' G' H', Ex G G' → σ'.length = n → RelG K pn A' e σ' G' R H' → RepVal K A' G' R H' e σ' v val → D.rt v H'
def OcS (K : PySem.W.Frag) (W : WX) (pn : Pn) (n : Nat) (R : Hp) (D : Ends) (G : Hp) (o : Out (Fl × En)) : Prop :=
  Oc (fun fl e' => FinS K pn e' n G R D fl) (fun x e' => FinXS K W pn e' n G R x) o
def tSv (K : PySem.W.Frag) (W : WX) (f : M Fl) : TS := fun D σ H => ∃ pn A e G R, RelG K pn A e σ G R H ∧ OcS K W pn σ.length R D G (f e)
section
variable {K : PySem.W.Frag} {W : WX} {pn : Pn} {A : LA} {e e' : En} {σ : L2.St} {G G' R R' H H' : Hp} {v : V} {val : Val} {ixs : List Nat} {D : Ends} {n : Nat}
theorem FinS.ext : ∀ {fl : Fl}, FinS K pn e n G R D fl → Ex G G' → FinS K pn e n G' R D fl
  | .nx, h, x => fun σ' A' G2 H' x' l' g => h σ' A' G2 H' (x.trans x') l' g
  | .bk, h, x => fun σ' A' G2 H' x' l' g => h σ' A' G2 H' (x.trans x') l' g
  | .ct, h, x => fun σ' A' G2 H' x' l' g => h σ' A' G2 H' (x.trans x') l' g
  | .rt _, h, x => fun v σ' A' G2 H' x' l' g r => h v σ' A' G2 H' (x.trans x') l' g r
theorem OcS.ext {o : Out (Fl × En)} (h : OcS K W pn n R D G o) (x : Ex G G') : OcS K W pn n R D G' o := by
  cases o with
  | ok p => exact FinS.ext (h : FinS K pn p.2 n G R D p.1) x
  | ex y e => exact FinXS.ext (h : FinXS K W pn e n G R y) x
  | err => exact h
theorem chainS {α β : Type} {rv : Rv β α} {m : M α} {k : α → M Fl} {Q' : β → Hp → Prop} (g : RelG K pn A e σ G R H) (oc : OcS K W pn σ.length R D G (bnd m k e))
    (step : ∀ b a A1 e1 G1 H1, Ex G G1 → RelG K pn A1 e1 σ G1 R H1 → rv A1 G1 R H1 e1 σ b a → OcS K W pn σ.length R D G1 (k a e1) → Q' b H1) : tG K W rv m σ H Q' := by
  refine ⟨pn, A, e, G, R, g, ?_⟩
  unfold bnd at oc
  unfold OcV
  cases h : m e with
  | ok p => rw [h] at oc; exact fun b A' G' H' x g' r => step b _ A' _ G' H' x g' r (oc.ext x)
  | ex x e' => rw [h] at oc; exact fun A' G' H' d y g' r => (oc : FinXS K W pn e' σ.length G R x) σ A' G' H' d y rfl g' r
  | err => rw [h] at oc; exact oc
/-- a target is stored, then on -/
theorem chainT {f : Val → M Unit} {k : Unit → M Fl} {Q' : L2.St → Hp → Prop} (g : RelG K pn A e σ G R H) (r : RepVal K A G R H e σ v val) (oc : OcS K W pn n R D G (bnd (f val) k e)) (hn : σ.length = n)
    (step : ∀ σ1 A1 e1 G1 H1, Ex G G1 → Same ixs σ σ1 → RelG K pn A1 e1 σ1 G1 R H1 → OcS K W pn n R D G1 (k () e1) → Q' σ1 H1) : tGv K W ixs f v σ H Q' := by
  refine ⟨pn, A, e, G, R, val, g, r, ?_⟩
  unfold bnd at oc
  unfold OcG
  cases h : f val e with
  | ok p => rw [h] at oc; exact fun σ' A' G' H' x s g' => step σ' A' _ G' H' x s g' (oc.ext x)
  | ex x e' => rw [h] at oc; rw [← hn] at oc; exact oc
  | err => rw [h] at oc; exact oc
/-- a statement, then on -/
theorem chainF {m : M Fl} {k : Fl → M Fl} {D' : Ends} (g : RelG K pn A e σ G R H) (oc : OcS K W pn n R D G (bnd m k e)) (hn : σ.length = n)
    (step : ∀ fl e1, OcS K W pn n R D G (k fl e1) → FinS K pn e1 n G R D' fl) : tSv K W m D' σ H := by
  refine ⟨pn, A, e, G, R, g, ?_⟩
  rw [hn]
  unfold bnd at oc
  unfold OcS
  cases h : m e with
  | ok p => rw [h] at oc; exact step p.1 p.2 oc
  | ex x e' => rw [h] at oc; exact oc
  | err => rw [h] at oc; exact oc
end
def nxS : M Fl := ret .nx
def bkS : M Fl := ret .bk
def ctS : M Fl := ret .ct
def rtS (f : M Val) : M Fl := bnd f fun v => ret (.rt v)
def rtN : M Fl := ret (.rt (.sh .non))
def drS (f : M Val) : M Fl := bnd f fun _ => ret .nx
def seqS : List (M Fl) → M Fl
  | [] => ret .nx
  | f :: r => bnd f fun fl => match fl with
    | .nx => seqS r
    | .bk => ret .bk
    | .ct => ret .ct
    | .rt v => ret (.rt v)
def ifS (c : M Bool) (a b : M Fl) : M Fl := bnd c fun k => if k = true then a else b
def asS (f : M Val) (g : Val → M Unit) : M Fl := bnd f fun v => bnd (g v) fun _ => ret .nx
section
variable {X : Cx} {W : WX} {pos : Pos} {st : Stmt} {a c : Expr} {f : M Val}
theorem ss_nx {t : TS} (h : PS X st tNext) : PS X st (tSv X.K W nxS) := PS_mono h fun D σ H q => by
  obtain ⟨pn, A, e, G, R, g, oc⟩ := q
  exact (show FinS X.K pn e σ.length G R D .nx from oc) σ A G H (Ex.refl G) rfl g
theorem ss_pass : PS X (.Pass pos) (tSv X.K W nxS) := ss_nx (t := tNext) ps_pass
theorem ss_break : PS X (.Break pos) (tSv X.K W bkS) := PS_mono ps_break fun D σ H q => by
  obtain ⟨pn, A, e, G, R, g, oc⟩ := q
  exact (show FinS X.K pn e σ.length G R D .bk from oc) σ A G H (Ex.refl G) rfl g
theorem ss_cont : PS X (.Continue pos) (tSv X.K W ctS) := PS_mono ps_continue fun D σ H q => by
  obtain ⟨pn, A, e, G, R, g, oc⟩ := q
  exact (show FinS X.K pn e σ.length G R D .ct from oc) σ A G H (Ex.refl G) rfl g
theorem ss_ret (ha : PE X a (tEv X.K W f)) : PS X (.Return (some a) pos) (tSv X.K W (rtS f)) := PS_mono (ps_ret ha) fun D σ H q => by
  obtain ⟨pn, A, e, G, R, g, oc⟩ := q
  refine chainS g oc fun x v A1 e1 G1 H1 x1 g1 r1 oc1 => ?_
  exact (show FinS X.K pn e1 σ.length G1 R D (.rt v) from oc1) x σ A1 G1 H1 (Ex.refl _) rfl g1 r1
theorem ss_retN : PS X (.Return none pos) (tSv X.K W rtN) := PS_mono ps_retN fun D σ H q => by
  obtain ⟨pn, A, e, G, R, g, oc⟩ := q
  exact (show FinS X.K pn e σ.length G R D (.rt (.sh .non)) from oc) .non σ A G H (Ex.refl G) rfl g .non
theorem ss_expr (ha : PE X a (tEv X.K W f)) (hs : swapsWith a none pos.line X.env = pure false) : PS X (.Expr a pos) (tSv X.K W (drS f)) := PS_mono (ps_expr ha hs) fun D σ H q => by
  obtain ⟨pn, A, e, G, R, g, oc⟩ := q
  refine chainS g oc fun x v A1 e1 G1 H1 x1 g1 r1 oc1 => ?_
  exact (show FinS X.K pn e1 σ.length G1 R D .nx from oc1) σ A1 G1 H1 (Ex.refl _) rfl g1
theorem ss_if {p q : List Stmt} {t : M Bool} {fp fq : M Fl} (hc : PT X c (tTv X.K W t)) (ha : PSs X p (tSv X.K W fp)) (hb : PSs X q (tSv X.K W fq)) : PS X (.If c p q pos) (tSv X.K W (ifS t fp fq)) := PS_mono (ps_if hc ha hb) fun D σ H q => by
  obtain ⟨pn, A, e, G, R, g, oc⟩ := q
  refine chainS g oc fun k k' A1 e1 G1 H1 x1 g1 r1 oc1 => ?_
  subst r1
  cases k with
  | true => rw [if_pos rfl] at oc1 ⊢; exact ⟨pn, A1, e1, G1, R, g1, oc1⟩
  | false => rw [if_neg Bool.false_ne_true] at oc1 ⊢; exact ⟨pn, A1, e1, G1, R, g1, oc1⟩
theorem tasg {K : PySem.W.Frag} {ixs : List Nat} {te : TE} {f : M Val} {h : Val → M Unit} (hE : ∀ σ H Q, tEv K W f σ H Q → te σ H Q) (D : Ends) (σ : L2.St) (H : Hp) (q : tSv K W (asS f h) D σ H) : tAsg te (tGv K W ixs h) D σ H := by
  obtain ⟨pn, A, e, G, R, g, oc⟩ := q
  refine hE _ _ _ (chainS g oc fun x v A1 e1 G1 H1 x1 g1 r1 oc1 => ?_)
  refine chainT g1 r1 oc1 rfl fun σ2 A2 e2 G2 H2 x2 s2 g2 oc2 => ?_
  exact (show FinS K pn e2 σ.length G2 R D .nx from oc2) σ2 A2 G2 H2 (Ex.refl _) s2.1 g2
theorem ss_asg {ixs : List Nat} {tg : Expr} {h : Val → M Unit} (he : PE X a (tEv X.K W f)) (hg : PG X tg (tGv X.K W ixs h)) (hs : swapsWithSole [tg] a pos.line X.env = pure false) (hw : swappedStores [tg] a X.env = pure none)
    (hn : notStar tg = true) : PS X (.Assign [tg] a pos) (tSv X.K W (asS f h)) := by
  refine PS_mono (ps_asg he hg hs hw ?_) fun D σ H q => tasg (fun _ _ _ h => h) D σ H q
  cases tg <;> first | rfl | cases hn
theorem sss_nil : PSs X [] (tSv X.K W (seqS [])) := PSs_mono pss_nil fun D σ H q => by
  obtain ⟨pn, A, e, G, R, g, oc⟩ := q
  exact (show FinS X.K pn e σ.length G R D .nx from oc) σ A G H (Ex.refl G) rfl g
theorem sss_cons {rest : List Stmt} {fs : M Fl} {fr : List (M Fl)} (h1 : PS X st (tSv X.K W fs)) (h2 : PSs X rest (tSv X.K W (seqS fr))) : PSs X (st :: rest) (tSv X.K W (seqS (fs :: fr))) := PSs_mono (pss_cons h1 h2) fun D σ H q => by
  obtain ⟨pn, A, e, G, R, g, oc⟩ := q
  refine chainF g oc rfl fun fl e1 oc1 => ?_
  cases fl with
  | nx => exact fun σ1 A1 G1 H1 x1 l1 g1 => ⟨pn, A1, e1, G1, R, g1, by rw [l1]; exact OcS.ext oc1 x1⟩
  | bk => exact oc1
  | ct => exact oc1
  | rt v => exact oc1
theorem sss : ∀ (sts : List Stmt) (fs : List (M Fl)), Paired (fun s f => PS X s (tSv X.K W f)) sts fs → PSs X sts (tSv X.K W (seqS fs))
  | _, _, .nil => sss_nil
  | _, _, .cons h r => sss_cons h (sss _ _ r)
/-! ### for -/
def forL (g : Val → M Unit) (b : M Fl) : List D → M Fl
  | [] => ret .nx
  | d :: r => bnd (g (.sh d)) fun _ => bnd b fun fl => match fl with
    | .nx => forL g b r
    | .ct => forL g b r
    | .bk => ret .nx
    | .rt v => ret (.rt v)
def forS (it : M (List D)) (g : Val → M Unit) (b : M Fl) : M Fl := bnd it fun ds => forL g b ds
theorem ss_for {ixs : List Nat} {tg iter : Expr} {body : List Stmt} {wi : M (List D)} {h : Val → M Unit} {fb : M Fl} (hp : PassesOwn (model X.prog X.w) X.A X.env X.xe) (hc : X.calm = true) (hi : PI X tg iter (tIv X.K W wi)) (hg : PG X tg (tGv X.K W ixs h))
    (hb : PSs X body (tSv X.K W fb)) (hs : ∀ x, foldedSetIterable iter X.env x = pure x) : PS X (.For tg iter body [] pos) (tSv X.K W (forS wi h fb)) := PS_mono (ps_for hp hc hi hg hb hs) fun D σ H q => by
  obtain ⟨pn, A, e, G, R, g, oc⟩ := q
  refine chainS g oc fun J ds A1 e1 G1 H1 x1 g1 ok oc1 => ?_
  refine ⟨fun i m σ' H' => m = ds.length - i ∧ i ≤ ds.length ∧ ∃ A2 e2 G2, Ex G1 G2 ∧ σ'.length = σ.length ∧ RelG X.K pn A2 e2 σ' G2 R H' ∧ OcS X.K W pn σ.length R D G2 (forL h fb (ds.drop i) e2), ⟨_, rfl, Nat.zero_le _, A1, e1, G1, Ex.refl _, rfl, g1, oc1⟩, ?_⟩
  rintro i m σ2 H2 ⟨rfl, hi, A2, e2, G2, x2, l2, g2, oc2⟩
  obtain ⟨ok1, ok2, ok3⟩ := ok pn A2 e2 σ2 G2 R H2 i x2 g2
  by_cases hlt : i < ds.length
  · refine .inr ⟨ok1 hlt, fun σ' H' => ∃ A4 e4 G4, Ex G1 G4 ∧ σ'.length = σ.length ∧ RelG X.K pn A4 e4 σ' G4 R H' ∧ OcS X.K W pn σ.length R D G4 (forL h fb (ds.drop (i + 1)) e4), fun σ' H' z => ⟨_, by omega, rfl, hlt, z⟩, fun x H3 y3 => ?_⟩
    have hd : ds[i]? = some ds[i] := by simp [hlt]
    obtain ⟨G3, x3, g3, r3⟩ := ok3 x H3 _ y3 hd
    rw [List.drop_eq_getElem_cons hlt] at oc2
    refine chainT (val := .sh ds[i]) g3 r3 (oc2.ext x3) l2 fun σ4 A4 e4 G4 H4 x4 s4 g4 oc4 => ?_
    have l4 : σ4.length = σ.length := s4.1.trans l2
    refine chainF g4 oc4 l4 fun fl5 e5 oc5 => ?_
    have y := (x2.trans x3).trans x4
    cases fl5 with
    | nx => exact fun σ6 A6 G6 H6 x6 l6 g6 => ⟨A6, e5, G6, y.trans x6, l6, g6, OcS.ext oc5 x6⟩
    | ct => exact fun σ6 A6 G6 H6 x6 l6 g6 => ⟨A6, e5, G6, y.trans x6, l6, g6, OcS.ext oc5 x6⟩
    | bk => exact fun σ6 A6 G6 H6 x6 l6 g6 => (show FinS X.K pn e5 σ.length G4 R D .nx from oc5) σ6 A6 G6 H6 x6 l6 g6
    | rt v => exact fun v6 σ6 A6 G6 H6 x6 l6 g6 r6 => (show FinS X.K pn e5 σ.length G4 R D (.rt v) from oc5) v6 σ6 A6 G6 H6 x6 l6 g6 r6
  · have e0 : i = ds.length := by omega
    refine .inl ⟨ok2 e0, ?_⟩
    rw [List.drop_eq_nil_of_le (by omega)] at oc2
    exact (show FinS X.K pn e2 σ.length G2 R D .nx from oc2) σ2 A2 G2 H2 (Ex.refl _) l2 g2
/-! ### while -/
def whS (c : M Bool) (b : M Fl) : Nat → M Fl
  | 0 => fail
  | n + 1 => bnd c fun k => if k = true then bnd b fun fl => match fl with
    | .nx => whS c b n
    | .ct => whS c b n
    | .bk => ret .nx
    | .rt v => ret (.rt v)
    else ret .nx
theorem ss_while {body : List Stmt} {t : M Bool} {fb : M Fl} {n : Nat} (hp : PassesOwn (model X.prog X.w) X.A X.env X.xe) (hc : PT X c (tTv X.K W t)) (hb : PSs X body (tSv X.K W fb)) : PS X (.While c body [] pos) (tSv X.K W (whS t fb n)) := PS_mono (ps_while hp hc hb) fun D σ H q => by
  obtain ⟨pn, A, e, G, R, g, oc⟩ := q
  refine ⟨fun m σ' H' => ∃ A2 e2 G2, σ'.length = σ.length ∧ RelG X.K pn A2 e2 σ' G2 R H' ∧ OcS X.K W pn σ.length R D G2 (whS t fb m e2), ⟨n, A, e, G, rfl, g, oc⟩, ?_⟩
  rintro m σ2 H2 ⟨A2, e2, G2, l2, g2, oc2⟩
  cases m with
  | zero => exact False.elim oc2
  | succ m =>
    rw [← l2] at oc2
    refine chainS g2 oc2 fun k k' A3 e3 G3 H3 x3 g3 r3 oc3 => ?_
    subst r3
    cases k with
    | false =>
      rw [if_neg Bool.false_ne_true] at oc3 ⊢
      rw [l2] at oc3
      exact (show FinS X.K pn e3 σ.length G3 R D .nx from oc3) σ2 A3 G3 H3 (Ex.refl _) l2 g3
    | true =>
      rw [if_pos rfl] at oc3 ⊢
      rw [l2] at oc3
      refine ⟨fun σ' H' => ∃ A2 e2 G2, σ'.length = σ.length ∧ RelG X.K pn A2 e2 σ' G2 R H' ∧ OcS X.K W pn σ.length R D G2 (whS t fb m e2), fun σ' H' z => ⟨m, Nat.lt_succ_self _, z⟩, ?_⟩
      refine chainF g3 oc3 l2 fun fl5 e5 oc5 => ?_
      cases fl5 with
      | nx => exact fun σ6 A6 G6 H6 x6 l6 g6 => ⟨A6, e5, G6, l6, g6, OcS.ext oc5 x6⟩
      | ct => exact fun σ6 A6 G6 H6 x6 l6 g6 => ⟨A6, e5, G6, l6, g6, OcS.ext oc5 x6⟩
      | bk => exact fun σ6 A6 G6 H6 x6 l6 g6 => (show FinS X.K pn e5 σ.length G3 R D .nx from oc5) σ6 A6 G6 H6 x6 l6 g6
      | rt v => exact fun v6 σ6 A6 G6 H6 x6 l6 g6 r6 => (show FinS X.K pn e5 σ.length G3 R D (.rt v) from oc5) v6 σ6 A6 G6 H6 x6 l6 g6 r6
end
end Qv
namespace Qv
open PySem L2
open Evl (Ex)

theorem bnd_ok {α β : Type} {m : M α} {f : α → M β} {e : En} {r : β × En} (h : bnd m f e = .ok r) : ∃ a e', m e = .ok (a, e') ∧ f a e' = .ok r := by
  unfold bnd at h
  cases q : m e with
  | err => rw [q] at h; cases h
  | ex x e' => rw [q] at h; cases h
  | ok p => rw [q] at h; exact ⟨p.1, p.2, rfl, h⟩
/-- nothing is raised -/
abbrev W0 : WX := fun _ _ _ _ => False
def Slot.bare : Slot → Bool
  | .em => true
  | .sh _ => true
  | _ => false
/-! ### list comprehensions -/
def wipE : List Nat → M Unit
  | [] => ret ()
  | i :: r => bnd (wipE r) fun _ => fun e => match e[i]? with
    | some s => if s.bare = true then .ok ((), e.set i .em) else .err
    | none => .err
/-- the slots as they were -/
def putE : List Nat → En → En → En
  | [], _, e => e
  | i :: r, e0, e => match e0[i]? with
    | some s => (putE r e0 e).set i s
    | none => putE r e0 e
def lcL (own : List Nat) (g : Val → M Unit) (t : M Bool) (f : M Val) : List D → M (List D)
  | [] => bnd (wipE own) fun _ => ret []
  | d :: r => bnd (wipE own) fun _ => bnd (g (.sh d)) fun _ => bnd t fun k =>
    if k = true then bnd f fun v => bnd (shr v) fun x => bnd (lcL own g t f r) fun xs => ret (x :: xs) else lcL own g t f r
def lcC (own : List Nat) (it : M (List D)) (g : Val → M Unit) (t : M Bool) (f : M Val) : M Val := bnd it fun ds => fun e0 => match lcL own g t f ds e0 with
  | .ok (xs, e1) => if xs.length ≤ lenLim then .ok (.fr (.lst xs), putE own e0 e1) else .err
  | _ => .err
section
variable {K : PySem.W.Frag} {pn : Pn} {A : LA} {e e' : En} {σ : L2.St} {G G' R R' H H' : Hp} {v : V} {val : Val}
theorem bare_io {s : Slot} (h : s.bare = true) : s.io = false := by
  cases s <;> first | rfl | cases h
theorem wipE_ok : ∀ {own : List Nat} {e e' : En} {σ : L2.St} {A : LA}, RelG K pn A e σ G R H → wipE own e = .ok ((), e') → ∃ A', RelG K pn A' e' (wipe σ own) G R H
  | [], e, e', σ, A, g, h => by cases h; exact ⟨A, g⟩
  | i :: r, e, e', σ, A, g, h => by
    obtain ⟨_, e1, h1, k1⟩ := bnd_ok h
    obtain ⟨A1, g1⟩ := wipE_ok g h1
    split at k1
    · rename_i s hs
      split at k1
      · rename_i hb
        cases k1
        exact g1.em (by show ((wipe σ r).set i none).length = _; simp) (fun k hk => by show ((wipe σ r).set i none)[k]? = _; exact set_ne hk) fun t ht => by rw [hs] at ht; cases ht; exact bare_io hb
      · cases k1
    · cases k1
theorem wipE_env : ∀ {own : List Nat} {e e' : En}, wipE own e = .ok ((), e') → e'.length = e.length ∧ (∀ k, k ∉ own → e'[k]? = e[k]?) ∧ ∀ k ∈ own, e'[k]? = some .em
  | [], e, e', h => by cases h; exact ⟨rfl, fun _ _ => rfl, fun k hk => by cases hk⟩
  | i :: r, e, e', h => by
    obtain ⟨_, e1, h1, k1⟩ := bnd_ok h
    obtain ⟨a, b, c⟩ := wipE_env h1
    split at k1
    · rename_i s hs
      split at k1
      · rename_i hb
        cases k1
        have hi : i < e1.length := (List.getElem?_eq_some_iff.mp hs).1
        refine ⟨by simpa using a, fun k hk => ?_, fun k hk => ?_⟩
        · rw [List.mem_cons, not_or] at hk
          rw [set_ne hk.1]; exact b k hk.2
        · by_cases hk2 : k = i
          · subst hk2; exact getElem?_setB hi
          · rw [set_ne hk2]
            rcases List.mem_cons.mp hk with z | z
            · exact absurd z hk2
            · exact c k z
      · cases k1
    · cases k1
theorem putE_len : ∀ {own : List Nat} {e0 e1 : En}, (putE own e0 e1).length = e1.length
  | [], _, _ => rfl
  | i :: r, e0, e1 => by
    unfold putE
    split
    · rw [List.length_set]; exact putE_len
    · exact putE_len
theorem putE_ne : ∀ {own : List Nat} {e0 e1 : En} {k : Nat}, k ∉ own → (putE own e0 e1)[k]? = e1[k]?
  | [], _, _, _, _ => rfl
  | i :: r, e0, e1, k, h => by
    rw [List.mem_cons, not_or] at h
    unfold putE
    split
    · rw [set_ne h.1]; exact putE_ne h.2
    · exact putE_ne h.2
theorem putE_eq : ∀ {own : List Nat} {e0 e1 : En} {k : Nat}, k ∈ own → e0.length = e1.length → (putE own e0 e1)[k]? = e0[k]?
  | [], _, _, _, h, _ => by cases h
  | i :: r, e0, e1, k, h, l => by
    unfold putE
    by_cases hk : k = i
    · subst hk
      split
      · rename_i s hs
        have hi : k < e0.length := (List.getElem?_eq_some_iff.mp hs).1
        rw [getElem?_setB (by rw [putE_len, ← l]; exact hi), hs]
      · rename_i hs
        rw [hs]
        exact List.getElem?_eq_none (by rw [putE_len, ← l]; exact List.getElem?_eq_none_iff.mp hs)
    · have hr : k ∈ r := by
        rcases List.mem_cons.mp h with z | z
        · exact absurd z hk
        · exact z
      split
      · rw [set_ne hk]; exact putE_eq hr l
      · exact putE_eq hr l
theorem wipe_ne {σ : L2.St} : ∀ {own : List Nat} {k : Nat}, k ∉ own → (wipe σ own)[k]? = σ[k]?
  | [], _, _ => rfl
  | i :: r, k, h => by
    rw [List.mem_cons, not_or] at h
    show ((wipe σ r).set i none)[k]? = _
    rw [set_ne h.1]; exact wipe_ne h.2
theorem wipe_in {σ : L2.St} : ∀ {own : List Nat} {k : Nat}, k ∈ own → k < σ.length → (wipe σ own)[k]? = some none
  | i :: r, k, h, l => by
    show ((wipe σ r).set i none)[k]? = _
    by_cases hk : k = i
    · subst hk; exact getElem?_setB (by rw [wipe_length]; exact l)
    · rw [set_ne hk]
      rcases List.mem_cons.mp h with z | z
      · exact absurd z hk
      · exact wipe_in z l
theorem wipe_same {own : List Nat} {σ σ' : L2.St} (h : Same own σ σ') : wipe σ' own = wipe σ own := by
  apply List.ext_getElem?
  intro k
  by_cases hk : k ∈ own
  · by_cases hl : k < σ.length
    · rw [wipe_in hk hl, wipe_in hk (by rw [h.1]; exact hl)]
    · rw [List.getElem?_eq_none (by rw [wipe_length, h.1]; exact Nat.le_of_not_lt hl), List.getElem?_eq_none (by rw [wipe_length]; exact Nat.le_of_not_lt hl)]
  · rw [wipe_ne hk, wipe_ne hk]; exact h.2 k hk
theorem same_wipe {own : List Nat} {σ : L2.St} : Same own σ (wipe σ own) := ⟨wipe_length _ _, fun k hk => wipe_ne hk⟩
theorem wipE_not : ∀ {own : List Nat} {e : En} {r : Unit × En}, wipE own e = .ok r → ∀ k ∈ own, ∀ s, e[k]? = some s → s.bare = true
  | [], _, _, _, k, hk => by cases hk
  | i :: r, e, q, h, k, hk => fun s z => by
    obtain ⟨_, e1, h1, k1⟩ := bnd_ok h
    by_cases hr : k ∈ r
    · exact wipE_not h1 k hr s z
    · have : k = i := by rcases List.mem_cons.mp hk with z | z; exact z; exact absurd z hr
      subst this
      obtain ⟨_, b2, _⟩ := wipE_env h1
      rw [← b2 k hr] at z
      rw [z] at k1
      dsimp only at k1
      split at k1
      · assumption
      · cases k1
/-- behind the block the slots are as they were -/
theorem RelG.unwip {own : List Nat} {A1 : LA} {e0 e1 : En} (g0 : RelG K pn A e0 σ G R' H) (hno : ∀ k ∈ own, ∀ s, e0[k]? = some s → s.bare = true) (x : Ex G G') (g : RelG K pn A1 e1 (wipe σ own) G' R H') (he : ∀ k ∈ own, e1[k]? = some .em) : RelG K pn A1 (putE own e0 e1) σ G' R H' := by
  have hlen : e0.length = e1.length := by rw [g0.len, g.len, wipe_length]
  refine ⟨g.gh, g.rh, g.dj, by rw [putE_len, ← hlen]; exact g0.len, g.own, g.inj, fun j s q => ?_, fun q hq => ?_⟩
  · by_cases hj : j ∈ own
    · rw [putE_eq hj hlen] at q
      have z := g0.sl j s q
      have hb := hno j hj s q
      cases s with
      | em => exact trivial
      | sh d => obtain ⟨v, a, b⟩ := z; exact ⟨v, a, b.mono x⟩
      | ow b d => cases hb
      | nt b d => cases hb
    · rw [putE_ne hj] at q
      have z := g.sl j s q
      rw [wipe_ne hj] at z
      exact z
  · obtain ⟨a, s, b, c⟩ := g.pin q hq
    have hn : q.1 ∉ own := fun z => by rw [he _ z] at b; cases b; cases c
    rw [wipe_ne hn] at a
    rw [putE_ne hn]
    exact ⟨a, s, b, c⟩
end
theorem lcL_env {own : List Nat} {g : Val → M Unit} {t : M Bool} {f : M Val} : ∀ {ds : List D} {e : En} {r : List D × En}, lcL own g t f ds e = .ok r → (∀ k ∈ own, r.2[k]? = some .em) ∧ ∃ e1, wipE own e = .ok ((), e1)
  | [], e, r, h => by
    obtain ⟨_, e1, h1, k1⟩ := bnd_ok h
    cases k1
    exact ⟨(wipE_env h1).2.2, e1, h1⟩
  | d :: ds, e, r, h => by
    obtain ⟨_, e1, h1, k1⟩ := bnd_ok h
    refine ⟨?_, e1, h1⟩
    obtain ⟨_, e2, h2, k2⟩ := bnd_ok k1
    obtain ⟨k, e3, h3, k3⟩ := bnd_ok k2
    cases k with
    | false =>
      rw [if_neg Bool.false_ne_true] at k3
      exact (lcL_env k3).1
    | true =>
      rw [if_pos rfl] at k3
      obtain ⟨v, e4, h4, k4⟩ := bnd_ok k3
      obtain ⟨x, e5, h5, k5⟩ := bnd_ok k4
      obtain ⟨xs, e6, h6, k6⟩ := bnd_ok k5
      cases k6
      exact (lcL_env h6).1
theorem tlc {K : PySem.W.Frag} {W : WX} {own ixs : List Nat} {it : M (List D)} {g : Val → M Unit} {t : M Bool} {f : M Val} (hix : ∀ i ∈ ixs, i ∈ own) (σ : L2.St) (H : Hp) (Q : VK) (q : tEv K W (lcC own it g t f) σ H Q) : tLc (tIv K W it) (tGv K W0 ixs g) (tTv K W0 t) (tEv K W0 f) own σ H Q := by
  obtain ⟨pn, A, e, G, R, g0, oc⟩ := q
  refine chain g0 oc fun J ds A1 e1 G1 H1 x1 g1 ok oc1 => ?_
  intro D hD
  cases k2 : lcL own g t f ds e1 with
  | err => rw [k2] at oc1; exact False.elim oc1
  | ex x e2 => rw [k2] at oc1; exact False.elim oc1
  | ok p =>
    obtain ⟨xs, e2⟩ := p
    rw [k2] at oc1
    have oc2 : OcV K W (rvE K) pn σ R Q G1 (if xs.length ≤ lenLim then Out.ok (Val.fr (.lst xs), putE own e1 e2) else Out.err) := oc1
    by_cases hlen : xs.length ≤ lenLim
    · rw [if_pos hlen] at oc2
      have fin : FinV K (rvE K) pn (putE own e1 e2) σ G1 R (.fr (.lst xs)) Q := oc2
      obtain ⟨hem, ew, hw⟩ := lcL_env k2
      obtain ⟨gD, GD, RD, oD⟩ := g1.laidF (o := .lst []) hD
      have gA : RelG K pn A1 e1 σ G1 (upd R D (.lst [])) (upd H1 D (.lst [])) := gD.addR GD upd_same oD
      refine ⟨fun i m H' => m = ds.length - i ∧ i ≤ ds.length ∧ ∃ A3 e3 σ3 G3 acc as xs', Ex G1 G3 ∧ Same own σ σ3 ∧ RelG K pn A3 e3 σ3 G3 (upd R D (.lst acc)) H' ∧ RepL K G3 acc as ∧ xs = as ++ xs' ∧ lcL own g t f (ds.drop i) e3 = .ok (xs', e2), ⟨_, rfl, Nat.zero_le _, A1, e1, σ, G1, [], [], xs, Ex.refl _, Same.refl, gA, .nil, rfl, k2⟩, ?_⟩
      rintro i m H3 ⟨rfl, hi, A3, e3, σ3, G3, acc, as, xs', x3, s3, g3, ra, hx, k3⟩
      have ws : wipe σ3 own = wipe σ own := wipe_same s3
      by_cases hlt : i < ds.length
      · rw [List.drop_eq_getElem_cons hlt] at k3
        obtain ⟨_, e4, h4, k4⟩ := bnd_ok k3
        obtain ⟨A4, g4⟩ := wipE_ok g3 h4
        rw [ws] at g4
        obtain ⟨ok1, ok2, ok3⟩ := ok pn A4 e4 (wipe σ own) G3 _ H3 i x3 g4
        obtain ⟨_, e5, h5, k5⟩ := bnd_ok k4
        obtain ⟨kb, e6, h6, k6⟩ := bnd_ok k5
        refine .inr ⟨ok1 hlt, fun H' => ∃ A3 e3 σ3 G3 acc as xs', Ex G1 G3 ∧ Same own σ σ3 ∧ RelG K pn A3 e3 σ3 G3 (upd R D (.lst acc)) H' ∧ RepL K G3 acc as ∧ xs = as ++ xs' ∧ lcL own g t f (ds.drop (i + 1)) e3 = .ok (xs', e2), fun H' z => ⟨_, by omega, rfl, hlt, z⟩, fun x H5 y5 => ?_⟩
        have hd : ds[i]? = some ds[i] := by simp [hlt]
        obtain ⟨G5, x5, g5, r5⟩ := ok3 x H5 _ y5 hd
        refine ⟨pn, A4, e4, G5, _, .sh ds[i], g5, r5, ?_⟩
        unfold OcG
        rw [h5]
        intro σ6 A6 G6 H6 x6 s6 g6
        have s6' : Same own (wipe σ own) σ6 := s6.of hix
        have s7 : Same own σ σ6 := same_wipe.trans s6'
        refine ⟨wipe_same s7, pn, A6, e5, G6, _, g6, ?_⟩
        unfold OcV
        rw [h6]
        intro kb' A7 G7 H7 x7 g7 hkb
        subst hkb
        have y := x3.trans (x5.trans (x6.trans x7))
        have y0 := x5.trans (x6.trans x7)
        cases kb' with
        | false =>
          rw [if_neg Bool.false_ne_true] at k6
          show ∃ A3 e3 σ3 G3 acc as xs', _
          exact ⟨A7, e6, σ6, G7, acc, as, xs', y, s7, g7, ra.mono y0, hx, k6⟩
        | true =>
          rw [if_pos rfl] at k6
          show tEv K W0 f σ6 H7 _
          obtain ⟨v, e8, h8, k8⟩ := bnd_ok k6
          obtain ⟨xd, e9, h9, k9⟩ := bnd_ok k8
          obtain ⟨xs2, e10, h10, k10⟩ := bnd_ok k9
          cases k10
          refine ⟨pn, A7, e6, G7, _, g7, ?_⟩
          unfold OcV
          rw [h8]
          intro z A8 G8 H8 x8 g8 r8
          obtain ⟨A9, G9, x9, g9, r9⟩ := g8.shr r8 h9
          have ra9 := ra.mono (y0.trans (x8.trans x9))
          refine ⟨acc, g9.rh _ _ upd_same, ?_, A9, e9, σ6, G9, acc ++ [z], as ++ [xd], xs2, y.trans (x8.trans x9), s7, g9.frameSet, ra9.append (.cons r9 .nil), by rw [hx, List.append_assoc]; rfl, h10⟩
          rw [← lim_eq, ra.length]
          rw [hx, List.length_append, List.length_cons] at hlen
          omega
      · have e0 : i = ds.length := by omega
        rw [List.drop_eq_nil_of_le (by omega)] at k3
        obtain ⟨_, e4, h4, k4⟩ := bnd_ok k3
        cases k4
        obtain ⟨A4, g4⟩ := wipE_ok g3 h4
        rw [ws] at g4
        obtain ⟨ok1, ok2, ok3⟩ := ok pn A4 e2 (wipe σ own) G3 _ H3 i x3 g4
        refine .inl ⟨ok2 e0, ?_⟩
        have hno := wipE_not hw
        have g5 : RelG K pn A4 (putE own e1 e2) σ G3 (upd R D (.lst acc)) H3 := RelG.unwip g1 hno x3 g4 (wipE_env h4).2.2
        have RD' : R D = none := RD
        have ns : ¬ Owd A4 D := fun ⟨j, τ, z⟩ => by
          have := (g5.own j τ D z).2.1
          rw [upd_same] at this; cases this
        have g6 : RelG K pn A4 (putE own e1 e2) σ G3 R H3 := g5.weakR (Ex.new RD')
        rw [List.append_nil] at hx
        subst hx
        exact fin _ A4 G3 H3 x3 g6 ⟨D, rfl, g5.dj D (by rw [upd_same]; simp), RD', ns, ⟨acc, g5.rh _ _ upd_same, ra⟩⟩
    · rw [if_neg hlen] at oc2; exact False.elim oc2
end Qv
namespace Qv
open PySem L2 PySem.Spec PyProof.Rows
open Evl (Ex)

/-! ### calls of the text's own functions -/
def frzL : List Bool → List Val → M (List Val)
  | _, [] => ret []
  | true :: bs, v :: vs => bnd (frzL bs vs) fun r => ret (v :: r)
  | false :: bs, v :: vs => bnd (shr v) fun d => bnd (frzL bs vs) fun r => ret (.sh d :: r)
  | [], v :: vs => bnd (shr v) fun d => bnd (frzL [] vs) fun r => ret (.sh d :: r)
def slotOf (e : En) : Val → Option Slot
  | .sh d => some (.sh d)
  | .ow i => match e[i]? with
    | some (.ow _ d) => some (.ow true d)
    | _ => none
  | .np i [] => match e[i]? with
    | some (.nt _ d) => some (.nt true d)
    | _ => none
  | _ => none
def slotsOf (e : En) : List Val → Option (List Slot)
  | [] => some []
  | v :: vs => match slotOf e v, slotsOf e vs with
    | some s, some ss => some (s :: ss)
    | _, _ => none
def pairs : Nat → List Val → List (Nat × Nat)
  | _, [] => []
  | k, .ow i :: r => (k, i) :: pairs (k + 1) r
  | k, .np i _ :: r => (k, i) :: pairs (k + 1) r
  | k, _ :: r => pairs (k + 1) r
def backE : List (Nat × Nat) → En → En → Option En
  | [], _, e => some e
  | (k, i) :: r, b, e => match e[i]?, b[k]? with
    | some (.ow io _), some (.ow true d) => backE r b (e.set i (.ow io d))
    | some (.nt io _), some (.nt true d) => backE r b (e.set i (.nt io d))
    | _, _ => none
/-- what of a callee's slot its caller sees -/
def Slot.nrm : Slot → Slot
  | .ow true d => .ow true d
  | .nt true d => .nt true d
  | _ => .em
def backL (np : Nat) (e : En) : En := (e.take np).map Slot.nrm
abbrev Ev := List Slot → Out (Val × En)
def goV (ev : Ev) (vals : List Val) : M Val := fun e => match slotsOf e vals with
  | none => .err
  | some ss => if ((pairs 0 vals).map Prod.snd).Nodup then match ev ss with
      | .ok (val, b) => match backE (pairs 0 vals) b e with
        | some e2 => .ok (val, e2)
        | none => .err
      | .ex x b => match backE (pairs 0 vals) b e with
        | some e2 => .ex x e2
        | none => .err
      | .err => .err
    else .err
def callV (bs : List Bool) (ev : Ev) (fs : List (M Val)) : M Val := bnd (argsN fs) fun vals => bnd (frzL bs vals) fun vals1 => goV ev vals1
/-- what is handed back: a thing of one's own is nobody's by then -/
def retV (e : En) : Val → Option Val
  | .sh d => some (.sh d)
  | .fr d => some (.fr d)
  | .fn d => some (.fn d)
  | .ow k => match e[k]? with
    | some (.ow false d) => some (.fr d)
    | _ => none
  | .np k [] => match e[k]? with
    | some (.nt false d) => some (.fn d)
    | _ => none
  | .np _ (_ :: _) => none
def evF (n np : Nat) (body : M Fl) : Ev := fun ss => if ss.length = np then match body (ss ++ List.replicate (n - np) .em) with
    | .ok (.rt v, e) => match retV e v with
      | some v' => .ok (v', backL np e)
      | none => .err
    | .ok (.nx, e) => .ok (.sh .non, backL np e)
    | .ex x e => .ex x (backL np e)
    | _ => .err
  else .err
section
variable {γ δ : Type} {K : PySem.W.Frag} {W : WX} {rv' : Rv δ γ} {pn : Pn} {A A' : LA} {e e' : En} {σ : L2.St} {G G' R R' H H' : Hp} {v : V} {val : Val} {Q' : δ → Hp → Prop}
theorem oc_frzL : ∀ {bs : List Bool} {vals : List Val} {vs : List V} {A : LA} {e : En} {G : Hp} {k : List Val → M γ}, RelG K pn A e σ G R H → PnVs K G σ vs vals → OcV K W rv' pn σ R Q' G (bnd (frzL bs vals) k e) →
    ∃ r A' e' G', Ex G G' ∧ RelG K pn A' e' σ G' R H ∧ PnVs K G' σ vs r ∧ OcV K W rv' pn σ R Q' G' (k r e')
  | bs, _, _, A, e, G, k, g, .nil, oc => by
    have oc' : OcV K W rv' pn σ R Q' G (k [] e) := by cases bs with
      | nil => exact oc
      | cons b _ => cases b <;> exact oc
    exact ⟨[], A, e, G, Ex.refl G, g, .nil, oc'⟩
  | true :: bs, _, _, A, e, G, k, g, .cons p pp, oc => by
    obtain ⟨r, A1, e1, G1, x1, g1, p1, oc1⟩ := oc_frzL g pp (oc_assoc oc)
    exact ⟨_ :: r, A1, e1, G1, x1, g1, .cons (p.mono x1) p1, oc1⟩
  | false :: bs, _, _, A, e, G, k, g, .cons p pp, oc => by
    obtain ⟨d, A1, e1, G1, x1, g1, p1, oc1⟩ := oc_shrP g p (oc_assoc oc)
    obtain ⟨r, A2, e2, G2, x2, g2, p2, oc2⟩ := oc_frzL g1 (PnVs.mono x1 pp) (oc_assoc oc1)
    exact ⟨.sh d :: r, A2, e2, G2, x1.trans x2, g2, .cons (Rep.mono x2 p1) p2, oc2⟩
  | [], _, _, A, e, G, k, g, .cons p pp, oc => by
    obtain ⟨d, A1, e1, G1, x1, g1, p1, oc1⟩ := oc_shrP g p (oc_assoc oc)
    obtain ⟨r, A2, e2, G2, x2, g2, p2, oc2⟩ := oc_frzL g1 (PnVs.mono x1 pp) (oc_assoc oc1)
    exact ⟨.sh d :: r, A2, e2, G2, x1.trans x2, g2, .cons (Rep.mono x2 p1) p2, oc2⟩
/-- the slot that is handed over -/
def isOwn : Val → Option Nat
  | .ow i => some i
  | .np i _ => some i
  | _ => none
theorem pairs_mem : ∀ {vals : List Val} {k0 k i : Nat}, (k, i) ∈ pairs k0 vals ↔ ∃ j w, k = k0 + j ∧ vals[j]? = some w ∧ isOwn w = some i
  | [], k0, k, i => ⟨fun h => (nomatch h), fun ⟨j, w, _, h, _⟩ => by simp at h⟩
  | v :: r, k0, k, i => by
    have ih := fun k0 => @pairs_mem r k0 k i
    have up : (∃ j w, k = k0 + j ∧ (v :: r)[j]? = some w ∧ isOwn w = some i) ↔ (k = k0 ∧ isOwn v = some i) ∨ ∃ j w, k = k0 + 1 + j ∧ r[j]? = some w ∧ isOwn w = some i := by
      constructor
      · rintro ⟨j, w, h1, h2, h3⟩
        cases j with
        | zero => simp at h2; subst h2; exact .inl ⟨h1, h3⟩
        | succ j => exact .inr ⟨j, w, by omega, by simpa using h2, h3⟩
      · rintro (⟨h1, h2⟩ | ⟨j, w, h1, h2, h3⟩)
        · exact ⟨0, v, h1, rfl, h2⟩
        · exact ⟨j + 1, w, by omega, by simpa using h2, h3⟩
    rw [up]
    have own : ∀ i', isOwn v = some i' → pairs k0 (v :: r) = (k0, i') :: pairs (k0 + 1) r → ((k, i) ∈ pairs k0 (v :: r) ↔ (k = k0 ∧ isOwn v = some i) ∨ ∃ j w, k = k0 + 1 + j ∧ r[j]? = some w ∧ isOwn w = some i) := fun i' hv hp => by
      rw [hp, List.mem_cons, ih, hv]
      constructor
      · rintro (h | h)
        · cases h; exact .inl ⟨rfl, rfl⟩
        · exact .inr h
      · rintro (⟨h1, h2⟩ | h)
        · cases h2; subst h1; exact .inl rfl
        · exact .inr h
    have non : isOwn v = none → pairs k0 (v :: r) = pairs (k0 + 1) r → ((k, i) ∈ pairs k0 (v :: r) ↔ (k = k0 ∧ isOwn v = some i) ∨ ∃ j w, k = k0 + 1 + j ∧ r[j]? = some w ∧ isOwn w = some i) := fun hv hp => by
      rw [hp, ih, hv]
      exact ⟨.inr, fun h => h.elim (fun z => by cases z.2) id⟩
    cases v with
    | ow i' => exact own i' rfl rfl
    | np i' p => exact own i' rfl rfl
    | sh d => exact non rfl rfl
    | fr d => exact non rfl rfl
    | fn d => exact non rfl rfl
theorem slotsOf_get : ∀ {vals : List Val} {ss : List Slot}, slotsOf e vals = some ss → ss.length = vals.length ∧ ∀ (j : Nat) (w : Val), vals[j]? = some w → ∃ s, ss[j]? = some s ∧ slotOf e w = some s
  | [], ss, h => by cases h; exact ⟨rfl, fun j w q => by simp at q⟩
  | w :: r, ss, h => by
    unfold slotsOf at h
    split at h
    · rename_i s ss' h1 h2
      cases h
      obtain ⟨a, b⟩ := slotsOf_get h2
      refine ⟨by simpa using a, fun j x q => ?_⟩
      cases j with
      | zero => simp at q; subst q; exact ⟨s, rfl, h1⟩
      | succ j => obtain ⟨t, t1, t2⟩ := b j x (by simpa using q); exact ⟨t, by simpa using t1, t2⟩
    · cases h
theorem slotOf_own {w : Val} {s : Slot} (h : slotOf e w = some s) : (∃ d, w = .sh d ∧ s = .sh d) ∨ (∃ i b d, w = .ow i ∧ e[i]? = some (.ow b d) ∧ s = .ow true d) ∨ ∃ i b d, w = .np i [] ∧ e[i]? = some (.nt b d) ∧ s = .nt true d := by
  cases w with
  | sh d => cases h; exact .inl ⟨d, rfl, rfl⟩
  | fr d => cases h
  | fn d => cases h
  | ow i =>
    unfold slotOf at h
    dsimp only at h
    split at h
    · cases h; exact .inr (.inl ⟨_, _, _, rfl, by assumption, rfl⟩)
    · cases h
  | np i π =>
    cases π with
    | nil =>
      unfold slotOf at h
      dsimp only at h
      split at h
      · cases h; exact .inr (.inr ⟨_, _, _, rfl, by assumption, rfl⟩)
      · cases h
    | cons => cases h
/-- both owning, of one sort -/
def SlK : Slot → Slot → Prop
  | .ow io _, .ow io' _ => io = io'
  | .nt io _, .nt io' _ => io = io'
  | _, _ => False
theorem backE_ok : ∀ {ps : List (Nat × Nat)} {b e e2 : En}, (ps.map Prod.snd).Nodup → backE ps b e = some e2 → e2.length = e.length ∧ (∀ i, i ∉ ps.map Prod.snd → e2[i]? = e[i]?) ∧
    ∀ k i, (k, i) ∈ ps → ∃ (io : Bool) (d d' : D), (e[i]? = some (.ow io d) ∧ b[k]? = some (.ow true d') ∧ e2[i]? = some (.ow io d')) ∨ (e[i]? = some (.nt io d) ∧ b[k]? = some (.nt true d') ∧ e2[i]? = some (.nt io d'))
  | [], b, e, e2, _, h => by cases h; exact ⟨rfl, fun _ _ => rfl, fun k i q => (nomatch q)⟩
  | (k, i) :: r, b, e, e2, nd, h => by
    rw [List.map_cons, List.nodup_cons] at nd
    have go : ∀ (s : Slot), i < e.length → backE r b (e.set i s) = some e2 → (∃ (io : Bool) (d d' : D), (e[i]? = some (.ow io d) ∧ b[k]? = some (.ow true d') ∧ s = .ow io d') ∨ (e[i]? = some (.nt io d) ∧ b[k]? = some (.nt true d') ∧ s = .nt io d')) → e2.length = e.length ∧ (∀ j, j ∉ ((k, i) :: r).map Prod.snd → e2[j]? = e[j]?) ∧
      ∀ k' i', (k', i') ∈ (k, i) :: r → ∃ (io : Bool) (d d' : D), (e[i']? = some (.ow io d) ∧ b[k']? = some (.ow true d') ∧ e2[i']? = some (.ow io d')) ∨ (e[i']? = some (.nt io d) ∧ b[k']? = some (.nt true d') ∧ e2[i']? = some (.nt io d')) := fun s hi hb hs => by
      obtain ⟨l1, l2, l3⟩ := backE_ok nd.2 hb
      refine ⟨by simpa using l1, fun j hj => ?_, fun k' i' q => ?_⟩
      · rw [List.map_cons, List.mem_cons, not_or] at hj
        rw [l2 j hj.2, set_ne hj.1]
      · rcases List.mem_cons.mp q with z | z
        · cases z
          have e2i : e2[i]? = some s := by rw [l2 i nd.1, getElem?_setB hi]
          obtain ⟨io, d, d', h | h⟩ := hs
          · exact ⟨io, d, d', .inl ⟨h.1, h.2.1, by rw [e2i, h.2.2]⟩⟩
          · exact ⟨io, d, d', .inr ⟨h.1, h.2.1, by rw [e2i, h.2.2]⟩⟩
        · obtain ⟨io, d, d', q1⟩ := l3 k' i' z
          have hne : i' ≠ i := fun w => nd.1 (by rw [← w]; exact List.mem_map.mpr ⟨(k', i'), z, rfl⟩)
          rw [set_ne hne] at q1
          exact ⟨io, d, d', q1⟩
    unfold backE at h
    split at h
    · rename_i io d d' h1 h2
      exact go _ (List.getElem?_eq_some_iff.mp h1).1 h ⟨io, d, d', .inl ⟨h1, h2, rfl⟩⟩
    · rename_i io d d' h1 h2
      exact go _ (List.getElem?_eq_some_iff.mp h1).1 h ⟨io, d, d', .inr ⟨h1, h2, rfl⟩⟩
    · cases h
theorem snd_inj {ps : List (Nat × Nat)} (nd : (ps.map Prod.snd).Nodup) {k k' i : Nat} (h : (k, i) ∈ ps) (h' : (k', i) ∈ ps) : k = k' := by
  induction ps with
  | nil => cases h
  | cons q r ih =>
    rw [List.map_cons, List.nodup_cons] at nd
    rcases List.mem_cons.mp h with z | z <;> rcases List.mem_cons.mp h' with z' | z'
    · rw [← z] at z'; cases z'; rfl
    · exact absurd (List.mem_map.mpr ⟨(k', i), z', rfl⟩) (by rw [← z] at nd; exact nd.1)
    · exact absurd (List.mem_map.mpr ⟨(k, i), z, rfl⟩) (by rw [← z'] at nd; exact nd.1)
    · exact ih nd.2 z z'
theorem fst_inj {vals : List Val} {k i i' : Nat} (h : (k, i) ∈ pairs 0 vals) (h' : (k, i') ∈ pairs 0 vals) : i = i' := by
  obtain ⟨j, w, e1, q1, r1⟩ := pairs_mem.mp h
  obtain ⟨j', w', e2, q2, r2⟩ := pairs_mem.mp h'
  have : j = j' := by omega
  subst this
  rw [q1] at q2
  cases q2
  rw [r1] at r2
  cases r2; rfl
/-- owned by the caller and not handed over -/
def Kept (A : LA) (ps : List (Nat × Nat)) (a : Addr) : Prop := ∃ i τ, A i τ = some a ∧ i ∉ ps.map Prod.snd
open Classical in
noncomputable def Rc (A : LA) (ps : List (Nat × Nat)) (R H : Hp) : Hp := fun a => if Kept A ps a then H a else R a
/-- the callee's labels -/
def LAc (A : LA) (ps : List (Nat × Nat)) : LA := fun k => match ps.find? fun q => decide (q.1 = k) with
  | some q => A q.2
  | none => fun _ => none
theorem find_mem {ps : List (Nat × Nat)} {k : Nat} {q : Nat × Nat} (h : (ps.find? fun q => decide (q.1 = k)) = some q) : q ∈ ps ∧ q.1 = k := ⟨List.mem_of_find?_eq_some h, by simpa using List.find?_some h⟩
theorem LAc_mem {vals : List Val} {k i : Nat} (h : (k, i) ∈ pairs 0 vals) : LAc A (pairs 0 vals) k = A i := by
  unfold LAc
  cases q : (pairs 0 vals).find? fun q => decide (q.1 = k) with
  | none => have := List.find?_eq_none.mp q (k, i) h; simp at this
  | some p =>
    obtain ⟨h1, h2⟩ := find_mem q
    obtain ⟨k', i'⟩ := p
    simp only at h2
    subst h2
    show A i' = A i
    rw [fst_inj h1 h]
theorem LAc_some {ps : List (Nat × Nat)} {k : Nat} {τ : List Pt} {a : Addr} (h : LAc A ps k τ = some a) : ∃ i, (k, i) ∈ ps ∧ A i τ = some a := by
  unfold LAc at h
  cases hq : ps.find? fun q => decide (q.1 = k) with
  | none => rw [hq] at h; cases h
  | some q =>
    rw [hq] at h
    obtain ⟨h1, h2⟩ := find_mem hq
    obtain ⟨k', i⟩ := q
    simp only at h2
    subst h2
    exact ⟨i, h1, h⟩
def pnOf (ps : List (Nat × Nat)) (σ : L2.St) : Pn := ps.filterMap fun q => match σ[q.2]? with
  | some (some (V.ref p)) => some (q.1, p)
  | _ => none
theorem pnOf_mem {ps : List (Nat × Nat)} {q : Nat × Addr} (h : q ∈ pnOf ps σ) : ∃ i, (q.1, i) ∈ ps ∧ σ[i]? = some (some (.ref q.2)) := by
  obtain ⟨a, h1, h2⟩ := List.mem_filterMap.mp h
  split at h2
  · cases h2; exact ⟨a.2, h1, by assumption⟩
  · cases h2
theorem mem_pnOf {ps : List (Nat × Nat)} {k i : Nat} {p : Addr} (h : (k, i) ∈ ps) (hs : σ[i]? = some (some (.ref p))) : (k, p) ∈ pnOf ps σ := List.mem_filterMap.mpr ⟨(k, i), h, by simp only [hs]⟩
theorem rc_ex (g : RelG K pn A e σ G R H) (ps : List (Nat × Nat)) : Ex R (Rc A ps R H) := fun a u q => by
  unfold Rc
  split
  · exact g.rh _ _ q
  · exact q
theorem paired_get {α β : Type} {p : α → β → Prop} : ∀ {l : List α} {m : List β} {i : Nat} {y : β}, Paired p l m → m[i]? = some y → ∃ x, l[i]? = some x ∧ p x y
  | _, _, _, _, .nil, h => by simp at h
  | _, _, 0, _, .cons h _, e => by simp at e; subst e; exact ⟨_, rfl, h⟩
  | _, _, i + 1, _, .cons _ r, e => by
    obtain ⟨x, a, b⟩ := paired_get (i := i) r (by simpa using e)
    exact ⟨x, by simpa using a, b⟩
/-- into the callee -/
theorem RelG.into {vals : List Val} {vs : List V} {ss : List Slot} {n : Nat} (g : RelG K pn A e σ G R H) (r : PnVs K G σ vs vals) (hs : slotsOf e vals = some ss) (nd : ((pairs 0 vals).map Prod.snd).Nodup) :
    RelG K (pnOf (pairs 0 vals) σ) (LAc A (pairs 0 vals)) (ss ++ List.replicate n .em) (vs.map some ++ List.replicate n none) G (Rc A (pairs 0 vals) R H) H := by
  obtain ⟨hl, hg⟩ := slotsOf_get hs
  have hvl : vs.length = vals.length := paired_len r
  have inv : ∀ (j : Nat) (s : Slot), (ss ++ List.replicate n .em)[j]? = some s → s = .em ∨ ∃ w v, vals[j]? = some w ∧ slotOf e w = some s ∧ vs[j]? = some v ∧ PnV K G σ v w ∧ (vs.map some ++ List.replicate n none)[j]? = some (some v) := fun j s q => by
    by_cases hj : j < ss.length
    · rw [List.getElem?_append_left hj] at q
      have hj2 : j < vals.length := by rw [← hl]; exact hj
      obtain ⟨s', t1, t2⟩ := hg j vals[j] (by simp [hj2])
      rw [q] at t1
      cases t1
      obtain ⟨v, v1, v2⟩ := paired_get (i := j) r (by simp [hj2] : vals[j]? = some vals[j])
      refine .inr ⟨_, v, by simp [hj2], t2, v1, v2, ?_⟩
      rw [List.getElem?_append_left (by rw [List.length_map, hvl]; exact hj2), List.getElem?_map, v1]
      rfl
    · rw [List.getElem?_append_right (by omega), List.getElem?_replicate] at q
      split at q
      · cases q; exact .inl rfl
      · cases q
  have keepR : ∀ a u, Rc A (pairs 0 vals) R H a = some u → H a = some u := fun a u q => by
    unfold Rc at q
    split at q
    · exact q
    · exact g.rh _ _ q
  refine ⟨g.gh, keepR, fun a ha => ?_, by simp [hl, hvl], fun k τ a h => ?_, fun k τ k' π a h h' => ?_, fun j s q => ?_, fun q hq => ?_⟩
  · unfold Rc at ha
    split at ha
    · rename_i hk
      obtain ⟨i, τ, h1, _⟩ := hk
      exact (g.own i τ a h1).1
    · exact g.dj a ha
  · obtain ⟨i, m, h1⟩ := LAc_some h
    obtain ⟨a1, a2, a3⟩ := g.own i τ a h1
    refine ⟨a1, ?_, a3⟩
    unfold Rc
    rw [if_neg]
    · exact a2
    · rintro ⟨i2, π, z1, z2⟩
      have := (g.inj _ _ _ _ _ z1 h1).1
      subst this
      exact z2 (List.mem_map.mpr ⟨_, m, rfl⟩)
  · obtain ⟨i, m, h1⟩ := LAc_some h
    obtain ⟨i', m', h2⟩ := LAc_some h'
    obtain ⟨z1, z2⟩ := g.inj _ _ _ _ _ h1 h2
    subst z1
    exact ⟨snd_inj nd m m', z2⟩
  · rcases inv j s q with z | ⟨w, v, h1, h2, h3, h4, h5⟩
    · subst z; exact trivial
    · rw [h5]
      rcases slotOf_own h2 with ⟨d, rfl, rfl⟩ | ⟨i, b, d, rfl, hi, rfl⟩ | ⟨i, b, d, rfl, hi, rfl⟩
      · exact ⟨v, rfl, h4⟩
      · have m : (j, i) ∈ pairs 0 vals := pairs_mem.mpr ⟨j, _, by omega, h1, rfl⟩
        rw [LAc_mem m]
        obtain ⟨p, a1, a2, _, _, a3⟩ := g.own_ow hi
        have h4' : σ[i]? = some (some v) := h4
        rw [a1] at h4'
        cases h4'
        exact ⟨p, rfl, a2, a3⟩
      · have m : (j, i) ∈ pairs 0 vals := pairs_mem.mpr ⟨j, _, by omega, h1, rfl⟩
        rw [LAc_mem m]
        obtain ⟨p, a1, a2, a3⟩ := g.tree (.inr hi)
        have h4' : σ[i]? = some (some v) := h4
        rw [a1] at h4'
        cases h4'
        exact ⟨_, rfl, a3⟩
  · obtain ⟨i, m, hσ⟩ := pnOf_mem hq
    obtain ⟨j, w, e1, hv, hw⟩ := pairs_mem.mp m
    have e1' : q.1 = j := by omega
    rw [e1']
    obtain ⟨s, t1, t2⟩ := hg j _ hv
    have hj : j < vals.length := (List.getElem?_eq_some_iff.mp hv).1
    obtain ⟨v, v1, v2⟩ := paired_get r hv
    have at_ : (vs.map some ++ List.replicate n none)[j]? = some (some v) := by rw [List.getElem?_append_left (by rw [List.length_map, hvl]; exact hj), List.getElem?_map, v1]; rfl
    have at2 : (ss ++ List.replicate n .em)[j]? = some s := by rw [List.getElem?_append_left (by rw [hl]; exact hj)]; exact t1
    rw [at_, at2]
    rcases slotOf_own t2 with ⟨d, rfl, rfl⟩ | ⟨i2, b, d, rfl, hi, rfl⟩ | ⟨i2, b, d, rfl, hi, rfl⟩
    · cases hw
    · cases hw
      have v2' : σ[i]? = some (some v) := v2
      rw [hσ] at v2'
      cases v2'
      exact ⟨rfl, _, rfl, rfl⟩
    · cases hw
      have v2' : σ[i]? = some (some v) := v2
      rw [hσ] at v2'
      cases v2'
      exact ⟨rfl, _, rfl, rfl⟩
open Classical in
/-- the caller's labels behind the call -/
noncomputable def LAb (A Ac : LA) (ps : List (Nat × Nat)) : LA := fun i => match ps.find? fun q => decide (q.2 = i) with
  | some q => Ac q.1
  | none => A i
theorem LAb_mem {Ac : LA} {ps : List (Nat × Nat)} (nd : (ps.map Prod.snd).Nodup) {k i : Nat} (h : (k, i) ∈ ps) : LAb A Ac ps i = Ac k := by
  unfold LAb
  cases q : ps.find? fun q => decide (q.2 = i) with
  | none => have := List.find?_eq_none.mp q (k, i) h; simp at this
  | some p =>
    have h1 := List.mem_of_find?_eq_some q
    have h2 : p.2 = i := by simpa using List.find?_some q
    obtain ⟨k', i'⟩ := p
    simp only at h2
    subst h2
    show Ac k' = Ac k
    rw [snd_inj nd h1 h]
theorem LAb_not {Ac : LA} {ps : List (Nat × Nat)} {i : Nat} (h : i ∉ ps.map Prod.snd) : LAb A Ac ps i = A i := by
  unfold LAb
  cases q : ps.find? fun q => decide (q.2 = i) with
  | none => rfl
  | some p =>
    have h1 := List.mem_of_find?_eq_some q
    have h2 : p.2 = i := by simpa using List.find?_some q
    exact absurd (List.mem_map.mpr ⟨p, h1, h2⟩) h
theorem nrm_ow {s : Slot} {d : D} (h : s.nrm = .ow true d) : s = .ow true d := by
  cases s with
  | em => cases h
  | sh d => cases h
  | ow b d => cases b <;> cases h; rfl
  | nt b d => cases b <;> cases h
theorem nrm_nt {s : Slot} {d : D} (h : s.nrm = .nt true d) : s = .nt true d := by
  cases s with
  | em => cases h
  | sh d => cases h
  | ow b d => cases b <;> cases h
  | nt b d => cases b <;> cases h; rfl
theorem backL_get {np k : Nat} {ec b : En} {s : Slot} (h : backL np ec = b) (hk : b[k]? = some s) : ∃ t, ec[k]? = some t ∧ t.nrm = s := by
  subst h
  unfold backL at hk
  rw [List.getElem?_map] at hk
  obtain ⟨t, h1, h2⟩ := Option.map_eq_some_iff.mp hk
  rw [List.getElem?_take] at h1
  split at h1
  · exact ⟨t, h1, h2⟩
  · cases h1
/-- .. and back -/
theorem RelG.back {vals : List Val} {b ec e2 : En} {σc : L2.St} {pc : Pn} {Ac : LA} {np : Nat} (g : RelG K pn A e σ G R H) (nd : ((pairs 0 vals).map Prod.snd).Nodup) (hpc : pc = pnOf (pairs 0 vals) σ) (x : Ex G G') (gc : RelG K pc Ac ec σc G' (Rc A (pairs 0 vals) R H) H') (hb0 : backL np ec = b) (hb : backE (pairs 0 vals) b e = some e2) :
    RelG K pn (LAb A Ac (pairs 0 vals)) e2 σ G' R H' ∧ ∀ a, Owd (LAb A Ac (pairs 0 vals)) a → (Rc A (pairs 0 vals) R H) a ≠ none ∨ ∃ k i τ, (k, i) ∈ pairs 0 vals ∧ Ac k τ = some a := by
  subst hpc
  obtain ⟨b1, b2, b3⟩ := backE_ok nd hb
  have rk : Ex R (Rc A (pairs 0 vals) R H) := rc_ex g _
  have kept : ∀ i τ a, i ∉ (pairs 0 vals).map Prod.snd → A i τ = some a → (∃ o, H a = some o ∧ Rc A (pairs 0 vals) R H a = some o) ∧ H' a = H a := fun i τ a hi h => by
    have hk : Kept A (pairs 0 vals) a := ⟨i, τ, h, hi⟩
    cases q : H a with
    | none => exact absurd q (g.own i τ a h).2.2
    | some o =>
      have hR : (Rc A (pairs 0 vals) R H) a = some o := by unfold Rc; rw [if_pos hk]; exact q
      exact ⟨⟨o, rfl, hR⟩, gc.rh _ _ hR⟩
  have lab : ∀ i τ a, LAb A Ac (pairs 0 vals) i τ = some a → (∃ k, (k, i) ∈ pairs 0 vals ∧ Ac k τ = some a) ∨ (i ∉ (pairs 0 vals).map Prod.snd ∧ A i τ = some a) := fun i τ a h => by
    by_cases hm : i ∈ (pairs 0 vals).map Prod.snd
    · obtain ⟨⟨k, i'⟩, m, rfl⟩ := List.mem_map.mp hm
      rw [LAb_mem nd m] at h
      exact .inl ⟨k, m, h⟩
    · rw [LAb_not hm] at h; exact .inr ⟨hm, h⟩
  refine ⟨⟨gc.gh, rk.trans gc.rh, fun a ha => gc.dj a fun z => ha (low rk z), by rw [b1]; exact g.len, fun i τ a h => ?_, fun i τ j π a h h' => ?_, fun i s q => ?_, fun q hq => ?_⟩, fun a ha => ?_⟩
  · rcases lab i τ a h with ⟨k, m, h1⟩ | ⟨hm, h1⟩
    · obtain ⟨a1, a2, a3⟩ := gc.own k τ a h1
      exact ⟨a1, low rk a2, a3⟩
    · obtain ⟨⟨o, ho, hR⟩, hH⟩ := kept i τ a hm h1
      exact ⟨gc.dj a (by rw [hR]; simp), (g.own i τ a h1).2.1, by rw [hH, ho]; simp⟩
  · rcases lab i τ a h with ⟨k, m, h1⟩ | ⟨hm, h1⟩ <;> rcases lab j π a h' with ⟨k', m', h2⟩ | ⟨hm', h2⟩
    · obtain ⟨z1, z2⟩ := gc.inj _ _ _ _ _ h1 h2
      subst z1
      exact ⟨fst_inj m m', z2⟩
    · obtain ⟨⟨o, ho, hR⟩, _⟩ := kept j π a hm' h2
      have := (gc.own k τ a h1).2.1
      rw [hR] at this; cases this
    · obtain ⟨⟨o, ho, hR⟩, _⟩ := kept i τ a hm h1
      have := (gc.own k' π a h2).2.1
      rw [hR] at this; cases this
    · exact g.inj _ _ _ _ _ h1 h2
  · by_cases hm : i ∈ (pairs 0 vals).map Prod.snd
    · obtain ⟨⟨k, i'⟩, m, rfl⟩ := List.mem_map.mp hm
      rw [LAb_mem nd m]
      obtain ⟨io, d, d', h | h⟩ := b3 k i' m
      · obtain ⟨h1, h2, h3⟩ := h
        simp only at q
        rw [h3] at q
        cases q
        obtain ⟨p, a1, _⟩ := g.tree (.inl h1)
        obtain ⟨t, t1, t2⟩ := backL_get hb0 h2
        have t3 := nrm_ow t2
        subst t3
        obtain ⟨c1, _⟩ := gc.pin (k, p) (mem_pnOf m a1)
        obtain ⟨p', c3, c4, _, _, c5⟩ := gc.own_ow t1
        simp only at c1
        rw [c1] at c3
        cases c3
        exact ⟨p, a1, c4, c5⟩
      · obtain ⟨h1, h2, h3⟩ := h
        simp only at q
        rw [h3] at q
        cases q
        obtain ⟨p, a1, _⟩ := g.tree (.inr h1)
        obtain ⟨t, t1, t2⟩ := backL_get hb0 h2
        have t3 := nrm_nt t2
        subst t3
        obtain ⟨c1, _⟩ := gc.pin (k, p) (mem_pnOf m a1)
        obtain ⟨p', c3, c4, c5⟩ := gc.tree (.inr t1)
        simp only at c1
        rw [c1] at c3
        cases c3
        exact ⟨_, a1, c5⟩
    · rw [LAb_not hm]
      rw [b2 i hm] at q
      exact ((g.sl i s q).frame fun τ a h => ⟨(kept i τ a hm h).2, h⟩).monoG x
  · obtain ⟨a, s, c, d⟩ := g.pin q hq
    refine ⟨a, ?_⟩
    by_cases hm : q.1 ∈ (pairs 0 vals).map Prod.snd
    · obtain ⟨⟨k, i'⟩, m, hi⟩ := List.mem_map.mp hm
      simp only at hi
      obtain ⟨io, d1, d', h | h⟩ := b3 k i' m
      · rw [← hi] at c ⊢
        rw [h.1] at c
        cases c
        refine ⟨_, h.2.2, ?_⟩
        cases io <;> first | exact d | rfl
      · rw [← hi] at c ⊢
        rw [h.1] at c
        cases c
        refine ⟨_, h.2.2, ?_⟩
        cases io <;> first | exact d | rfl
    · rw [b2 _ hm]; exact ⟨s, c, d⟩
  · obtain ⟨i, τ, h⟩ := ha
    rcases lab i τ a h with ⟨k, m, h1⟩ | ⟨hm, h1⟩
    · exact .inr ⟨k, i, τ, m, h1⟩
    · obtain ⟨⟨o, ho, hR⟩, _⟩ := kept i τ a hm h1
      exact .inl (by rw [hR]; simp)
/-- what the callee hands back, in the caller's hands -/
theorem RepVal.out {A2 Ac : LA} {ec e2 : En} {σc : L2.St} {Rk : Hp} (x : Ex R Rk) (ho : ∀ a, Owd A2 a → Rk a ≠ none ∨ Owd Ac a) (r : RepVal K Ac G' Rk H' ec σc v val) (hv : (∃ d, val = .sh d) ∨ (∃ d, val = .fr d) ∨ ∃ d, val = .fn d) : RepVal K A2 G' R H' e2 σ v val := by
  rcases hv with ⟨d, rfl⟩ | ⟨d, rfl⟩ | ⟨d, rfl⟩
  · exact r
  · obtain ⟨p, h1, h2, h3, h4, h5⟩ := r
    exact ⟨p, h1, h2, low x h3, fun z => (ho p z).elim (fun w => w h3) h4, h5⟩
  · obtain ⟨B, t, ij, nw⟩ := r
    exact ⟨B, t, ij, fun τ a z => by
      obtain ⟨a1, a2, a3, a4⟩ := nw τ a z
      exact ⟨a1, low x a2, a3, fun w => (ho a w).elim (fun w => w a2) a4⟩⟩
end
/-! ### a def's promise, no guard set -/
def FinR (K : PySem.W.Frag) (pn : Pn) (np : Nat) (G R : Hp) (Q : VK) (val : Val) (b : En) : Prop :=
  ∀ v ef σ' A' Ao G' H', Ex G G' → RelG K pn A' ef σ' G' R H' → backL np ef = b → (∀ k τ a, (∃ s, ef[k]? = some s ∧ s.io = true) → A' k τ = some a → Owd Ao a) → RepVal K Ao G' R H' ef σ' v val → ((∃ d, val = .sh d) ∨ (∃ d, val = .fr d) ∨ ∃ d, val = .fn d) → Q v H'
def FinRX (K : PySem.W.Frag) (pn : Pn) (np : Nat) (G R : Hp) (E : XK) (x : Xn) (b : En) : Prop :=
  ∀ ef σ' A' G' H' d, Ex G G' → RelG K pn A' ef σ' G' R H' → backL np ef = b → XnR K G' x d → E (.ref (He.ga K x.cls)) d H'
def OcR (K : PySem.W.Frag) (pn : Pn) (np : Nat) (R : Hp) (Q : VK) (E : XK) (G : Hp) (o : Out (Val × En)) : Prop := Oc (FinR K pn np G R Q) (FinRX K pn np G R E) o
def spG (K : PySem.W.Frag) (np : Nat) (ev : Ev) : List V → Hp → VK → XK → Prop := fun vs H Q E => vs.length = np ∧ ∃ (pn : Pn) (A : LA) (ss : List Slot) (G R : Hp), ss.length = np ∧
  (∀ n, RelG K pn A (ss ++ List.replicate n .em) (vs.map some ++ List.replicate n none) G R H) ∧ OcR K pn np R Q E G (ev ss)
structure FnG (P : Program) (w : World) (K : PySem.W.Frag) (mg : Str → Option Value) (base : Heap) (k : Nat) (f : Addr) (fd : FuncData) (ps : List Str) (ev : Ev) : Prop where
  go : ∀ (A : Around) (out : List Env) (s : Shared) (H : Hp) (args : Args) (us : List Value) (vs : List V) (Q : VK) (E : XK), Room k A → A.guards = some [] → Env0 P w K mg base A out s H →
    BindsTo s fd args (ps.zip us) → Vals vs us → spG K ps.length ev vs H Q E → codeAny (model P w) A (.call (.ref f) args) (CR (CX P w) out P w H s Q E) s
theorem FnG.mono {P : Program} {w : World} {K : PySem.W.Frag} {mg : Str → Option Value} {base : Heap} {j k : Nat} {f : Addr} {fd : FuncData} {ps : List Str} {ev : Ev} (F : FnG P w K mg base j f fd ps ev) (h : j ≤ k) : FnG P w K mg base k f fd ps ev :=
  ⟨fun A out s H args us vs Q E hr => F.go A out s H args us vs Q E (hr.mono h)⟩
end Qv
namespace Qv
open PySem L2 PySem.Spec PyProof.Rows
open Evl (Ex)

section
variable {K : PySem.W.Frag} {pn : Pn} {A : LA} {e e' : En} {σ : L2.St} {G G' R R' H H' : Hp} {v : V} {val val' : Val}
open Classical in
/-- the labels of the caller's own things -/
noncomputable def LAo (A : LA) (e : En) : LA := fun k => if ∃ s, e[k]? = some s ∧ s.io = true then A k else fun _ => none
theorem LAo_some {k : Nat} {τ : List Pt} {a : Addr} (h : LAo A e k τ = some a) : A k τ = some a ∧ ∃ s, e[k]? = some s ∧ s.io = true := by
  unfold LAo at h
  split at h
  · exact ⟨h, by assumption⟩
  · cases h
theorem LAo_in {k : Nat} {τ : List Pt} {a : Addr} (h : ∃ s, e[k]? = some s ∧ s.io = true) (z : A k τ = some a) : Owd (LAo A e) a := ⟨k, τ, by unfold LAo; rw [if_pos h]; exact z⟩
/-- a def's answer: its own thing is nobody's by then -/
theorem retV_ok (g : RelG K pn A e σ G R H) (r : RepVal K A G R H e σ v val) (h : retV e val = some val') : RepVal K (LAo A e) G R H e σ v val' ∧ ((∃ d, val' = .sh d) ∨ (∃ d, val' = .fr d) ∨ ∃ d, val' = .fn d) := by
  have dn : ∀ a, Owd (LAo A e) a → Owd A a := fun a ⟨k, τ, z⟩ => ⟨k, τ, (LAo_some z).1⟩
  cases val with
  | sh d => cases h; exact ⟨r, .inl ⟨d, rfl⟩⟩
  | fr d => cases h; obtain ⟨p, h1, h2, h3, h4, h5⟩ := r; exact ⟨⟨p, h1, h2, h3, fun z => h4 (dn p z), h5⟩, .inr (.inl ⟨d, rfl⟩)⟩
  | fn d => cases h; obtain ⟨B, t, ij, nw⟩ := r; exact ⟨⟨B, t, ij, fun τ a z => ⟨(nw τ a z).1, (nw τ a z).2.1, (nw τ a z).2.2.1, fun w => (nw τ a z).2.2.2 (dn a w)⟩⟩, .inr (.inr ⟨d, rfl⟩)⟩
  | ow k =>
    unfold retV at h
    dsimp only at h
    split at h
    · rename_i d hk
      cases h
      obtain ⟨p, a1, a2, a3, a4, a5⟩ := g.own_ow hk
      have r1 := r.1
      rw [a1] at r1
      cases r1
      refine ⟨⟨p, rfl, a3, a4, fun ⟨j, τ, z⟩ => ?_, a5⟩, .inr (.inl ⟨d, rfl⟩)⟩
      obtain ⟨z1, s, z2, z3⟩ := LAo_some z
      have := (g.inj _ _ _ _ _ z1 a2).1
      subst this
      rw [hk] at z2
      cases z2
      cases z3
    · cases h
  | np k π =>
    cases π with
    | cons => cases h
    | nil =>
      unfold retV at h
      dsimp only at h
      split at h
      · rename_i d hk
        cases h
        obtain ⟨b, d2, c, p, h1, h2, rfl, h3⟩ := r
        obtain ⟨p', a1, a2, a3⟩ := g.tree (.inr hk)
        rw [h3] at a2
        cases a2
        refine ⟨⟨A k, a3, fun τ π a z w => (g.inj _ _ _ _ _ z w).2, fun τ a z => ?_⟩, .inr (.inr ⟨d, rfl⟩)⟩
        obtain ⟨q1, q2, q3⟩ := g.own k τ a z
        refine ⟨q1, q2, q3, fun ⟨j, π, w⟩ => ?_⟩
        obtain ⟨z1, s, z2, z3⟩ := LAo_some w
        have := (g.inj _ _ _ _ _ z1 z).1
        subst this
        rw [hk] at z2
        cases z2
        cases z3
      · cases h
end
/-- the context of a body -/
abbrev cxG (P : Program) (w : World) (K : PySem.W.Frag) (mg : Str → Option Value) (base : Heap) (N : List Str) (qual : Str) (sc : Scope) (f : Addr) (cd : Value) (A : Around) (out : List Env) (s : Shared) (H : Hp) (E : XK) : Cx :=
  cxOf (CX P w) P w K mg base N qual sc f cd A out s H E
abbrev wxG (E : XK) : WX := fun cls d _ H => E cls d H
section
variable {P : Program} {w : World} {K : PySem.W.Frag} {mg : Str → Option Value} {base : Heap} {k : Nat} {f : Addr}
theorem cxG_takes {N : List Str} {qual : Str} {sc : Scope} {cd : Value} {A : Around} {out : List Env} {s : Shared} {H : Hp} {E : XK} : Takes (cxG P w K mg base N qual sc f cd A out s H E) (wxG E) := takes_of rfl rfl rfl rfl
theorem cxG_passes {N : List Str} {qual : Str} {sc : Scope} {cd : Value} {A : Around} {out : List Env} {s : Shared} {H : Hp} {E : XK} : PassesOwn (model P w) (cxG P w K mg base N qual sc f cd A out s H E).A (cxG P w K mg base N qual sc f cd A out s H E).env (cxG P w K mg base N qual sc f cd A out s H E).xe := PassesOwn.leaving
theorem fnG_of {nm qual : Str} {prm : Arguments} {body : List Stmt} {sc : Scope} {dV kV doc pm cdv ct oc : Value} {an od : Option Addr} {osl : Array (Option Value)} {N ps : List Str} {fb : M Fl}
    (lk : K.lookup f = some ⟨oc, od, .func (PySem.W.fnOf nm qual prm body sc dV kV doc pm an cdv ct), osl⟩) (hcd : PySem.W.codeIn K cdv qual = true) (S : FnScope N ps sc)
    (hbody : ∀ (A : Around) (out : List Env) (s : Shared) (H : Hp) (E : XK), Room k (A.deeper (envOfC qual sc s.heap.objs.size f cdv)) → A.guards = some [] → PSs (cxG P w K mg base N qual sc f cdv A out s H E) body (tSv K (wxG E) fb)) :
    FnG P w K mg base (k + 1) f (PySem.W.fnOf nm qual prm body sc dV kV doc pm an cdv ct) ps (evF N.length ps.length fb) := by
  constructor
  intro A out s H args us vs Q E hr hgu e0 hb r hsp
  obtain ⟨hl, pn, LA, ss, G, R, hsl, hrel, oc⟩ := hsp
  have inK : K.In s.heap := e0.mod.kin.keeps fun b o z => (e0.bs b o z).1
  have nolim : s.heap.NoLimit := e0.mod.nolimit.keeps fun b o z => (e0.bs b o z).1
  have kinds : ∀ y ∈ ps.zip us, sc.names.lookup y.1 = some .local ∨ (sc.names.lookup y.1 = some .cell ∧ ((cellsFrom (s.heap.objs.size + 1) sc.names []).lookup y.1).isSome = true) := by
    intro y hy
    obtain ⟨a, b⟩ := y
    have hp := S.par a (List.of_mem_zip hy).1
    cases hp with
    | inl q => exact Or.inl q
    | inr q => exact Or.inr ⟨q, PySem.W.cellsFrom_some _ _ _ (Or.inl q)⟩
  apply codeAny_call_function hr.depth (inK _ _ lk) rfl S.co S.gen rfl (PySem.W.codeRec_of inK hcd) (hb _ _ _ _ ?_)
  apply wpAny_newFunctionEnv_cells S.kind kinds
  intro env he s1 x
  subst he
  refine ⟨nolim.keeps x.toInCall.keep, codeAny_func ?_⟩
  have J := inv_start (CX := CX P w) (E := E) S hr.hd e0 hl r x
  have B := hbody A out s H E (hr.deeper _) hgu
  have q : tSv K (wxG E) fb { nx := fun _ H' => Q .non H', rt := Q } (L2.start N vs) H := by
    have hst : L2.start N vs = vs.map some ++ List.replicate (N.length - ps.length) none := by unfold L2.start; rw [hl]
    rw [hst]
    refine ⟨pn, LA, _, G, R, hrel (N.length - ps.length), ?_⟩
    unfold evF at oc
    rw [if_pos hsl] at oc
    generalize hn : (List.map some vs ++ List.replicate (N.length - ps.length) none).length = n
    cases hf : fb (ss ++ List.replicate (N.length - ps.length) .em) with
    | err => rw [hf] at oc; exact False.elim oc
    | ex y e2 =>
      rw [hf] at oc
      exact fun σ' A' G' H' d x l g r => (show FinRX K pn ps.length G R E y (backL ps.length e2) from oc) e2 σ' A' G' H' d x g rfl r
    | ok p =>
      obtain ⟨fl, e2⟩ := p
      rw [hf] at oc
      cases fl with
      | bk => exact False.elim oc
      | ct => exact False.elim oc
      | nx =>
        have oc' : FinR K pn ps.length G R Q (.sh .non) (backL ps.length e2) := oc
        exact fun σ' A' G' H' x l g => oc' .non e2 σ' A' (LAo A' e2) G' H' x g rfl (fun k τ a h z => LAo_in h z) .non (.inl ⟨_, rfl⟩)
      | rt v =>
        have oc' : OcR K pn ps.length R Q E G (match retV e2 v with | some v' => .ok (v', backL ps.length e2) | none => .err) := oc
        cases hv : retV e2 v with
        | none => rw [hv] at oc'; exact False.elim oc'
        | some v' =>
          rw [hv] at oc'
          have oc2 : FinR K pn ps.length G R Q v' (backL ps.length e2) := oc'
          exact fun u σ' A' G' H' x l g r => oc2 u e2 σ' A' (LAo A' e2) G' H' x g rfl (fun k τ a h z => LAo_in h z) (retV_ok g r hv).1 (retV_ok g r hv).2
  refine wpAny_mono (B.run [] s1 (L2.start N vs) H _ J q) (fun fl s' hs => ?_) fun e s' hs => hs
  cases fl with
  | ret u =>
    obtain ⟨v, σ', H', I2, rv, hq⟩ := hs
    exact ⟨v, H', I2.os, I2.bare, I2.base, I2.hok, rv, hq⟩
  | next =>
    obtain ⟨σ', H', I2, hq⟩ := hs
    exact ⟨V.non, H', I2.os, I2.bare, I2.base, I2.hok, (rfl : Value.none = _), hq⟩
  | brk => exact hs.elim fun _ z => z.elim fun _ z => z.2.elim
  | cont => exact hs.elim fun _ z => z.elim fun _ z => z.2.elim
end
/-! ### the caller's side -/
def tCl (sp : List V → Hp → VK → XK → Prop) (W : WX) (t : TA) : TE := fun σ H Q => t σ H fun vs H1 => sp vs H1 Q fun cls d H2 => W cls d σ H2
section
variable {X : Cx} {W : WX} {k : Nat} {f : Addr} {fd : FuncData} {ps : List Str} {ev : Ev} {x : Str} {p pos : Pos} {a : Expr} {es : List Expr} {t : TA} {fs : List (M Val)} {bs : List Bool}
theorem runG {pins : List (Addr × Obj)} {σ : L2.St} {H : Hp} {s : Shared} {Q : VK} {us : List Value} {vs : List V} (F : FnG X.prog X.w X.K X.mg X.base k f fd ps ev) (hr : Room k X.A) (hgu : X.A.guards = some []) (hb : Binds X.K fd ps []) (tk : Takes X W)
    (I : Inv X pins σ H s) (r : Vals vs us) (h : spG X.K ps.length ev vs H Q fun cls d H2 => W cls d σ H2) : wpAny (model X.prog X.w) X.A (call (.ref f) us) (EP X pins σ Q) X.xe s := by
  have lu : (us ++ []).length = ps.length := by rw [List.append_nil, ← r.length]; exact h.1
  have bt := hb s us I.kIn lu
  rw [List.append_nil] at bt
  refine wpAny_call (codeAny_mono (F.go X.A X.stack s H ⟨us, []⟩ us vs Q _ hr hgu I.env0 bt r h) fun res s' hq => ?_)
  cases res with
  | error e => exact tk _ _ (XE.of_call I (fun _ _ _ h => h) hq)
  | ok fl =>
    cases fl with
    | ret u => exact I.after hq
    | next => exact False.elim hq
    | brk => exact False.elim hq
    | cont => exact False.elim hq
theorem pe_callG (F : FnG X.prog X.w X.K X.mg X.base k f fd ps ev) (hr : Room k X.A) (hgu : X.A.guards = some []) (tk : Takes X W) (hg : Gl X x) (hm : X.mg x = some (.ref f)) (hk : PySem.W.keepIn X.K (.ref f) = true) (hb : Binds X.K fd ps [])
    (ha : PA X (a :: es) t) (hdb : (x == ("__debug__" : Str)) = false) (hs : (a :: es).all notStar = true) : PE X (.Call (.Name x p) (a :: es) [] pos) (tCl (spG X.K ps.length ev) W t) := by
  constructor
  intro pins s σ H Q I h
  rw [List.all_cons, Bool.and_eq_true] at hs
  apply wpAny_Call_Name_kw
  apply ld_glob I hg hm _ hdb
  apply PySem.W.callWith_K (h₀ := X.base) I.ok.mod.kin hk _ (star_cons hs.1) (star_plain hs.2)
  exact thn (ha.run pos pins s σ H _ I h) fun us s1 ⟨vs, H1, I1, r, q⟩ => ⟨I1.kIn, runG F hr hgu hb tk I1 r q⟩
theorem pe_callG0 (F : FnG X.prog X.w X.K X.mg X.base k f fd ps ev) (hr : Room k X.A) (hgu : X.A.guards = some []) (tk : Takes X W) (hg : Gl X x) (hm : X.mg x = some (.ref f)) (hk : PySem.W.keepIn X.K (.ref f) = true) (hb : Binds X.K fd ps [])
    (hdb : (x == ("__debug__" : Str)) = false) : PE X (.Call (.Name x p) [] [] pos) (tCl (spG X.K ps.length ev) W tNil) := by
  constructor
  intro pins s σ H Q I h
  apply wpAny_Call_Name_kw
  apply ld_glob I hg hm _ hdb
  exact PySem.W.callWith_K0 I.kIn hk (runG F hr hgu hb tk (us := []) I .nil h)
/-- what the caller's evaluator says of a call, in the callee's words -/
theorem go_sp {K : PySem.W.Frag} {np : Nat} {pn : Pn} {A : LA} {e : En} {σ : L2.St} {G R H : Hp} {vals : List Val} {vs : List V} {Q : VK} (hl : ∀ ss, ev ss ≠ .err → ss.length = np) (g : RelG K pn A e σ G R H) (r : PnVs K G σ vs vals)
    (oc : OcV K W (rvE K) pn σ R Q G (goV ev vals e)) : spG K np ev vs H Q fun cls d H2 => W cls d σ H2 := by
  unfold goV at oc
  cases hs : slotsOf e vals with
  | none => rw [hs] at oc; exact False.elim oc
  | some ss =>
    rw [hs] at oc
    have oc' : OcV K W (rvE K) pn σ R Q G (if ((pairs 0 vals).map Prod.snd).Nodup then (match ev ss with
      | .ok (val, b) => match backE (pairs 0 vals) b e with
        | some e2 => .ok (val, e2)
        | none => .err
      | .ex x b => match backE (pairs 0 vals) b e with
        | some e2 => .ex x e2
        | none => .err
      | .err => .err) else .err) := oc
    by_cases nd : ((pairs 0 vals).map Prod.snd).Nodup
    · rw [if_pos nd] at oc'
      have ls : ss.length = np := hl ss fun z => by rw [z] at oc'; exact oc'
      have e1 : vs.length = np := by rw [paired_len r, ← (slotsOf_get hs).1, ls]
      refine ⟨e1, pnOf (pairs 0 vals) σ, LAc A (pairs 0 vals), ss, G, Rc A (pairs 0 vals) R H, ls, fun n => g.into r hs nd, ?_⟩
      have own : ∀ {A2 Ac Ao : LA} {ef b e2 : En} {Rk : Hp}, backL np ef = b → backE (pairs 0 vals) b e = some e2 → (∀ a, Owd A2 a → Rk a ≠ none ∨ ∃ k i τ, (k, i) ∈ pairs 0 vals ∧ Ac k τ = some a) → (∀ k τ a, (∃ s, ef[k]? = some s ∧ s.io = true) → Ac k τ = some a → Owd Ao a) → ∀ a, Owd A2 a → Rk a ≠ none ∨ Owd Ao a := fun hb hbe ho hio a ha => by
        rcases ho a ha with z | ⟨k, i, τ, m, z⟩
        · exact .inl z
        · obtain ⟨io, d, d', h | h⟩ := (backE_ok nd hbe).2.2 k i m
          · obtain ⟨t, t1, t2⟩ := backL_get hb h.2.1
            rw [nrm_ow t2] at t1
            exact .inr (hio k τ a ⟨_, t1, rfl⟩ z)
          · obtain ⟨t, t1, t2⟩ := backL_get hb h.2.1
            rw [nrm_nt t2] at t1
            exact .inr (hio k τ a ⟨_, t1, rfl⟩ z)
      cases hv : ev ss with
      | err => rw [hv] at oc'; exact False.elim oc'
      | ex y b =>
        rw [hv] at oc'
        have oc2 : OcV K W (rvE K) pn σ R Q G (match backE (pairs 0 vals) b e with | some e2 => .ex y e2 | none => .err) := oc'
        cases hbe : backE (pairs 0 vals) b e with
        | none => rw [hbe] at oc2; exact False.elim oc2
        | some e2 =>
          rw [hbe] at oc2
          have fin : FinX K W pn e2 σ G R y := oc2
          intro ef σ' A' G' H' d x' g' hb' rx
          obtain ⟨g4, _⟩ := RelG.back g nd rfl x' g' hb' hbe
          exact fin _ G' H' d x' g4 rx
      | ok q =>
        obtain ⟨vr, b⟩ := q
        rw [hv] at oc'
        have oc2 : OcV K W (rvE K) pn σ R Q G (match backE (pairs 0 vals) b e with | some e2 => .ok (vr, e2) | none => .err) := oc'
        cases hbe : backE (pairs 0 vals) b e with
        | none => rw [hbe] at oc2; exact False.elim oc2
        | some e2 =>
          rw [hbe] at oc2
          have fin : FinV K (rvE K) pn e2 σ G R vr Q := oc2
          intro v ef σ' A' Ao G' H' x' g' hb' hio r' hk
          obtain ⟨g4, ho⟩ := RelG.back g nd rfl x' g' hb' hbe
          exact fin v _ G' H' x' g4 (RepVal.out (Ac := Ao) (Rk := Rc A (pairs 0 vals) R H) (rc_ex g _) (own hb' hbe ho hio) r' hk)
    · rw [if_neg nd] at oc'; exact False.elim oc'
theorem tcl {K : PySem.W.Frag} {np : Nat} {σ : L2.St} {H : Hp} {Q : VK} (hl : ∀ ss, ev ss ≠ .err → ss.length = np) (h : tEv K W (callV bs ev fs) σ H Q) : tCl (spG K np ev) W (tNv K W (argsN fs)) σ H Q := by
  obtain ⟨pn, A, e, G, R, g, oc⟩ := h
  refine chain g oc fun vs vals A1 e1 G1 H1 x1 g1 r1 oc1 => ?_
  obtain ⟨r, A2, e2, G2, x2, g2, p2, oc2⟩ := oc_frzL g1 r1 oc1
  exact go_sp hl g2 p2 oc2
theorem se_call (F : FnG X.prog X.w X.K X.mg X.base k f fd ps ev) (hr : Room k X.A) (hgu : X.A.guards = some []) (tk : Takes X W) (hg : Gl X x) (hm : X.mg x = some (.ref f)) (hk : PySem.W.keepIn X.K (.ref f) = true) (hb : Binds X.K fd ps [])
    (hl : ∀ ss, ev ss ≠ .err → ss.length = ps.length) (hdb : (x == ("__debug__" : Str)) = false) (hs : (a :: es).all notStar = true) (h : Paired (fun a f => PE X a (tEv X.K W f)) (a :: es) fs) :
    PE X (.Call (.Name x p) (a :: es) [] pos) (tEv X.K W (callV bs ev fs)) := PE_mono (pe_callG F hr hgu tk hg hm hk hb (sa_argsN _ fs hs h) hdb hs) fun _ _ _ q => tcl hl q
theorem se_call0 (F : FnG X.prog X.w X.K X.mg X.base k f fd ps ev) (hr : Room k X.A) (hgu : X.A.guards = some []) (tk : Takes X W) (hg : Gl X x) (hm : X.mg x = some (.ref f)) (hk : PySem.W.keepIn X.K (.ref f) = true) (hb : Binds X.K fd ps [])
    (hl : ∀ ss, ev ss ≠ .err → ss.length = ps.length) (hdb : (x == ("__debug__" : Str)) = false) : PE X (.Call (.Name x p) [] [] pos) (tEv X.K W (callV bs ev [])) := PE_mono (pe_callG0 F hr hgu tk hg hm hk hb hdb) fun σ H Q q => by
  have z := tcl hl q
  obtain ⟨pn, A, e, G, R, g, oc⟩ := z
  exact (oc_ret (rv := rvN X.K) oc) [] A G H (Ex.refl G) g .nil
end
end Qv
namespace Qv
open PySem L2 PySem.Spec PyProof.Rows
open Evl (Ex)

/-! ### the law's end -/
theorem law_callG {P : Program} {w : World} {K : PySem.W.Frag} {mg mb : Str → Option Value} {k : Nat} {fa a : Addr} {fd : FuncData} {x : Str} {ev : Ev} {t : Shared} {vs : List Value} {ns : List Int}
    (inK : K.In t.heap) (hns : t.heap.Ns mainGlobals mg) (hb : t.heap.Ns builtinsNs mb) (hbb : ∀ x : Str, x ≠ "__name__" → mb x = bootBuiltins x) (hlim : t.heap.NoLimit) (hg : t.gens = #[])
    (ha : t.heap.get? a = some { cls := .type "list", data := .seq vs.toArray }) (hi : IntsAre vs ns) (hl : ns.length ≤ sizeLine) (hr : Room k callerA)
    (F : ∀ base : Heap, K.In base → base.Ns mainGlobals mg → FnG P w K mg base k fa fd [x] ev) (hbind : ∀ (s : Shared) (u : Value), BindsTo s fd ⟨[u], []⟩ [(x, u)])
    (hev : ∃ e', ev [.sh (.scr ns)] = .ok (.sh (.bl true), e')) :
    codeAny (model P w) callerA (.call (.ref fa) ⟨[.ref a], []⟩) (fun r s' => r = .ok (.ret (.bool true)) ∧ OldK t.heap s'.heap ∧ s'.os = t.os ∧ AllBare s'.gens) t := by
  have rv := vals_ints hi
  have lenV := hi.length
  obtain ⟨e', hev⟩ := hev
  have key : ∀ H : Hp, Only H → SqL K H a (ns.map V.int) → HOk P w H t.heap → (∀ b, H b ≠ none → b = a) → (H a ≠ none → K.lookup a = none) →
      codeAny (model P w) callerA (.call (.ref fa) ⟨[.ref a], []⟩) (fun r s' => r = .ok (.ret (.bool true)) ∧ OldK t.heap s'.heap ∧ s'.os = t.os ∧ AllBare s'.gens) t := by
    intro H hO hS hok hA hK
    have at_a : ∀ {b : Addr}, (∃ u, H b = some u) → b = a := fun {b} ⟨u, q⟩ => hA b (by rw [q]; exact fun z => nomatch z)
    have noD : ∀ {b : Addr} {o : Obj} {es : Array DictEntry} {ep : Nat}, t.heap.get? b = some o → o.data = .dict es ep → H b = none := by
      intro b o es ep e d
      match q : H b with
      | none => rfl
      | some u =>
        have e2 := at_a ⟨u, q⟩
        subst e2
        rw [ha] at e; cases e
        exact (nomatch d)
    have nsK : ∀ {b : Addr} {m : Str → Option Value}, t.heap.Ns b m → (hidT t.heap H).Ns b m := by
      intro b m ⟨o, es, ep, e, d, r⟩
      exact ⟨o, es, ep, hidT_get e (noD e d), d, r⟩
    have inH : K.In (hidT t.heap H) := by
      intro b o e
      refine hidT_get (inK b o e) ?_
      match q : H b with
      | none => rfl
      | some u =>
        have e2 := at_a ⟨u, q⟩
        subst e2
        have e3 := hK (by rw [q]; exact fun z => nomatch z)
        rw [e3] at e; cases e
    obtain ⟨mc, lim1, lim2⟩ := hlim
    have mo : Mod K mg (hidT t.heap H) := ⟨inH, nsK hns, ⟨mb, nsK hb, hbb⟩, ⟨mc, nsK lim1, lim2⟩⟩
    have e0 : Env0 P w K mg (hidT t.heap H) callerA [] t H := by
      refine ⟨rfl, mo, fun b o e => of_hidT e, Nat.le_of_eq (hidT_size _ _), trivial, ?_, hok, AllBare.of_eq hg⟩
      intro b hb
      exact absurd (show b ∈ ([] : List Addr) from hb) (List.not_mem_nil)
    have sp : spG K [x].length ev [.ref a] H (fun v _ => v = .bl true) fun _ _ _ => False := by
      refine ⟨rfl, [], fun _ _ => none, [.sh (.scr ns)], H, fun _ => none, rfl, fun n => ⟨Ex.refl H, (fun _ _ z => nomatch z), (fun _ z => absurd rfl z), by simp, (fun _ _ _ z => nomatch z), (fun _ _ _ _ _ z => nomatch z), fun i s q => ?_, (fun q hq => nomatch hq)⟩, ?_⟩
      · cases i with
        | zero => simp at q; subst q; exact ⟨.ref a, rfl, .scr hS⟩
        | succ i =>
          have q' : (List.replicate n Slot.em)[i]? = some s := by simpa using q
          rw [List.getElem?_replicate] at q'
          split at q'
          · cases q'; exact trivial
          · cases q'
      · rw [hev]
        intro v ef σ' A' Ao G' H' x' g' hb' hio r' hk
        have r2 : Rep K G' v (.bl true) := r'
        cases r2
        rfl
    refine codeAny_mono ((F _ inH (nsK hns)).go callerA [] t H ⟨[.ref a], []⟩ [.ref a] [.ref a] _ _ hr rfl e0 (hbind t (.ref a)) (.cons rfl .nil) sp) fun r s' h => ?_
    match r, h with
    | .error e, h => obtain ⟨_, _, _, _, _, _, _, _, _, _, _, _, z⟩ := h; exact z.elim
    | .ok (.ret u), ⟨v, H', os, bare, un, hok', r', q⟩ =>
      have q' : v = .bl true := q
      subst q'
      have ru : u = Value.bool true := r'
      refine ⟨by rw [ru], OldK.of_keep fun b o e => ?_, os, bare⟩
      match q : H b with
      | none => exact un.keep b o e q (fun z => absurd (show b ∈ ([] : List Addr) from z) List.not_mem_nil) (by simp)
      | some u =>
        match hO b with
        | .inl z => rw [q] at z; cases z
        | .inr ⟨ob, xs, z⟩ =>
          have h1 := (hok b _ z).1
          have h2 := (hok' b _ (un.frzs b ob _ z)).1
          rw [e] at h1
          cases h1
          exact h2
  match hk : K.lookup a with
  | some o =>
    have e := inK a o hk
    rw [ha] at e
    cases e
    apply key (fun _ => none) (fun _ => .inl rfl) (.inr ⟨_, vs.toArray, _, hk, rfl, rfl, rfl, by rw [List.size_toArray, lenV]; exact hl, by simpa using rv⟩)
    · intro b u z; exact nomatch z
    · intro b z; exact absurd rfl z
    · intro z; exact absurd rfl z
  | none =>
    let ob : Obj := { cls := .type "list", data := .seq vs.toArray }
    let Ha : Hp := fun b => if b = a then some (.frz ob (.lst (ns.map V.int))) else none
    have H1 : Ha a = some (.frz ob (.lst (ns.map V.int))) := if_pos rfl
    have H2 : ∀ b, b ≠ a → Ha b = none := fun b h => if_neg h
    apply key Ha
    · intro b
      by_cases hb : b = a
      · exact .inr ⟨ob, _, by rw [hb]; exact H1⟩
      · exact .inl (H2 b hb)
    · exact .inl (.inr ⟨ob, H1⟩)
    · intro b u z
      by_cases hb : b = a
      · subst hb
        rw [H1] at z
        cases z
        exact ⟨ha, by rw [List.length_map]; exact hl, vs, _, rv, ha⟩
      · rw [H2 b hb] at z; cases z
    · intro b z
      by_cases hb : b = a
      · exact hb
      · exact absurd (H2 b hb) z
    · intro _; exact hk
theorem walk_ofG {l : PySem.W.OpenLaw} {n k : Nat} {q : Program} {loose : List Str} {XP : (Str → Option Value) → Heap → Prop} {YP : World → Heap → Prop} {d : DefRec} {x : Str} {ev : Ev}
    (hn : l.most = some n) (hn2 : n ≤ sizeLine) (hdf : d.params.defaults = []) (hr : Room k callerA)
    (F : ∀ (w : World) (mg : Str → Option Value) (fa : Addr) (h : Heap), YP w h → h.Ns mainGlobals mg → mg d.name = some (.ref fa) →
      ∃ (K : PySem.W.Frag) (fd : FuncData), K.In h ∧ (∀ (s : Shared) (u : Value), BindsTo s fd ⟨[u], []⟩ [(x, u)]) ∧ ∀ base : Heap, K.In base → base.Ns mainGlobals mg → FnG l.prog w K mg base k fa fd [x] ev)
    (hev : ∀ ns : List Int, ns.length ≤ n → ∃ e', ev [.sh (.scr ns)] = .ok (.sh (.bl true), e')) :
    PySem.W.WalkO q loose XP YP l.row.toRowW d [] (fun f vs => PySem.call f vs) := by
  apply Att.attach_call hn hdf
  intro w s₀ t mg mb fa o pm cd doc a vs ns gr Y ho hd hcd hmg hobj hints hlen hg
  obtain ⟨K, fd, inK, hb, hF⟩ := F w mg fa _ Y gr.T.g hmg
  exact law_callG inK gr.T.g gr.T.b gr.T.builtins gr.T.nolimit hg hobj hints (Nat.le_trans hlen hn2) hr hF hb (hev ns hlen)
end Qv
namespace Qv
open PySem L2 PySem.Spec PyProof.Rows
open Evl (Ex)

def notCall : Expr → Bool
  | .Call .. => false
  | _ => true
theorem star_one {a : Expr} {env : Env} (h : notStar a = true) : starEach [a] env = [(false, eval a env)] := star_cons h
theorem base_of {o : Expr} {m : Str} {env : Env} {w : Sem Value} (h : notCall o = true) : attributeBase o m env w = w := by
  cases o <;> first | rfl | cases h
/-! ### x.append(e) -/
def appD (d : D) : D → Option D
  | .lst l => if l.length < lenLim then some (.lst (l ++ [d])) else none
  | _ => none
def isLs : D → Bool
  | .lst _ => true
  | _ => false
def owL : Val → M Nat
  | .ow j => fun e => match e[j]? with
    | some (.ow _ d) => if isLs d then .ok (j, e) else .err
    | _ => .err
  | _ => fail
def appC (fo fa : M Val) : M Val := bnd fo fun vo => bnd (owL vo) fun j => bnd fa fun va => bnd (shr va) fun d => bnd (updS j (appD d)) fun _ => ret (.sh .non)
section
variable {γ δ : Type} {K : PySem.W.Frag} {W : WX} {rv' : Rv δ γ} {pn : Pn} {A A' : LA} {e e' : En} {σ : L2.St} {G G' R R' H H' : Hp} {v : V} {val : Val} {Q' : δ → Hp → Prop}
theorem oc_owL {k : Nat → M γ} (g : RelG K pn A e σ G R H) (r : RepVal K A G R H e σ v val) (oc : OcV K W rv' pn σ R Q' G (bnd (owL val) k e)) : ∃ j b l p, val = .ow j ∧ e[j]? = some (.ow b (.lst l)) ∧ v = .ref p ∧ σ[j]? = some (some (.ref p)) ∧ OwnR K G H p (.lst l) ∧ OcV K W rv' pn σ R Q' G (k j e) := by
  cases val with
  | ow j =>
    unfold bnd owL at oc
    dsimp only at oc
    cases q : e[j]? with
    | none => rw [q] at oc; exact False.elim oc
    | some s =>
      rw [q] at oc
      cases s with
      | ow b d =>
        cases d with
        | lst l =>
          obtain ⟨p, h1, _, _, _, h5⟩ := g.own_ow q
          have r1 := r.1
          rw [h1] at r1
          cases r1
          exact ⟨j, b, l, p, rfl, q, rfl, h1, h5, oc⟩
        | _ => exact False.elim oc
      | _ => exact False.elim oc
  | _ => exact False.elim oc
/-- the thing at slot j is written -/
theorem oc_updS {j : Nat} {f : D → Option D} {k : Unit → M γ} {p : Addr} (g : RelG K pn A e σ G R H) (hj : σ[j]? = some (some (.ref p))) (oc : OcV K W rv' pn σ R Q' G (bnd (updS j f) k e)) :
    ∃ b c c', e[j]? = some (.ow b c) ∧ f c = some c' ∧ OwnR K G H p c ∧ G p = none ∧ ∀ o, OwnR K G (upd H p o) p c' → RelG K pn (A.set j (A j)) (e.set j (.ow b c')) σ G R (upd H p o) ∧ OcV K W rv' pn σ R Q' G (k () (e.set j (.ow b c'))) := by
  unfold bnd at oc
  cases h : updS j f e with
  | err => rw [h] at oc; exact False.elim oc
  | ex x e' => exact absurd h updS_no
  | ok q =>
    rw [h] at oc
    obtain ⟨b, c, c', q1, q2, q3⟩ := updS_ok h
    obtain ⟨p', h1, h2, h3, h4, h5⟩ := g.own_ow q1
    rw [hj] at h1
    cases h1
    refine ⟨b, c, c', q1, q2, h5, h3, fun o ho => ⟨g.updO q1 hj ho, ?_⟩⟩
    rw [← q3]
    exact oc
end
section
variable {X : Cx} {W : WX} {pos : Pos} {a b : Expr} {fa fb : M Val}
theorem se_app {o : Expr} {apos cpos : Pos} {fo : M Val} (ho : PE X o (tEv X.K W fo)) (ha : PE X a (tEv X.K W fa)) (hn : notStar a = true) (hb : notCall o = true) (hl : (apos.endLine == cpos.line) = true) :
    PE X (.Call (.Attribute o "append" apos) [a] [] cpos) (tEv X.K W (appC fo fa)) :=
  PE_mono (pe_bm PySem.F.plainAttrs_list PySem.F.slot_list_append PySem.F.type_list_append mt_append ho (pa_cons ha pa_nil (star_cons hn)) (base_of hb) (by rw [star_one hn]; rfl) hl (star_cons hn) rfl) fun σ H Q q => by
    obtain ⟨pn, A, e, G, R, g, oc⟩ := q
    refine chain g oc fun x vo A1 e1 G1 H1 x1 g1 r1 oc1 => ?_
    obtain ⟨j, b, l, p, rfl, q1, rfl, hj, ow, oc2⟩ := oc_owL g1 r1 oc1
    obtain ⟨xs0, hx0, _⟩ := ow
    refine ⟨.inl ⟨rfl, xs0, SqL.of hx0⟩, chain g1 oc2 fun y va A2 e2 G2 H2 x2 g2 r2 oc3 => ?_⟩
    obtain ⟨d, A3, e3, G3, x3, g3, r3, oc4⟩ := oc_shr g2 r2 oc3
    obtain ⟨b', c, c', q4, q5, ow', _, fin⟩ := oc_updS g3 hj oc4
    cases c with
    | lst l' =>
      obtain ⟨xs, hx, rx⟩ := ow'
      have q5' : (if l'.length < lenLim then some (D.lst (l' ++ [d])) else none) = some c' := q5
      split at q5'
      · rename_i hlt
        cases q5'
        obtain ⟨g5, oc5⟩ := fin (.lst (xs ++ [y])) ⟨_, upd_same, rx.append (.cons r3 .nil)⟩
        exact ⟨p, xs, y, rfl, rfl, hx, by rw [← lim_eq, rx.length]; exact hlt, (oc_ret (rv := rvE X.K) oc5) .non _ G3 _ (Ex.refl _) g5 .non⟩
      · cases q5'
    | _ => cases q5
end
/-! ### a, b = x, y -/
def sol : Val → M Val
  | .sh d => ret (.sh d)
  | .fr d => ret (.fr d)
  | .fn d => ret (.fn d)
  | .ow i => bnd (shr (.ow i)) fun d => ret (.sh d)
  | .np i π => bnd (shr (.np i π)) fun d => ret (.sh d)
def Val.solo : Val → Bool
  | .sh _ => true
  | .fr _ => true
  | .fn _ => true
  | _ => false
def par2 (i j : Nat) (fa fb : M Val) : M Fl := bnd fa fun va => bnd (sol va) fun wa => bnd fb fun vb => bnd (sol vb) fun wb => bnd (asgN i wa) fun _ => bnd (asgN j wb) fun _ => ret .nx
section
variable {K : PySem.W.Frag} {W : WX} {pn : Pn} {A : LA} {e e' : En} {σ : L2.St} {G G' R R' H H' : Hp} {v : V} {val w : Val} {D : Ends} {n : Nat}
theorem sol_ok (g : RelG K pn A e σ G R H) (r : RepVal K A G R H e σ v val) (h : sol val e = .ok (w, e')) : ∃ A' G', Ex G G' ∧ RelG K pn A' e' σ G' R H ∧ RepVal K A' G' R H e' σ v w ∧ w.solo = true := by
  have via : ∀ val, RepVal K A G R H e σ v val → bnd (shr val) (fun d => ret (.sh d)) e = .ok (w, e') → ∃ A' G', Ex G G' ∧ RelG K pn A' e' σ G' R H ∧ RepVal K A' G' R H e' σ v w ∧ w.solo = true := fun val r h => by
    obtain ⟨d, e1, h1, k1⟩ := bnd_ok h
    cases k1
    obtain ⟨A', G', x, g', r'⟩ := g.shr r h1
    exact ⟨A', G', x, g', r', rfl⟩
  cases val with
  | sh d => cases h; exact ⟨A, G, Ex.refl G, g, r, rfl⟩
  | fr d => cases h; exact ⟨A, G, Ex.refl G, g, r, rfl⟩
  | fn d => cases h; exact ⟨A, G, Ex.refl G, g, r, rfl⟩
  | ow i => exact via _ r h
  | np i π => exact via _ r h
theorem sol_no {x : Xn} : sol val e ≠ .ex x e' := by
  intro h
  have via : ∀ val, bnd (shr val) (fun d => ret (Val.sh d)) e ≠ .ex x e' := fun val h => by
    unfold bnd at h
    cases hs : shr val e with
    | err => rw [hs] at h; cases h
    | ex x e1 => exact shr_no hs
    | ok p => rw [hs] at h; cases h
  cases val with
  | sh d => cases h
  | fr d => cases h
  | fn d => cases h
  | ow i => exact via _ h
  | np i π => exact via _ h
theorem ocs_sol {k : Val → M Fl} (g : RelG K pn A e σ G R' H) (r : RepVal K A G R' H e σ v val) (oc : OcS K W pn n R D G (bnd (sol val) k e)) : ∃ w A' e' G', Ex G G' ∧ RelG K pn A' e' σ G' R' H ∧ RepVal K A' G' R' H e' σ v w ∧ w.solo = true ∧ OcS K W pn n R D G' (k w e') := by
  unfold bnd at oc
  cases h : sol val e with
  | err => rw [h] at oc; exact False.elim oc
  | ex x e' => exact absurd h sol_no
  | ok p =>
    rw [h] at oc
    obtain ⟨A', G', x, g', r', s⟩ := sol_ok g r (w := p.1) (e' := p.2) h
    exact ⟨p.1, A', p.2, G', x, g', r', s, OcS.ext oc x⟩
/-- a fresh thing's addresses -/
def FrA (K : PySem.W.Frag) (A : LA) (G R H : Hp) (v : V) (B : Lb) : Val → Prop
  | .fr d => FrT K A G R H B v d ∧ ∃ p, v = .ref p ∧ B = one p ∧ OwnR K G H p d
  | .fn d => FrT K A G R H B v d
  | _ => B = fun _ => none
theorem FrA.of (g : RelG K pn A e σ G R H) (r : RepVal K A G R H e σ v w) (h : w.solo = true) : ∃ B, FrA K A G R H v B w ∧ ∀ τ a, B τ = some a → G a = none ∧ R a = none ∧ H a ≠ none ∧ ¬ Owd A a := by
  cases w with
  | sh d => exact ⟨fun _ => none, rfl, fun τ a z => nomatch z⟩
  | fr d =>
    obtain ⟨p, rfl, h1, h2, h3, h4⟩ := r
    have nw : ∀ τ a, one p τ = some a → G a = none ∧ R a = none ∧ H a ≠ none ∧ ¬ Owd A a := fun τ a h => by
      obtain ⟨_, rfl⟩ := one_eq h
      obtain ⟨o, ho⟩ := h4.isS
      exact ⟨h1, h2, by rw [ho]; simp, h3⟩
    exact ⟨one p, ⟨⟨h4.tr rfl, fun τ π a h h' => by rw [(one_eq h).1, (one_eq h').1], nw⟩, p, rfl, rfl, h4⟩, nw⟩
  | fn d => obtain ⟨B, fr⟩ := r; exact ⟨B, fr, fr.2.2⟩
  | ow i => cases h
  | np i π => cases h
/-- a fresh thing is stored: only its own objects are owned anew -/
theorem putW {i : Nat} {B : Lb} (g : RelG K pn A e σ G R H) (r : RepVal K A G R H e σ v w) (f : FrA K A G R H v B w) (h : w.solo = true) (hs : asgN i w e = .ok ((), e')) :
    ∃ A', RelG K pn A' e' (σ.set i (some v)) G R H ∧ ∀ a, Owd A' a → Owd A a ∨ ∃ τ, B τ = some a := by
  have key : ∀ (L : Lb) a, Owd (A.set i L) a → Owd A a ∨ ∃ τ, L τ = some a := fun L a ⟨j, τ, z⟩ => by
    by_cases hj : j = i
    · subst hj; rw [LA.set_eq] at z; exact .inr ⟨τ, z⟩
    · rw [LA.set_ne hj] at z; exact .inl ⟨j, τ, z⟩
  cases w with
  | sh d =>
    obtain ⟨h1, h2, h3⟩ := setN_ok hs
    simp only at h3
    subst h3
    have hi2 : i < σ.length := by rw [← g.len]; exact h1
    refine ⟨A.set i fun _ => none, g.slot h1 ⟨v, getElem?_setB hi2, r⟩ (by simp) (fun j hj => Qv.set_ne hj) (fun _ _ => rfl) (fun τ a z => nomatch z) (fun τ π a z => nomatch z) fun q hq z => ?_, fun a ha => ?_⟩
    · obtain ⟨_, s, b, c⟩ := g.pin q hq
      rw [z] at b
      rw [h2 s b] at c; cases c
    · rcases key _ a ha with z | ⟨τ, z⟩
      · exact .inl z
      · cases z
  | fr d =>
    obtain ⟨h1, h2, h3⟩ := setN_ok hs
    simp only at h3
    subst h3
    obtain ⟨_, p, rfl, rfl, _⟩ := f
    exact ⟨_, g.putO h1 h2 r, fun a ha => key _ a ha⟩
  | fn d =>
    obtain ⟨h1, h2, h3⟩ := setN_ok hs
    simp only at h3
    subst h3
    exact ⟨_, g.putN h1 h2 f, fun a ha => key _ a ha⟩
  | ow j => cases h
  | np j π => cases h
/-- still fresh, behind what framed it -/
theorem FrA.still {A2 : LA} {R2 G2 H2 : Hp} {e2 : En} {B : Lb} (f : FrA K A G R H v B w) (r : RepVal K A G R H e σ v w) (nw : ∀ τ a, B τ = some a → G a = none ∧ R a = none ∧ H a ≠ none ∧ ¬ Owd A a) (x : Ex G G2) (g2 : RelG K pn A2 e2 σ G2 R2 H2) (fr : ∀ τ a, B τ = some a → ∃ o, H a = some o ∧ R2 a = some o) (h : w.solo = true) :
    FrA K A2 G2 R H2 v B w ∧ RepVal K A2 G2 R H2 e2 σ v w ∧ ∀ τ a, B τ = some a → G2 a = none ∧ R a = none ∧ H2 a ≠ none ∧ ¬ Owd A2 a := by
  have nw2 : ∀ τ a, B τ = some a → G2 a = none ∧ R a = none ∧ H2 a ≠ none ∧ ¬ Owd A2 a := fun τ a z => by
    obtain ⟨o, h1, h2⟩ := fr τ a z
    refine ⟨g2.dj a (by rw [h2]; simp), (nw τ a z).2.1, by rw [g2.rh _ _ h2]; simp, fun ⟨j, π, w⟩ => ?_⟩
    have := (g2.own j π a w).2.1
    rw [h2] at this; cases this
  have same : ∀ τ a, B τ = some a → H2 a = H a := fun τ a z => by
    obtain ⟨o, h1, h2⟩ := fr τ a z
    rw [h1]; exact g2.rh _ _ h2
  have tr : ∀ {d : Qv.D}, FrT K A G R H B v d → FrT K A2 G2 R H2 B v d := fun ⟨t, ij, _⟩ => ⟨(t.frame fun τ a z => ⟨same τ a z, z⟩).monoG x, ij, nw2⟩
  cases w with
  | sh d => exact ⟨f, Rep.mono x r, nw2⟩
  | fr d =>
    obtain ⟨f1, p, rfl, rfl, f2⟩ := f
    have f3 : OwnR K G2 H2 p d := (f2.at (same [] p rfl)).monoG x
    obtain ⟨a1, a2, a3, a4⟩ := nw2 [] p rfl
    exact ⟨⟨tr f1, p, rfl, rfl, f3⟩, ⟨p, rfl, a1, a2, a4, f3⟩, nw2⟩
  | fn d => exact ⟨tr f, ⟨B, tr f⟩, nw2⟩
  | ow i => cases h
  | np i π => cases h
theorem par2_core {i j : Nat} {fa fb : M Val} (q : tSv K W (par2 i j fa fb) D σ H) :
    tEv K W fa σ H fun v H1 => tEv K W fb σ H1 fun w H3 => ∀ H', (H' = H3 ∨ ∃ p o, H3 p = none ∧ H' = upd H3 p o) → D.nx ((σ.set i (some v)).set j (some w)) H' := by
  obtain ⟨pn, A, e, G, R, g, oc⟩ := q
  refine chainS g oc fun v va A1 e1 G1 H1 x1 g1 r1 oc1 => ?_
  obtain ⟨wa, A2, e2, G2, x2, g2, r2, s2, oc2⟩ := ocs_sol g1 r1 oc1
  obtain ⟨B, f2, nw⟩ := FrA.of g2 r2 s2
  obtain ⟨gR, xR⟩ := g2.addB nw
  -- b is asked while a's thing is framed
  refine ⟨pn, A2, e2, G2, upB R H1 B, gR, ?_⟩
  have oc3 : OcS K W pn σ.length R D G2 (bnd fb (fun vb => bnd (sol vb) fun wb => bnd (asgN i wa) fun _ => bnd (asgN j wb) fun _ => ret .nx) e2) := oc2
  unfold bnd at oc3
  unfold OcV
  cases hf : fb e2 with
  | err => rw [hf] at oc3; exact False.elim oc3
  | ex x e' =>
    rw [hf] at oc3
    exact fun A' G' H' d y g' r => (show FinXS K W pn e' σ.length G2 R x from oc3) σ A' G' H' d y rfl (g'.weakR xR) r
  | ok p =>
    rw [hf] at oc3
    intro w A3 G3 H3 x3 g3 r3 H' hH'
    have oc4 : OcS K W pn σ.length R D G3 (bnd (sol p.1) (fun wb => bnd (asgN i wa) fun _ => bnd (asgN j wb) fun _ => ret .nx) p.2) := OcS.ext oc3 x3
    obtain ⟨wb, A4, e4, G4, x4, g4, r4, s4, oc5⟩ := ocs_sol g3 r3 oc4
    have frm : ∀ τ a, B τ = some a → ∃ o, H1 a = some o ∧ upB R H1 B a = some o := fun τ a z => by
      cases q : H1 a with
      | none => exact absurd q (nw τ a z).2.2.1
      | some o => exact ⟨o, rfl, by rw [upB_in z]; exact q⟩
    obtain ⟨f5, r5, nw5⟩ := FrA.still (e2 := e4) f2 r2 nw (x3.trans x4) g4 frm s2
    have g4' : RelG K pn A4 e4 σ G4 R H3 := g4.weakR xR
    unfold bnd at oc5
    cases ha : asgN i wa e4 with
    | err => rw [ha] at oc5; exact False.elim oc5
    | ex x e' => exact absurd ha asgN_no
    | ok pa =>
      obtain ⟨ua, ea⟩ := pa
      rw [ha] at oc5
      obtain ⟨A5, g5, o5⟩ := putW (e' := ea) g4' r5 f5 s2 ha
      have oc6 : OcS K W pn σ.length R D G4 (bnd (asgN j wb) (fun _ => ret .nx) ea) := oc5
      unfold bnd at oc6
      cases hb : asgN j wb ea with
      | err => rw [hb] at oc6; exact False.elim oc6
      | ex x e' => exact absurd hb asgN_no
      | ok pb =>
        rw [hb] at oc6
        -- b's thing is not a's
        have nB : ∀ a, upB R H1 B a = none → ¬ Owd A4 a → ¬ Owd A5 a := fun a h1 h2 z => by
          rcases o5 a z with z | ⟨τ, z⟩
          · exact h2 z
          · obtain ⟨o, _, q⟩ := frm τ a z
            rw [q] at h1; cases h1
        have r6 : RepVal K A5 G4 R H3 ea (σ.set i (some v)) w wb := by
          cases wb with
          | sh d => exact r4
          | fr d => obtain ⟨p', h1, h2, h3, h4, h5⟩ := r4; exact ⟨p', h1, h2, low xR h3, nB p' h3 h4, h5⟩
          | fn d => obtain ⟨C, t, ij, nwC⟩ := r4; exact ⟨C, t, ij, fun τ a z => ⟨(nwC τ a z).1, low xR (nwC τ a z).2.1, (nwC τ a z).2.2.1, nB a (nwC τ a z).2.1 (nwC τ a z).2.2.2⟩⟩
          | ow k => cases s4
          | np k π => cases s4
        obtain ⟨A6, G6, x6, g6⟩ := asgN_ok (e' := pb.2) g5 r6 hb
        have fin : FinS K pn pb.2 σ.length G4 R D .nx := oc6
        rcases hH' with rfl | ⟨p', o, hp, rfl⟩
        · exact fin _ A6 G6 _ x6 (by simp) g6
        · exact fin _ A6 G6 _ x6 (by simp) (g6.laidF hp).1
end
section
variable {X : Cx} {W : WX} {pos : Pos} {a b : Expr} {fa fb : M Val}
theorem ss_par2 {i j : Nat} {x y : Str} {px py pt : Pos} {kt k2 : Nat} {pt2 : Pos} (hc : X.calm = true) (hN : X.N.Nodup) (hi : X.N[i]? = some x) (hj : X.N[j]? = some y) (hij : i ≠ j)
    (hx : X.env.scope.names.lookup x = some .local) (hy : X.env.scope.names.lookup y = some .local) (ha : PE X a (tEv X.K W fa)) (hb : PE X b (tEv X.K W fb)) (hna : notStar a = true) (hnb : notStar b = true)
    (hw : swappedStores [.Tuple [.Name x px, .Name y py] kt pt] (.Tuple [a, b] k2 pt2) X.env = pure (some [x, y])) : PS X (.Assign [.Tuple [.Name x px, .Name y py] kt pt] (.Tuple [a, b] k2 pt2) pos) (tSv X.K W (par2 i j fa fb)) :=
  PS_mono (ps_par hc hN hi hj hij hx hy (pa_cons ha (pa_cons hb pa_nil (star_cons hnb)) (star_cons hna)) hw) fun D σ H q =>
    tG_mono (par2_core q) fun v H1 z => tG_mono z fun w H3 z2 => ⟨v, w, rfl, z2 H3 (.inl rfl)⟩
/-- .. where the tuple is made and taken apart -/
theorem ss_par2T {i j : Nat} {x y : Str} {px py pt : Pos} {kt k2 : Nat} {pt2 : Pos} (hc : X.calm = true) (hN : X.N.Nodup) (hi : X.N[i]? = some x) (hj : X.N[j]? = some y)
    (hx : L2.Loc X.env.scope x) (hxf : X.fn x = true ∨ X.env.scope.names.lookup x = some .local) (hy : L2.Loc X.env.scope y) (hyf : X.fn y = true ∨ X.env.scope.names.lookup y = some .local) (ha : PE X a (tEv X.K W fa)) (hb : PE X b (tEv X.K W fb)) (hna : notStar a = true) (hnb : notStar b = true)
    (hw : swappedStores [.Tuple [.Name x px, .Name y py] kt pt] (.Tuple [a, b] k2 pt2) X.env = pure none) : PS X (.Assign [.Tuple [.Name x px, .Name y py] kt pt] (.Tuple [a, b] k2 pt2) pos) (tSv X.K W (par2 i j fa fb)) :=
  PS_mono (ps_asg (pe_tup (pa_cons ha (pa_cons hb pa_nil (star_cons hnb)) (star_cons hna))) (pg_tup (n := 2) hc (pgs_cons (pg_name hN hi hx hxf) (pgs_cons (pg_name hN hj hy hyf) pgs_nil))) rfl hw rfl) fun D σ H q => by
    refine tG_mono (par2_core q) fun v H1 z => tG_mono z fun w H3 z2 => ?_
    refine ⟨by show 2 ≤ sizeLine; decide, fun p hp => ⟨p, [v, w], rfl, SqT.of upd_same, rfl, v, [w], rfl, w, [], rfl, rfl, ?_⟩⟩
    exact z2 _ (.inr ⟨p, _, hp, rfl⟩)
end
end Qv
namespace Qv.St
open PySem PySem.Spec PyProof.Rows L2

/-- is it one of the first -/
def inS (ks : List L2.Key) (i : Nat) : L2.Key → Bool := fun q => (ks.take i).any fun z => decide (z = q)
/-- met one by one: how many are new -/
def grown (xs : List L2.Key) : Nat → Nat
  | 0 => 0
  | i + 1 => grown xs i + (match xs[i]? with | some x => if inS xs i x then 0 else 1 | none => 0)
theorem grown_le (xs : List L2.Key) : ∀ i, grown xs i ≤ i
  | 0 => Nat.le_refl _
  | i + 1 => by
    have := grown_le xs i
    unfold grown
    split
    · split <;> omega
    · omega
theorem alike {prog : Program} {w : World} {K : Type} [DecidableEq K] {knd : KeyKind prog w K} {h : Heap} {a : Addr} {S T : K → Bool} {n m : Nat}
    (hS : h.SetOf knd a S n) (e : S = T) (en : n = m) : h.SetOf knd a T m := en ▸ e ▸ hS
/-- the keys that the values are -/
def KeysAre (us : List Value) (ks : List L2.Key) : Prop := Paired (fun k u => keyIs k u = true) ks us
theorem keys_at : ∀ {us : List Value} {ks : List L2.Key}, KeysAre us ks → ∀ (i : Nat) (v : Value), us[i]? = some v → ∃ k, ks[i]? = some k ∧ keyIs k v = true
  | _, _, .nil, i, v, h => by simp at h
  | _, _, .cons a r, 0, v, h => by simp at h; subst h; exact ⟨_, rfl, a⟩
  | _, _, .cons a r, i + 1, v, h => by
    obtain ⟨k, h1, h2⟩ := keys_at r i v (by simpa using h)
    exact ⟨k, by simpa using h1, h2⟩
theorem key_scan {k : L2.Key} {v : Value} (h : keyIs k v = true) : v.scannable = true := by
  rcases keyIs_shape h with ⟨i, t, rfl, rfl⟩ | ⟨x, t, rfl, rfl⟩ <;> rfl
section
variable {prog : Program} {w : World} {A : Around} {R : Result → Shared → Prop} {I : Addr} {fp wr : List Addr} {G : Array GenState → Array GenState → Prop} {n : Nat} {P : Nat → Value → Prop} {Sx : Nat → Shared → Prop}
theorem set_loop (W : WalksS prog w A.in1 I fp wr G n P Sx) (S : Addr) (hSf : S ∉ fp) (ks : List L2.Key) (hsz : ks.length = n) (hb : n + 1 < scanBound) (hval : ∀ i v, P i v → ∃ k, ks[i]? = some k ∧ keyIs k v = true) :
    ∀ (m i : Nat) (s : Shared), n - i = m → i ≤ n → Sx i s → s.heap.SetOf (mixKind prog w) S (inS ks i) (grown ks i) →
      (∀ s', Moved (S :: wr) G s s' → s'.heap.SetOf (mixKind prog w) S (inS ks n) (grown ks n) → R (.ok (.ret .none)) s') →
      codeAny (model prog w) A (.builtin "set.update.loop" ⟨[.ref S, .ref I], []⟩) R s := by
  have notw : S ∉ wr := fun h => hSf (W.sub _ h)
  have up : ∀ b ∈ wr, b ∈ S :: wr := fun b h => List.mem_cons_of_mem _ h
  have stays : ∀ {i : Nat} {s s' : Shared}, Moved wr G s s' → s.heap.SetOf (mixKind prog w) S (inS ks i) (grown ks i) → s'.heap.SetOf (mixKind prog w) S (inS ks i) (grown ks i) := fun {i s s'} hm ⟨o, es, ep, t, ho, rest⟩ => ⟨o, es, ep, t, hm.heap S _ notw ho, rest⟩
  intro m
  induction m with
  | zero =>
    intro i s hm hi st hS fin
    obtain rfl : i = n := by omega
    apply codeAny_builtin PyProof.Rows.F.entry_set_update_loop
    rw [Around.under_plainId PyProof.Rows.F.plain_set_update_loop _]
    show wpAny _ A.in1 (pyNext (.ref I) >>= _) _ _ s
    exact wpAny_bind (W.done s _ _ st fun s' mv => by
      show wpAny _ A.in1 (PySem.ret Value.none) _ _ s'
      exact wpAny_pure (fin s' (mv.mono up) (stays mv hS)))
  | succ m ih =>
    intro i s hm hi st hS fin
    have hlt : i < n := by omega
    apply codeAny_builtin PyProof.Rows.F.entry_set_update_loop
    rw [Around.under_plainId PyProof.Rows.F.plain_set_update_loop _]
    show wpAny _ A.in1 (pyNext (.ref I) >>= _) _ _ s
    refine wpAny_bind (W.item i s _ _ hlt st fun v s' hP st' mv => ?_)
    obtain ⟨k, hk, kv⟩ := hval i v hP
    have hS' := stays mv hS
    show wpAny _ A.in1 (holding [v] (setAdd S v) >>= _) _ _ s'
    apply wpAny_bind
    apply wpAny_holding
    unfold setAdd
    apply wpAny_holding
    refine wpAny_bind ((mixKind prog w).pyHash (k := k) kv ?_)
    have hg := grown_le ks i
    refine wpAny_setAddHashed_of (knd := mixKind prog w) (s := { s' with toks := s'.toks + 1 }) kv (key_scan kv) hS' (by omega) fun h' same hS2 => ?_
    have next : h'.SetOf (mixKind prog w) S (inS ks (i + 1)) (grown ks (i + 1)) := by
      refine alike hS2 (funext fun q => ?_) ?_
      · show (inS ks i q || decide (q = k)) = (ks.take (i + 1)).any _
        have e : ks.take (i + 1) = ks.take i ++ [k] := by rw [List.take_succ, hk]; rfl
        rw [e, List.any_append]
        show _ = (inS ks i q || _)
        congr 1
        show decide (q = k) = (decide (k = q) || false)
        rw [Bool.or_false]
        exact decide_eq_decide.mpr ⟨Eq.symm, Eq.symm⟩
      · show _ = grown ks i + _
        rw [hk]
        cases z : inS ks i k <;> simp [z]
    refine wpAny_pure ⟨plainId_quiet PyProof.Rows.F.plain_set_update_loop _, ih (i + 1) _ (by omega) hlt (W.frame _ s' _ _ st' (Nat.le_succ _) fun b hb' o e => ?_) next fun s2 mv2 hS3 => ?_⟩
    · rw [same.2 b (fun z : b = S => hSf (by rw [← z]; exact hb'))]; exact e
    · refine fin s2 (Moved.trans W.gtrans ((mv.mono up).then_heap (Nat.le_succ _) fun b o hb' e => ?_) mv2) hS3
      rw [same.2 b (fun z : b = S => hb' (by rw [z]; exact List.mem_cons_self))]; exact e
end
/-- a new set's object -/
abbrev newS (led : Bool) : Obj := { cls := .type "set", dict := none, data := .set #[] 0 (.fresh 0 0 led) }
/-- what stands behind set(x) -/
def Done (prog : Program) (w : World) (s : Shared) (ks : List L2.Key) (h' : Heap) : Prop :=
  h'.SetOf (mixKind prog w) s.heap.objs.size (inS ks ks.length) (grown ks ks.length) ∧ ∀ b o, b < s.heap.objs.size → s.heap.get? b = some o → h'.get? b = some o
def SqA (t : Bool) (h : Heap) (l : Addr) (items : Array Value) : Prop := if t then h.IsTuple l items else h.IsList l items
section
variable {prog : Program} {w : World} {A : Around} {E : Value → Shared → Prop} {s : Shared}
theorem set_of_tup {l : Addr} {items : Array Value} {ks : List L2.Key} {Q : Value → Shared → Prop} (hh : A.handled = none) (hl : s.heap.IsTuple l items) (hi : KeysAre items.toList ks) (hb : ks.length + 1 < scanBound)
    (fin : ∀ (h' : Heap) (tk : Nat), Done prog w s ks h' → Q (.ref s.heap.objs.size) { s with heap := h', toks := tk }) : wpAny (model prog w) A (call (.type "set") [.ref l]) Q E s := by
  obtain ⟨cc, tt, mm⟩ := PySem.F.called_set.mro
  have g1 := PySem.F.called_set.made
  have g2 := PySem.F.called_set.sub
  apply wpAny_call
  apply codeAny_of_tree
  show wpAny _ _ (callAny (.type "set") _) _ _ _
  apply wpAny_pure
  refine ⟨Code.quiet_builtin _ (by decide +kernel), ?_⟩
  apply codeAny_builtin PySem.F.entry_type_call
  rw [Around.under_plain (weight_type_call_type "set" [.ref l] []) rfl]
  have g3 := PySem.F.called_set.notType
  have g4 := PySem.F.called_set.canCreate
  have g5 := PySem.F.typeCall_set_1 (.ref l)
  repeat (any_goals (first | assumption | wp_step))
  apply codeAny_mono (code_set_new_1 (.ref l) (E := E) (Q₁ := fun ob s1 => ∃ led : Bool, ob = .ref s.heap.objs.size ∧ s1 = { s with heap := s.heap.push (newS led) }) fun led => ⟨led, rfl, rfl⟩)
  intro r s1 hr
  cases r with
  | error e => exact hr
  | ok fl =>
    cases fl with
    | ret ob =>
      obtain ⟨led, rfl, rfl⟩ := hr
      have at0 : (s.heap.push (newS led)).get? s.heap.objs.size = some (newS led) := Heap.get?_push_size _ rfl
      have ty0 : Shared.TypeIs { s with heap := s.heap.push (newS led) } (.ref s.heap.objs.size) "set" := ⟨_, at0, rfl⟩
      have g6 := PySem.F.called_set.init.lookup
      have g7 := PySem.F.called_set.init.bind (.ref s.heap.objs.size)
      repeat (any_goals (first | assumption | wp_step))
      refine codeAny_mono (codeAny_call_builtin (R := wants (fun r s2 => r = .none ∧ ∃ h' tk, s2 = { s with heap := h', toks := tk } ∧ Done prog w s ks h') E) PySem.F.called_set.init.plain PySem.F.entry_set_init (check_set_init_1 ty0 ?_)) fun r2 s2 hr2 => ?_
      · obtain ⟨⟨oc, od, odt, osl⟩, hol, hcl, nl, hdl⟩ := hl
        simp only at hcl hdl
        subst hcl hdl
        have at1 : (s.heap.push (newS led)).get? l = some { cls := .type "tuple", dict := od, data := .seq items nl, slots := osl } := Heap.get?_push_of_some _ hol
        have g8 := PySem.F.sub_tuple_set
        have g9 := PySem.F.sub_tuple_frozenset
        have g10 : (Value.type "tuple" == Value.type "dict") = false := by decide
        have tup1 : (s.heap.push (newS led)).IsTuple l items := ⟨_, at1, rfl, nl, rfl⟩
        unfold Builtin.«set.__init__» noKeywords Builtin.Frozenset.updateFrom
        generalize hPI : pyIter = PI
        wp_walk
        subst hPI
        apply wpAny_pyIter_tuple tup1
        apply wpAny_bind
        apply wpAny_runValue
        have lt : l < s.heap.objs.size := Heap.lt_size hol
        have hnd : A.in1.in1.in1.handled = none := by simp [hh]
        have ne1 : l ≠ (s.heap.push (newS led)).objs.size := by rw [Heap.size_push]; exact Nat.ne_of_lt (Nat.lt_succ_of_lt lt)
        have nf : s.heap.objs.size ∉ [(s.heap.push (newS led)).objs.size, l] := by
          rw [Heap.size_push]
          simp only [List.mem_cons, List.not_mem_nil, or_false, not_or]
          exact ⟨Nat.ne_of_lt (Nat.lt_succ_self _), Nat.ne_of_gt lt⟩
        have sz : ks.length = items.size := by rw [Paired.length hi, Array.length_toList]
        have val : ∀ (i : Nat) (v : Value), items[i]? = some v → ∃ k, ks[i]? = some k ∧ keyIs k v = true := fun i v hv => keys_at hi i v (by rw [Array.getElem?_toList]; exact hv)
        refine set_loop ((Walks.tuple hnd _ l ne1 items).toS) s.heap.objs.size nf ks sz (by rw [← sz]; exact hb) val (items.size - 0) 0 _ (by omega) (Nat.zero_le _) ⟨⟨_, Heap.get?_push_size _ rfl, rfl, rfl⟩, (tup1.push _)⟩ ?_ ?_
        · have at2 : ((s.heap.push (newS led)).push { cls := .type "tuple_iterator", data := .fields #[.ref l, .int 0 0] }).get? s.heap.objs.size = some (newS led) := Heap.get?_push_of_some _ at0
          letI : BEq L2.Key := instBEqOfDecidableEq
          exact alike ((setObjOf_fresh (knd := mixKind prog w) led).setOf at2 (by unfold scanBound; decide)) (funext fun q => by simp [inS]) rfl
        · intro s3 mv hS
          obtain ⟨h', g', d', tk', os'⟩ := s3
          obtain rfl : g' = s.gens := mv.gens
          obtain rfl : d' = s.drawn := mv.drawn
          obtain rfl : os' = s.os := mv.os
          show wpAny _ _ _ _ _ _
          apply wpAny_pure
          show wpAny _ _ (PySem.ret Value.none) _ _ _
          rw [← sz] at hS
          refine wpAny_pure ⟨rfl, h', tk', rfl, hS, fun b o lb e => ?_⟩
          refine mv.heap b o ?_ (Heap.get?_push_of_some _ (Heap.get?_push_of_some _ e))
          rw [Heap.size_push]
          simp only [List.mem_cons, List.not_mem_nil, or_false, not_or]
          exact ⟨Nat.ne_of_lt lb, Nat.ne_of_lt (Nat.lt_succ_of_lt lb)⟩
      · cases r2 with
        | error e => exact hr2
        | ok fl2 =>
          cases fl2 with
          | ret r =>
            obtain ⟨rfl, h', tk, rfl, hd⟩ := hr2
            repeat (any_goals (first | assumption | wp_step))
            exact fin _ _ hd
          | _ => exact hr2.elim
    | _ => exact hr.elim
end
end Qv.St
namespace Qv
open PySem L2 PySem.Spec PyProof.Rows
open Evl (Ex)

/-! ### a list from its end -/
def revD : D → Option Val
  | .lst l => some (.fr (.lst l.reverse))
  | _ => none
def revC (f : M Val) : M Val := bnd f fun v => bnd (der v) fun d => opt (revD d)
section
variable {X : Cx} {W : WX} {pos : Pos}
theorem se_rev {a : Expr} {f : M Val} {k : Nat} {p1 p2 p3 : Pos} (ha : PE X a (tEv X.K W f)) : PE X (.Subscript a (.Slice none none (some (.UnaryOp .USub (.Constant (.int 1) k p1) p2)) p3) pos) (tEv X.K W (revC f)) :=
  PE_mono (pe_revL ha) fun σ H Q q => by
    obtain ⟨pn, A, e, G, R, g, oc⟩ := q
    refine chain g oc fun x v A1 e1 G1 H1 x1 g1 r1 oc1 => ?_
    obtain ⟨d, rd, oc2⟩ := oc_der g1 r1 oc1
    obtain ⟨val, q3, fin⟩ := oc_optE oc2
    cases d with
    | lst ds =>
      cases q3
      obtain ⟨p, xs, rfl, hp, ra⟩ := rd
      exact ⟨p, xs, rfl, SqL.of hp, fin.newF g1 ra.rev⟩
    | _ => cases q3
/-! ### dict displays -/
def pairsC : List (M Val × M Val) → M (List (D × D))
  | [] => ret []
  | q :: r => bnd q.1 fun vk => bnd (der vk) fun dk => bnd (opt (keyS dk)) fun key => bnd q.2 fun vv => bnd (shr vv) fun d => bnd (pairsC r) fun ps => ret ((keyD key, d) :: ps)
def dictC (fs : List (M Val × M Val)) : M Val := bnd (pairsC fs) fun es => if es.length ≤ 15 then ret (.fr (.dct (es.foldl (fun acc q => kvSet acc q.1 q.2) []))) else fail
def dct0C : M Val := ret (.fr (.dct []))
theorem se_dct0 : PE X (.Dict [] [] pos) (tEv X.K W dct0C) := PE_mono pe_dnewK fun σ H Q q => by
  obtain ⟨pn, A, e, G, R, g, oc⟩ := q
  intro p hp
  obtain ⟨g', a, b, c⟩ := g.laidF (o := .dK []) hp
  exact (oc_ret oc) _ A G _ (Ex.refl G) g' ⟨p, rfl, a, b, c, .inl ⟨[], upd_same, .nil⟩⟩
abbrev rvP (K : PySem.W.Frag) : Rv (List (V × V)) (List (D × D)) := fun _ G _ _ _ _ ps es => ∃ kvs : List (L2.Key × V), ps = kvs.map (fun kv => (kV kv.1, kv.2)) ∧ RepK K G kvs es
theorem tpairs {K : PySem.W.Frag} {σ : L2.St} : ∀ {fs : List (M Val × M Val)} {H : Hp} {Q : List (V × V) → Hp → Prop}, tG K W (rvP K) (pairsC fs) σ H Q → tPairs (fs.map fun q => (tEv K W q.1, tEv K W q.2)) σ H Q
  | [], H, Q, h => by
    obtain ⟨pn, A, e, G, R, g, oc⟩ := h
    exact (oc_ret (rv := rvP K) oc) [] A G H (Ex.refl G) g ⟨[], rfl, .nil⟩
  | q :: r, H, Q, h => by
    obtain ⟨pn, A, e, G, R, g, oc⟩ := h
    refine chain g oc fun x vk A1 e1 G1 H1 x1 g1 r1 oc1 => ?_
    obtain ⟨dk, rd, oc2⟩ := oc_der g1 r1 oc1
    obtain ⟨key, hk, oc3⟩ := oc_opt oc2
    refine chain g1 oc3 fun y vv A4 e4 G4 H4 x4 g4 r4 oc4 => ?_
    obtain ⟨d, A5, e5, G5, x5, g5, r5, oc5⟩ := oc_shr g4 r4 oc4
    refine tpairs (fs := r) (chain g5 oc5 fun ps es A6 e6 G6 H6 x6 g6 ⟨kvs, r6, r7⟩ oc6 => ?_)
    have ex : x = kV key := by
      rw [keyS_ok hk] at rd
      cases key <;> (cases rd; rfl)
    subst ex r6
    exact (oc_ret (rv := rvP K) oc6) _ A6 G6 H6 (Ex.refl _) g6 ⟨(key, y) :: kvs, rfl, .cons (r5.mono x6) r7⟩
theorem RepK.merge {K : PySem.W.Frag} {H : Hp} : ∀ {kvs : List (L2.Key × V)} {es : List (D × D)} {acc : List (L2.Key × V)} {as : List (D × D)}, RepK K H kvs es → RepK K H acc as → RepK K H (mergeK acc kvs) (es.foldl (fun acc q => kvSet acc q.1 q.2) as)
  | _, _, acc, as, .nil, h => h
  | (k, v) :: kvs, _ :: es, acc, as, .cons a b, h => RepK.merge (kvs := kvs) (es := es) b (h.put (k := k) a)
theorem RepK.len {K : PySem.W.Frag} {H : Hp} {kvs : List (L2.Key × V)} {es : List (D × D)} (h : RepK K H kvs es) : kvs.length = es.length := by
  have := congrArg List.length h.keys
  simpa using this.symm
theorem se_dict {keys : List (Option Expr)} {values : List Expr} {fs : List (M Val × M Val)} (h : PPs X pos keys values (fs.map fun q => (tEv X.K W q.1, tEv X.K W q.2))) (hall : keys.all (·.isSome) = true) (hl : keys.length = values.length) (h0 : keys ≠ []) (h15 : keys.length ≤ 15) :
    PE X (.Dict keys values pos) (tEv X.K W (dictC fs)) := PE_mono (pe_disp h hall hl h0 h15) fun σ H Q q => by
  obtain ⟨pn, A, e, G, R, g, oc⟩ := q
  intro p hp
  obtain ⟨g1, nG, nR, nA⟩ := g.laidF (o := .dK []) hp
  have g2 := g1.addR nG upd_same nA
  refine tpairs (chainR (Ex.new nR) g2 oc fun ps es A3 e3 G3 H3 x3 g3 ⟨kvs, r3, r4⟩ oc3 => ?_)
  obtain ⟨c, oc4⟩ := oc_if oc3
  have fin := oc_ret oc4
  have ns : ¬ Owd A3 p := fun ⟨j, τ, z⟩ => by
    have := (g3.own j τ p z).2.1
    rw [upd_same] at this; cases this
  refine ⟨g3.rh _ _ upd_same, kvs, r3, by rw [r4.len]; exact c, ?_⟩
  exact fin _ A3 G3 _ (Ex.refl _) (g3.frameSet.weakR (Ex.new nR)) ⟨p, rfl, g3.dj p (by rw [upd_same]; simp), nR, ns, .inl ⟨_, upd_same, r4.merge .nil⟩⟩
/-! ### how many are different -/
def lenSetD : D → Option Val
  | .tup l => match keyL l with
    | some ks => if ks.length < 4000 then some (.sh (.int (St.grown ks ks.length))) else none
    | none => none
  | _ => none
def lenSetC (f : M Val) : M Val := bnd f fun v => bnd (der v) fun d => opt (lenSetD d)
def tLenSt (K : PySem.W.Frag) (te : TE) : TE := fun σ H Q => te σ H fun x H1 => ∃ l ks, x = .ref l ∧ SqT K H1 l (ks.map kV) ∧ ks.length + 1 < scanBound ∧ Q (.int (St.grown ks ks.length)) H1
theorem keys_are (P : Program) (w : World) : ∀ {ks : List L2.Key} {us : List Value}, Vals (ks.map kV) us → St.KeysAre us ks
  | [], _, r => by cases r; exact .nil
  | k :: ks, _, r => by
    cases r with
    | cons a b => exact .cons (kV_is (P := P) (w := w) a) (keys_are P w b)
theorem pe_lenSt {a : Expr} {te : TE} {p p2 q : Pos} (cal : X.calm = true) (h1 : Gl X "len") (m1 : X.mg "len" = none) (h2 : Gl X "set") (m2 : X.mg "set" = none) (ha : PE X a te) (ns : notStar a = true) :
    PE X (.Call (.Name "len" p) [.Call (.Name "set" p2) [a] [] q] [] pos) (tLenSt X.K te) := by
  have nb : starEach [a] X.env = (false, eval a X.env) :: starEach [] X.env := star_cons ns
  constructor
  intro pins s σ H Q I h
  refine Call_ (ld_blt I h1 m1 PySem.boot_len (PyProof.Rows.callWith_builtin1 (PyProof.Rows.args_cons ?_ rfl) rfl rfl))
  refine Call_ (ld_blt I h2 m2 PyProof.Rows.boot_set (PyProof.Rows.callWith_type1 (PyProof.Rows.args_cons (thn (ha.run pins s σ H _ I h) fun u t b => PyProof.Rows.args_nil ?_) nb) nb rfl))
  obtain ⟨x, H1, I1, rx, l, ks, rfl, hq, hb, fin⟩ := b
  cases rx
  obtain ⟨its, r, pl, hz⟩ := I1.tuple hq
  refine St.set_of_tup (I1.ok.hd cal) pl (by simpa using keys_are X.prog X.w r) hb fun h' tk dn => PyProof.Rows.args_nil ?_
  obtain ⟨⟨o, es, ep, t', ho, hex, hd, _, _, _, hf, hn⟩, keep⟩ := dn
  have I2 : Inv X pins σ H1 { t with heap := h', toks := tk } := I1.kept fun b o e => keep b o (Heap.lt_size e) e
  have gl := St.grown_le ks ks.length
  exact call_len_set ho hex hd hf (by rw [hn]; unfold scanBound at hb; omega) ⟨.int _, H1, I2.tok _, ⟨_, by rw [hn]⟩, fin⟩
theorem se_lenSt {a : Expr} {f : M Val} {p p2 q : Pos} (cal : X.calm = true) (h1 : Gl X "len") (m1 : X.mg "len" = none) (h2 : Gl X "set") (m2 : X.mg "set" = none) (ha : PE X a (tEv X.K W f)) (ns : notStar a = true) :
    PE X (.Call (.Name "len" p) [.Call (.Name "set" p2) [a] [] q] [] pos) (tEv X.K W (lenSetC f)) := PE_mono (pe_lenSt cal h1 m1 h2 m2 ha ns) fun σ H Q q => by
  obtain ⟨pn, A, e, G, R, g, oc⟩ := q
  refine chain g oc fun x v A1 e1 G1 H1 x1 g1 r1 oc1 => ?_
  obtain ⟨d, rd, oc2⟩ := oc_der g1 r1 oc1
  obtain ⟨val, q3, fin⟩ := oc_optE oc2
  cases d with
  | tup ds =>
    unfold lenSetD at q3
    dsimp only at q3
    split at q3
    · rename_i ks hk
      split at q3
      · rename_i hl
        cases q3
        rw [keyL_ok hk] at rd
        have rd' : Rep X.K G1 x (.tup (ks.map keyD)) := rd
        obtain ⟨p, e1', e2'⟩ := rep_keyT rd'
        subst e1'
        exact ⟨p, ks, rfl, SqT.of (g1.gh _ _ e2'), by unfold scanBound; omega, fin.sc g1 (.int _)⟩
      · cases q3
    · cases q3
  | _ => cases q3
end
end Qv
namespace Qv
open PySem L2 PySem.Spec PyProof.Rows
open Evl (Ex)

/-! ### calls by keywords, defaults -/
/-- where a parameter's value comes from: a place, a keyword, the lacking ones' list (and what it is) -/
inductive Src where
  | ps (i : Nat) | kw (j : Nat) | df (j : Nat) (d : D)
def dV : D → V
  | .int i => .int i
  | .str x => .str x
  | .bl b => .bl b
  | _ => .non
def dOk : D → Bool
  | .int _ => true
  | .str _ => true
  | .bl _ => true
  | .non => true
  | _ => false
theorem dV_rep {K : PySem.W.Frag} {G : Hp} : ∀ {d : D}, dOk d = true → Rep K G (dV d) d
  | .int _, _ => .int _
  | .str _, _ => .str _
  | .bl _, _ => .bl _
  | .non, _ => .non
def srcV (vs zs : List V) : Src → V
  | .ps i => vs.getD i .non
  | .kw j => zs.getD j .non
  | .df _ d => dV d
def srcU (us ws mv : List Value) : Src → Value
  | .ps i => us.getD i .none
  | .kw j => ws.getD j .none
  | .df j _ => mv.getD j .none
def srcL : List Src → List Val → List Val → Option (List Val)
  | [], _, _ => some []
  | .ps i :: r, vs, zs => match vs[i]?, srcL r vs zs with
    | some v, some l => some (v :: l)
    | _, _ => none
  | .kw i :: r, vs, zs => match zs[i]?, srcL r vs zs with
    | some v, some l => some (v :: l)
    | _, _ => none
  | .df _ d :: r, vs, zs => match dOk d, srcL r vs zs with
    | true, some l => some (.sh d :: l)
    | _, _ => none
/-- a call's shape: how many places, which keywords, what lacks -/
structure Shp where
  n : Nat
  ks : List Str
  ms : List (Str × D)
  srcs : List Src
def srcOk (ms : List (Str × D)) : Src → Bool
  | .df j d => decide ((ms[j]?).map Prod.snd = some d)
  | _ => true
structure KBs (K : PySem.W.Frag) (fd : FuncData) (ps : List Str) (q : Shp) : Prop where
  go : ∃ mv : List Value, KBn K fd ps q.n q.ks (fun us ws => q.srcs.map (srcU us ws mv)) (fun vs zs => q.srcs.map (srcV vs zs))
theorem vals_getD : ∀ {vs : List V} {us : List Value}, Vals vs us → ∀ i : Nat, RelV (vs.getD i .non) (us.getD i .none)
  | _, _, .nil, i => by simp; exact rfl
  | _, _, .cons a b, 0 => a
  | _, _, .cons a b, i + 1 => by simpa using vals_getD b i
theorem src_rel {ms : List (Str × D)} {mv : List Value} (hm : Vals (ms.map fun q => dV q.2) mv) {vs zs : List V} {us ws : List Value} (a : Vals vs us) (b : Vals zs ws) : ∀ {l : List Src}, l.all (srcOk ms) = true → Vals (l.map (srcV vs zs)) (l.map (srcU us ws mv))
  | [], _ => .nil
  | x :: l, h => by
    rw [List.all_cons, Bool.and_eq_true] at h
    refine .cons ?_ (src_rel hm a b h.2)
    cases x with
    | ps i => exact vals_getD a i
    | kw i => exact vals_getD b i
    | df j d =>
      have e := of_decide_eq_true (show decide ((ms[j]?).map Prod.snd = some d) = true from h.1)
      have r := vals_getD hm j
      obtain ⟨q, q1, q2⟩ := Option.map_eq_some_iff.mp e
      have e2 : (ms.map fun q => dV q.2).getD j .non = dV d := by
        rw [List.getD_eq_getElem?_getD, List.getElem?_map, q1]
        show dV q.2 = _
        rw [q2]
      rw [e2] at r
      exact r
theorem srcL_pn {K : PySem.W.Frag} {G : Hp} {σ : L2.St} {vs zs : List V} {vals wals : List Val} (a : PnVs K G σ vs vals) (b : PnVs K G σ zs wals) : ∀ {l : List Src} {r : List Val}, srcL l vals wals = some r → PnVs K G σ (l.map (srcV vs zs)) r
  | [], r, h => by cases h; exact .nil
  | .ps i :: l, r, h => by
    unfold srcL at h
    split at h
    · rename_i v l' h1 h2
      cases h
      obtain ⟨x, e1, e2⟩ := paired_get a h1
      refine .cons ?_ (srcL_pn a b h2)
      show PnV K G σ (vs.getD i .non) v
      rw [List.getD_eq_getElem?_getD, e1]
      exact e2
    · cases h
  | .kw i :: l, r, h => by
    unfold srcL at h
    split at h
    · rename_i v l' h1 h2
      cases h
      obtain ⟨x, e1, e2⟩ := paired_get b h1
      refine .cons ?_ (srcL_pn a b h2)
      show PnV K G σ (zs.getD i .non) v
      rw [List.getD_eq_getElem?_getD, e1]
      exact e2
    · cases h
  | .df j d :: l, r, h => by
    unfold srcL at h
    split at h
    · rename_i l' h1 h2
      cases h
      exact .cons (dV_rep h1) (srcL_pn a b h2)
    · cases h
def callK (bs : List Bool) (ev : Ev) (srcs : List Src) (n m : Nat) (fs gs : List (M Val)) : M Val := bnd (argsN fs) fun vs => bnd (argsN gs) fun zs => bnd (opt (if vs.length = n ∧ zs.length = m then srcL srcs vs zs else none)) fun vals => bnd (frzL bs vals) fun vals1 => goV ev vals1
def tClK (n m : Nat) (srcs : List Src) (sp : List V → Hp → VK → XK → Prop) (W : WX) (t tk : TA) : TE := fun σ H Q => t σ H fun vs H1 => tk σ H1 fun zs H2 => vs.length = n ∧ zs.length = m ∧ sp (srcs.map (srcV vs zs)) H2 Q fun cls d H3 => W cls d σ H3
def kwOk (k : Keyword) : Bool := k.arg.isSome
section
variable {X : Cx} {W : WX} {k : Nat} {f : Addr} {fd : FuncData} {ps : List Str} {ev : Ev} {x : Str} {p pos : Pos} {a : Expr} {es : List Expr} {kws : List Keyword} {t tk : TA} {fs gs : List (M Val)} {bs : List Bool} {q : Shp}
theorem sk_argsN : ∀ (l : List Keyword) (gs : List (M Val)), Paired (fun a f => PE X a (tEv X.K W f)) (l.map (·.value)) gs → PK X l (tNv X.K W (argsN gs))
  | [], _, .nil => ⟨fun pos pins s σ H Q I h => (pk_nil (X := X)).run pos pins s σ H Q I (by
      obtain ⟨pn, A, e, G, R, g, oc⟩ := h
      exact (oc_ret (rv := rvN X.K) oc) [] A G H (Ex.refl G) g .nil)⟩
  | ⟨nm, e, kp⟩ :: l, g0 :: gs, .cons h hr => ⟨fun pos pins s σ H Q I hq => (pk_cons (nm := nm) (kpos := kp) h (sk_argsN l gs hr)).run pos pins s σ H Q I (by
      obtain ⟨pn, A, e, G, R, g, oc⟩ := hq
      refine chain g oc fun x v A1 e1 G1 H1 x1 g1 r1 oc1 => ?_
      obtain ⟨w, G2, x2, g2, r2, oc2⟩ := oc_pend g1 r1 oc1
      refine chain g2 oc2 fun ws vs A3 e3 G3 H3 x3 g3 r3 oc3 => ?_
      exact (oc_ret (rv := rvN X.K) oc3) (x :: ws) A3 G3 H3 (Ex.refl _) g3 (.cons (r2.mono x3) r3))⟩
theorem runK {pins : List (Addr × Obj)} {σ : L2.St} {H : Hp} {s : Shared} {Q : VK} {us ws : List Value} {vs zs : List V} (F : FnG X.prog X.w X.K X.mg X.base k f fd ps ev) (hr : Room k X.A) (hgu : X.A.guards = some []) (hb : KBs X.K fd ps q) (tk : Takes X W)
    (I : Inv X pins σ H s) (r : Vals vs us) (rz : Vals zs ws) (l1 : vs.length = q.n) (l2 : zs.length = q.ks.length) (h : spG X.K ps.length ev (q.srcs.map (srcV vs zs)) H Q fun cls d H2 => W cls d σ H2) :
    wpAny (model X.prog X.w) X.A (call (.ref f) us (q.ks.zip ws)) (EP X pins σ Q) X.xe s := by
  obtain ⟨mv, hb⟩ := hb.go
  have bt := hb.to s us ws I.kIn (r.length.symm.trans l1) (rz.length.symm.trans l2)
  refine wpAny_call (codeAny_mono (F.go X.A X.stack s H ⟨us, q.ks.zip ws⟩ _ _ Q _ hr hgu I.env0 bt (hb.rel r rz) h) fun res s' hq => ?_)
  cases res with
  | error e => exact tk _ _ (XE.of_call I (fun _ _ _ h => h) hq)
  | ok fl =>
    cases fl with
    | ret u => exact I.after hq
    | next => exact False.elim hq
    | brk => exact False.elim hq
    | cont => exact False.elim hq
theorem kw_all {pos : Pos} {env : Env} : ∀ {kws : List Keyword}, kws.all kwOk = true → (backToKw pos (keywordEach kws env)).all (·.1.isSome) = true ∧ (backToKw pos (keywordEach kws env)).any (·.1.isNone) = false
  | [], _ => ⟨rfl, rfl⟩
  | ⟨nm, e, kp⟩ :: l, h => by
    rw [List.all_cons, Bool.and_eq_true] at h
    obtain ⟨a, b⟩ := kw_all (pos := pos) (env := env) h.2
    cases nm with
    | none => exact absurd h.1 Bool.false_ne_true
    | some x => exact ⟨(show (true && (backToKw pos (keywordEach l env)).all (·.1.isSome)) = true by rw [a]; rfl), (show (false || (backToKw pos (keywordEach l env)).any (·.1.isNone)) = false by rw [b]; rfl)⟩
theorem kw_names {pos : Pos} {env : Env} : ∀ {kws : List Keyword}, (backToKw pos (keywordEach kws env)).filterMap (·.1) = kws.filterMap (·.arg)
  | [] => rfl
  | ⟨nm, e, kp⟩ :: l => by
    have ih := kw_names (pos := pos) (env := env) (kws := l)
    cases nm with
    | none => exact ih
    | some x => exact congrArg (x :: ·) ih
theorem pe_clK (F : FnG X.prog X.w X.K X.mg X.base k f fd ps ev) (hr : Room k X.A) (hgu : X.A.guards = some []) (tk' : Takes X W) (hg : Gl X x) (hm : X.mg x = some (.ref f)) (hk : PySem.W.keepIn X.K (.ref f) = true) (hb : KBs X.K fd ps q)
    (ha : PA X (a :: es) t) (hkw : PK X kws tk) (hdb : (x == ("__debug__" : Str)) = false) (hs : (a :: es).all notStar = true) (hkn : kws.all kwOk = true) (hks : kws.filterMap (·.arg) = q.ks) : PE X (.Call (.Name x p) (a :: es) kws pos) (tClK q.n q.ks.length q.srcs (spG X.K ps.length ev) W t tk) := by
  constructor
  intro pins s σ H Q I h
  have hs' := hs
  rw [List.all_cons, Bool.and_eq_true] at hs'
  obtain ⟨k1, k2⟩ := kw_all (pos := pos) (env := X.env) hkn
  have k3 : ((backTo pos (starEach (a :: es) X.env)).any (·.1) || (backToKw pos (keywordEach kws X.env)).any (·.1.isNone)) = false := by rw [star_plain hs, k2]; rfl
  apply wpAny_Call_Name_kw
  apply ld_glob I hg hm _ hdb
  refine PySem.W.callWith_KW (h₀ := X.base) I.ok.mod.kin hk k1 (thn (ha.run pos pins s σ H _ I h) fun us s1 b => ?_) k3 (star_cons hs'.1)
  obtain ⟨vs, H1, I1, r, q1⟩ := b
  refine thn (hkw.run pos pins s1 σ H1 _ I1 q1) fun ws s2 b2 => ?_
  obtain ⟨zs, H2, I2, rz, l1, l2, q2⟩ := b2
  refine ⟨I2.kIn, ?_⟩
  rw [kw_names, hks]
  exact runK F hr hgu hb tk' I2 r rz l1 l2 q2
theorem tclK {K : PySem.W.Frag} {np : Nat} {σ : L2.St} {H : Hp} {Q : VK} {n m : Nat} {srcs : List Src} (hl : ∀ ss, ev ss ≠ .err → ss.length = np) (h : tEv K W (callK bs ev srcs n m fs gs) σ H Q) : tClK n m srcs (spG K np ev) W (tNv K W (argsN fs)) (tNv K W (argsN gs)) σ H Q := by
  obtain ⟨pn, A, e, G, R, g, oc⟩ := h
  refine chain g oc fun vs vals A1 e1 G1 H1 x1 g1 r1 oc1 => ?_
  refine chain g1 oc1 fun zs wals A2 e2 G2 H2 x2 g2 r2 oc2 => ?_
  obtain ⟨r, hr, oc3⟩ := oc_opt oc2
  split at hr
  · rename_i c
    have r1' := PnVs.mono x2 r1
    refine ⟨(paired_len r1').trans c.1, (paired_len r2).trans c.2, ?_⟩
    obtain ⟨r', A3, e3, G3, x3, g3, p3, oc4⟩ := oc_frzL g2 (srcL_pn r1' r2 hr) oc3
    exact go_sp hl g3 p3 oc4
  · cases hr
theorem se_callK (F : FnG X.prog X.w X.K X.mg X.base k f fd ps ev) (hr : Room k X.A) (hgu : X.A.guards = some []) (tk : Takes X W) (hg : Gl X x) (hm : X.mg x = some (.ref f)) (hk : PySem.W.keepIn X.K (.ref f) = true) (hb : KBs X.K fd ps q)
    (hl : ∀ ss, ev ss ≠ .err → ss.length = ps.length) (hdb : (x == ("__debug__" : Str)) = false) (hs : (a :: es).all notStar = true) (hkn : kws.all kwOk = true) (hks : kws.filterMap (·.arg) = q.ks) (h : Paired (fun a f => PE X a (tEv X.K W f)) (a :: es) fs)
    (h2 : Paired (fun a f => PE X a (tEv X.K W f)) (kws.map (·.value)) gs) : PE X (.Call (.Name x p) (a :: es) kws pos) (tEv X.K W (callK bs ev q.srcs q.n q.ks.length fs gs)) :=
  PE_mono (pe_clK F hr hgu tk hg hm hk hb (sa_argsN _ fs hs h) (sk_argsN _ gs h2) hdb hs hkn hks) fun _ _ _ z => tclK hl z
end
/-! ### how a def binds such a call -/
/-- what is to be seen of a def's text (by rfl): nothing lacks, or keyword-only ones lack -/
def KBp (x : Str) (N : List Str) (prm : Arguments) (body : List Stmt) (sc : Scope) (ps : List Str) (kwd : List (Str × D)) (q : Shp) : Prop :=
  (q.ms = [] ∧ ∀ (kV doc pm : Value) (an : Option Addr) (cdv ct : Value) (us ws : List Value), us.length = q.n → ws.length = q.ks.length → bindArgs (PySem.W.fnOf x x prm body sc .none kV doc pm an cdv ct) ⟨us, q.ks.zip ws⟩ = pure (ps.zip (q.srcs.map (srcU us ws [])))) ∨
  (kwd ≠ [] ∧ (∀ m ∈ q.ms, m ∈ kwd) ∧ ∀ (Dd : Addr) (doc pm : Value) (an : Option Addr) (cdv ct : Value) (us ws mv : List Value), us.length = q.n → ws.length = q.ks.length → mv.length = q.ms.length →
    KwChain Dd ((q.ms.map (·.1)).zip mv) (bindArgs (PySem.W.fnOf x x prm body sc .none (.ref Dd) doc pm an cdv ct) ⟨us, q.ks.zip ws⟩) (ps.zip (q.srcs.map (srcU us ws mv))))
theorem kbs_of {K : PySem.W.Frag} {x : Str} {N ps : List Str} {prm : Arguments} {body : List Stmt} {sc : Scope} {kwd : List (Str × D)} {f : Addr} {fd : FuncData} {q : Shp} (F : FunD K x x prm body sc [] (kwd.map fun m => (m.1, dV m.2)) f fd) (ho : q.srcs.all (srcOk q.ms) = true) (h : KBp x N prm body sc ps kwd q) : KBs K fd ps q := by
  obtain ⟨oc, od, dV', kV', doc, pm, an, cdv, ct, osl, rfl, lk, hcd, hD, hK⟩ := F.ex
  rcases hD with ⟨_, rfl⟩ | ⟨e, _⟩
  · rcases h with ⟨h0, h1⟩ | ⟨h0, h1, h2⟩
    · refine ⟨[], ⟨fun s us ws X l1 l2 => .of_eq (h1 kV' doc pm an cdv ct us ws l1 l2), fun a b => src_rel (ms := q.ms) (by rw [h0]; exact .nil) a b ho⟩⟩
    · rcases hK with e | ⟨Dd, rfl, hq⟩
      · exact absurd (List.map_eq_nil_iff.mp e) h0
      · obtain ⟨mv, hl, rk, hks⟩ := kwd_vals (ms := q.ms.map fun m => (m.1, dV m.2)) fun z hz => by
          obtain ⟨m, m1, rfl⟩ := List.mem_map.mp hz
          exact hq _ (List.mem_map.mpr ⟨m, h1 m m1, rfl⟩)
        rw [List.length_map] at hl
        have e1 : (q.ms.map fun m => (m.1, dV m.2)).map (·.1) = q.ms.map (·.1) := by rw [List.map_map]; rfl
        have e2 : (q.ms.map fun m => (m.1, dV m.2)).map (·.2) = q.ms.map fun m => dV m.2 := by rw [List.map_map]; rfl
        rw [e1] at hks
        rw [e2] at rk
        exact ⟨mv, ⟨fun s us ws X l1 l2 => BindsTo.of_looks fun M => KwChain.looks X hks (h2 Dd doc pm an cdv ct us ws mv l1 l2 hl), fun a b => src_rel rk a b ho⟩⟩
  · exact absurd rfl e
end Qv
namespace Qv
open PySem L2 PySem.Spec PyProof.Rows
open Evl (Ex)

/-! ### the evaluator on the text -/
structure Ct where
  N : List Str
  sc : Scope
  fn : Str → Bool
structure Tb where
  gl : Str → Option D
  fr : Str → Bool
  fns : Str → Option (List Bool × Ev)
  fnk : Str → Nat → List Str → Option (List Bool × Ev × Shp)
structure EvX where
  E : Ct → Expr → M Val
  T : Ct → Expr → M Bool
def ixOf (N : List Str) (x : Str) : Option Nat := match N.findIdx? (· == x) with
  | some i => if N[i]? = some x then some i else none
  | none => none
theorem ixOf_ok {N : List Str} {x : Str} {i : Nat} (h : ixOf N x = some i) : N[i]? = some x := by
  unfold ixOf at h
  split at h
  · split at h
    · cases h; assumption
    · cases h
  · cases h
def isGl (C : Ct) (x : Str) : Bool := decide (C.sc.names.lookup x = some .globalImplicit)
def isVis (C : Ct) (x : Str) : Bool := match C.sc.names.lookup x with
  | some .local => true | some .cell => true | some .free => true | _ => false
def isLoc (C : Ct) (x : Str) : Bool := decide (C.sc.names.lookup x = some .local)
def okSt (C : Ct) (x : Str) : Bool := isLoc C x || (decide (C.sc.names.lookup x = some .cell) && C.fn x)
def noDbg (x : Str) : Bool := !(x == ("__debug__" : Str)) && !(x == ("__classdict__" : Str))
def nameE (T : Tb) (C : Ct) (x : Str) : M Val := if noDbg x then (if isVis C x then match ixOf C.N x with
      | some i => nameC i
      | none => fail
    else if isGl C x then match T.gl x with
      | some d => conC d
      | none => fail
    else fail)
  else fail
def isiOf (y : Str) : Option String :=
  if y = ("int" : Str) then some "int" else if y = ("str" : Str) then some "str" else if y = ("bool" : Str) then some "bool" else if y = ("tuple" : Str) then some "tuple" else if y = ("list" : Str) then some "list" else if y = ("dict" : Str) then some "dict" else none
def bltC2 (f : Str) (fs : List (M Val)) : M Val := if f = ("sorted" : Str) then callC sortedB fs else fail
def bltC (f : Str) (fs : List (M Val)) : M Val :=
  if f = ("len" : Str) then callC lenB fs else if f = ("abs" : Str) then callC absB fs else if f = ("max" : Str) then callC maxB fs else if f = ("min" : Str) then callC minB fs
  else if f = ("int" : Str) then callC intB fs else if f = ("all" : Str) then callC allB fs else if f = ("any" : Str) then callC anyB fs else if f = ("sum" : Str) then callC sumB fs
  else if f = ("list" : Str) then callC listB fs else if f = ("tuple" : Str) then callC tupleB fs else if f = ("repr" : Str) then callC reprB fs else if f = ("str" : Str) then callC strB fs else bltC2 f fs
def lenSt (T : Tb) (r : EvX) (C : Ct) (f : Str) : List Expr → Option (M Val)
  | [.Call (.Name y _) [a] [] _] => if f = ("len" : Str) ∧ y = ("set" : Str) ∧ isGl C y = true ∧ T.fr y = true ∧ notStar a = true then some (lenSetC (r.E C a)) else none
  | _ => none
def isiE (T : Tb) (r : EvX) (C : Ct) : List Expr → M Val
  | [a, .Name y _] => if isGl C y && (T.fr y && noDbg y) then (match isiOf y with
    | some t => isiC t (r.E C a)
    | none => fail) else fail
  | _ => fail
def blE (T : Tb) (r : EvX) (C : Ct) (f : Str) (args : List Expr) : M Val := match lenSt T r C f args with
  | some m => m
  | none => match args with
    | [] => fail
    | a :: es => bltC f ((a :: es).map (r.E C))
def frE (T : Tb) (r : EvX) (C : Ct) (f : Str) (args : List Expr) : M Val := if T.fr f then (if f = ("isinstance" : Str) then isiE T r C args else blE T r C f args) else fail
def shE (T : Tb) (r : EvX) (C : Ct) (f : Str) : List Expr → M Val
  | [] => frE T r C f []
  | a :: es => match T.fnk f (es.length + 1) [] with
    | some (bs, ev, q) => callK bs ev q.srcs q.n q.ks.length ((a :: es).map (r.E C)) []
    | none => frE T r C f (a :: es)
def callE (T : Tb) (r : EvX) (C : Ct) (f : Str) (args : List Expr) : M Val :=
  if isGl C f && (noDbg f && args.all notStar) then match T.fns f with
    | some (bs, ev) => callV bs ev (args.map (r.E C))
    | none => shE T r C f args
  else fail
def kwE (T : Tb) (r : EvX) (C : Ct) (f : Str) (args : List Expr) (kws : List Keyword) : M Val :=
  if isGl C f && (noDbg f && (args.all notStar && kws.all kwOk)) then match args, T.fnk f args.length (kws.filterMap (·.arg)) with
    | a :: es, some (bs, ev, q) => callK bs ev q.srcs q.n q.ks.length ((a :: es).map (r.E C)) ((kws.map (·.value)).map (r.E C))
    | _, _ => fail
  else fail
def dctE (r : EvX) (C : Ct) : List (Option Expr) → List Expr → List (M Val × M Val)
  | some k :: ks, v :: vs => (r.E C k, r.E C v) :: dctE r C ks vs
  | _, _ => []
def wkE (r : EvX) (C : Ct) (f : Str) (args : List Expr) (tg : Expr) : M (List D) :=
  if f = ("range" : Str) then (match args with
    | [x] => rngC rng1B [r.E C x]
    | [x, y] => rngC rng2B [r.E C x, r.E C y]
    | _ => fail)
  else match tg with
    | .Tuple _ _ _ => if f = ("enumerate" : Str) then (match args with
        | [x] => walkC enB [r.E C x]
        | _ => fail)
      else (match args with
        | [x, y] => walkC zp2B [r.E C x, r.E C y]
        | [x, y, z] => walkC zp3B [r.E C x, r.E C y, r.E C z]
        | _ => fail)
    | _ => fail
def isWk (f : Str) : Bool := decide (f = ("range" : Str)) || (decide (f = ("enumerate" : Str)) || decide (f = ("zip" : Str)))
def itE (T : Tb) (r : EvX) (C : Ct) (tg : Expr) (iter : Expr) : M (List D) := match iter with
  | .Call (.Name f _) args [] _ => if isGl C f && (T.fr f && (args.all notStar && isWk f)) then wkE r C f args tg else iterC (r.E C iter)
  | _ => iterC (r.E C iter)
def tgtE (r : EvX) (C : Ct) : Expr → Val → M Unit
  | .Name x _ => if okSt C x then (match ixOf C.N x with
    | some i => asgN i
    | none => fun _ => fail) else fun _ => fail
  | .Subscript o i _ => if notSlice i then asgI (r.E C o) (r.E C i) else fun _ => fail
  | _ => fun _ => fail
def tgE (r : EvX) (C : Ct) : Expr → Val → M Unit
  | .Tuple es _ _ => if es.all notStar then asgTn (es.map (tgtE r C)) else fun _ => fail
  | e => tgtE r C e
def tgIx0 (C : Ct) : Expr → List Nat
  | .Name x _ => (ixOf C.N x).toList
  | _ => []
def tgIx (C : Ct) : Expr → List Nat
  | .Tuple es _ _ => es.flatMap (tgIx0 C)
  | e => tgIx0 C e
def tsE (r : EvX) (C : Ct) : List Expr → M Bool
  | [] => ret true
  | [c] => r.T C c
  | _ => fail
def notSet : Expr → Bool
  | .Set .. => false
  | _ => true
def ownOf (C : Ct) (scope : Scope) : List (Str × Nat) := scope.names.filterMap fun y => match y.2 with
  | .local => (ixOf C.N y.1).map fun i => (y.1, i)
  | .cell => (ixOf C.N y.1).map fun i => (y.1, i)
  | _ => none
def blkCt (C : Ct) (scope : Scope) : Ct := { N := C.N, sc := relS scope C.sc, fn := fun x => scope.names.lookup x == some .cell }
def lcE (T : Tb) (r : EvX) (C : Ct) (elt tg iter : Expr) (ifs : List Expr) (scope : Scope) : M Val :=
  if blkC C.N C.sc scope (ownOf C scope) && ((tgIx C tg).all (fun i => decide (i ∈ (ownOf C scope).map Prod.snd)) && notSet iter) then
    lcC ((ownOf C scope).map Prod.snd) (itE T r C tg iter) (tgE r (blkCt C scope) tg) (tsE r (blkCt C scope) ifs) (r.E (blkCt C scope) elt)
  else fail
def ptE (r : EvX) (C : Ct) : Option Expr → M (Option Int)
  | none => noC
  | some a => partC (r.E C a)
def opOk : Operator → Bool
  | .Add => true | .Sub => true | .Mult => true | .FloorDiv => true | .Mod => true | .Pow => true
  | _ => false
def stepE (T : Tb) (r : EvX) (C : Ct) : Expr → M Val
  | .Constant (.int i) _ _ => conC (.int i)
  | .Constant (.bool b) _ _ => conC (.bl b)
  | .Constant .none _ _ => conC .non
  | .Constant (.str x) _ _ => conC (.str x)
  | .Name x _ => nameE T C x
  | .BinOp a op b _ => if opOk op then binC (binOf op) (r.E C a) (r.E C b) else fail
  | .UnaryOp .Not a _ => notC (truC (r.E C a))
  | .UnaryOp .USub a _ => negC (r.E C a)
  | .Compare a [op] [b] _ => if behindInMarks op b then fail else binC (cmpOf op) (r.E C a) (r.E C b)
  | .Compare a [op, op'] [b, c] _ => if lastMarks [op, op'] [b, c] then fail else chnC (cmpOf op) (cmpOf op') (r.E C a) (r.E C b) (r.E C c)
  | .BoolOp op es _ => bopC (op == .Or) (es.map (r.E C))
  | .IfExp c a b _ => ifC (r.T C c) (r.E C a) (r.E C b)
  | .Tuple es _ _ => if es.all notStar then tupC (es.map (r.E C)) else fail
  | .List es _ => if es.all notStar then lstC (es.map (r.E C)) else fail
  | .Subscript a (.Slice lo hi none _) _ => sliC (r.E C a) (ptE r C lo) (ptE r C hi)
  | .Subscript a (.Slice none none (some (.UnaryOp .USub (.Constant (.int i) _ _) _)) _) _ => if i = 1 then revC (r.E C a) else fail
  | .Dict [] [] _ => dct0C
  | .Dict keys values _ => if keys.all (·.isSome) = true ∧ keys.length = values.length ∧ keys ≠ [] ∧ keys.length ≤ 15 then dictC (dctE r C keys values) else fail
  | .Subscript a b _ => if notSlice b then ixC (r.E C a) (r.E C b) else fail
  | .Call (.Name f _) args [] _ => callE T r C f args
  | .Call (.Name f _) args kws _ => kwE T r C f args kws
  | .Call (.Attribute o m ap) [a] [] cp => if m = ("append" : Str) then (if notStar a && (notCall o && (ap.endLine == cp.line)) then appC (r.E C o) (r.E C a) else fail) else fail
  | .ListComp elt [⟨tg, iter, ifs, 0⟩] scope _ => lcE T r C elt tg iter ifs scope
  | _ => fail
def plainT : Expr → Bool
  | .UnaryOp .Not _ _ => false
  | .BoolOp .. => false
  | .IfExp .. => false
  | .Compare .. => false
  | _ => true
def stepT (T : Tb) (r : EvX) (C : Ct) : Expr → M Bool
  | .UnaryOp .Not a _ => notT (r.T C a)
  | .BoolOp op es _ => bopT (op == .Or) (es.map (r.T C))
  | .Compare a [op] [b] _ => if behindInMarks op b then fail else cmpT (binC (cmpOf op) (r.E C a) (r.E C b))
  | .Compare a [op, op'] [b, c] _ => if lastMarks [op, op'] [b, c] then fail else cmpT (chnC (cmpOf op) (cmpOf op') (r.E C a) (r.E C b) (r.E C c))
  | e => if plainT e then truC (r.E C e) else fail
def evN (T : Tb) : Nat → EvX
  | 0 => ⟨fun _ _ => fail, fun _ _ => fail⟩
  | n + 1 => ⟨stepE T (evN T n), stepT T (evN T n)⟩

/-! ### it says what the program does -/
structure XOk (T : Tb) (X : Cx) (C : Ct) (W : WX) : Prop where
  calm : X.calm = true
  tk : Takes X W
  po : PassesOwn (model X.prog X.w) X.A X.env X.xe
  N : X.N = C.N
  nd : C.N.Nodup
  sc : X.env.scope = C.sc
  fn : ∀ x, C.fn x = true → X.fn x = true
  gu : X.A.guards = some []
  un : X.A.units + 200 < cLine
  gl : ∀ x d, T.gl x = some d → ∃ u v, X.mg x = some u ∧ RelV v u ∧ ∀ G, Rep X.K G v d
  fr : ∀ x, T.fr x = true → X.mg x = none
  fns : ∀ x bs ev, T.fns x = some (bs, ev) → ∃ (k : Nat) (f : Addr) (fd : FuncData) (ps : List Str), FnG X.prog X.w X.K X.mg X.base k f fd ps ev ∧ Room k X.A ∧ X.mg x = some (.ref f) ∧ PySem.W.keepIn X.K (.ref f) = true ∧ Binds X.K fd ps [] ∧ ∀ ss, ev ss ≠ .err → ss.length = ps.length
  fnk : ∀ x n ks bs ev q, T.fnk x n ks = some (bs, ev, q) → q.ks = ks ∧ ∃ (k : Nat) (f : Addr) (fd : FuncData) (ps : List Str), FnG X.prog X.w X.K X.mg X.base k f fd ps ev ∧ Room k X.A ∧ X.mg x = some (.ref f) ∧ PySem.W.keepIn X.K (.ref f) = true ∧ KBs X.K fd ps q ∧ ∀ ss, ev ss ≠ .err → ss.length = ps.length
theorem takes0 {X : Cx} : Takes X W0 := fun u s' ⟨_, _, _, _, _, _, _, _, _, _, _, _, _, _, _, _, z⟩ => z.elim
theorem XOk.blk {T : Tb} {X : Cx} {C : Ct} {W : WX} {scope : Scope} (k : XOk T X C W) (s : Shared) (H : Hp) (A : Addr) (cl : List (Str × Addr)) (fp : List Addr) : XOk T (X.blk s H scope (compEnvC scope cl A X.env) fp) (blkCt C scope) W0 where
  calm := k.calm
  tk := takes0
  po := PassesOwn.never
  N := k.N
  nd := k.nd
  sc := by show relS scope X.env.scope = relS scope C.sc; rw [k.sc]
  fn := fun x h => h
  gu := k.gu
  un := k.un
  gl := k.gl
  fr := k.fr
  fns := k.fns
  fnk := k.fnk
structure Snd (T : Tb) (r : EvX) : Prop where
  E : ∀ X C W e, XOk T X C W → PE X e (tEv X.K W (r.E C e))
  T : ∀ X C W e, XOk T X C W → PT X e (tTv X.K W (r.T C e))
theorem pe_fail {X : Cx} {W : WX} {e : Expr} : PE X e (tEv X.K W fail) := ⟨fun pins s σ H Q I h => by obtain ⟨_, _, _, _, _, _, oc⟩ := h; exact False.elim oc⟩
theorem pt_fail {X : Cx} {W : WX} {e : Expr} : PT X e (tTv X.K W fail) := ⟨fun pins s σ H Q I h => by obtain ⟨_, _, _, _, _, _, oc⟩ := h; exact False.elim oc⟩
theorem pi_fail {X : Cx} {W : WX} {tg e : Expr} : PI X tg e (tIv X.K W fail) := ⟨fun pins s σ H Q I h => by obtain ⟨_, _, _, _, _, _, oc⟩ := h; exact False.elim oc⟩
theorem pg_fail {X : Cx} {W : WX} {e : Expr} {ixs : List Nat} : PG X e (tGv X.K W ixs fun _ => fail) := ⟨fun pins s σ H v u Q I r h => by obtain ⟨_, _, _, _, _, _, _, _, oc⟩ := h; exact False.elim oc⟩
theorem ps_fail {X : Cx} {W : WX} {e : Stmt} : PS X e (tSv X.K W fail) := ⟨fun pins s σ H D I h => by obtain ⟨_, _, _, _, _, _, oc⟩ := h; exact False.elim oc⟩
theorem pss_fail {X : Cx} {W : WX} {e : List Stmt} : PSs X e (tSv X.K W fail) := ⟨fun pins s σ H D I h => by obtain ⟨_, _, _, _, _, _, oc⟩ := h; exact False.elim oc⟩
theorem po_fail {X : Cx} {W : WX} {e : Option Expr} : PO X e (tOv X.K W fail) := ⟨fun pins s σ H Q I h => by obtain ⟨_, _, _, _, _, _, oc⟩ := h; exact False.elim oc⟩
theorem paired_map {α β : Type} {p : α → β → Prop} {f : α → β} (h : ∀ a, p a (f a)) : ∀ l : List α, Paired p l (l.map f)
  | [] => .nil
  | a :: r => .cons (h a) (paired_map h r)
theorem sndEs {T : Tb} {r : EvX} {X : Cx} {C : Ct} {W : WX} (sr : Snd T r) (k : XOk T X C W) : ∀ l : List Expr, Paired (fun a f => PE X a (tEv X.K W f)) l (l.map (r.E C))
  | [] => .nil
  | a :: l => .cons (sr.E X C W a k) (sndEs sr k l)
theorem sndTs {T : Tb} {r : EvX} {X : Cx} {C : Ct} {W : WX} (sr : Snd T r) (k : XOk T X C W) : ∀ l : List Expr, Paired (fun a f => PT X a (tTv X.K W f)) l (l.map (r.T C))
  | [] => .nil
  | a :: l => .cons (sr.T X C W a k) (sndTs sr k l)
theorem plain_is : ∀ {e : Expr}, plainT e = true → ∀ (env : Env) (whole : Sem Value), isTrue e env whole = (do let v ← whole; standAt e.pos; holding [v] (truthy v)) := by
  intro e h env whole
  cases e <;> first
    | rfl
    | cases h
    | (rename_i op _ _; cases op <;> first | rfl | cases h)
theorem tGv_wide {X : Cx} {W : WX} {e : Expr} {ixs jxs : List Nat} {f : Val → M Unit} (h : PG X e (tGv X.K W ixs f)) (s : ∀ i ∈ ixs, i ∈ jxs) : PG X e (tGv X.K W jxs f) :=
  PG_mono h fun v σ H Q ⟨pn, A, e, G, R, val, g, r, oc⟩ => ⟨pn, A, e, G, R, val, g, r, by
    unfold OcG at *
    cases q : f val e with
    | err => rw [q] at oc; exact oc
    | ex x e' => rw [q] at oc; exact oc
    | ok p => rw [q] at oc; exact fun σ' A' G' H' x s' g' => (oc : FinG X.K jxs pn p.2 σ G R Q) σ' A' G' H' x (s'.of s) g'⟩
section
variable {T : Tb} {r : EvX} {X : Cx} {C : Ct} {W : WX}
theorem noDbg_ok {x : Str} (h : noDbg x = true) : (x == ("__debug__" : Str)) = false ∧ (x == ("__classdict__" : Str)) = false := by
  unfold noDbg at h
  rw [Bool.and_eq_true] at h
  exact ⟨by simpa using h.1, by simpa using h.2⟩
theorem gl_ok (k : XOk T X C W) {x : Str} (h : isGl C x = true) : Gl X x := by
  show X.env.scope.names.lookup x = _
  rw [k.sc]
  exact of_decide_eq_true h
theorem snd_name (k : XOk T X C W) {x : Str} {p : Pos} : PE X (.Name x p) (tEv X.K W (nameE T C x)) := by
  unfold nameE
  split
  · rename_i hd
    obtain ⟨d1, d2⟩ := noDbg_ok hd
    split
    · rename_i hv
      split
      · rename_i i hi
        refine se_name (by rw [k.N]; exact ixOf_ok hi) ?_ d1 d2
        unfold isVis at hv
        unfold Vis
        rw [k.sc]
        split at hv
        · exact .inl (by assumption)
        · exact .inr (.inl (by assumption))
        · exact .inr (.inr (by assumption))
        · cases hv
      · exact pe_fail
    · split
      · rename_i hg
        split
        · rename_i d hd
          obtain ⟨u, v, m, rv, rp⟩ := k.gl _ _ hd
          exact se_glob (gl_ok k hg) m rv rp d1
        · exact pe_fail
      · exact pe_fail
  · exact pe_fail
theorem snd_blt2 (k : XOk T X C W) {f : Str} {p pos : Pos} {a : Expr} {es : List Expr} {fs : List (M Val)} (hg : Gl X f) (hm : X.mg f = none) (hs : (a :: es).all notStar = true) (h : Paired (fun a f => PE X a (tEv X.K W f)) (a :: es) fs) (hd : (f == ("__debug__" : Str)) = false) :
    PE X (.Call (.Name f p) (a :: es) [] pos) (tEv X.K W (bltC2 f fs)) := by
  unfold bltC2
  split; · rename_i z; subst z; exact se_callB cr_srt ok_srt hg hm (by decide +kernel) (by decide +kernel) hd hs h
  exact pe_fail
theorem snd_blt (k : XOk T X C W) {f : Str} {p pos : Pos} {a : Expr} {es : List Expr} {fs : List (M Val)} (hg : Gl X f) (hm : X.mg f = none) (hs : (a :: es).all notStar = true) (h : Paired (fun a f => PE X a (tEv X.K W f)) (a :: es) fs) (hd : (f == ("__debug__" : Str)) = false) :
    PE X (.Call (.Name f p) (a :: es) [] pos) (tEv X.K W (bltC f fs)) := by
  unfold bltC
  split; · rename_i z; subst z; exact se_callB call_len ok_len hg hm (by decide +kernel) (by decide +kernel) hd hs h
  split; · rename_i z; subst z; exact se_callB call_abs ok_abs hg hm (by decide +kernel) (by decide +kernel) hd hs h
  split; · rename_i z; subst z; exact se_callB (call_max2 k.calm) ok_max hg hm (by decide +kernel) (by decide +kernel) hd hs h
  split; · rename_i z; subst z; exact se_callB (call_min2 k.calm) ok_min hg hm (by decide +kernel) (by decide +kernel) hd hs h
  split; · rename_i z; subst z; exact se_callTy call_int1 ok_int hg hm (by decide +kernel) (by decide +kernel) hd hs h
  split; · rename_i z; subst z; exact se_callB (cr_all k.calm) ok_all hg hm (by decide +kernel) (by decide +kernel) hd hs h
  split; · rename_i z; subst z; exact se_callB (cr_any k.calm) ok_any hg hm (by decide +kernel) (by decide +kernel) hd hs h
  split; · rename_i z; subst z; exact se_callB (cr_sum k.calm) ok_sum hg hm (by decide +kernel) (by decide +kernel) hd hs h
  split; · rename_i z; subst z; exact se_callTy call_list_of ok_list hg hm (by decide +kernel) (by decide +kernel) hd hs h
  split; · rename_i z; subst z; exact se_callTy call_tuple_of ok_tuple hg hm (by decide +kernel) (by decide +kernel) hd hs h
  split; · rename_i z; subst z; exact se_callB (call_reprA k.gu k.un) ok_repr hg hm (by decide +kernel) (by decide +kernel) hd hs h
  split; · rename_i z; subst z; exact se_callTy call_strA ok_str hg hm (by decide +kernel) (by decide +kernel) hd hs h
  exact snd_blt2 k hg hm hs h hd
theorem isiOf_ok {y : Str} {t : String} (h : isiOf y = some t) : bootBuiltins y = some (.type t) ∧ y ≠ "__name__" := by
  unfold isiOf at h
  split at h; · rename_i z; subst z; cases h; exact ⟨by decide +kernel, by decide +kernel⟩
  split at h; · rename_i z; subst z; cases h; exact ⟨by decide +kernel, by decide +kernel⟩
  split at h; · rename_i z; subst z; cases h; exact ⟨by decide +kernel, by decide +kernel⟩
  split at h; · rename_i z; subst z; cases h; exact ⟨by decide +kernel, by decide +kernel⟩
  split at h; · rename_i z; subst z; cases h; exact ⟨by decide +kernel, by decide +kernel⟩
  split at h; · rename_i z; subst z; cases h; exact ⟨by decide +kernel, by decide +kernel⟩
  cases h
theorem snd_isi (sr : Snd T r) (k : XOk T X C W) {p pos : Pos} {args : List Expr} (hg : Gl X "isinstance") (hm : X.mg "isinstance" = none) (h3 : args.all notStar = true) : PE X (.Call (.Name "isinstance" p) args [] pos) (tEv X.K W (isiE T r C args)) := by
  unfold isiE
  split
  · split
    · rename_i a y p2 hy
      rw [Bool.and_eq_true, Bool.and_eq_true] at hy
      split
      · rename_i t ht
        rw [List.all_cons, Bool.and_eq_true] at h3
        obtain ⟨b1, b2⟩ := isiOf_ok ht
        exact se_isi (sr.E X C W a k) hg hm (gl_ok k hy.1) (k.fr _ hy.2.1) b1 b2 (noDbg_ok hy.2.2).1 h3.1
      · exact pe_fail
    · exact pe_fail
  · exact pe_fail
theorem snd_bl (sr : Snd T r) (k : XOk T X C W) {f : Str} {p pos : Pos} {args : List Expr} (hg : Gl X f) (hm : X.mg f = none) (h3 : args.all notStar = true) (hd : (f == ("__debug__" : Str)) = false) : PE X (.Call (.Name f p) args [] pos) (tEv X.K W (blE T r C f args)) := by
  unfold blE
  split
  · rename_i m hq
    unfold lenSt at hq
    split at hq
    · split at hq
      · rename_i c
        obtain ⟨rfl, rfl, c3, c4, c5⟩ := c
        cases hq
        exact se_lenSt k.calm hg hm (gl_ok k c3) (k.fr _ c4) (sr.E X C W _ k) c5
      · cases hq
    · cases hq
  · split
    · exact pe_fail
    · exact snd_blt k hg hm h3 (sndEs sr k _) hd
theorem snd_fr (sr : Snd T r) (k : XOk T X C W) {f : Str} {p pos : Pos} {args : List Expr} (hg : Gl X f) (h3 : args.all notStar = true) (hd : (f == ("__debug__" : Str)) = false) : PE X (.Call (.Name f p) args [] pos) (tEv X.K W (frE T r C f args)) := by
  unfold frE
  split
  · rename_i hf
    split
    · rename_i z
      subst z
      exact snd_isi sr k hg (k.fr _ hf) h3
    · exact snd_bl sr k hg (k.fr _ hf) h3 hd
  · exact pe_fail
theorem snd_sh (sr : Snd T r) (k : XOk T X C W) {f : Str} {p pos : Pos} {args : List Expr} (hg : Gl X f) (h3 : args.all notStar = true) (hd : (f == ("__debug__" : Str)) = false) : PE X (.Call (.Name f p) args [] pos) (tEv X.K W (shE T r C f args)) := by
  cases args with
  | nil => exact snd_fr sr k hg h3 hd
  | cons a es =>
    have e0 : shE T r C f (a :: es) = (match T.fnk f (es.length + 1) [] with
      | some (bs, ev, q) => callK bs ev q.srcs q.n q.ks.length ((a :: es).map (r.E C)) []
      | none => frE T r C f (a :: es)) := rfl
    rw [e0]
    cases hf : T.fnk f (es.length + 1) [] with
    | none => exact snd_fr sr k hg h3 hd
    | some z =>
      obtain ⟨bs, ev, q⟩ := z
      obtain ⟨e, kk, fa, fd, ps, F, hr, hm, hk, hb, hl⟩ := k.fnk _ _ _ _ _ _ hf
      exact se_callK (kws := []) (gs := []) F hr k.gu k.tk hg hm hk hb hl hd h3 rfl e.symm (sndEs sr k _) .nil
theorem snd_call (sr : Snd T r) (k : XOk T X C W) {f : Str} {p pos : Pos} {args : List Expr} : PE X (.Call (.Name f p) args [] pos) (tEv X.K W (callE T r C f args)) := by
  unfold callE
  split
  · rename_i h
    rw [Bool.and_eq_true, Bool.and_eq_true] at h
    obtain ⟨h1, h2, h3⟩ := h
    have hg := gl_ok k h1
    have hd := (noDbg_ok h2).1
    split
    · rename_i bs ev hf
      obtain ⟨kk, fa, fd, ps, F, hr, hm, hk, hb, hl⟩ := k.fns _ _ _ hf
      cases args with
      | nil => exact se_call0 F hr k.gu k.tk hg hm hk hb hl hd
      | cons a es => exact se_call F hr k.gu k.tk hg hm hk hb hl hd h3 (sndEs sr k _)
    · exact snd_sh sr k hg h3 hd
  · exact pe_fail
theorem snd_kw (sr : Snd T r) (k : XOk T X C W) {f : Str} {p pos : Pos} {args : List Expr} {kws : List Keyword} : PE X (.Call (.Name f p) args kws pos) (tEv X.K W (kwE T r C f args kws)) := by
  unfold kwE
  split
  · rename_i h
    simp only [Bool.and_eq_true] at h
    obtain ⟨h1, h2, h3, h4⟩ := h
    have hg := gl_ok k h1
    have hd := (noDbg_ok h2).1
    split
    · rename_i a es bs ev q hf
      obtain ⟨e, kk, fa, fd, ps, F, hr, hm, hk, hb, hl⟩ := k.fnk _ _ _ _ _ _ hf
      exact se_callK F hr k.gu k.tk hg hm hk hb hl hd h3 h4 e.symm (sndEs sr k _) (sndEs sr k _)
    · exact pe_fail
  · exact pe_fail
theorem snd_ps (sr : Snd T r) (k : XOk T X C W) {pos : Pos} : ∀ (keys : List (Option Expr)) (values : List Expr), keys.all (·.isSome) = true → keys.length = values.length → PPs X pos keys values ((dctE r C keys values).map fun q => (tEv X.K W q.1, tEv X.K W q.2))
  | [], [], _, _ => pps_nil
  | [], _ :: _, _, h => by cases h
  | _ :: _, [], _, h => by cases h
  | none :: _, _ :: _, h, _ => by cases h
  | some a :: ks, v :: vs, h, l => by
    rw [List.all_cons, Bool.and_eq_true] at h
    exact pps_cons (sr.E X C W a k) (sr.E X C W v k) (snd_ps sr k ks vs h.2 (by simpa using l))
theorem snd_it (sr : Snd T r) (k : XOk T X C W) {tg iter : Expr} : PI X tg iter (tIv X.K W (itE T r C tg iter)) := by
  have dflt : PI X tg iter (tIv X.K W (iterC (r.E C iter))) := si_iter (sr.E X C W iter k)
  unfold itE
  split
  · split
    · rename_i f p args pos h
      simp only [Bool.and_eq_true] at h
      obtain ⟨h1, h2, h3, h4⟩ := h
      have hg := gl_ok k h1
      have hm := k.fr _ h2
      unfold wkE
      split
      · rename_i z
        subst z
        split
        · rw [List.all_cons, Bool.and_eq_true] at h3
          exact si_rng1 hg hm h3.1 (sr.E X C W _ k)
        · simp only [List.all_cons, Bool.and_eq_true] at h3
          exact si_rng2 hg hm h3.1 h3.2.1 (sr.E X C W _ k) (sr.E X C W _ k)
        · exact pi_fail
      · rename_i hz
        split
        · split
          · rename_i z
            subst z
            split
            · rw [List.all_cons, Bool.and_eq_true] at h3
              exact si_en hg hm h3.1 (sr.E X C W _ k)
            · exact pi_fail
          · rename_i hz2
            have hf : f = ("zip" : Str) := by
              unfold isWk at h4
              simpa [hz, hz2] using h4
            subst hf
            split
            · simp only [List.all_cons, Bool.and_eq_true] at h3
              exact si_zp2 hg hm h3.1 h3.2.1 (sr.E X C W _ k) (sr.E X C W _ k)
            · simp only [List.all_cons, Bool.and_eq_true] at h3
              exact si_zp3 hg hm h3.1 h3.2.1 h3.2.2.1 (sr.E X C W _ k) (sr.E X C W _ k) (sr.E X C W _ k)
            · exact pi_fail
        · exact pi_fail
    · exact dflt
  · exact dflt
theorem okSt_ok (k : XOk T X C W) {x : Str} (h : okSt C x = true) : L2.Loc X.env.scope x ∧ (X.fn x = true ∨ X.env.scope.names.lookup x = some .local) := by
  unfold okSt at h
  unfold L2.Loc
  rw [k.sc]
  rw [Bool.or_eq_true] at h
  rcases h with h | h
  · have := of_decide_eq_true h
    exact ⟨.inl this, .inr this⟩
  · rw [Bool.and_eq_true] at h
    have := of_decide_eq_true h.1
    exact ⟨.inr this, .inl (k.fn _ h.2)⟩
theorem snd_tgt (sr : Snd T r) (k : XOk T X C W) {tg : Expr} : PG X tg (tGv X.K W (tgIx0 C tg) (tgtE r C tg)) := by
  unfold tgtE
  split
  · split
    · rename_i h
      obtain ⟨h1, h2⟩ := okSt_ok k h
      split
      · rename_i i hi
        unfold tgIx0
        simp only [hi]
        exact sg_name (by rw [k.N]; exact k.nd) (by rw [k.N]; exact ixOf_ok hi) h1 h2
      · exact pg_fail
    · exact pg_fail
  · split
    · rename_i h
      exact sg_sub (by have := k.un; omega) (sr.E X C W _ k) (sr.E X C W _ k) h
    · exact pg_fail
  · exact pg_fail
theorem snd_tg (sr : Snd T r) (k : XOk T X C W) {tg : Expr} : PG X tg (tGv X.K W (tgIx C tg) (tgE r C tg)) := by
  unfold tgE
  split
  · rename_i es _ _
    split
    · rename_i h
      refine sg_tup k.calm h ?_
      unfold tgIx
      have : ∀ l : List Expr, (∀ a ∈ l, a ∈ es) → Paired (fun a f => PG X a (tGv X.K W (es.flatMap (tgIx0 C)) f)) l (l.map (tgtE r C)) := by
        intro l
        induction l with
        | nil => intro _; exact .nil
        | cons a l ih => intro hl; exact .cons (tGv_wide (snd_tgt sr k) fun i hi => List.mem_flatMap.mpr ⟨a, hl a List.mem_cons_self, hi⟩) (ih fun b hb => hl b (List.mem_cons_of_mem _ hb))
      exact this es fun _ h => h
    · exact pg_fail
  · rename_i hne
    have e : tgIx C tg = tgIx0 C tg := by
      unfold tgIx
      split
      · rename_i es kk pp; exact absurd rfl (hne es kk pp)
      · rfl
    rw [e]
    exact snd_tgt sr k
theorem notSet_ok {iter : Expr} {env : Env} (h : notSet iter = true) (x : Value) : foldedSetIterable iter env x = pure x := by
  cases iter <;> first | rfl | cases h
theorem snd_ts (sr : Snd T r) (k : XOk T X C W) {ifs : List Expr} : PTs X ifs (tTv X.K W (tsE r C ifs)) := by
  unfold tsE
  split
  · exact ⟨fun pins s σ H Q I h => pts_nil.run pins s σ H Q I (by
      obtain ⟨pn, A, e, G, R, g, oc⟩ := h
      exact (oc_ret oc) _ A G H (Ex.refl G) g rfl)⟩
  · exact pts_one (sr.T X C W _ k)
  · exact ⟨fun pins s σ H Q I h => by obtain ⟨_, _, _, _, _, _, oc⟩ := h; exact False.elim oc⟩
theorem lc_parts {elt tg iter : Expr} {ifs : List Expr} {scope : Scope} (h : (blkC C.N C.sc scope (ownOf C scope) && ((tgIx C tg).all (fun i => decide (i ∈ (ownOf C scope).map Prod.snd)) && notSet iter)) = true) (k : XOk T X C W) :
    BlkOk X.N X.env.scope scope (ownOf C scope) ∧ (∀ i ∈ tgIx (blkCt C scope) tg, i ∈ (ownOf C scope).map Prod.snd) ∧ notSet iter = true := by
  rw [Bool.and_eq_true, Bool.and_eq_true] at h
  refine ⟨by rw [k.N, k.sc]; exact blkOk_by h.1, fun i hi => ?_, h.2.2⟩
  have hi' : i ∈ tgIx C tg := hi
  exact of_decide_eq_true (List.all_eq_true.mp h.2.1 i hi')
theorem blkE (sr : Snd T r) (k : XOk T X C W) {elt : Expr} {scope : Scope} (s : Shared) (H : Hp) (A : Addr) (cl : List (Str × Addr)) (fp : List Addr) : PE (X.blk s H scope (compEnvC scope cl A X.env) fp) elt (tEv X.K W0 (r.E (blkCt C scope) elt)) := sr.E _ _ _ _ (k.blk s H A cl fp)
theorem blkG (sr : Snd T r) (k : XOk T X C W) {tg : Expr} {scope : Scope} (s : Shared) (H : Hp) (A : Addr) (cl : List (Str × Addr)) (fp : List Addr) : PG (X.blk s H scope (compEnvC scope cl A X.env) fp) tg (tGv X.K W0 (tgIx (blkCt C scope) tg) (tgE r (blkCt C scope) tg)) := snd_tg sr (k.blk s H A cl fp)
theorem blkT (sr : Snd T r) (k : XOk T X C W) {ifs : List Expr} {scope : Scope} (s : Shared) (H : Hp) (A : Addr) (cl : List (Str × Addr)) (fp : List Addr) : PTs (X.blk s H scope (compEnvC scope cl A X.env) fp) ifs (tTv X.K W0 (tsE r (blkCt C scope) ifs)) := snd_ts sr (k.blk s H A cl fp)
theorem snd_lc (sr : Snd T r) (k : XOk T X C W) {elt tg iter : Expr} {ifs : List Expr} {scope : Scope} {pos : Pos} : PE X (.ListComp elt [⟨tg, iter, ifs, 0⟩] scope pos) (tEv X.K W (lcE T r C elt tg iter ifs scope)) := by
  unfold lcE
  split
  · rename_i h
    obtain ⟨h1, h2, h3⟩ := lc_parts (elt := elt) (ifs := ifs) h k
    exact PE_mono (pe_lc k.calm (by rw [k.N]; exact k.nd) (snd_it sr k) h1 (blkG sr k) (blkT sr k) (blkE sr k) (notSet_ok h3)) (tlc h2)
  · exact pe_fail
theorem ss_setLc (sr : Snd T r) (k : XOk T X C W) {y : Str} {i : Nat} {py : Pos} {elt tg iter : Expr} {ifs : List Expr} {scope : Scope} {pos spos : Pos} (hy : C.N[i]? = some y) (hl : isLoc C y = true)
    (hk : C.sc.kind = .function) (hp : (py.line == pos.line) = true) (ha : (scope.names.any fun (n, k) => n == y && (k == .local || k == .cell)) = false) :
    PS X (.Assign [.Name y py] (.ListComp elt [⟨tg, iter, ifs, 0⟩] scope pos) spos) (tSv X.K W (asS (lcE T r C elt tg iter ifs scope) (asgN i))) := by
  unfold lcE
  split
  · rename_i h
    obtain ⟨h1, h2, h3⟩ := lc_parts (elt := elt) (ifs := ifs) h k
    have hyl : X.env.scope.names.lookup y = some .local := by rw [k.sc]; exact of_decide_eq_true hl
    refine PS_mono (ps_setLc k.calm (by rw [k.N]; exact k.nd) (by rw [k.N]; exact hy) hyl (sw_true (by rw [k.sc]; exact hk) hyl hp ha) (snd_it sr k) h1 (blkG sr k) (blkT sr k) (blkE sr k) (notSet_ok h3)) fun D σ H q => ?_
    obtain ⟨pn, A, e, G, R, g, oc⟩ := q
    refine tlc h2 _ _ _ (chainS g oc fun x v A1 e1 G1 H1 x1 g1 r1 oc1 => ?_)
    have z : tGv X.K W [i] (asgN i) x σ H1 fun σ' H' => D.nx σ' H' := chainT g1 r1 oc1 rfl fun σ2 A2 e2 G2 H2 x2 s2 g2 oc2 => (show FinS X.K pn e2 σ.length G2 R D .nx from oc2) σ2 A2 G2 H2 (Ex.refl _) s2.1 g2
    obtain ⟨pn', A', e', G', R', val', g', r', oc'⟩ := z
    exact ocg_asgN g' r' oc' (List.mem_singleton.mpr rfl)
  · refine PS_mono (ps_fail (W := W)) fun D σ H q => ?_
    obtain ⟨pn, A, e, G, R, g, oc⟩ := q
    exact False.elim oc
theorem snd_pt (sr : Snd T r) (k : XOk T X C W) {o : Option Expr} : PO X o (tOv X.K W (ptE r C o)) := by
  cases o with
  | none => exact so_no
  | some a => exact so_part (sr.E X C W a k)
end
theorem snd_bin {X : Cx} {W : WX} {op : Operator} {a b : Expr} {pos : Pos} {fa fb : M Val} (ho : opOk op = true) (ha : PE X a (tEv X.K W fa)) (hb : PE X b (tEv X.K W fb)) : PE X (.BinOp a op b pos) (tEv X.K W (binC (binOf op) fa fb)) := by
  cases op with
  | Add => exact se_bin op_addA ok_add ha hb
  | Sub => exact se_bin op_sub ok_sub ha hb
  | Mult => exact se_bin op_mulA ok_mul ha hb
  | FloorDiv => exact se_bin op_fdivW ok_fdiv ha hb
  | Mod => exact se_bin op_mod ok_mod ha hb
  | Pow => exact se_bin op_powW ok_pow ha hb
  | _ => cases ho
theorem cmp_ops {X : Cx} (hu : X.A.units + 200 < cLine) (op : CmpOp) : ∃ r, OpR X (compareOp op) r ∧ ROK X.K r (cmpOf op) := by
  cases op with
  | Eq => exact ⟨_, op_eq.or ((op_eqD (by omega)).or (op_eqLen (by omega))), ok_eq⟩
  | NotEq => exact ⟨_, op_ne.or ((op_neD (by omega)).or (op_neLen (by omega))), ok_ne⟩
  | Lt => exact ⟨_, op_ltA, ok_lt⟩
  | LtE => exact ⟨_, op_leA, ok_le⟩
  | Gt => exact ⟨_, op_gtA, ok_gt⟩
  | GtE => exact ⟨_, op_geA, ok_ge⟩
  | In => exact ⟨_, op_inA, ok_in false⟩
  | NotIn => exact ⟨_, op_ninA, ok_in true⟩
  | Is => exact ⟨_, op_isA, ok_is false⟩
  | IsNot => exact ⟨_, op_nisA, ok_is true⟩
theorem snd_step {T : Tb} {r : EvX} (sr : Snd T r) : Snd T ⟨stepE T r, stepT T r⟩ where
  E := fun X C W e k => by
    show PE X e (tEv X.K W (stepE T r C e))
    unfold stepE
    split
    · exact se_int
    · exact se_bl
    · exact se_non
    · exact se_str
    · exact snd_name k
    · split
      · rename_i h; exact snd_bin h (sr.E X C W _ k) (sr.E X C W _ k)
      · exact pe_fail
    · exact se_not (sr.E X C W _ k)
    · exact se_neg (sr.E X C W _ k)
    · split
      · exact pe_fail
      · rename_i h
        obtain ⟨q, h1, h2⟩ := cmp_ops (X := X) k.un ‹CmpOp›
        exact se_cmp h1 h2 (sr.E X C W _ k) (sr.E X C W _ k) (by simpa using h)
    · split
      · exact pe_fail
      · rename_i op op' b c _ h
        obtain ⟨q, h1, h2⟩ := cmp_ops (X := X) k.un op
        obtain ⟨q', h1', h2'⟩ := cmp_ops (X := X) k.un op'
        exact se_chn h1 h1' h2 h2' (sr.E X C W _ k) (sr.E X C W _ k) (sr.E X C W _ k) (by simpa using h)
    · exact se_bop _ _ _ (sndEs sr k _)
    · exact se_if (sr.T X C W _ k) (sr.E X C W _ k) (sr.E X C W _ k)
    · split
      · rename_i h; exact se_tup h (sndEs sr k _)
      · exact pe_fail
    · split
      · rename_i h; exact se_lst h (sndEs sr k _)
      · exact pe_fail
    · exact se_sli (sr.E X C W _ k) (snd_pt sr k) (snd_pt sr k)
    · split
      · rename_i z; subst z; exact se_rev (sr.E X C W _ k)
      · exact pe_fail
    · exact se_dct0
    · split
      · rename_i h; exact se_dict (snd_ps sr k _ _ h.1 h.2.1) h.1 h.2.1 h.2.2.1 h.2.2.2
      · exact pe_fail
    · split
      · rename_i h; exact se_ix (sr.E X C W _ k) (sr.E X C W _ k) h
      · exact pe_fail
    · exact snd_call sr k
    · exact snd_kw sr k
    · split
      · rename_i z
        subst z
        split
        · rename_i h
          simp only [Bool.and_eq_true] at h
          exact se_app (sr.E X C W _ k) (sr.E X C W _ k) h.1 h.2.1 h.2.2
        · exact pe_fail
      · exact pe_fail
    · exact snd_lc sr k
    · exact pe_fail
  T := fun X C W e k => by
    show PT X e (tTv X.K W (stepT T r C e))
    unfold stepT
    split
    · exact st_not (sr.T X C W _ k)
    · exact (st_bop _ _ _ (sndTs sr k _)).pt
    · split
      · exact pt_fail
      · rename_i h
        obtain ⟨q, h1, h2⟩ := cmp_ops (X := X) k.un ‹CmpOp›
        exact st_cmp h1 h2 (sr.E X C W _ k) (sr.E X C W _ k) (by simpa using h)
    · split
      · exact pt_fail
      · rename_i op op' b c _ h
        obtain ⟨q, h1, h2⟩ := cmp_ops (X := X) k.un op
        obtain ⟨q', h1', h2'⟩ := cmp_ops (X := X) k.un op'
        exact st_chn h1 h1' h2 h2' (sr.E X C W _ k) (sr.E X C W _ k) (sr.E X C W _ k) (by simpa using h)
    · split
      · rename_i h
        exact st_tru (sr.E X C W e k) fun whole => plain_is h X.env whole
      · exact pt_fail
theorem snd_evN (T : Tb) : ∀ n, Snd T (evN T n)
  | 0 => ⟨fun _ _ _ _ _ => pe_fail, fun _ _ _ _ _ => pt_fail⟩
  | n + 1 => snd_step (snd_evN T n)
end Qv
namespace Qv
open PySem L2 PySem.Spec PyProof.Rows
open Evl (Ex)

/-! ### statements of the text -/
def isComp : Expr → Bool
  | .ListComp .. => true | .SetComp .. => true | .DictComp .. => true
  | _ => false
def noSwap : Expr → Expr → Bool
  | .Tuple .., .Tuple .. => false
  | .List .., _ => false
  | _, _ => true
def isStar : Expr → Bool
  | .Starred .. => true
  | _ => false
def parOk (C : Ct) (x y : Str) (px py : Pos) (a b : Expr) : Bool := decide (C.sc.kind = .function) && (isLoc C x && (isLoc C y && (decide (py.line = px.line) && (decide (x ≠ y) && (notStar a && (notStar b && (!([a, b].all (foldedForSure 8)) && !([a, b].all (constantsAlone 8)))))))))
def parNo (C : Ct) (x y : Str) (a b : Expr) : Bool := (!isLoc C x || !isLoc C y) && (okSt C x && (okSt C y && (notStar a && notStar b)))
def lcOk (C : Ct) (y : Str) (py lp : Pos) (scope : Scope) : Bool := isLoc C y && (decide (C.sc.kind = .function) && ((py.line == lp.line) && !(scope.names.any fun (n, k) => n == y && (k == .local || k == .cell))))
def stepS (T : Tb) (r : EvX) (wf : Nat) (B : Ct → List Stmt → M Fl) (C : Ct) : Stmt → M Fl
  | .Pass _ => nxS
  | .Break _ => bkS
  | .Continue _ => ctS
  | .Return none _ => rtN
  | .Return (some e) _ => rtS (r.E C e)
  | .Expr (.Constant (.str _) _ _) _ => nxS
  | .Expr e _ => if isComp e then fail else drS (r.E C e)
  | .If c a b _ => ifS (r.T C c) (B C a) (B C b)
  | .For tg iter body [] _ => if notSet iter then forS (itE T r C tg iter) (tgE r C tg) (B C body) else fail
  | .While c body [] _ => whS (r.T C c) (B C body) wf
  | .Assign [.Name y py] (.ListComp elt [⟨tg, iter, ifs, 0⟩] scope lp) _ => if lcOk C y py lp scope then (match ixOf C.N y with
    | some i => asS (lcE T r C elt tg iter ifs scope) (asgN i)
    | none => fail) else fail
  | .Assign [.Tuple [.Name x px, .Name y py] _ _] (.Tuple [a, b] _ _) _ => if parOk C x y px py a b then (match ixOf C.N x, ixOf C.N y with
    | some i, some j => if i = j then fail else par2 i j (r.E C a) (r.E C b)
    | _, _ => fail) else if parNo C x y a b then (match ixOf C.N x, ixOf C.N y with
    | some i, some j => if i = j then fail else par2 i j (r.E C a) (r.E C b)
    | _, _ => fail) else fail
  | .Assign [tg] e _ => if isComp e then fail else if noSwap tg e && notStar tg then asS (r.E C e) (tgE r C tg) else fail
  | _ => fail
def evB (T : Tb) (r : EvX) (wf : Nat) : Nat → Ct → List Stmt → M Fl
  | 0, _, _ => fail
  | n + 1, C, sts => seqS (sts.map (stepS T r wf (evB T r wf n) C))
theorem comp_sw {e : Expr} {t : Option Expr} {l : Nat} {env : Env} (h : isComp e = false) : swapsWith e t l env = pure false := by
  cases e <;> first | rfl | cases h
theorem noSwap_ok {tg e : Expr} {env : Env} (h : noSwap tg e = true) : swappedStores [tg] e env = pure none := by
  cases tg <;> first | rfl | (cases e <;> first | rfl | cases h)
theorem par_sw {C : Ct} {env : Env} {x y : Str} {px py pt pt2 : Pos} {kt k2 : Nat} {a b : Expr} (hs : env.scope = C.sc) (h : parOk C x y px py a b = true) : swappedStores [.Tuple [.Name x px, .Name y py] kt pt] (.Tuple [a, b] k2 pt2) env = pure (some [x, y]) := by
  unfold parOk at h
  simp only [Bool.and_eq_true, decide_eq_true_eq, isLoc, Bool.not_eq_true'] at h
  obtain ⟨h1, h2, h3, h4, h5, h6, h7, h8, h9⟩ := h
  have k1 : env.kindOf x = some .local := by unfold Env.kindOf; rw [hs]; exact h2
  have k2 : env.kindOf y = some .local := by unfold Env.kindOf; rw [hs]; exact h3
  have kb : env.blockKind = .function := by unfold Env.blockKind; rw [hs, h1]; rfl
  have nst : ([a, b].any fun e => match e with | .Starred .. => true | _ => false) = false := by
    have one : ∀ e : Expr, notStar e = true → (match e with | .Starred .. => true | _ => false) = false := fun e h => by cases e <;> first | rfl | cases h
    simp only [List.any_cons, List.any_nil, one a h6, one b h7]
    rfl
  have l1 : (Expr.Name x px).pos.line = px.line := rfl
  have hne : (y == x) = false := by simpa using Ne.symm h5
  have hne2 : (x == y) = false := by simpa using h5
  unfold swappedStores
  simp only [kb, nst, k1, k2, h4, h8, h9, List.filterMap_cons, List.filterMap_nil, List.head?_cons, Option.map_some, Option.getD_some, l1]
  simp [List.eraseDups, List.eraseDupsBy, List.eraseDupsBy.loop, hne, hne2]
  intro z
  rcases z with z | z
  · cases a <;> first | exact absurd (show false = true from z) Bool.false_ne_true | exact absurd (show false = true from h6) Bool.false_ne_true
  · cases b <;> first | exact absurd (show false = true from z) Bool.false_ne_true | exact absurd (show false = true from h7) Bool.false_ne_true
theorem no_sw {C : Ct} {env : Env} {x y : Str} {px py pt pt2 : Pos} {kt k2 : Nat} {a b : Expr} (hs : env.scope = C.sc) (h : parNo C x y a b = true) : swappedStores [.Tuple [.Name x px, .Name y py] kt pt] (.Tuple [a, b] k2 pt2) env = pure none := by
  unfold parNo at h
  simp only [Bool.and_eq_true, Bool.or_eq_true, Bool.not_eq_true', isLoc, decide_eq_false_iff_not] at h
  obtain ⟨h1, h2, h3, h6, h7⟩ := h
  have key : ∀ z : Str, ¬ C.sc.names.lookup z = some .local → (env.kindOf z == some .local) = false := fun z hz => by
    unfold Env.kindOf
    rw [hs]
    cases e : C.sc.names.lookup z with
    | none => rfl
    | some q => cases q <;> first | rfl | exact absurd e hz
  unfold swappedStores
  rcases h1 with h1 | h1
  · have k1 := key x h1
    simp only [k1, List.filterMap_cons, List.filterMap_nil, Bool.false_and]
    split
    · rfl
    · split
      · rfl
      · split <;> simp_all <;> (intro hlen; exfalso; revert hlen; split <;> simp)
  · have k1 := key y h1
    simp only [k1, List.filterMap_cons, List.filterMap_nil, Bool.false_and]
    split
    · rfl
    · split
      · rfl
      · split <;> simp_all <;> (intro hlen; exfalso; revert hlen; split <;> simp)
section
variable {T : Tb} {r : EvX} {X : Cx} {C : Ct} {W : WX} {wf : Nat} {B : Ct → List Stmt → M Fl}
theorem snd_S (sr : Snd T r) (hB : ∀ sts, PSs X sts (tSv X.K W (B C sts))) (k : XOk T X C W) (st : Stmt) : PS X st (tSv X.K W (stepS T r wf B C st)) := by
  have hp : PassesOwn (model X.prog X.w) X.A X.env X.xe := k.po
  have nd : X.N.Nodup := by rw [k.N]; exact k.nd
  unfold stepS
  split
  · exact ss_pass
  · exact ss_break
  · exact ss_cont
  · exact ss_retN
  · exact ss_ret (sr.E X C W _ k)
  · exact ss_nx (t := tNext) ps_doc
  · split
    · exact ps_fail
    · rename_i h
      exact ss_expr (sr.E X C W _ k) (comp_sw (by simpa using h))
  · exact ss_if (sr.T X C W _ k) (hB _) (hB _)
  · split
    · rename_i h
      exact ss_for hp k.calm (snd_it sr k) (snd_tg sr k) (hB _) (notSet_ok h)
    · exact ps_fail
  · exact ss_while hp (sr.T X C W _ k) (hB _)
  · split
    · rename_i h
      unfold lcOk at h
      simp only [Bool.and_eq_true, decide_eq_true_eq, Bool.not_eq_true'] at h
      split
      · rename_i i hi
        exact ss_setLc sr k (ixOf_ok hi) h.1 h.2.1 h.2.2.1 h.2.2.2
      · exact ps_fail
    · exact ps_fail
  · split
    · rename_i x px y py _ _ a b _ _ _ h
      have h' := h
      unfold parOk at h'
      simp only [Bool.and_eq_true, decide_eq_true_eq, isLoc, Bool.not_eq_true'] at h'
      split
      · rename_i i j hi hj
        split
        · exact ps_fail
        · rename_i hij
          exact ss_par2 k.calm nd (by rw [k.N]; exact ixOf_ok hi) (by rw [k.N]; exact ixOf_ok hj) hij (by rw [k.sc]; exact h'.2.1) (by rw [k.sc]; exact h'.2.2.1) (sr.E X C W _ k) (sr.E X C W _ k) h'.2.2.2.2.2.1 h'.2.2.2.2.2.2.1 (par_sw k.sc h)
      · exact ps_fail
    · split
      · rename_i x px y py _ _ a b _ _ _ _ h
        have h' := h
        unfold parNo at h'
        simp only [Bool.and_eq_true] at h'
        obtain ⟨p1, p2⟩ := okSt_ok k h'.2.1
        obtain ⟨p3, p4⟩ := okSt_ok k h'.2.2.1
        split
        · rename_i i j hi hj
          split
          · exact ps_fail
          · exact ss_par2T k.calm nd (by rw [k.N]; exact ixOf_ok hi) (by rw [k.N]; exact ixOf_ok hj) p1 p2 p3 p4 (sr.E X C W _ k) (sr.E X C W _ k) h'.2.2.2.1 h'.2.2.2.2 (no_sw k.sc h)
        · exact ps_fail
      · exact ps_fail
  · split
    · exact ps_fail
    · rename_i h
      split
      · rename_i h2
        rw [Bool.and_eq_true] at h2
        exact ss_asg (sr.E X C W _ k) (snd_tg sr k) (comp_sw (by simpa using h)) (noSwap_ok h2.1) h2.2
      · exact ps_fail
  · exact ps_fail
end
theorem snd_B {T : Tb} {r : EvX} (sr : Snd T r) {wf : Nat} : ∀ (n : Nat) {X : Cx} {C : Ct} {W : WX}, XOk T X C W → ∀ sts, PSs X sts (tSv X.K W (evB T r wf n C sts))
  | 0, X, C, W, k, sts => pss_fail
  | n + 1, X, C, W, k, sts => by
    show PSs X sts (tSv X.K W (seqS (sts.map (stepS T r wf (evB T r wf n) C))))
    refine sss sts _ ?_
    have ih := fun sts => snd_B sr (wf := wf) n k sts
    have go : ∀ l : List Stmt, Paired (fun s f => PS X s (tSv X.K W f)) l (l.map (stepS T r wf (evB T r wf n) C)) := by
      intro l
      induction l with
      | nil => exact .nil
      | cons a l ihl => exact .cons (snd_S sr ih k a) ihl
    exact go sts
/-! ### the text's functions -/
theorem evF_len {n np : Nat} {body : M Fl} {ss : List Slot} (h : evF n np body ss ≠ .err) : ss.length = np := by
  unfold evF at h
  split at h
  · assumption
  · exact absurd rfl h
structure DefI where
  N : List Str
  ps : List Str
  sc : Scope
  body : List Stmt
  by_ : List Bool
  args : Arguments
  kwd : List (Str × D) := []
  shp : List Shp := []
structure Prg where
  gl : List (Str × D)
  fr : List Str
  defs : List (Str × DefI)
  wf : Nat
def Prg.ctx (d : DefI) : Ct := { N := d.N, sc := d.sc, fn := fun _ => true }
def tb (P : Prg) : Nat → Tb
  | 0 => { gl := fun x => P.gl.lookup x, fr := fun x => P.fr.contains x, fns := fun _ => none, fnk := fun _ _ _ => none }
  | n + 1 => { gl := fun x => P.gl.lookup x, fr := fun x => P.fr.contains x
               fns := fun x => match P.defs.lookup x with
                 | some d => if d.shp.isEmpty then some (d.by_, evF d.N.length d.ps.length (evB (tb P n) (evN (tb P n) 40) P.wf 40 (Prg.ctx d) d.body)) else none
                 | none => none
               fnk := fun x m ks => match P.defs.lookup x with
                 | some d => (d.shp.find? fun q => q.n == m && decide (q.ks = ks)).map fun q => (d.by_, evF d.N.length d.ps.length (evB (tb P n) (evN (tb P n) 40) P.wf 40 (Prg.ctx d) d.body), q)
                 | none => none }
def evD (P : Prg) (n : Nat) (d : DefI) : Ev := evF d.N.length d.ps.length (evB (tb P n) (evN (tb P n) 40) P.wf 40 (Prg.ctx d) d.body)
structure DefW (K : PySem.W.Frag) (mg : Str → Option Value) (x : Str) (d : DefI) (f : Addr) (fd : FuncData) : Prop where
  mgx : mg x = some (.ref f)
  keep : PySem.W.keepIn K (.ref f) = true
  bind : d.shp = [] → Binds K fd d.ps []
  kbs : ∀ q ∈ d.shp, KBs K fd d.ps q
  sco : FnScope d.N d.ps d.sc
  run : ∃ (nm qual : Str) (prm : Arguments) (dV kV doc pm cdv ct oc : Value) (an od : Option Addr) (osl : Array (Option Value)), fd = PySem.W.fnOf nm qual prm d.body d.sc dV kV doc pm an cdv ct ∧ K.lookup f = some ⟨oc, od, .func fd, osl⟩ ∧ PySem.W.codeIn K cdv qual = true
structure PrgOk (P : Prg) (K : PySem.W.Frag) (mg : Str → Option Value) : Prop where
  gl : ∀ x d, P.gl.lookup x = some d → ∃ u v, mg x = some u ∧ RelV v u ∧ ∀ G, Rep K G v d
  fr : ∀ x, P.fr.contains x = true → mg x = none
  defs : ∀ x d, P.defs.lookup x = some d → ∃ f fd, DefW K mg x d f fd
theorem fns_ok {P : Prg} {prog : Program} {w : World} {K : PySem.W.Frag} {mg : Str → Option Value} {base : Heap} (ok : PrgOk P K mg) : ∀ (n : Nat) (x : Str) (d : DefI) (f : Addr) (fd : FuncData), DefW K mg x d f fd → FnG prog w K mg base (n + 1) f fd d.ps (evD P n d)
  | n, x, d, f, fd, W => by
    obtain ⟨nm, qual, prm, dV, kV, doc, pm, cdv, ct, oc, an, od, osl, rfl, lk, hcd⟩ := W.run
    refine fnG_of lk hcd W.sco fun A out s H E hr hgu => ?_
    refine snd_B (snd_evN _ 40) 40 (C := Prg.ctx d) ⟨rfl, cxG_takes, cxG_passes, rfl, W.sco.nd, rfl, fun _ _ => rfl, hgu, ?_, ?_, ?_, ?_, ?_⟩ d.body
    · have := hr.un
      show (A.deeper _).units + 200 < cLine
      omega
    · cases n <;> exact ok.gl
    · cases n <;> exact ok.fr
    · cases n with
      | zero => intro x bs ev h; cases h
      | succ n =>
        intro y bs ev h
        have h' : (match P.defs.lookup y with
          | some d => if d.shp.isEmpty then some (d.by_, evF d.N.length d.ps.length (evB (tb P n) (evN (tb P n) 40) P.wf 40 (Prg.ctx d) d.body)) else none
          | none => none) = some (bs, ev) := h
        split at h'
        · rename_i d' h1
          split at h'
          · rename_i h2
            cases h'
            obtain ⟨f', fd', W'⟩ := ok.defs y d' h1
            exact ⟨n + 1, f', fd', d'.ps, fns_ok ok n y d' f' fd' W', hr, W'.mgx, W'.keep, W'.bind (List.isEmpty_iff.mp h2), fun ss h => evF_len h⟩
          · cases h'
        · cases h'
    · cases n with
      | zero => intro x n ks bs ev q h; cases h
      | succ n =>
        intro y m ks bs ev q h
        have h' : (match P.defs.lookup y with
          | some d => (d.shp.find? fun q => q.n == m && decide (q.ks = ks)).map fun q => (d.by_, evF d.N.length d.ps.length (evB (tb P n) (evN (tb P n) 40) P.wf 40 (Prg.ctx d) d.body), q)
          | none => none) = some (bs, ev, q) := h
        split at h'
        · rename_i d' h1
          obtain ⟨q', h2, h3⟩ := Option.map_eq_some_iff.mp h'
          cases h3
          obtain ⟨f', fd', W'⟩ := ok.defs y d' h1
          have hq := List.find?_some h2
          rw [Bool.and_eq_true, decide_eq_true_eq] at hq
          exact ⟨hq.2, n + 1, f', fd', d'.ps, fns_ok ok n y d' f' fd' W', hr, W'.mgx, W'.keep, W'.kbs q (List.mem_of_find?_eq_some h2), fun ss h => evF_len h⟩
        · cases h'
end Qv
namespace Qv
open PySem L2 PySem.Spec PyProof.Rows
open Evl (Ex)

/-! ### from the head's facts -/
def glFa : Str × D → He.Fa
  | (x, .int i) => .int x i
  | (x, .str z) => .str x z
  | (x, _) => .glo x
def glD : D → Bool
  | .int _ => true
  | .str _ => true
  | _ => false
def faP (P : Prg) : List He.Fa := P.defs.map (fun q => He.Fa.glo q.1) ++ (P.fr.map He.Fa.free ++ P.gl.map glFa)
/-- a default as the head tells it -/
def dvD : D → He.Dv
  | .int i => .int i
  | .str x => .str x
  | .bl b => .bl b
  | _ => .non
theorem dvD_v {K : PySem.W.Frag} (d : D) : (dvD d).v K = dV d := by cases d <;> rfl
def fnP (P : Prg) : List He.DefD := P.defs.map fun q => ⟨(q.1, none), q.1, q.1, q.2.args, q.2.body, q.2.sc, [], q.2.kwd.map fun m => (m.1, dvD m.2)⟩
def BindsP (x : Str) (d : DefI) : Prop := ∀ (kV doc pm : Value) (an : Option Addr) (cdv ct : Value) (us : List Value), us.length = d.ps.length → bindArgs (PySem.W.fnOf x x d.args d.body d.sc .none kV doc pm an cdv ct) ⟨us, []⟩ = pure (d.ps.zip us)
def DefsOk : List (Str × DefI) → Prop
  | [] => True
  | (x, d) :: r => (((d.shp = [] → BindsP x d) ∧ ∀ q ∈ d.shp, KBp x d.N d.args d.body d.sc d.ps d.kwd q ∧ q.srcs.all (srcOk q.ms) = true) ∧ FnScope d.N d.ps d.sc) ∧ DefsOk r
theorem DefsOk.at : ∀ {l : List (Str × DefI)} {x : Str} {d : DefI}, DefsOk l → l.lookup x = some d → ∃ i : Nat, l[i]? = some (x, d) ∧ ((d.shp = [] → BindsP x d) ∧ ∀ q ∈ d.shp, KBp x d.N d.args d.body d.sc d.ps d.kwd q ∧ q.srcs.all (srcOk q.ms) = true) ∧ FnScope d.N d.ps d.sc
  | [], _, _, _, h => by cases h
  | (y, d') :: r, x, d, ok, h => by
    rw [List.lookup_cons] at h
    split at h
    · rename_i e
      have e' : x = y := beq_iff_eq.mp e
      subst e'
      cases h
      exact ⟨0, rfl, ok.1⟩
    · obtain ⟨i, a, b⟩ := DefsOk.at ok.2 h
      exact ⟨i + 1, by simpa using a, b⟩
theorem look_mem {α : Type} : ∀ {l : List (Str × α)} {x : Str} {d : α}, l.lookup x = some d → (x, d) ∈ l
  | [], _, _, h => by cases h
  | (y, d') :: r, x, d, h => by
    rw [List.lookup_cons] at h
    split at h
    · rename_i e
      have e' : x = y := beq_iff_eq.mp e
      subst e'
      cases h
      exact List.mem_cons_self
    · exact List.mem_cons_of_mem _ (look_mem h)
section
variable {P : Prg} {K : PySem.W.Frag} {h : Heap} {mg : Str → Option Value}
theorem fact_of (c : He.SaysD (faP P) (fnP P) K) {f : He.Fa} (m : f ∈ faP P) : f.ok K = true := by
  obtain ⟨i, hi⟩ := List.getElem?_of_mem m
  exact c.fact i hi
theorem def_of (hok : DefsOk P.defs) (c : He.SaysD (faP P) (fnP P) K) {x : Str} {d : DefI} (hl : P.defs.lookup x = some d) : ((d.shp = [] → BindsP x d) ∧ ∀ q ∈ d.shp, KBp x d.N d.args d.body d.sc d.ps d.kwd q ∧ q.srcs.all (srcOk q.ms) = true) ∧ FnScope d.N d.ps d.sc ∧ ∃ fd, FunD K x x d.args d.body d.sc [] (d.kwd.map fun m => (m.1, dV m.2)) (He.ga K x) fd := by
  obtain ⟨i, h1, h2, h3⟩ := hok.at hl
  have e : (fnP P)[i]? = some ⟨(x, none), x, x, d.args, d.body, d.sc, [], d.kwd.map fun m => (m.1, dvD m.2)⟩ := by
    unfold fnP
    rw [List.getElem?_map, h1]
    rfl
  obtain ⟨fd, F⟩ := c.def_ i e
  refine ⟨h2, h3, fd, ?_⟩
  have ek : (d.kwd.map fun m => (m.1, dvD m.2)).map (fun q => (q.1, q.2.v K)) = d.kwd.map fun m => (m.1, dV m.2) := by
    rw [List.map_map]
    exact List.map_congr_left fun m _ => by show (m.1, (dvD m.2).v K) = _; rw [dvD_v]
  rw [← ek]
  exact F
theorem prg_ok (X : K.In h) (G : h.Ns mainGlobals mg) (hg : P.gl.all (fun q => glD q.2) = true) (hok : DefsOk P.defs) (c : He.SaysD (faP P) (fnP P) K) : PrgOk P K mg where
  gl := fun x d hl => by
    have m := look_mem hl
    have mf : glFa (x, d) ∈ faP P := List.mem_append_right _ (List.mem_append_right _ (List.mem_map.mpr ⟨(x, d), m, rfl⟩))
    have hd := List.all_eq_true.mp hg _ m
    cases d with
    | int i =>
      obtain ⟨t, e⟩ := He.int_ok X G (x := x) (i := i) (fact_of c mf)
      exact ⟨_, .int i, e, ⟨t, rfl⟩, fun _ => .int i⟩
    | str z =>
      obtain ⟨t, e⟩ := He.str_ok X G (x := x) (z := z) (fact_of c mf)
      exact ⟨_, .str z, e, ⟨t, rfl⟩, fun _ => .str z⟩
    | _ => cases hd
  fr := fun x hx => by
    have m : x ∈ P.fr := by simpa using hx
    exact He.free_ok X G (x := x) (fact_of c (List.mem_append_right _ (List.mem_append_left _ (List.mem_map.mpr ⟨x, m, rfl⟩))))
  defs := fun x d hl => by
    obtain ⟨hb, hs, fd, F⟩ := def_of hok c hl
    have gx : mg x = some (.ref (He.ga K x)) := He.glo_ok X G (x := x) (fact_of c (List.mem_append_left _ (List.mem_map.mpr ⟨(x, d), look_mem hl, rfl⟩)))
    obtain ⟨oc, od, dV, kV, doc, pm, an, cdv, ct, osl, e1, e2, e3, _, _⟩ := F.ex
    exact ⟨He.ga K x, fd, gx, F.kp, fun z => F.bindsN (hb.1 z), fun q hq => kbs_of F (hb.2 q hq).2 (hb.2 q hq).1, hs, x, x, d.args, dV, kV, doc, pm, cdv, ct, oc, an, od, osl, e1, e2, e3⟩
theorem law_facts {prog : Program} {w : World} {f : Addr} {x p : Str} {d : DefI} (X : K.In h) (G : h.Ns mainGlobals mg) (hg : P.gl.all (fun q => glD q.2) = true) (hok : DefsOk P.defs) (hl : P.defs.lookup x = some d) (hp : d.ps = [p]) (hsh : d.shp = []) (hmg : mg x = some (.ref f))
    (c : He.SaysD (faP P) (fnP P) K) (n : Nat) : ∃ fd : FuncData, (∀ (s : Shared) (u : Value), BindsTo s fd ⟨[u], []⟩ [(p, u)]) ∧ ∀ base : Heap, K.In base → base.Ns mainGlobals mg → FnG prog w K mg base (n + 1) f fd [p] (evD P n d) := by
  have ok := prg_ok X G hg hok c
  obtain ⟨hb, hs, fd, F⟩ := def_of hok c hl
  have gx : mg x = some (.ref (He.ga K x)) := He.glo_ok X G (x := x) (fact_of c (List.mem_append_left _ (List.mem_map.mpr ⟨(x, d), look_mem hl, rfl⟩)))
  have e := hmg.symm.trans gx
  cases e
  refine ⟨fd, fun s u => ?_, fun base _ _ => ?_⟩
  · have b := F.bindsA (ps := d.ps) (hb.1 hsh) s [u] (by rw [hp]; rfl)
    rw [hp] at b
    exact b
  · obtain ⟨oc, od, dV, kV, doc, pm, an, cdv, ct, osl, e1, e2, e3, _, _⟩ := F.ex
    have W : DefW K mg x d (He.ga K x) fd := ⟨gx, F.kp, fun z => F.bindsN (hb.1 z), fun q hq => kbs_of F (hb.2 q hq).2 (hb.2 q hq).1, hs, x, x, d.args, dV, kV, doc, pm, cdv, ct, oc, an, od, osl, e1, e2, e3⟩
    have q := fns_ok (prog := prog) (w := w) (base := base) ok n x d _ fd W
    rw [hp] at q
    exact q
end
end Qv
namespace Qv
open PySem L2

/-! ### running it -/
section
variable {α β : Type} {e e' : En}
def obn {γ δ : Type} : Out (γ × En) → (γ → En → Out (δ × En)) → Out (δ × En)
  | .ok (a, e), k => k a e
  | .ex x e, _ => .ex x e
  | .err, _ => .err
@[simp] theorem obn_ok {γ δ : Type} (a : γ) (e : En) (k : γ → En → Out (δ × En)) : obn (.ok (a, e)) k = k a e := Eq.trans rfl rfl
@[simp] theorem obn_ex {γ δ : Type} (x : Xn) (e : En) (k : γ → En → Out (δ × En)) : obn (.ex x e) k = .ex x e := Eq.trans rfl rfl
@[simp] theorem obn_err {γ δ : Type} (k : γ → En → Out (δ × En)) : obn .err k = .err := Eq.trans rfl rfl
@[simp] theorem bnd_app (m : M α) (f : α → M β) (e : En) : bnd m f e = obn (m e) f := by
  unfold bnd obn
  cases m e with
  | err => rfl
  | ex x e => rfl
  | ok p => rfl
@[simp] theorem ret_app (a : α) (e : En) : ret a e = .ok (a, e) := Eq.trans rfl rfl
@[simp] theorem fail_app (e : En) : (fail : M α) e = .err := Eq.trans rfl rfl
@[simp] theorem opt_some (a : α) (e : En) : opt (some a) e = .ok (a, e) := Eq.trans rfl rfl
@[simp] theorem der_sh (d : D) (e : En) : der (.sh d) e = .ok (d, e) := Eq.trans rfl rfl
@[simp] theorem der_fr (d : D) (e : En) : der (.fr d) e = .ok (d, e) := Eq.trans rfl rfl
@[simp] theorem shr_sh (d : D) (e : En) : shr (.sh d) e = .ok (d, e) := Eq.trans rfl rfl
@[simp] theorem shr_fr (d : D) (e : En) : shr (.fr d) e = .ok (d, e) := Eq.trans rfl rfl
@[simp] theorem opd_sh (d : D) : opd (.sh d) = .sh d := Eq.trans rfl rfl
@[simp] theorem opd_fr (d : D) : opd (.fr d) = .sh d := Eq.trans rfl rfl
@[simp] theorem opd_ow (i : Nat) : opd (.ow i) = .ow i := Eq.trans rfl rfl
@[simp] theorem pend_sh (d : D) : pend (.sh d) = ret (.sh d) := Eq.trans rfl rfl
@[simp] theorem pend_fr (d : D) : pend (.fr d) = ret (.sh d) := Eq.trans rfl rfl
@[simp] theorem pend_ow (i : Nat) : pend (.ow i) = ret (.ow i) := Eq.trans rfl rfl
@[simp] theorem conC_app (d : D) (e : En) : conC d e = .ok (.sh d, e) := Eq.trans rfl rfl
@[simp] theorem argsN_nil (e : En) : argsN [] e = .ok ([], e) := Eq.trans rfl rfl
@[simp] theorem argsN_cons (f : M Val) (r : List (M Val)) (e : En) : argsN (f :: r) e = bnd f (fun v => bnd (pend v) fun w => bnd (argsN r) fun vs => ret (w :: vs)) e := Eq.trans rfl rfl
@[simp] theorem argsC_nil (e : En) : argsC [] e = .ok ([], e) := Eq.trans rfl rfl
@[simp] theorem argsC_one (f : M Val) (e : En) : argsC [f] e = bnd f (fun v => ret [opd v]) e := Eq.trans rfl rfl
@[simp] theorem argsC_two (f g : M Val) (r : List (M Val)) (e : En) : argsC (f :: g :: r) e = argsN (f :: g :: r) e := Eq.trans rfl rfl
@[simp] theorem derAll_nil (e : En) : derAll [] e = .ok ([], e) := Eq.trans rfl rfl
@[simp] theorem derAll_cons (v : Val) (r : List Val) (e : En) : derAll (v :: r) e = bnd (der v) (fun d => bnd (derAll r) fun ds => ret (d :: ds)) e := Eq.trans rfl rfl
@[simp] theorem shrAll_nil (e : En) : shrAll [] e = .ok ([], e) := Eq.trans rfl rfl
@[simp] theorem shrAll_cons (v : Val) (r : List Val) (e : En) : shrAll (v :: r) e = bnd (shr v) (fun d => bnd (shrAll r) fun ds => ret (d :: ds)) e := Eq.trans rfl rfl
@[simp] theorem seqS_nil (e : En) : seqS [] e = .ok (.nx, e) := Eq.trans rfl rfl
def seqK (r : List (M Fl)) : Fl → M Fl
  | .nx => seqS r
  | .bk => ret .bk
  | .ct => ret .ct
  | .rt v => ret (.rt v)
@[simp] theorem seqK_nx (r : List (M Fl)) (e : En) : seqK r .nx e = seqS r e := Eq.trans rfl rfl
@[simp] theorem seqK_bk (r : List (M Fl)) (e : En) : seqK r .bk e = .ok (.bk, e) := Eq.trans rfl rfl
@[simp] theorem seqK_ct (r : List (M Fl)) (e : En) : seqK r .ct e = .ok (.ct, e) := Eq.trans rfl rfl
@[simp] theorem seqK_rt (r : List (M Fl)) (v : Val) (e : En) : seqK r (.rt v) e = .ok (.rt v, e) := Eq.trans rfl rfl
@[simp] theorem seqS_cons (f : M Fl) (r : List (M Fl)) (e : En) : seqS (f :: r) e = obn (f e) (seqK r) := by
  show bnd f _ e = _
  unfold bnd obn
  cases f e with
  | err => rfl
  | ex x e => rfl
  | ok p => obtain ⟨fl, e'⟩ := p; cases fl <;> rfl
@[simp] theorem name_app (i : Nat) (e : En) : nameC i e = (match e[i]? with
  | some (.sh d) => .ok (.sh d, e)
  | some (.ow _ _) => .ok (.ow i, e)
  | some (.nt _ _) => .ok (.np i [], e)
  | _ => .err) := Eq.trans rfl rfl
@[simp] theorem der_ow (i : Nat) (e : En) : der (.ow i) e = (match e[i]? with
  | some (.ow _ d) => .ok (d, e)
  | _ => .err) := Eq.trans rfl rfl
@[simp] theorem shr_ow (i : Nat) (e : En) : shr (.ow i) e = (match e[i]? with
    | some (.ow false d) => .ok (d, e.set i (.sh d))
    | _ => .err) := Eq.trans rfl rfl
/-- free -/
def op : Option D → Slot
  | none => .em
  | some d => .sh d
@[simp] theorem op_some (d : D) : op (some d) = .sh d := Eq.trans rfl rfl
@[simp] theorem op_none : op none = .em := Eq.trans rfl rfl
@[simp] theorem io_em : Slot.io .em = false := Eq.trans rfl rfl
@[simp] theorem io_sh (d : D) : Slot.io (.sh d) = false := Eq.trans rfl rfl
@[simp] theorem io_ow (b : Bool) (d : D) : Slot.io (.ow b d) = b := by cases b <;> rfl
@[simp] theorem io_op (o : Option D) : Slot.io (op o) = false := by cases o <;> rfl
@[simp] theorem bare_em : Slot.bare .em = true := Eq.trans rfl rfl
@[simp] theorem bare_sh (d : D) : Slot.bare (.sh d) = true := Eq.trans rfl rfl
@[simp] theorem bare_op (o : Option D) : Slot.bare (op o) = true := by cases o <;> rfl
@[simp] theorem setN_app (i : Nat) (s : Slot) (e : En) : setN i s e = (match e[i]? with
  | some t => if t.io = true then .err else .ok ((), e.set i s)
  | none => .err) := Eq.trans rfl rfl
@[simp] theorem wipE_nil (e : En) : wipE [] e = .ok ((), e) := Eq.trans rfl rfl
def wipK (i : Nat) (_ : Unit) (e1 : En) : Out (Unit × En) := match e1[i]? with
  | some t => if t.bare = true then .ok ((), e1.set i .em) else .err
  | none => .err
@[simp] theorem wipK_app (i : Nat) (u : Unit) (e1 : En) : wipK i u e1 = (match e1[i]? with
  | some t => if t.bare = true then .ok ((), e1.set i .em) else .err
  | none => .err) := Eq.trans rfl rfl
@[simp] theorem wipE_cons (i : Nat) (r : List Nat) (e : En) : wipE (i :: r) e = obn (wipE r e) (wipK i) := by
  show bnd (wipE r) _ e = _
  rw [bnd_app]
  rfl
theorem lim_big : 1000 < lenLim := by decide
@[simp] theorem le_lim {n : Nat} (h : n ≤ 1000) : n ≤ lenLim := Nat.le_trans h (Nat.le_of_lt lim_big)
@[simp] theorem lt_lim {n : Nat} (h : n < 1000) : n < lenLim := Nat.lt_trans h lim_big
@[simp] theorem putE_nil (e0 e : En) : putE [] e0 e = e := Eq.trans rfl rfl
@[simp] theorem putE_cons (i : Nat) (r : List Nat) (e0 e : En) : putE (i :: r) e0 e = (match e0[i]? with
    | some s => (putE r e0 e).set i s
    | none => putE r e0 e) := Eq.trans rfl rfl
@[simp] theorem asgN_sh (i : Nat) (d : D) : asgN i (.sh d) = setN i (.sh d) := Eq.trans rfl rfl
@[simp] theorem asgN_fr (i : Nat) (d : D) : asgN i (.fr d) = setN i (.ow false d) := Eq.trans rfl rfl
@[simp] theorem asgN_ow (i j : Nat) (e : En) : asgN i (.ow j) e = bnd (shr (.ow j)) (fun d => setN i (.sh d)) e := Eq.trans rfl rfl
@[simp] theorem add_int (i j : Int) : addD (.int i) (.int j) = some (.sh (.int (i + j))) := Eq.trans rfl rfl
@[simp] theorem sub_int (i j : Int) : subD (.int i) (.int j) = some (.sh (.int (i - j))) := Eq.trans rfl rfl
@[simp] theorem lt_int (i j : Int) : ltD (.int i) (.int j) = some (.sh (.bl (decide (i < j)))) := Eq.trans rfl rfl
@[simp] theorem le_int (i j : Int) : leD (.int i) (.int j) = some (.sh (.bl (decide (i ≤ j)))) := Eq.trans rfl rfl
@[simp] theorem gt_int (i j : Int) : gtD (.int i) (.int j) = some (.sh (.bl (decide (j < i)))) := Eq.trans rfl rfl
@[simp] theorem ge_int (i j : Int) : geD (.int i) (.int j) = some (.sh (.bl (decide (j ≤ i)))) := Eq.trans rfl rfl
@[simp] theorem lt_str (a b : Str) : ltD (.str a) (.str b) = some (.sh (.bl (decide (a.cps.toList < b.cps.toList)))) := Eq.trans rfl rfl
@[simp] theorem eq_str (a b : Str) : eqD (.str a) (.str b) = some (.sh (.bl (decide (a = b)))) := Eq.trans rfl rfl
@[simp] theorem ne_str (a b : Str) : neD (.str a) (.str b) = some (.sh (.bl (!decide (a = b)))) := Eq.trans rfl rfl
@[simp] theorem eq_int (i j : Int) : eqD (.int i) (.int j) = some (.sh (.bl (decide (i = j)))) := by
  have : (i == j) = decide (i = j) := by by_cases h : i = j <;> simp [h]
  show some (Val.sh (D.bl (i == j))) = _
  rw [this]
@[simp] theorem ne_int (i j : Int) : neD (.int i) (.int j) = some (.sh (.bl (decide (i ≠ j)))) := by
  have : (!(i == j)) = decide (i ≠ j) := by by_cases h : i = j <;> simp [h]
  show some (Val.sh (D.bl (!(i == j)))) = _
  rw [this]
@[simp] theorem asBl_bl (b : Bool) : asBl (.sh (.bl b)) = ret b := Eq.trans rfl rfl
@[simp] theorem tru_bl (b : Bool) : truD (.bl b) = some b := Eq.trans rfl rfl
@[simp] theorem tru_int (i : Int) : truD (.int i) = some (i != 0) := Eq.trans rfl rfl
@[simp] theorem tru_lst (l : List D) : truD (.lst l) = some (!l.isEmpty) := Eq.trans rfl rfl
@[simp] theorem tru_tup (l : List D) : truD (.tup l) = some (!l.isEmpty) := Eq.trans rfl rfl
@[simp] theorem len_lst (l : List D) : lenB [.lst l] = some (.sh (.int l.length)) := Eq.trans rfl rfl
@[simp] theorem len_tup (l : List D) : lenB [.tup l] = some (.sh (.int l.length)) := Eq.trans rfl rfl
@[simp] theorem len_scr (l : List Int) : lenB [.scr l] = some (.sh (.int l.length)) := Eq.trans rfl rfl
@[simp] theorem abs_int (i : Int) : absB [.int i] = some (.sh (.int (if i < 0 then -i else i))) := Eq.trans rfl rfl
@[simp] theorem max_int (i j : Int) : maxB [.int i, .int j] = some (.sh (.int (if j > i then j else i))) := Eq.trans rfl rfl
@[simp] theorem min_int (i j : Int) : minB [.int i, .int j] = some (.sh (.int (if j < i then j else i))) := Eq.trans rfl rfl
@[simp] theorem int_int (i : Int) : intB [.int i] = some (.sh (.int i)) := Eq.trans rfl rfl
@[simp] theorem int_bl (b : Bool) : intB [.bl b] = some (.sh (.int (if b then 1 else 0))) := Eq.trans rfl rfl
@[simp] theorem list_lst (l : List D) : listB [.lst l] = some (.fr (.lst l)) := Eq.trans rfl rfl
@[simp] theorem list_tup (l : List D) : listB [.tup l] = some (.fr (.lst l)) := Eq.trans rfl rfl
@[simp] theorem tuple_lst (l : List D) : tupleB [.lst l] = some (.sh (.tup l)) := Eq.trans rfl rfl
@[simp] theorem tuple_tup (l : List D) : tupleB [.tup l] = some (.sh (.tup l)) := Eq.trans rfl rfl
@[simp] theorem items_lst (l : List D) : itemsD (.lst l) = some l := Eq.trans rfl rfl
@[simp] theorem items_tup (l : List D) : itemsD (.tup l) = some l := Eq.trans rfl rfl
@[simp] theorem items_str (z : Str) : itemsD (.str z) = some (z.cps.toList.map fun c => .str ⟨#[c]⟩) := Eq.trans rfl rfl
@[simp] theorem seq_lst (l : List D) : seqD (.lst l) = some l := Eq.trans rfl rfl
@[simp] theorem seq_tup (l : List D) : seqD (.tup l) = some l := Eq.trans rfl rfl
@[simp] theorem rev_lst (l : List D) : revD (.lst l) = some (.fr (.lst l.reverse)) := Eq.trans rfl rfl
@[simp] theorem in_sign (c : Nat) (z : Str) : inD false (.str ⟨#[c]⟩) (.str z) = some (.sh (.bl (decide (c ∈ z.cps.toList)))) := rfl
@[simp] theorem nin_sign (c : Nat) (z : Str) : inD true (.str ⟨#[c]⟩) (.str z) = some (.sh (.bl (!decide (c ∈ z.cps.toList)))) := rfl
@[simp] theorem binC_app (g : D → D → Option Val) (fa fb : M Val) (e : En) : binC g fa fb e = bnd fa (fun va => bnd (pend va) fun va => bnd fb fun vb => bnd (der va) fun da => bnd (der vb) fun db => opt (g da db)) e := Eq.trans rfl rfl
@[simp] theorem chnC_app (g g' : D → D → Option Val) (fa fb fc : M Val) (e : En) : chnC g g' fa fb fc e = bnd fa (fun va => bnd (pend va) fun va => bnd fb fun vb => bnd (pend vb) fun vb => bnd (der va) fun da => bnd (der vb) fun db => bnd (opt (g da db)) fun z => bnd (asBl z) fun k =>
    if k = true then bnd fc fun vc => bnd (der vb) fun db' => bnd (der vc) fun dc => opt (g' db' dc) else ret (.sh (.bl false))) e := Eq.trans rfl rfl
@[simp] theorem cmpT_app (f : M Val) (e : En) : cmpT f e = bnd f asBl e := Eq.trans rfl rfl
@[simp] theorem truC_app (f : M Val) (e : En) : truC f e = bnd f (fun v => bnd (der v) fun d => opt (truD d)) e := Eq.trans rfl rfl
@[simp] theorem notT_app (f : M Bool) (e : En) : notT f e = bnd f (fun b => ret (!b)) e := Eq.trans rfl rfl
@[simp] theorem notC_app (f : M Bool) (e : En) : notC f e = bnd f (fun b => ret (.sh (.bl (!b)))) e := Eq.trans rfl rfl
@[simp] theorem bopT_one (w : Bool) (a : M Bool) (e : En) : bopT w [a] e = a e := Eq.trans rfl rfl
@[simp] theorem bopT_two (w : Bool) (a b : M Bool) (r : List (M Bool)) (e : En) : bopT w (a :: b :: r) e = bnd a (fun c => if c = w then ret w else bopT w (b :: r)) e := Eq.trans rfl rfl
@[simp] theorem bopC_one (w : Bool) (a : M Val) (e : En) : bopC w [a] e = a e := Eq.trans rfl rfl
@[simp] theorem bopC_two (w : Bool) (a b : M Val) (r : List (M Val)) (e : En) : bopC w (a :: b :: r) e = bnd a (fun v => bnd (der v) fun d => bnd (opt (truD d)) fun c => if c = w then ret v else bopC w (b :: r)) e := Eq.trans rfl rfl
@[simp] theorem ifC_app (t : M Bool) (a b : M Val) (e : En) : ifC t a b e = bnd t (fun c => if c = true then a else b) e := Eq.trans rfl rfl
@[simp] theorem ifS_app (t : M Bool) (a b : M Fl) (e : En) : ifS t a b e = bnd t (fun c => if c = true then a else b) e := Eq.trans rfl rfl
@[simp] theorem rtS_app (f : M Val) (e : En) : rtS f e = bnd f (fun v => ret (.rt v)) e := Eq.trans rfl rfl
@[simp] theorem drS_app (f : M Val) (e : En) : drS f e = bnd f (fun _ => ret .nx) e := Eq.trans rfl rfl
@[simp] theorem asS_app (f : M Val) (g : Val → M Unit) (e : En) : asS f g e = bnd f (fun v => bnd (g v) fun _ => ret .nx) e := Eq.trans rfl rfl
@[simp] theorem nxS_app (e : En) : nxS e = .ok (.nx, e) := Eq.trans rfl rfl
@[simp] theorem callC_app (g : List D → Option Val) (fs : List (M Val)) (e : En) : callC g fs e = bnd (argsC fs) (fun vs => bnd (derAll vs) fun ds => opt (g ds)) e := Eq.trans rfl rfl
@[simp] theorem callV_app (bs : List Bool) (ev : Ev) (fs : List (M Val)) (e : En) : callV bs ev fs e = bnd (argsN fs) (fun vals => bnd (frzL bs vals) fun vals1 => goV ev vals1) e := Eq.trans rfl rfl
@[simp] theorem callK_app (bs : List Bool) (ev : Ev) (srcs : List Src) (n m : Nat) (fs gs : List (M Val)) (e : En) : callK bs ev srcs n m fs gs e = bnd (argsN fs) (fun vs => bnd (argsN gs) fun zs => bnd (opt (if vs.length = n ∧ zs.length = m then srcL srcs vs zs else none)) fun vals => bnd (frzL bs vals) fun vals1 => goV ev vals1) e := Eq.trans rfl rfl
@[simp] theorem srcL_nil (vs zs : List Val) : srcL [] vs zs = some [] := Eq.trans rfl rfl
@[simp] theorem srcL_ps (i : Nat) (r : List Src) (vs zs : List Val) : srcL (.ps i :: r) vs zs = (match vs[i]?, srcL r vs zs with
    | some v, some l => some (v :: l)
    | _, _ => none) := Eq.trans rfl rfl
@[simp] theorem srcL_kw (i : Nat) (r : List Src) (vs zs : List Val) : srcL (.kw i :: r) vs zs = (match zs[i]?, srcL r vs zs with
    | some v, some l => some (v :: l)
    | _, _ => none) := Eq.trans rfl rfl
@[simp] theorem srcL_df (i : Nat) (d : D) (r : List Src) (vs zs : List Val) : srcL (.df i d :: r) vs zs = (match dOk d, srcL r vs zs with
    | true, some l => some (.sh d :: l)
    | _, _ => none) := Eq.trans rfl rfl
@[simp] theorem frzL_nil (bs : List Bool) (e : En) : frzL bs [] e = .ok ([], e) := by cases bs with
  | nil => rfl
  | cons b _ => cases b <;> rfl
@[simp] theorem frzL_t (bs : List Bool) (v : Val) (vs : List Val) (e : En) : frzL (true :: bs) (v :: vs) e = bnd (frzL bs vs) (fun r => ret (v :: r)) e := Eq.trans rfl rfl
@[simp] theorem frzL_f (bs : List Bool) (v : Val) (vs : List Val) (e : En) : frzL (false :: bs) (v :: vs) e = bnd (shr v) (fun d => bnd (frzL bs vs) fun r => ret (.sh d :: r)) e := Eq.trans rfl rfl
def backK {γ : Type} (e2 : Option En) (k : En → Out γ) : Out γ := match e2 with
  | some e2 => k e2
  | none => .err
@[simp] theorem backK_some {γ : Type} (e : En) (k : En → Out γ) : backK (some e) k = k e := Eq.trans rfl rfl
def goO (ps : List (Nat × Nat)) (e : En) : Out (Val × En) → Out (Val × En)
  | .ok (v, b) => backK (backE ps b e) fun e2 => .ok (v, e2)
  | .ex x b => backK (backE ps b e) fun e2 => .ex x e2
  | .err => .err
@[simp] theorem goO_ok (ps : List (Nat × Nat)) (e : En) (v : Val) (b : En) : goO ps e (.ok (v, b)) = backK (backE ps b e) fun e2 => .ok (v, e2) := Eq.trans rfl rfl
@[simp] theorem goO_ex (ps : List (Nat × Nat)) (e : En) (x : Xn) (b : En) : goO ps e (.ex x b) = backK (backE ps b e) fun e2 => .ex x e2 := Eq.trans rfl rfl
def goS (ev : Ev) (vals : List Val) (e : En) : Option (List Slot) → Out (Val × En)
  | none => .err
  | some ss => if ((pairs 0 vals).map Prod.snd).Nodup then goO (pairs 0 vals) e (ev ss) else .err
@[simp] theorem goS_some (ev : Ev) (vals : List Val) (e : En) (ss : List Slot) : goS ev vals e (some ss) = (if ((pairs 0 vals).map Prod.snd).Nodup then goO (pairs 0 vals) e (ev ss) else .err) := Eq.trans rfl rfl
@[simp] theorem goV_app (ev : Ev) (vals : List Val) (e : En) : goV ev vals e = goS ev vals e (slotsOf e vals) := by
  unfold goV goS
  cases slotsOf e vals with
  | none => rfl
  | some ss =>
    dsimp only
    split
    · cases ev ss with
      | err => rfl
      | ex x b => rfl
      | ok p => rfl
    · rfl
@[simp] theorem slotsOf_nil (e : En) : slotsOf e [] = some [] := Eq.trans rfl rfl
@[simp] theorem slotsOf_cons (e : En) (v : Val) (vs : List Val) : slotsOf e (v :: vs) = (match slotOf e v, slotsOf e vs with
    | some s, some ss => some (s :: ss)
    | _, _ => none) := Eq.trans rfl rfl
@[simp] theorem slotOf_sh (e : En) (d : D) : slotOf e (.sh d) = some (.sh d) := Eq.trans rfl rfl
@[simp] theorem slotOf_ow' (e : En) (i : Nat) : slotOf e (.ow i) = (match e[i]? with
    | some (.ow _ d) => some (.ow true d)
    | _ => none) := Eq.trans rfl rfl
@[simp] theorem pairs_nil (k : Nat) : pairs k [] = [] := Eq.trans rfl rfl
@[simp] theorem pairs_sh (k : Nat) (d : D) (r : List Val) : pairs k (.sh d :: r) = pairs (k + 1) r := Eq.trans rfl rfl
@[simp] theorem pairs_ow (k i : Nat) (r : List Val) : pairs k (.ow i :: r) = (k, i) :: pairs (k + 1) r := Eq.trans rfl rfl
@[simp] theorem backE_nil (e' e : En) : backE [] e' e = some e := Eq.trans rfl rfl
@[simp] theorem backE_app (k i : Nat) (r : List (Nat × Nat)) (e' e : En) : backE ((k, i) :: r) e' e = (match e[i]?, e'[k]? with
    | some (.ow io _), some (.ow true d) => backE r e' (e.set i (.ow io d))
    | some (.nt io _), some (.nt true d) => backE r e' (e.set i (.nt io d))
    | _, _ => none) := Eq.trans rfl rfl
@[simp] theorem nrm_em : Slot.nrm .em = .em := Eq.trans rfl rfl
@[simp] theorem nrm_sh (d : D) : Slot.nrm (.sh d) = .em := Eq.trans rfl rfl
@[simp] theorem nrm_t (d : D) : Slot.nrm (.ow true d) = .ow true d := Eq.trans rfl rfl
@[simp] theorem nrm_f (d : D) : Slot.nrm (.ow false d) = .em := Eq.trans rfl rfl
@[simp] theorem nrm_op (o : Option D) : Slot.nrm (op o) = .em := by cases o <;> rfl
@[simp] theorem backL_app (np : Nat) (e : En) : backL np e = (e.take np).map Slot.nrm := Eq.trans rfl rfl
@[simp] theorem retV_sh (e : En) (d : D) : retV e (.sh d) = some (.sh d) := Eq.trans rfl rfl
@[simp] theorem retV_fr (e : En) (d : D) : retV e (.fr d) = some (.fr d) := Eq.trans rfl rfl
@[simp] theorem retV_ow (e : En) (k : Nat) : retV e (.ow k) = (match e[k]? with
    | some (.ow false d) => some (.fr d)
    | _ => none) := Eq.trans rfl rfl
def retK (np : Nat) (e : En) : Option Val → Out (Val × En)
  | some v => .ok (v, backL np e)
  | none => .err
@[simp] theorem retK_some (np : Nat) (e : En) (v : Val) : retK np e (some v) = .ok (v, backL np e) := Eq.trans rfl rfl
def endF (np : Nat) : Fl → En → Out (Val × En)
  | .rt v, e => retK np e (retV e v)
  | .nx, e => .ok (.sh .non, backL np e)
  | _, _ => .err
@[simp] theorem endF_rt (np : Nat) (v : Val) (e : En) : endF np (.rt v) e = retK np e (retV e v) := Eq.trans rfl rfl
@[simp] theorem endF_nx (np : Nat) (e : En) : endF np .nx e = .ok (.sh .non, backL np e) := Eq.trans rfl rfl
def endO (np : Nat) : Out (Fl × En) → Out (Val × En)
  | .ok (f, e) => endF np f e
  | .ex x e => .ex x (backL np e)
  | .err => .err
@[simp] theorem endO_ok (np : Nat) (f : Fl) (e : En) : endO np (.ok (f, e)) = endF np f e := Eq.trans rfl rfl
@[simp] theorem endO_ex (np : Nat) (x : Xn) (e : En) : endO np (.ex x e) = .ex x (backL np e) := Eq.trans rfl rfl
@[simp] theorem evF_app (n np : Nat) (b : M Fl) (ss : List Slot) : evF n np b ss = (if ss.length = np then endO np (b (ss ++ List.replicate (n - np) .em)) else .err) := by
  unfold evF
  split
  · cases b (ss ++ List.replicate (n - np) .em) with
    | err => rfl
    | ex x e => rfl
    | ok p =>
      obtain ⟨fl, e⟩ := p
      cases fl with
      | rt v => show _ = retK _ _ _; unfold retK; first | rfl | (dsimp only; done) | (dsimp only; cases retV e v <;> rfl)
      | _ => rfl
  · rfl
@[simp] theorem isiC_app (t : String) (f : M Val) (e : En) : isiC t f e = bnd f (fun v => bnd (der v) fun d => bnd (opt (isiD t d)) fun b => ret (.sh (.bl b))) e := Eq.trans rfl rfl
@[simp] theorem iterC_app (f : M Val) (e : En) : iterC f e = bnd f (fun v => bnd (shr v) fun d => opt (itemsD d)) e := Eq.trans rfl rfl
@[simp] theorem walkC_app (g : List D → Option (List D)) (fs : List (M Val)) (e : En) : walkC g fs e = bnd (argsC fs) (fun vs => bnd (shrAll vs) fun ds => opt (g ds)) e := Eq.trans rfl rfl
@[simp] theorem rngC_app (g : List D → Option (List D)) (fs : List (M Val)) (e : En) : rngC g fs e = bnd (argsC fs) (fun vs => bnd (derAll vs) fun ds => opt (g ds)) e := Eq.trans rfl rfl
@[simp] theorem sliC_app (fa : M Val) (lo hi : M (Option Int)) (e : En) : sliC fa lo hi e = bnd fa (fun v => bnd (pend v) fun v => bnd lo fun l => bnd hi fun u => bnd (der v) fun d => opt (slD d l u)) e := Eq.trans rfl rfl
@[simp] theorem revC_app (f : M Val) (e : En) : revC f e = bnd f (fun v => bnd (der v) fun d => opt (revD d)) e := Eq.trans rfl rfl
@[simp] theorem lenSetC_app (f : M Val) (e : En) : lenSetC f e = bnd f (fun v => bnd (der v) fun d => opt (lenSetD d)) e := Eq.trans rfl rfl
@[simp] theorem dct0C_app (e : En) : dct0C e = .ok (.fr (.dct []), e) := Eq.trans rfl rfl
@[simp] theorem dictC_app (fs : List (M Val × M Val)) (e : En) : dictC fs e = bnd (pairsC fs) (fun es => if es.length ≤ 15 then ret (.fr (.dct (es.foldl (fun acc q => kvSet acc q.1 q.2) []))) else fail) e := Eq.trans rfl rfl
@[simp] theorem pairsC_nil (e : En) : pairsC [] e = .ok ([], e) := Eq.trans rfl rfl
@[simp] theorem pairsC_cons (q : M Val × M Val) (r : List (M Val × M Val)) (e : En) : pairsC (q :: r) e = bnd q.1 (fun vk => bnd (der vk) fun dk => bnd (opt (keyS dk)) fun key => bnd q.2 fun vv => bnd (shr vv) fun d => bnd (pairsC r) fun ps => ret ((keyD key, d) :: ps)) e := Eq.trans rfl rfl
@[simp] theorem noC_app (e : En) : noC e = .ok (none, e) := Eq.trans rfl rfl
@[simp] theorem asInt_int (i : Int) (e : En) : asInt (.int i) e = .ok (i, e) := Eq.trans rfl rfl
@[simp] theorem partC_app (f : M Val) (e : En) : partC f e = bnd f (fun v => bnd (der v) fun d => bnd (asInt d) fun i => ret (some i)) e := Eq.trans rfl rfl
@[simp] theorem tupC_app (fs : List (M Val)) (e : En) : tupC fs e = bnd (argsC fs) (fun vs => bnd (shrAll vs) fun ds => if ds.length ≤ lenLim then ret (.sh (.tup ds)) else fail) e := Eq.trans rfl rfl
@[simp] theorem lstC_app (fs : List (M Val)) (e : En) : lstC fs e = bnd (argsC fs) (fun vs => bnd (shrAll vs) fun ds => if ds.length ≤ lenLim then ret (.fr (.lst ds)) else fail) e := Eq.trans rfl rfl
@[simp] theorem ixC_app (fa fb : M Val) (e : En) : ixC fa fb e = binC (fun a b => (ixD a b).map Val.sh) fa fb e := Eq.trans rfl rfl
def asgU (fs : List (Val → M Unit)) : D → M Unit
  | .tup ds => if ds.length = fs.length then asgL fs ds else fail
  | _ => fail
@[simp] theorem asgU_tup (fs : List (Val → M Unit)) (ds : List D) (e : En) : asgU fs (.tup ds) e = (if ds.length = fs.length then asgL fs ds else fail) e := Eq.trans rfl rfl
@[simp] theorem asgTn_app (fs : List (Val → M Unit)) (v : Val) (e : En) : asgTn fs v e = bnd (shr v) (asgU fs) e := by
  unfold asgTn
  congr 1
@[simp] theorem asgL_nil (e : En) : asgL [] [] e = .ok ((), e) := Eq.trans rfl rfl
@[simp] theorem asgL_cons (f : Val → M Unit) (fs : List (Val → M Unit)) (d : D) (ds : List D) (e : En) : asgL (f :: fs) (d :: ds) e = bnd (f (.sh d)) (fun _ => asgL fs ds) e := Eq.trans rfl rfl
def updO (j : Nat) (b : Bool) (e : En) : Option D → Out (Unit × En)
  | some c => .ok ((), e.set j (.ow b c))
  | none => .err
@[simp] theorem updO_some (j : Nat) (b : Bool) (e : En) (c : D) : updO j b e (some c) = .ok ((), e.set j (.ow b c)) := Eq.trans rfl rfl
@[simp] theorem updS_app (j : Nat) (f : D → Option D) (e : En) : updS j f e = (match e[j]? with
  | some (.ow b c) => updO j b e (f c)
  | _ => .err) := by
  unfold updS updO
  cases e[j]? with
  | none => rfl
  | some s => cases s with
    | ow b c => first | rfl | (dsimp only; done) | (dsimp only; cases f c <;> rfl)
    | _ => rfl
@[simp] theorem owJ_ow (j : Nat) (e : En) : owJ (.ow j) e = .ok (j, e) := Eq.trans rfl rfl
@[simp] theorem isLs_lst (l : List D) : isLs (.lst l) = true := Eq.trans rfl rfl
@[simp] theorem owL_ow (j : Nat) (e : En) : owL (.ow j) e = (match e[j]? with
    | some (.ow _ d) => if isLs d then .ok (j, e) else .err
    | _ => .err) := Eq.trans rfl rfl
@[simp] theorem setD_lst (l : List D) (k : Int) (d : D) : setD (.lst l) (.int k) d = (ixN l.length k).map fun n => .lst (l.set n d) := Eq.trans rfl rfl
@[simp] theorem appD_lst (l : List D) (d : D) : appD d (.lst l) = if l.length < lenLim then some (.lst (l ++ [d])) else none := Eq.trans rfl rfl
@[simp] theorem asgI_app (fo fi : M Val) (v : Val) (e : En) : asgI fo fi v e = bnd (shr v) (fun d => bnd fo fun vo => bnd (owJ vo) fun j => bnd fi fun vi => bnd (shr vi) fun k => updS j fun c => setD c k d) e := Eq.trans rfl rfl
@[simp] theorem negC_app (f : M Val) (e : En) : negC f e = bnd f (fun v => bnd (der v) fun d => bnd (asInt d) fun i => ret (.sh (.int (-i)))) e := Eq.trans rfl rfl
@[simp] theorem appC_app (fo fa : M Val) (e : En) : appC fo fa e = bnd fo (fun vo => bnd (owL vo) fun j => bnd fa fun va => bnd (shr va) fun d => bnd (updS j (appD d)) fun _ => ret (.sh .non)) e := Eq.trans rfl rfl
@[simp] theorem sol_sh (d : D) (e : En) : sol (.sh d) e = .ok (.sh d, e) := Eq.trans rfl rfl
@[simp] theorem sol_fr (d : D) (e : En) : sol (.fr d) e = .ok (.fr d, e) := Eq.trans rfl rfl
@[simp] theorem sol_ow (i : Nat) (e : En) : sol (.ow i) e = bnd (shr (.ow i)) (fun d => ret (.sh d)) e := Eq.trans rfl rfl
@[simp] theorem par2_app (i j : Nat) (fa fb : M Val) (e : En) : par2 i j fa fb e = bnd fa (fun va => bnd (sol va) fun wa => bnd fb fun vb => bnd (sol vb) fun wb => bnd (asgN i wa) fun _ => bnd (asgN j wb) fun _ => ret .nx) e := Eq.trans rfl rfl
@[simp] theorem forS_app (it : M (List D)) (g : Val → M Unit) (b : M Fl) (e : En) : forS it g b e = bnd it (fun ds => forL g b ds) e := Eq.trans rfl rfl
@[simp] theorem zp_tt (l m : List D) : zp2B [.tup l, .tup m] = some (z2L l m) := Eq.trans rfl rfl
@[simp] theorem zp_ll (l m : List D) : zp2B [.lst l, .lst m] = some (z2L l m) := Eq.trans rfl rfl
@[simp] theorem zp_tl (l m : List D) : zp2B [.tup l, .lst m] = some (z2L l m) := Eq.trans rfl rfl
@[simp] theorem zp_lt (l m : List D) : zp2B [.lst l, .tup m] = some (z2L l m) := Eq.trans rfl rfl
@[simp] theorem en_t (l : List D) : enB [.tup l] = some (enL l) := Eq.trans rfl rfl
@[simp] theorem en_l (l : List D) : enB [.lst l] = some (enL l) := Eq.trans rfl rfl
theorem mod_int {i j : Int} (h : 0 < j) : modD (.int i) (.int j) = some (.sh (.int (i % j))) := by unfold modD; simp [h]
theorem fdiv_int {i j : Int} (h : 0 < j) (h2 : j.natAbs.log2 < 9000) : fdivD (.int i) (.int j) = some (.sh (.int (i / j))) := by unfold fdivD; simp [h, h2]
theorem log2_lt {n k : Nat} (h : n < 2 ^ k) (hk : 0 < k) : n.log2 < k := by
  by_cases z : n = 0
  · subst z; simpa using hk
  · exact (Nat.log2_lt z).mpr h
theorem mul_int {i j : Int} (h : i.natAbs < 2 ^ 400) (h2 : j.natAbs < 2 ^ 400) : mulD (.int i) (.int j) = some (.sh (.int (i * j))) := by
  have a := log2_lt h (by decide)
  have b := log2_lt h2 (by decide)
  show (if i.natAbs.log2 + j.natAbs.log2 < 1000000 then _ else _) = _
  rw [if_pos (by omega)]
theorem pow_int' {i j : Int} (h : 0 ≤ j) (h2 : (Builtin.Int.intBits i : Int) * j ≤ 2 ^ 27) : powD (.int i) (.int j) = some (.sh (.int (i ^ j.toNat))) := by
  show (if 0 ≤ j ∧ (Builtin.Int.intBits i : Int) * j ≤ 2 ^ 27 then _ else _) = _
  rw [if_pos ⟨h, h2⟩]
end
def forK (g : Val → M Unit) (b : M Fl) (r : List D) : Fl → M Fl
  | .nx => forL g b r
  | .ct => forL g b r
  | .bk => ret .nx
  | .rt v => ret (.rt v)
theorem forL_cons (g : Val → M Unit) (b : M Fl) (d : D) (r : List D) (e : En) : forL g b (d :: r) e = obn (g (.sh d) e) fun _ e1 => obn (b e1) (forK g b r) := by
  show bnd (g (.sh d)) _ e = _
  unfold bnd obn
  cases g (.sh d) e with
  | err => rfl
  | ex x e => rfl
  | ok p =>
    obtain ⟨u, e1⟩ := p
    show bnd b _ e1 = obn (b e1) _
    unfold bnd obn
    cases b e1 with
    | err => rfl
    | ex x e => rfl
    | ok p => obtain ⟨fl, e'⟩ := p; cases fl <;> rfl
/-! ### loops -/
theorem forL_rule {g : Val → M Unit} {b : M Fl} {ds : List D} (J : List D → En → Prop)
    (step : ∀ done d rest e, done ++ d :: rest = ds → J done e → ∃ e1 fl e2, g (.sh d) e = .ok ((), e1) ∧ b e1 = .ok (fl, e2) ∧ (fl = .nx ∨ fl = .ct) ∧ J (done ++ [d]) e2) {e : En} (h : J [] e) : ∃ e', forL g b ds e = .ok (.nx, e') ∧ J ds e' := by
  have go : ∀ (rest done : List D) (e : En), done ++ rest = ds → J done e → ∃ e', forL g b rest e = .ok (.nx, e') ∧ J ds e' := by
    intro rest
    induction rest with
    | nil =>
      intro done e hd hj
      rw [List.append_nil] at hd
      subst hd
      exact ⟨e, rfl, hj⟩
    | cons d r ih =>
      intro done e hd hj
      obtain ⟨e1, fl, e2, h1, h2, h3, h4⟩ := step done d r e hd hj
      obtain ⟨e', h5, h6⟩ := ih (done ++ [d]) e2 (by simpa using hd) h4
      refine ⟨e', ?_, h6⟩
      simp only [forL_cons, obn_ok, h1, h2]
      rcases h3 with rfl | rfl <;> exact h5
  exact go ds [] e rfl h
/-- one turn of a list comprehension: what is left out or taken, and the slots behind it -/
def Turn1 (own : List Nat) (g : Val → M Unit) (t : M Bool) (f : M Val) (d : D) (e : En) (o : Option D) (e' : En) : Prop :=
  ∃ w e2 b e3, wipE own e = .ok ((), w) ∧ g (.sh d) w = .ok ((), e2) ∧ t e2 = .ok (b, e3) ∧ match o with
    | none => b = false ∧ e' = e3
    | some x => b = true ∧ ∃ v e4, f e3 = .ok (v, e4) ∧ shr v e4 = .ok (x, e')
theorem lcL_rule {own : List Nat} {g : Val → M Unit} {t : M Bool} {f : M Val} {ds : List D} (J : List D → List D → En → Prop)
    (step : ∀ done d rest acc e, done ++ d :: rest = ds → J done acc e → ∃ o e', Turn1 own g t f d e o e' ∧ J (done ++ [d]) (acc ++ o.toList) e') {e : En} (h : J [] [] e) (hw : ∀ acc e, J ds acc e → ∃ w, wipE own e = .ok ((), w)) :
    ∃ xs e1 w, J ds xs e1 ∧ wipE own e1 = .ok ((), w) ∧ lcL own g t f ds e = .ok (xs, w) := by
  have go : ∀ (rest done acc : List D) (e : En), done ++ rest = ds → J done acc e → ∃ ys e1 w, J ds (acc ++ ys) e1 ∧ wipE own e1 = .ok ((), w) ∧ lcL own g t f rest e = .ok (ys, w) := by
    intro rest
    induction rest with
    | nil =>
      intro done acc e hd hj
      rw [List.append_nil] at hd
      subst hd
      obtain ⟨w, hw⟩ := hw _ _ hj
      refine ⟨[], e, w, by rw [List.append_nil]; exact hj, hw, ?_⟩
      simp only [lcL, bnd_app, obn_ok, hw, ret_app]
    | cons d r ih =>
      intro done acc e hd hj
      obtain ⟨o, e', ⟨w, e2, b, e3, h1, h2, h3, h4⟩, h5⟩ := step done d r acc e hd hj
      obtain ⟨ys, e1, w1, q1, q2, q3⟩ := ih (done ++ [d]) (acc ++ o.toList) e' (by simpa using hd) h5
      cases o with
      | none =>
        obtain ⟨rfl, rfl⟩ := h4
        refine ⟨ys, e1, w1, by simpa using q1, q2, ?_⟩
        simp only [lcL, bnd_app, obn_ok, h1, h2, h3]
        exact q3
      | some x =>
        obtain ⟨rfl, v, e4, h6, h7⟩ := h4
        refine ⟨x :: ys, e1, w1, by simpa using q1, q2, ?_⟩
        simp only [lcL, bnd_app, obn_ok, h1, h2, h3, if_true, h6, h7, q3, ret_app]
  obtain ⟨ys, e1, w, a, b, c⟩ := go ds [] [] e rfl h
  exact ⟨ys, e1, w, a, b, c⟩
theorem lcC_rule {own : List Nat} {it : M (List D)} {g : Val → M Unit} {t : M Bool} {f : M Val} {ds : List D} {e e0 : En} (hit : it e = .ok (ds, e0)) (J : List D → List D → En → Prop)
    (step : ∀ done d rest acc e, done ++ d :: rest = ds → J done acc e → ∃ o e', Turn1 own g t f d e o e' ∧ J (done ++ [d]) (acc ++ o.toList) e') (h : J [] [] e0) (hw : ∀ acc e, J ds acc e → (∃ w, wipE own e = .ok ((), w)) ∧ acc.length ≤ lenLim) :
    ∃ xs e1 w, J ds xs e1 ∧ wipE own e1 = .ok ((), w) ∧ lcC own it g t f e = .ok (.fr (.lst xs), putE own e0 w) := by
  obtain ⟨xs, e1, w, a, b, c⟩ := lcL_rule J step h fun acc e hj => (hw acc e hj).1
  refine ⟨xs, e1, w, a, b, ?_⟩
  unfold lcC
  simp only [bnd_app, obn_ok, hit, c]
  rw [if_pos (hw _ _ a).2]
/-- a comprehension whose turns leave the slots as they are -/
theorem lc_ty {α : Type} (l : List α) (c : α → D) (b : α → Bool) (x : α → D) {own : List Nat} {it : M (List D)} {g : Val → M Unit} {t : M Bool} {f : M Val} {e e0 w : En} (hit : it e = .ok (l.map c, e0)) (hw : wipE own e0 = .ok ((), w)) (hl : l.length ≤ lenLim) (hww : wipE own w = .ok ((), w))
    (step : ∀ a ∈ l, ∃ e2, g (.sh (c a)) w = .ok ((), e2) ∧ t e2 = .ok (b a, e2) ∧ wipE own e2 = .ok ((), w) ∧ (b a = true → ∃ v, f e2 = .ok (v, e2) ∧ shr v e2 = .ok (x a, e2))) : lcC own it g t f e = .ok (.fr (.lst ((l.filter b).map x)), putE own e0 w) := by
  have go : ∀ (l' : List α) (e : En), (∀ a ∈ l', a ∈ l) → wipE own e = .ok ((), w) → lcL own g t f (l'.map c) e = .ok ((l'.filter b).map x, w) := by
    intro l'
    induction l' with
    | nil => intro e _ he; simp [lcL, he]
    | cons a r ih =>
      intro e hm he
      obtain ⟨e2, h1, h2, h3, h4⟩ := step a (hm a List.mem_cons_self)
      have ih' := ih e2 (fun a ha => hm a (List.mem_cons_of_mem _ ha)) h3
      rw [List.map_cons, List.filter_cons]
      simp only [lcL, bnd_app, obn_ok, he, h1, h2]
      cases q : b a with
      | false => simpa using ih'
      | true =>
        obtain ⟨v, h5, h6⟩ := h4 q
        simp only [if_true, bnd_app, obn_ok, h5, h6, ih', ret_app, List.map_cons]
  have hlen : ((l.filter b).map x).length ≤ lenLim := by
    rw [List.length_map]
    exact Nat.le_trans (List.length_filter_le _ _) hl
  unfold lcC
  simp only [bnd_app, obn_ok, hit, go l e0 (fun _ h => h) hw]
  rw [if_pos hlen]
/-- a loop over a script of places: what each turn does to the slots is told by a state -/
theorem forL_st {σ : Type} {g : Val → M Unit} {b : M Fl} (S : σ → En) (P : σ → Prop) {e : En} : ∀ (ds : List D), (∀ d ∈ ds, ∀ s e, e = S s → P s → ∃ e1 fl s', g (.sh d) e = .ok ((), e1) ∧ b e1 = .ok (fl, S s') ∧ (fl = .nx ∨ fl = .ct) ∧ P s') → ∀ s, P s → ∃ s', forL g b ds (S s) = .ok (.nx, S s') ∧ P s'
  | [], _, s, h => ⟨s, rfl, h⟩
  | d :: r, st, s, h => by
    obtain ⟨e1, fl, s1, h1, h2, h3, h4⟩ := st d List.mem_cons_self s _ rfl h
    obtain ⟨s2, h5, h6⟩ := forL_st (e := e) S P r (fun d hd => st d (List.mem_cons_of_mem _ hd)) s1 h4
    refine ⟨s2, ?_, h6⟩
    simp only [forL_cons, obn_ok, h1, h2]
    rcases h3 with rfl | rfl <;> exact h5
end Qv
namespace Qv
open PySem L2

/-! ### bodies (by gen2.py) -/
def B_is_integer : M Fl := seqS [rtS (bopC false [isiC "int" (nameC 0), notC (truC (isiC "bool" (nameC 0)))])]
def B_is_index (g_is_integer : Ev) : M Fl := seqS [rtS (bopC false [callV [true] g_is_integer [nameC 1], chnC (leD) (ltD) (conC (.int 0)) (nameC 1) (nameC 0)])]
def B_is_name : M Fl := seqS [ifS (bopT true [notT (truC (isiC "str" (nameC 0))), notT (cmpT (chnC (leD) (leD) (conC (.int 1)) (callC lenB [nameC 0]) (conC (.int 8))))]) (seqS [rtS (conC (.bl false))]) (seqS []), rtS (callC allB [lcC [1] (iterC (nameC 0)) (asgN 1) (ret true) (binC (inD false) (nameC 1) (conC (.str "abcdefghijklmnopqrstuvwxyz")))])]
def B_are_columns (g_is_name : Ev) : M Fl := seqS [ifS (bopT true [notT (truC (isiC "tuple" (nameC 0))), cmpT (binC (gtD) (callC lenB [nameC 0]) (conC (.int 8))), notT (truC (callC allB [lcC [1] (iterC (nameC 0)) (asgN 1) (ret true) (callV [false] g_is_name [nameC 1])]))]) (seqS [rtS (conC (.bl false))]) (seqS []), rtS (callC allB [lcC [2, 3] (walkC zp2B [nameC 0, sliC (nameC 0) (partC (conC (.int 1))) (noC)]) (asgTn [asgN 2, asgN 3]) (ret true) (binC (ltD) (nameC 2) (nameC 3))])]
def B_is_columns (g_is_index g_are_columns : Ev) : M Fl := seqS [ifS (notT (truC (callV [true, true] g_is_index [binC addD (conC (.int 8)) (conC (.int 1)), nameC 1]))) (seqS [fail]) (seqS []), rtS (bopC false [callV [false] g_are_columns [nameC 0], binC (geD) (callC lenB [nameC 0]) (nameC 1)])]
def B_require_columns (g_are_columns : Ev) : M Fl := seqS [ifS (notT (truC (callV [false] g_are_columns [nameC 0]))) (seqS [fail]) (seqS [])]
def B_is_row_in (g_is_integer : Ev) : M Fl := seqS [rtS (bopC false [isiC "tuple" (nameC 1), binC (eqD) (callC lenB [nameC 1]) (nameC 0), callC allB [lcC [2] (iterC (nameC 1)) (asgN 2) (ret true) (callV [true] g_is_integer [nameC 2])]])]
def B_is_row (g_require_columns g_is_row_in : Ev) : M Fl := seqS [drS (callV [false] g_require_columns [nameC 0]), rtS (callV [true, false] g_is_row_in [callC lenB [nameC 0], nameC 1])]
def B__law_dice : M Fl := seqS [asS (binC addD (binC mulD (conC (.int 13)) (nameC 1)) (conC (.int 6))) (asgN 2), ifS (cmpT (binC (ltD) (nameC 1) (callC lenB [nameC 0]))) (seqS [asS (ixC (nameC 0) (nameC 1)) (asgN 2)]) (seqS []), asS (binC modD (callC intB [callC absB [nameC 2]]) (binC powD (binC powD (conC (.int 10)) (conC (.int 60))) (conC (.int 12)))) (asgN 3), asS (binC addD (binC addD (binC addD (binC mulD (binC modD (callC intB [nameC 3]) (conC (.int 2147483497))) (conC (.int 40014))) (binC mulD (conC (.int 1009)) (nameC 1))) (binC mulD (conC (.int 5)) (callC intB [binC (ltD) (nameC 2) (conC (.int 0))]))) (conC (.int 29))) (asgN 4), rtS (lstC [callC maxB [conC (.int 0), binC subD (nameC 3) (binC powD (conC (.int 10)) (conC (.int 18)))], binC modD (callC intB [nameC 4]) (conC (.int 2147483489)), conC (.int 0)])]
def B__law_pull : M Fl := seqS [ifS (cmpT (binC (gtD) (ixC (nameC 0) (conC (.int 0))) (conC (.int 0)))) (seqS [asS (binC modD (callC intB [ixC (nameC 0) (conC (.int 0))]) (nameC 1)) (asgN 2), asS (binC fdivD (ixC (nameC 0) (conC (.int 0))) (nameC 1)) (asgI (nameC 0) (conC (.int 0))), rtS (nameC 2)]) (seqS []), asS (binC addD (ixC (nameC 0) (conC (.int 2))) (conC (.int 1))) (asgI (nameC 0) (conC (.int 2))), asS (binC modD (callC intB [binC addD (ixC (nameC 0) (conC (.int 1))) (binC mulD (conC (.int 1000133)) (ixC (nameC 0) (conC (.int 2))))]) (conC (.int 2305843009213693951))) (asgN 3), asS (binC mulD (binC modD (callC intB [binC mulD (nameC 3) (nameC 3)]) (conC (.int 2305843009213693921))) (nameC 3)) (asgN 4), rtS (binC modD (callC intB [binC fdivD (binC modD (callC intB [binC addD (nameC 4) (binC mulD (conC (.int 7577)) (ixC (nameC 0) (conC (.int 2))))]) (conC (.int 2305843009213693907))) (conC (.int 8192))]) (nameC 1))]
def B__law_pick (g__law_pull : Ev) : M Fl := seqS [rtS (ixC (nameC 1) (callV [true, true] g__law_pull [nameC 0, callC lenB [nameC 1]]))]
def B__law_columns (g__law_pull : Ev) : M Fl := seqS [par2 2 3 (conC (.str "abcdefghijklmnopqrstuvwxyz")) (lstC []), forS (rngC rng1B [nameC 1]) (asgN 4) (seqS [asS (ixC (nameC 2) (binC addD (binC mulD (conC (.int 2)) (nameC 4)) (callV [true, true] g__law_pull [nameC 0, conC (.int 2)]))) (asgN 5), forS (rngC rng1B [ixC (lstC [conC (.int 0), conC (.int 0), conC (.int 1), conC (.int 2)]) (callV [true, true] g__law_pull [nameC 0, conC (.int 4)])]) (asgN 6) (seqS [asS (binC addD (nameC 5) (ixC (nameC 2) (callV [true, true] g__law_pull [nameC 0, conC (.int 26)]))) (asgN 5)]), drS (appC (nameC 3) (nameC 5))]), rtS (callC tupleB [nameC 3])]
def B__law_good_name : M Fl := seqS [ifS (bopT true [notT (truC (isiC "str" (nameC 0))), cmpT (binC (eqD) (callC lenB [nameC 0]) (conC (.int 0))), cmpT (binC (gtD) (callC lenB [nameC 0]) (conC (.int 8)))]) (seqS [rtS (conC (.bl false))]) (seqS []), rtS (binC (eqD) (lcC [1] (iterC (nameC 0)) (asgN 1) (cmpT (binC (inD true) (nameC 1) (conC (.str "abcdefghijklmnopqrstuvwxyz")))) (nameC 1)) (lstC []))]
def B__law_good_columns (g__law_good_name : Ev) : M Fl := seqS [ifS (bopT true [notT (truC (isiC "tuple" (nameC 0))), cmpT (binC (gtD) (callC lenB [nameC 0]) (conC (.int 8))), cmpT (binC (ltD) (callC lenB [nameC 0]) (nameC 1))]) (seqS [rtS (conC (.bl false))]) (seqS []), ifS (cmpT (binC (neD) (lcC [2] (iterC (nameC 0)) (asgN 2) (notT (truC (callV [false] g__law_good_name [nameC 2]))) (nameC 2)) (lstC []))) (seqS [rtS (conC (.bl false))]) (seqS []), rtS (bopC false [binC (eqD) (callC listB [nameC 0]) (callC sortedB [lcC [2] (iterC (nameC 0)) (asgN 2) (ret true) (callC strB [nameC 2])]), binC (eqD) (lenSetC (nameC 0)) (callC lenB [nameC 0])])]
def B__law_odd_value (g__law_pick : Ev) : M Fl := seqS [rtS (callV [true, true] g__law_pick [nameC 0, lstC [conC .non, conC (.bl true), conC (.bl false), conC (.int 0), conC (.int 7), negC (conC (.int 3)), binC powD (conC (.int 10)) (conC (.int 39)), lstC [], dct0C, tupC [conC .non], tupC [tupC [conC (.str "a")]], lstC [conC (.str "a")], dictC [(conC (.str "a"), conC (.int 1))], tupC [tupC []]]])]
def B__law_string (g__law_columns g__law_pull g__law_pick : Ev) : M Fl := seqS [asS (ixC (callV [true, false] g__law_columns [nameC 0, conC (.int 1)]) (conC (.int 0))) (asgN 1), asS (callV [true, true] g__law_pull [nameC 0, conC (.int 8)]) (asgN 2), ifS (cmpT (binC (eqD) (nameC 2) (conC (.int 0)))) (seqS [rtS (binC mulD (nameC 1) (conC (.int 3)))]) (seqS []), ifS (cmpT (binC (eqD) (nameC 2) (conC (.int 1)))) (seqS [rtS (callV [true, true] g__law_pick [nameC 0, lstC [conC (.str ""), conC (.str "A"), conC (.str "aB"), conC (.str "a1"), conC (.str "a_b"), conC (.str "a b"), conC (.str " a"), conC (.str "a "), conC (.str "a\n"), conC (.str "-"), conC (.str "a-b"), conC (.str "name.s")]])]) (seqS []), ifS (cmpT (binC (eqD) (nameC 2) (conC (.int 2)))) (seqS [rtS (callV [true, true] g__law_pick [nameC 0, lstC [conC (.str "abcdefgh"), conC (.str "abcdefghi"), conC (.str "zzzzzzzz"), conC (.str "zzzzzzzzz"), binC mulD (conC (.str "a")) (conC (.int 300))]])]) (seqS []), rtS (nameC 1)]
def B__law_names (g__law_columns g__law_pull g__law_pick g__law_odd_value : Ev) : M Fl := seqS [asS (callC listB [callV [true, false] g__law_columns [nameC 0, callV [true, true] g__law_pull [nameC 0, conC (.int 9)]]]) (asgN 1), asS (callV [true, true] g__law_pull [nameC 0, conC (.int 7)]) (asgN 2), ifS (cmpT (binC (eqD) (nameC 2) (conC (.int 0)))) (seqS [rtS (callC tupleB [revC (nameC 1)])]) (seqS []), ifS (cmpT (binC (eqD) (nameC 2) (conC (.int 1)))) (seqS [rtS (callC listB [nameC 1])]) (seqS []), ifS (cmpT (binC (eqD) (nameC 2) (conC (.int 2)))) (seqS [rtS (callC tupleB [binC addD (nameC 1) (sliC (nameC 1) (noC) (partC (conC (.int 1))))])]) (seqS []), ifS (cmpT (binC (eqD) (nameC 2) (conC (.int 3)))) (seqS [rtS (callC tupleB [binC addD (nameC 1) (lstC [callV [true, true] g__law_pick [nameC 0, lstC [callV [true] g__law_odd_value [nameC 0], conC (.str "Z"), conC (.str "zzzzzzzzz"), conC (.str "")]]])])]) (seqS []), ifS (cmpT (binC (eqD) (nameC 2) (conC (.int 4)))) (seqS [rtS (callC tupleB [binC addD (callC listB [callV [true, false] g__law_columns [nameC 0, conC (.int 8)]]) (sliC (lstC [conC (.str "zz"), conC (.str "zzz")]) (noC) (partC (binC addD (conC (.int 1)) (callV [true, true] g__law_pull [nameC 0, conC (.int 2)]))))])]) (seqS []), rtS (callC tupleB [nameC 1])]
def B__law_values (g__law_pick g__law_pull : Ev) : M Fl := seqS [asS (lcC [3] (rngC rng1B [nameC 1]) (asgN 3) (ret true) (callV [true, true] g__law_pick [nameC 0, lstC [conC (.int 0), conC (.int 1), negC (conC (.int 1)), conC (.int 7), binC powD (conC (.int 10)) (conC (.int 39))]])) (asgN 2), asS (callV [true, true] g__law_pull [nameC 0, conC (.int 6)]) (asgN 4), ifS (cmpT (binC (eqD) (nameC 4) (conC (.int 0)))) (seqS [rtS (callC tupleB [binC addD (nameC 2) (lstC [conC (.int 1)])])]) (seqS []), ifS (cmpT (binC (eqD) (nameC 4) (conC (.int 1)))) (seqS [rtS (callC tupleB [sliC (nameC 2) (partC (conC (.int 1))) (noC)])]) (seqS []), ifS (cmpT (binC (eqD) (nameC 4) (conC (.int 2)))) (seqS [rtS (callC listB [nameC 2])]) (seqS []), ifS (bopT false [cmpT (binC (eqD) (nameC 4) (conC (.int 3))), cmpT (binC (neD) (nameC 2) (lstC []))]) (seqS [asS (callV [true, true] g__law_pick [nameC 0, lstC [conC (.bl true), conC (.bl false), conC .non, conC (.str "1"), tupC [conC (.int 1)], lstC [], binC powD (conC (.int 10)) (conC (.int 39))]]) (asgI (nameC 2) (callV [true, true] g__law_pull [nameC 0, nameC 1]))]) (seqS []), rtS (callC tupleB [nameC 2])]
def B__law_row_due : M Fl := seqS [ifS (bopT true [notT (truC (isiC "tuple" (nameC 1))), cmpT (binC (neD) (callC lenB [nameC 1]) (nameC 0))]) (seqS [rtS (conC (.bl false))]) (seqS []), rtS (binC (eqD) (lcC [2] (iterC (nameC 1)) (asgN 2) (bopT true [truC (isiC "bool" (nameC 2)), notT (truC (isiC "int" (nameC 2)))]) (nameC 2)) (lstC []))]
def B__law_strings_right (g__law_pull g__law_string g__law_odd_value g_is_name g__law_good_name : Ev) : M Fl := seqS [forS (rngC rng1B [conC (.int 6)]) (asgN 1) (seqS [asS (ifC (cmpT (binC (gtD) (callV [true, true] g__law_pull [nameC 0, conC (.int 4)]) (conC (.int 0)))) (callV [true] g__law_string [nameC 0]) (callV [true] g__law_odd_value [nameC 0])) (asgN 2), ifS (cmpT (binC (neD) (callC reprB [lstC [callV [false] g_is_name [nameC 2], callV [false] g_is_name [nameC 2]]]) (callC reprB [binC mulD (lstC [callV [false] g__law_good_name [nameC 2]]) (conC (.int 2))]))) (seqS [rtS (conC (.bl false))]) (seqS [])]), rtS (conC (.bl true))]
def B__law_columns_right (g__law_pull g__law_names g__law_odd_value g_is_columns g__law_good_columns : Ev) : M Fl := seqS [forS (rngC rng1B [conC (.int 6)]) (asgN 1) (seqS [asS (ifC (cmpT (binC (gtD) (callV [true, true] g__law_pull [nameC 0, conC (.int 5)]) (conC (.int 0)))) (callV [true] g__law_names [nameC 0]) (callV [true] g__law_odd_value [nameC 0])) (asgN 2), asS (callC reprB [nameC 2]) (asgN 3), ifS (cmpT (binC (neD) (callC reprB [callK [false, false] g_is_columns [.ps 0, .df 0 (.int 0)] 1 0 [nameC 2] []]) (callC reprB [callV [false, true] g__law_good_columns [nameC 2, conC (.int 0)]]))) (seqS [rtS (conC (.bl false))]) (seqS []), asS (lcC [5] (rngC rng1B [conC (.int 9)]) (asgN 5) (ret true) (callK [false, false] g_is_columns [.ps 0, .kw 0] 1 1 [nameC 2] [nameC 5])) (asgN 4), ifS (bopT true [cmpT (binC (neD) (callC reprB [nameC 4]) (callC reprB [lcC [5] (rngC rng1B [conC (.int 9)]) (asgN 5) (ret true) (callV [false, true] g__law_good_columns [nameC 2, nameC 5])])), cmpT (binC (neD) (callC reprB [nameC 2]) (nameC 3))]) (seqS [rtS (conC (.bl false))]) (seqS [])]), rtS (conC (.bl true))]
def B__law_rows_right (g__law_pull g__law_columns g__law_values g__law_odd_value g_is_row g__law_row_due : Ev) : M Fl := seqS [forS (rngC rng1B [conC (.int 6)]) (asgN 1) (seqS [asS (callV [true, true] g__law_pull [nameC 0, conC (.int 9)]) (asgN 2), asS (callV [true, false] g__law_columns [nameC 0, nameC 2]) (asgN 3), asS (ifC (cmpT (binC (gtD) (callV [true, true] g__law_pull [nameC 0, conC (.int 5)]) (conC (.int 0)))) (callV [true, false] g__law_values [nameC 0, nameC 2]) (callV [true] g__law_odd_value [nameC 0])) (asgN 4), asS (callC reprB [nameC 4]) (asgN 5), ifS (bopT true [cmpT (binC (neD) (callC reprB [callV [false, false] g_is_row [nameC 3, nameC 4]]) (callC reprB [callV [true, false] g__law_row_due [nameC 2, nameC 4]])), cmpT (binC (neD) (callC reprB [nameC 4]) (nameC 5))]) (seqS [rtS (conC (.bl false))]) (seqS [])]), rtS (conC (.bl true))]
def B_law (g__law_dice g__law_strings_right g__law_columns_right g__law_rows_right g_is_name g_is_columns g_is_row : Ev) : M Fl := seqS [forS (rngC rng1B [callC maxB [conC (.int 1), callC minB [conC (.int 10), callC lenB [nameC 0]]]]) (asgN 1) (seqS [asS (callV [true, false] g__law_dice [nameC 0, nameC 1]) (asgN 2), ifS (bopT true [notT (truC (callV [true] g__law_strings_right [nameC 2])), notT (truC (callV [true] g__law_columns_right [nameC 2])), notT (truC (callV [true] g__law_rows_right [nameC 2]))]) (seqS [rtS (conC (.bl false))]) (seqS [])]), asS (conC (.str "abcdefghijklmnopqrstuvwxyz")) (asgN 3), ifS (bopT true [cmpT (binC (neD) (lcC [4] (iterC (nameC 3)) (asgN 4) (notT (truC (callV [false] g_is_name [nameC 4]))) (nameC 4)) (lstC [])), truC (callV [false] g_is_name [sliC (nameC 3) (noC) (partC (conC (.int 9)))]), notT (truC (callV [false] g_is_name [sliC (nameC 3) (partC (conC (.int 18))) (noC)]))]) (seqS [rtS (conC (.bl false))]) (seqS []), asS (tupC [conC (.str "a"), conC (.str "b"), conC (.str "c"), conC (.str "d"), conC (.str "e"), conC (.str "f"), conC (.str "g"), conC (.str "h")]) (asgN 5), asS (lstC [callK [false, false] g_is_columns [.ps 0, .kw 0] 1 1 [nameC 5] [conC (.int 8)], callK [false, false] g_is_columns [.ps 0, .df 0 (.int 0)] 1 0 [binC addD (nameC 5) (tupC [conC (.str "i")])] [], callK [false, false] g_is_columns [.ps 0, .df 0 (.int 0)] 1 0 [tupC []] [], callK [false, false] g_is_columns [.ps 0, .kw 0] 1 1 [tupC []] [conC (.int 1)]]) (asgN 6), asS (binC addD (nameC 6) (lstC [callV [false, false] g_is_row [tupC [], tupC []], callV [false, false] g_is_row [tupC [], tupC [conC (.int 1)]], callV [false, false] g_is_row [nameC 5, binC mulD (tupC [conC (.int 0)]) (conC (.int 8))], callK [false, false] g_is_columns [.ps 0, .df 0 (.int 0)] 1 0 [tupC [conC (.str "a"), conC (.str "aa"), conC (.str "ab"), conC (.str "b")]] []])) (asgN 6), rtS (binC (eqD) (nameC 6) (lstC [conC (.bl true), conC (.bl false), conC (.bl true), conC (.bl false), conC (.bl true), conC (.bl false), conC (.bl true), conC (.bl true)]))]
end Qv
namespace Qv
open PySem L2

/-! ### data that can be compared and shown: dep deep, w signs -/
structure NC (dep w : Nat) (d : D) : Prop where
  pl : d.pl = true
  lay : d.py.canLay0 = true
  sh : d.py.showable = true
  len : d.py.shown.length ≤ w
  dep : d.py.depth ≤ dep
theorem NC.mono {a b w v : Nat} {d : D} (h : NC a w d) (h1 : a ≤ b) (h2 : w ≤ v) : NC b v d := ⟨h.pl, h.lay, h.sh, Nat.le_trans h.len h2, Nat.le_trans h.dep h1⟩
theorem NC.repr {a w : Nat} {d : D} (h : NC a w d) (h1 : a ≤ 64) (h2 : w ≤ lenLim) : reprD d = some d.py.shown := by
  unfold reprD
  have h3 := Nat.le_trans h.len h2
  have h4 := Nat.le_trans h.dep h1
  rw [if_pos (by simp [h.pl, h.lay, h.sh, h3, h4])]
theorem NC.reprB {a w : Nat} {d : D} (h : NC a w d) (h1 : a ≤ 64) (h2 : w ≤ lenLim) : reprB [d] = some (.sh (.str d.py.shown)) := by
  show (reprD d).map _ = _
  rw [h.repr h1 h2]
  rfl
theorem NC.ok {a w : Nat} {d : D} (h : NC a w d) (h1 : a ≤ 64) : eqOk d = true := by
  unfold eqOk
  have h4 := Nat.le_trans h.dep h1
  have : SeqAt.shaped d.py = true := by
    show (d.py.canLay0 && decide (d.py.depth ≤ 64)) = true
    simp [h.lay, h4]
  simp [h.pl, this]
theorem NC.eq {a w b v : Nat} {x y : D} (h : NC a w x) (h' : NC b v y) (h1 : a ≤ 64) (h2 : b ≤ 64) : eqD x y = some (.sh (.bl (PyData.eqv x.py y.py))) := by
  unfold eqD
  split
  · rename_i a b
    show _ = some (Val.sh (.bl (a == b)))
    by_cases z : a = b <;> simp [z]
  · rw [h.ok h1, h'.ok h2]
    rfl
theorem NC.ne {a w b v : Nat} {x y : D} (h : NC a w x) (h' : NC b v y) (h1 : a ≤ 64) (h2 : b ≤ 64) : neD x y = some (.sh (.bl (!PyData.eqv x.py y.py))) := by
  unfold neD
  split
  · rename_i a b
    show _ = some (Val.sh (.bl (!(a == b))))
    by_cases z : a = b <;> simp [z]
  · rw [h.ok h1, h'.ok h2]
    rfl
theorem NC.refl {a w : Nat} {d : D} (h : NC a w d) : PyData.eqv d.py d.py = true := SeqAt.eqv_refl d.py h.lay
theorem nc_int {i : Int} {k : Nat} (h : i.natAbs < 10 ^ k) (hk : 0 < k) (hk2 : k ≤ 500) : NC 0 (k + 1) (.int i) := by
  refine ⟨rfl, rfl, ?_, ?_, Nat.le_refl 0⟩
  · show decide (i.natAbs.log2 < 1920) = true
    refine decide_eq_true (log2_lt (Nat.lt_of_lt_of_le h ?_) (by decide))
    calc 10 ^ k ≤ 10 ^ 500 := Nat.pow_le_pow_right (by decide) hk2
      _ ≤ 2 ^ 1920 := by decide +kernel
  · show (Str.ofString (toString i)).length ≤ k + 1
    have := int_text_length_le10 hk h
    rw [ofString_length]; exact this
theorem nc_str {s : Str} {k : Nat} (h : s.length ≤ k) (hc : ∀ c ∈ s.cps.toList, c < 0x110000) : NC 0 (10 * k + 2) (.str s) := by
  refine ⟨rfl, ?_, rfl, ?_, Nat.le_refl 0⟩
  · show s.cps.all (· < 0x110000) = true
    rw [← Array.all_toList]
    exact List.all_eq_true.mpr fun c h => decide_eq_true (hc c h)
  · have := StrLaws.reprText_len s fun c h => Nat.lt_of_lt_of_le (hc c h) (by decide)
    show (reprText s).length ≤ _
    omega
theorem nc_bl (b : Bool) : NC 0 5 (.bl b) := ⟨rfl, rfl, rfl, by cases b <;> decide +kernel, Nat.le_refl 0⟩
theorem nc_non : NC 0 4 .non := ⟨rfl, rfl, rfl, by decide +kernel, Nat.le_refl 0⟩
theorem shAll_eq : ∀ l : List D, PyData.shownAll (pyL l) = l.map fun d => d.py.shown
  | [] => rfl
  | d :: l => by rw [pyL, PyData.shownAll, shAll_eq l]; rfl
theorem nc_all {a w : Nat} : ∀ {l : List D}, (∀ d ∈ l, NC a w d) → plL l = true ∧ PyData.canLayAll0 (pyL l) = true ∧ PyData.showableAll (pyL l) = true ∧ PyData.depthAll (pyL l) ≤ a ∧ piled (PyData.shownAll (pyL l)) ≤ l.length * (w + 2)
  | [], _ => ⟨rfl, rfl, rfl, Nat.zero_le _, Nat.zero_le _⟩
  | d :: l, h => by
    obtain ⟨h1, h2, h3, h4, h5⟩ := nc_all fun x hx => h x (List.mem_cons_of_mem _ hx)
    have q := h d List.mem_cons_self
    refine ⟨by simp [plL, q.pl, h1], by simp [pyL, PyData.canLayAll0, q.lay, h2], by simp [pyL, PyData.showableAll, q.sh, h3], ?_, ?_⟩
    · rw [pyL, PyData.depthAll]
      exact Nat.max_le.mpr ⟨q.dep, h4⟩
    · rw [pyL, PyData.shownAll, piled_cons, List.length_cons]
      have := q.len
      rw [Nat.add_mul]
      omega
theorem nc_tup {a w : Nat} {l : List D} (h : ∀ d ∈ l, NC a w d) : NC (a + 1) (l.length * (w + 2) + 4) (.tup l) := by
  obtain ⟨h1, h2, h3, h4, h5⟩ := nc_all h
  refine ⟨h1, h2, h3, ?_, Nat.succ_le_succ h4⟩
  show (tupleText (PyData.shownAll (pyL l))).length ≤ _
  unfold tupleText
  rw [strLen_append, strLen_append]
  by_cases z : PyData.shownAll (pyL l) = []
  · rw [z]
    show 1 + 0 + 1 ≤ _
    omega
  · have j := join_length_add _ z
    have e1 : (("(" : String) : Str).length = 1 := rfl
    have e2 : ((if (PyData.shownAll (pyL l)).length == 1 then ",)" else ")" : String) : Str).length ≤ 2 := by split <;> decide +kernel
    omega
theorem nc_lst {a w : Nat} {l : List D} (h : ∀ d ∈ l, NC a w d) : NC (a + 1) (l.length * (w + 2) + 4) (.lst l) := by
  obtain ⟨h1, h2, h3, h4, h5⟩ := nc_all h
  refine ⟨h1, h2, h3, ?_, Nat.succ_le_succ h4⟩
  show (textFrom 0 "[" (PyData.shownAll (pyL l)) ++ (("]" : String) : Str)).length ≤ _
  rw [strLen_append]
  have e1 : (("]" : String) : Str).length = 1 := rfl
  have e0 : (("[" : String) : Str).length = 1 := rfl
  cases q : PyData.shownAll (pyL l) with
  | nil =>
    show (("[" : String) : Str).length + _ ≤ _
    omega
  | cons t r =>
    show (textFrom 1 ((("[" : String) : Str) ++ (("" : String) : Str) ++ t) r).length + _ ≤ _
    rw [textFrom_length_pos _ _ _ (by decide), strLen_append, strLen_append]
    have e3 : (("" : String) : Str).length = 0 := rfl
    rw [q, piled_cons] at h5
    omega

/-! ### names, columns, rows -/
def Nm (s : Str) : Prop := 1 ≤ s.length ∧ s.length ≤ 8 ∧ ∀ c ∈ s.cps.toList, 97 ≤ c ∧ c ≤ 122
def sL (cs : List Str) : List D := cs.map D.str
def iL (r : List Int) : List D := r.map D.int
def Asc (cs : List Str) : Prop := cs.Pairwise fun a b => a.cps.toList < b.cps.toList
structure Cols (cs : List Str) : Prop where
  len : cs.length ≤ 8
  nm : ∀ s ∈ cs, Nm s
  asc : Asc cs
theorem signs_mem {c : Nat} (h1 : 97 ≤ c) (h2 : c ≤ 122) : c ∈ (("abcdefghijklmnopqrstuvwxyz" : String) : Str).cps.toList := by
  have e : (("abcdefghijklmnopqrstuvwxyz" : String) : Str).cps.toList = List.range' 97 26 := by decide +kernel
  rw [e, List.mem_range']
  exact ⟨c - 97, by omega, by omega⟩
@[simp] theorem kit_ss : kitB "str" "str" = some true := by decide +kernel
@[simp] theorem kit_tt : kitB "tuple" "tuple" = some true := by decide +kernel
@[simp] theorem kit_ii : kitB "int" "int" = some true := by decide +kernel
@[simp] theorem kit_ib : kitB "int" "bool" = some false := by decide +kernel
theorem flat_sL : ∀ cs : List Str, flatL (sL cs) = some (cs.map V.str)
  | [] => rfl
  | s :: cs => by
    show flatL (D.str s :: sL cs) = _
    unfold flatL
    rw [flat_sL cs]
    rfl
@[simp] theorem len_sL (cs : List Str) : (sL cs).length = cs.length := by simp [sL]
@[simp] theorem len_iL (cs : List Int) : (iL cs).length = cs.length := by simp [iL]
/-! ### the dice -/
def dic (a b c : Int) : D := .lst [.int a, .int b, .int c]
/-- at most N pulls so far -/
def Di (N : Nat) (d : D) : Prop := ∃ a b c : Int, d = dic a b c ∧ 0 ≤ a ∧ 0 ≤ b ∧ b < 2147483489 ∧ 0 ≤ c ∧ c ≤ N
theorem Di.mono {N M : Nat} {d : D} (h : Di N d) (l : N ≤ M) : Di M d := by
  obtain ⟨a, b, c, h0, h1, h2, h3, h4, h5⟩ := h
  exact ⟨a, b, c, h0, h1, h2, h3, h4, by omega⟩
def OkPull (ev : Ev) : Prop := ∀ (N : Nat) (d : D) (t : Int), Di N d → N < 2 ^ 60 → 0 < t → t < 2 ^ 60 → ∃ r d', ev [.ow true d, .sh (.int t)] = .ok (.sh (.int r), [.ow true d', .em]) ∧ Di (N + 1) d' ∧ 0 ≤ r ∧ r < t
theorem ix0 (a b c : Int) : ixD (dic a b c) (.int 0) = some (.int a) := rfl
theorem ix1 (a b c : Int) : ixD (dic a b c) (.int 1) = some (.int b) := rfl
theorem ix2 (a b c : Int) : ixD (dic a b c) (.int 2) = some (.int c) := rfl
theorem nat_lt400 {i : Int} {k : Nat} (h : i.natAbs < k) (hk : k ≤ 2 ^ 400) : i.natAbs < 2 ^ 400 := Nat.lt_of_lt_of_le h hk
theorem ok_pull : OkPull (evF 5 2 B__law_pull) := by
  intro N d t hd hN ht ht2
  obtain ⟨a, b, c, rfl, ha, hb, hb2, hc, hc2⟩ := hd
  have tl : t.natAbs.log2 < 9000 := log2_lt (k := 9000) (Nat.lt_of_lt_of_le (show t.natAbs < 2 ^ 60 by omega) (Nat.pow_le_pow_right (by decide) (by decide))) (by decide)
  by_cases h : 0 < a
  · refine ⟨a % t, dic (a / t) b c, ?_, ⟨_, _, _, rfl, Int.ediv_nonneg ha (by omega), hb, hb2, hc, by omega⟩, Int.emod_nonneg _ (by omega), Int.emod_lt_of_pos _ ht⟩
    have ix := ix0 a b c
    have ix' := ix0 (a / t) b c
    unfold dic at ix ix' ⊢
    simp [B__law_pull, ix, h, mod_int ht, fdiv_int ht tl, ixN]
  · have m1 : mulD (.int 1000133) (.int (c + 1)) = some (.sh (.int (1000133 * (c + 1)))) := mul_int (by decide) (nat_lt400 (k := 2 ^ 62) (by omega) (by decide))
    have p1 : (0 : Int) < 2305843009213693951 := by decide
    have p2 : (0 : Int) < 2305843009213693921 := by decide
    have p3 : (0 : Int) < 2305843009213693907 := by decide
    generalize hone : (b + 1000133 * (c + 1)) % 2305843009213693951 = one
    have one0 : 0 ≤ one ∧ one < 2305843009213693951 := by rw [← hone]; exact ⟨Int.emod_nonneg _ (by decide), Int.emod_lt_of_pos _ p1⟩
    have m2 : mulD (.int one) (.int one) = some (.sh (.int (one * one))) := mul_int (nat_lt400 (k := 2 ^ 62) (by omega) (by decide)) (nat_lt400 (k := 2 ^ 62) (by omega) (by decide))
    generalize htw : (one * one) % 2305843009213693921 = two
    have two0 : 0 ≤ two ∧ two < 2305843009213693921 := by rw [← htw]; exact ⟨Int.emod_nonneg _ (by decide), Int.emod_lt_of_pos _ p2⟩
    have m3 : mulD (.int two) (.int one) = some (.sh (.int (two * one))) := mul_int (nat_lt400 (k := 2 ^ 62) (by omega) (by decide)) (nat_lt400 (k := 2 ^ 62) (by omega) (by decide))
    have m4 : mulD (.int 7577) (.int (c + 1)) = some (.sh (.int (7577 * (c + 1)))) := mul_int (by decide) (nat_lt400 (k := 2 ^ 62) (by omega) (by decide))
    have d8 := fdiv_int (i := (two * one + 7577 * (c + 1)) % 2305843009213693907) (j := 8192) (by decide) (by decide +kernel)
    have mm1 := mod_int (i := b + 1000133 * (c + 1)) p1
    have mm2 := mod_int (i := one * one) p2
    have mm3 := mod_int (i := two * one + 7577 * (c + 1)) p3
    have mm4 := mod_int (i := (two * one + 7577 * (c + 1)) % 2305843009213693907 / 8192) ht
    rw [hone] at mm1
    rw [htw] at mm2
    refine ⟨((two * one + 7577 * (c + 1)) % 2305843009213693907 / 8192) % t, dic a b (c + 1), ?_, ⟨_, _, _, rfl, ha, hb, hb2, by omega, by omega⟩, Int.emod_nonneg _ (by omega), Int.emod_lt_of_pos _ ht⟩
    have i0 := ix0 a b c
    have i2 := ix2 a b c
    have i2' := ix2 a b (c + 1)
    have i1' := ix1 a b (c + 1)
    unfold dic at i0 i2 i1' i2' ⊢
    simp [B__law_pull, i0, i2, i1', i2', h, m1, m2, m3, m4, d8, mm1, mm2, mm3, mm4, ixN]

theorem set_self {i : Nat} {e : En} {s : Slot} (h : e[i]? = some s) : e.set i s = e := by
  apply List.ext_getElem?
  intro k
  by_cases hk : k = i
  · subst hk
    rw [getElem?_setB (List.getElem?_eq_some_iff.mp h).1, h]
  · rw [set_ne hk]
theorem pull_at {ev : Ev} (h : OkPull ev) {N k : Nat} {e : En} {b : Bool} {d : D} {t : Int} {ft : M Val} (hk : e[k]? = some (.ow b d)) (hd : Di N d) (hN : N < 2 ^ 60) (hft : ft e = .ok (.sh (.int t), e)) (ht : 0 < t) (ht2 : t < 2 ^ 60) :
    ∃ r d', callV [true, true] ev [nameC k, ft] e = .ok (.sh (.int r), e.set k (.ow b d')) ∧ Di (N + 1) d' ∧ 0 ≤ r ∧ r < t := by
  obtain ⟨r, d', h1, h3, h4, h5⟩ := h N d t hd hN ht ht2
  exact ⟨r, d', by simp [hk, hft, h1], h3, h4, h5⟩
theorem atI_mem {l : List D} {r : Int} (h0 : 0 ≤ r) (h1 : r < l.length) : ∃ x, atI l r = some x ∧ x ∈ l ∧ l[r.toNat]? = some x := by
  have hr : r.toNat < l.length := by omega
  have e : ixN l.length r = some r.toNat := by
    unfold ixN
    simp [h0, hr]
    try omega
  refine ⟨l[r.toNat], ?_, List.getElem_mem hr, by simp [hr]⟩
  unfold atI
  rw [e]
  simp [hr]
def OkPick (ev : Ev) : Prop := ∀ (N : Nat) (d : D) (l : List D), Di N d → N < 2 ^ 60 → 0 < l.length → l.length < 2 ^ 60 → ∀ s : Slot, (s = .ow true (.lst l) ∨ s = .sh (.lst l)) → ∃ x d', ev [.ow true d, s] = .ok (.sh x, [.ow true d', s.nrm]) ∧ Di (N + 1) d' ∧ x ∈ l
theorem ok_pick {g : Ev} (h : OkPull g) : OkPick (evF 2 2 (B__law_pick g)) := by
  intro N d l hd hN h0 hl s hs
  rcases hs with rfl | rfl
  · obtain ⟨r, d', h1, h2, h3, h4⟩ := pull_at h (k := 0) (e := [.ow true d, .ow true (.lst l)]) (ft := callC lenB [nameC 1]) (t := l.length) rfl hd hN (by simp) (by omega) (by omega)
    obtain ⟨x, h5, h6, _⟩ := atI_mem h3 h4
    have h7 : ixD (.lst l) (.int r) = some x := h5
    exact ⟨x, d', by simp [B__law_pick, h1, h7, -callV_app], h2, h6⟩
  · obtain ⟨r, d', h1, h2, h3, h4⟩ := pull_at h (k := 0) (e := [.ow true d, .sh (.lst l)]) (ft := callC lenB [nameC 1]) (t := l.length) rfl hd hN (by simp) (by omega) (by omega)
    obtain ⟨x, h5, h6, _⟩ := atI_mem h3 h4
    have h7 : ixD (.lst l) (.int r) = some x := h5
    exact ⟨x, d', by simp [B__law_pick, h1, h7, -callV_app], h2, h6⟩
/-- one of a list that is written there -/
theorem pick_at {ev : Ev} (h : OkPick ev) {N k : Nat} {e e2 : En} {b b2 : Bool} {d d2 : D} {l : List D} {fl : M Val} (hk : e[k]? = some (.ow b d)) (hl : fl e = .ok (.fr (.lst l), e2)) (hk2 : e2[k]? = some (.ow b2 d2)) (hd : Di N d2) (hN : N < 2 ^ 60) (h0 : 0 < l.length) (hl2 : l.length < 2 ^ 60) :
    ∃ x d', callV [true, true] ev [nameC k, fl] e = .ok (.sh x, e2.set k (.ow b2 d')) ∧ Di (N + 1) d' ∧ x ∈ l := by
  obtain ⟨x, d', h1, h2, h3⟩ := h N d2 l hd hN h0 hl2 (.sh (.lst l)) (.inr rfl)
  exact ⟨x, d', by simp [hk, hl, hk2, h1], h2, h3⟩
/-! ### columns made -/
def wd (l : List Nat) : Str := ⟨l.toArray⟩
@[simp] theorem wd_len (l : List Nat) : (wd l).length = l.length := by simp [wd, Str.length]
@[simp] theorem wd_list (l : List Nat) : (wd l).cps.toList = l := rfl
@[simp] theorem wd_cat (l m : List Nat) : wd l ++ wd m = wd (l ++ m) := by
  show (⟨l.toArray ++ m.toArray⟩ : Str) = _
  simp [wd]
theorem add_wd {l m : List Nat} (h : l.length + m.length ≤ lenLim) : addD (.str (wd l)) (.str (wd m)) = some (.sh (.str (wd (l ++ m)))) := by
  show (if (wd l).length + (wd m).length ≤ lenLim then _ else _) = _
  rw [if_pos (by simpa using h), wd_cat]
theorem sign_at {i : Int} (h0 : 0 ≤ i) (h1 : i < 26) : ixD (.str "abcdefghijklmnopqrstuvwxyz") (.int i) = some (.str (wd [97 + i.toNat])) := by
  have e : (("abcdefghijklmnopqrstuvwxyz" : String) : Str).cps.toList = List.range' 97 26 := by decide +kernel
  have el : (("abcdefghijklmnopqrstuvwxyz" : String) : Str).length ≤ lenLim := by decide +kernel
  show (if (("abcdefghijklmnopqrstuvwxyz" : String) : Str).length ≤ lenLim then (atI (("abcdefghijklmnopqrstuvwxyz" : String) : Str).cps.toList i).map (fun c => D.str ⟨#[c]⟩) else none) = _
  rw [if_pos el, e]
  have : ixN (List.range' 97 26).length i = some i.toNat := by
    unfold ixN
    simp [h0]
    omega
  unfold atI
  rw [this]
  have hr : i.toNat < 26 := by omega
  show ((List.range' 97 26)[i.toNat]?).map _ = _
  rw [List.getElem?_range' hr]
  simp [wd]
theorem few_ix {r : Int} (h0 : 0 ≤ r) (h1 : r < 4) : ∃ k : Nat, k ≤ 2 ∧ ixD (.lst [.int 0, .int 0, .int 1, .int 2]) (.int r) = some (.int (k : Nat)) := by
  have : r = 0 ∨ r = 1 ∨ r = 2 ∨ r = 3 := by omega
  rcases this with rfl | rfl | rfl | rfl
  · exact ⟨0, by omega, rfl⟩
  · exact ⟨0, by omega, rfl⟩
  · exact ⟨1, by omega, rfl⟩
  · exact ⟨2, by omega, rfl⟩
theorem rng1_nat (n : Nat) (h : n < 2 ^ 60) : rng1B [.int (n : Nat)] = some (rngD 0 n) := by
  simp only [rng1B]
  rw [if_pos (by omega), Int.toNat_natCast]
theorem rngD_at {n : Nat} {done rest : List D} {d : D} (h : done ++ d :: rest = rngD 0 n) : d = .int (done.length : Nat) ∧ done.length < n := by
  have hl : (rngD 0 n).length = n := by simp [rngD]
  have e : (rngD 0 n)[done.length]? = some d := by rw [← h]; simp
  have hlt : done.length < n := by
    have := congrArg List.length h
    rw [hl] at this
    simp at this
    omega
  refine ⟨?_, hlt⟩
  unfold rngD at e
  rw [List.getElem?_map, List.getElem?_range hlt] at e
  cases e
  simp
def Low (l : List Nat) : Prop := ∀ c ∈ l, 97 ≤ c ∧ c ≤ 122
def OkMk (ev : Ev) : Prop := ∀ (N : Nat) (d : D) (n : Nat), Di N d → N < 2 ^ 59 → n ≤ 8 → ∃ cs d', ev [.ow true d, .sh (.int (n : Nat))] = .ok (.sh (.tup (sL cs)), [.ow true d', .em]) ∧ Di (N + 40) d' ∧ Cols cs ∧ cs.length = n
theorem ok_mk {g : Ev} (h : OkPull g) : OkMk (evF 7 2 (B__law_columns g)) := by
  intro N d n hd hN hn
  have sgat : ∀ i : Int, 0 ≤ i → i < 26 → ixD (.str "abcdefghijklmnopqrstuvwxyz") (.int i) = some (.str (wd [97 + i.toNat])) := fun i => sign_at
  unfold B__law_columns
  generalize (D.str "abcdefghijklmnopqrstuvwxyz") = sg at sgat ⊢
  have outer : ∃ e', forL (asgN 4) (seqS [asS (ixC (nameC 2) (binC addD (binC mulD (conC (.int 2)) (nameC 4)) (callV [true, true] g [nameC 0, conC (.int 2)]))) (asgN 5), forS (rngC rng1B [ixC (lstC [conC (.int 0), conC (.int 0), conC (.int 1), conC (.int 2)]) (callV [true, true] g [nameC 0, conC (.int 4)])]) (asgN 6) (seqS [asS (binC addD (nameC 5) (ixC (nameC 2) (callV [true, true] g [nameC 0, conC (.int 26)]))) (asgN 5)]), drS (appC (nameC 3) (nameC 5))])
      (rngD 0 n) [.ow true d, .sh (.int (n : Nat)), .sh sg, .ow false (.lst []), .em, .em, .em] = .ok (.nx, e') ∧ ∃ (d' : D) (cs : List Str) (o4 o5 o6 : Option D), Di (N + 4 * (rngD 0 n).length) d' ∧ e' = [.ow true d', .sh (.int (n : Nat)), .sh sg, .ow false (.lst (sL cs)), op o4, op o5, op o6] ∧ cs.length = (rngD 0 n).length ∧ (∀ s ∈ cs, Nm s) ∧ Asc cs ∧ ∀ s ∈ cs, ∃ c r, s = wd (c :: r) ∧ c < 97 + 2 * (rngD 0 n).length := by
    refine forL_rule (fun done e => ∃ (d' : D) (cs : List Str) (o4 o5 o6 : Option D), Di (N + 4 * done.length) d' ∧ e = [.ow true d', .sh (.int (n : Nat)), .sh sg, .ow false (.lst (sL cs)), op o4, op o5, op o6] ∧ cs.length = done.length ∧ (∀ s ∈ cs, Nm s) ∧ Asc cs ∧ ∀ s ∈ cs, ∃ c r, s = wd (c :: r) ∧ c < 97 + 2 * done.length) ?_ ⟨d, [], none, none, none, hd, rfl, rfl, (fun s hs => by cases hs), .nil, fun s hs => by cases hs⟩
    rintro done x rest e hx ⟨d1, cs, o4, o5, o6, hd1, rfl, hlen, hnm, hasc, hfst⟩
    obtain ⟨rfl, hlt⟩ := rngD_at hx
    generalize hk : done.length = k at *
    -- the first sign
    obtain ⟨r1, d2, p1, hd2, r10, r11⟩ := pull_at h (k := 0) (e := [.ow true d1, .sh (.int (n : Nat)), .sh sg, .ow false (.lst (sL cs)), .sh (.int (k : Nat)), op o5, op o6]) (ft := conC (.int 2)) (t := 2) rfl hd1 (by omega) rfl (by omega) (by omega)
    have m1 : mulD (.int 2) (.int (k : Nat)) = some (.sh (.int (2 * (k : Nat)))) := mul_int (by decide) (nat_lt400 (k := 100) (by omega) (by decide))
    have s1 := sgat (2 * (k : Nat) + r1) (by omega) (by omega)
    generalize hc : 97 + (2 * (k : Int) + r1).toNat = c at *
    have hc1 : 97 + 2 * k ≤ c ∧ c < 97 + 2 * (k + 1) := by omega
    -- how many more
    obtain ⟨r2, d3, p2, hd3, r20, r21⟩ := pull_at h (k := 0) (e := [.ow true d2, .sh (.int (n : Nat)), .sh sg, .ow false (.lst (sL cs)), .sh (.int (k : Nat)), .sh (.str (wd [c])), op o6]) (ft := conC (.int 4)) (t := 4) rfl hd2 (by omega) rfl (by omega) (by omega)
    obtain ⟨m, hm, ix⟩ := few_ix r20 r21
    obtain ⟨e6, q1, d4, l, o6', hd4, rfl, hl1, hl2, hl3⟩ : ∃ e6, forL (asgN 6) (seqS [asS (binC addD (nameC 5) (ixC (nameC 2) (callV [true, true] g [nameC 0, conC (.int 26)]))) (asgN 5)]) (rngD 0 m) [.ow true d3, .sh (.int (n : Nat)), .sh sg, .ow false (.lst (sL cs)), .sh (.int (k : Nat)), .sh (.str (wd [c])), op o6] = .ok (.nx, e6) ∧
        ∃ (d4 : D) (l : List Nat) (o6' : Option D), Di (N + 4 * k + 2 + (rngD 0 m).length) d4 ∧ e6 = [.ow true d4, .sh (.int (n : Nat)), .sh sg, .ow false (.lst (sL cs)), .sh (.int (k : Nat)), .sh (.str (wd (c :: l))), op o6'] ∧ l.length = (rngD 0 m).length ∧ Low l ∧ True := by
      refine forL_rule (fun done2 e => ∃ (d4 : D) (l : List Nat) (o6' : Option D), Di (N + 4 * k + 2 + done2.length) d4 ∧ e = [.ow true d4, .sh (.int (n : Nat)), .sh sg, .ow false (.lst (sL cs)), .sh (.int (k : Nat)), .sh (.str (wd (c :: l))), op o6'] ∧ l.length = done2.length ∧ Low l ∧ True) ?_ ⟨d3, [], o6, hd3, rfl, rfl, (fun c hc => by cases hc), trivial⟩
      rintro done2 y rest2 e hy ⟨d4, l, o6', hd4, rfl, hl1, hl2, _⟩
      obtain ⟨rfl, hlt2⟩ := rngD_at hy
      obtain ⟨r3, d5, p3, hd5, r30, r31⟩ := pull_at h (k := 0) (e := [.ow true d4, .sh (.int (n : Nat)), .sh sg, .ow false (.lst (sL cs)), .sh (.int (k : Nat)), .sh (.str (wd (c :: l))), .sh (.int (done2.length : Nat))]) (ft := conC (.int 26)) (t := 26) rfl hd4 (by omega) rfl (by omega) (by omega)
      have s3 := sgat r3 r30 r31
      have a3 := add_wd (l := c :: l) (m := [97 + r3.toNat]) (le_lim (by simp [hl1]; omega))
      refine ⟨[.ow true d4, .sh (.int (n : Nat)), .sh sg, .ow false (.lst (sL cs)), .sh (.int (k : Nat)), .sh (.str (wd (c :: l))), .sh (.int (done2.length : Nat))], .nx, [.ow true d5, .sh (.int (n : Nat)), .sh sg, .ow false (.lst (sL cs)), .sh (.int (k : Nat)), .sh (.str (wd (c :: l ++ [97 + r3.toNat]))), .sh (.int (done2.length : Nat))], by simp, ?_, .inl rfl, d5, l ++ [97 + r3.toNat], some (.int (done2.length : Nat)), ?_, rfl, by simp [hl1], ?_, trivial⟩
      · simp [p3, s3, a3, -callV_app]
      · simpa [Nat.add_assoc] using hd5
      · intro z hz
        rcases List.mem_append.mp hz with hz | hz
        · exact hl2 z hz
        · have : z = 97 + r3.toNat := by simpa using hz
          omega
    have hlm : l.length ≤ 2 := by rw [hl1]; simpa [rngD] using hm
    have nm : Nm (wd (c :: l)) := by
      refine ⟨by simp, by simp; omega, fun z hz => ?_⟩
      rcases List.mem_cons.mp (show z ∈ c :: l from hz) with rfl | hz
      · omega
      · exact hl2 z hz
    refine ⟨[.ow true d1, .sh (.int (n : Nat)), .sh sg, .ow false (.lst (sL cs)), .sh (.int (k : Nat)), op o5, op o6], .nx, [.ow true d4, .sh (.int (n : Nat)), .sh sg, .ow false (.lst (sL (cs ++ [wd (c :: l)]))), .sh (.int (k : Nat)), .sh (.str (wd (c :: l))), op o6'], by simp, ?_, .inl rfl, d4, cs ++ [wd (c :: l)], some (.int (k : Nat)), some (.str (wd (c :: l))), o6', ?_, rfl, by simp [hlen, hk], ?_, ?_, ?_⟩
    · have ll : cs.length < 1000 := by omega
      have e7 : sL cs ++ [D.str (wd (c :: l))] = sL (cs ++ [wd (c :: l)]) := by simp [sL]
      simp [p1, m1, s1, p2, ix, rng1_nat m (by omega), q1, ll, e7, -callV_app]
    · exact hd4.mono (by simp [rngD, hk]; omega)
    · intro s hs
      rcases List.mem_append.mp hs with hs | hs
      · exact hnm s hs
      · have : s = wd (c :: l) := by simpa using hs
        rw [this]; exact nm
    · refine List.pairwise_append.mpr ⟨hasc, List.pairwise_singleton .., fun a ha b hb => ?_⟩
      have : b = wd (c :: l) := by simpa using hb
      subst this
      obtain ⟨c', r', rfl, hlt'⟩ := hfst a ha
      exact List.Lex.rel (by omega)
    · intro s hs
      rcases List.mem_append.mp hs with hs | hs
      · obtain ⟨c', r', h1, h2⟩ := hfst s hs
        exact ⟨c', r', h1, by simp [hk]; omega⟩
      · have : s = wd (c :: l) := by simpa using hs
        exact ⟨c, l, this, by simp [hk]; omega⟩
  obtain ⟨e', q, d', cs, o4, o5, o6, hd', rfl, hl, hnm, hasc, _⟩ := outer
  have hrl : (rngD 0 n).length = n := by simp [rngD]
  rw [hrl] at hl hd'
  refine ⟨cs, d', ?_, hd'.mono (by omega), ⟨by omega, hnm, hasc⟩, hl⟩
  have e0 : sL [] = [] := rfl
  simp [rng1_nat n (by omega), q, -callV_app]
def OkDice (ev : Ev) : Prop := ∀ (ns : List Int) (k : Nat), k < 10 → ∃ d, ev [.sh (.scr ns), .sh (.int (k : Nat))] = .ok (.fr d, [.em, .em]) ∧ Di 0 d
theorem ix_scr {ns : List Int} {k : Nat} (h : k < ns.length) : ixD (.scr ns) (.int (k : Nat)) = some (.int ns[k]) := by
  have e : ixN ns.length (k : Int) = some k := by unfold ixN; simp [h]
  show (atI ns (k : Int)).map D.int = _
  unfold atI
  rw [e]
  show (ns[k]?).map D.int = _
  simp [h]
theorem ok_dice : OkDice (evF 5 2 B__law_dice) := by
  intro ns k hk
  obtain ⟨q1, hq1, q2, hq2, q0⟩ : ∃ q1 : Int, powD (.int 10) (.int 60) = some (.sh (.int q1)) ∧ ∃ q2 : Int, powD (.int q1) (.int 12) = some (.sh (.int q2)) ∧ 0 < q2 := ⟨10 ^ 60, by kernel_rfl, 10 ^ 720, by kernel_rfl, by decide +kernel⟩
  have hq3 : powD (.int 10) (.int 18) = some (.sh (.int 1000000000000000000)) := by kernel_rfl
  have m1 : mulD (.int 13) (.int (k : Nat)) = some (.sh (.int (13 * (k : Nat)))) := mul_int (by decide) (nat_lt400 (k := 100) (by omega) (by decide))
  have m3 : mulD (.int 1009) (.int (k : Nat)) = some (.sh (.int (1009 * (k : Nat)))) := mul_int (by decide) (nat_lt400 (k := 100) (by omega) (by decide))
  have fin : ∀ c : Int, ∃ x y d, seqS [asS (binC modD (callC intB [callC absB [nameC 2]]) (binC powD (binC powD (conC (.int 10)) (conC (.int 60))) (conC (.int 12)))) (asgN 3), asS (binC addD (binC addD (binC addD (binC mulD (binC modD (callC intB [nameC 3]) (conC (.int 2147483497))) (conC (.int 40014))) (binC mulD (conC (.int 1009)) (nameC 1))) (binC mulD (conC (.int 5)) (callC intB [binC ltD (nameC 2) (conC (.int 0))]))) (conC (.int 29))) (asgN 4), rtS (lstC [callC maxB [conC (.int 0), binC subD (nameC 3) (binC powD (conC (.int 10)) (conC (.int 18)))], binC modD (callC intB [nameC 4]) (conC (.int 2147483489)), conC (.int 0)])]
      [.sh (.scr ns), .sh (.int (k : Nat)), .sh (.int c), .em, .em] = .ok (.rt (.fr d), [.sh (.scr ns), .sh (.int (k : Nat)), .sh (.int c), .sh x, .sh y]) ∧ Di 0 d := by
    intro c
    generalize hg : (if c < 0 then -c else c) % q2 = gr
    have g0 : 0 ≤ gr := by rw [← hg]; exact Int.emod_nonneg _ (by omega)
    generalize hm : gr % 2147483497 = mx
    have mx0 : 0 ≤ mx ∧ mx < 2147483497 := by rw [← hm]; exact ⟨Int.emod_nonneg _ (by decide), Int.emod_lt_of_pos _ (by decide)⟩
    have a1 := mod_int (i := if c < 0 then -c else c) q0
    rw [hg] at a1
    have a2 := mod_int (i := gr) (j := 2147483497) (by decide)
    rw [hm] at a2
    have m2 : mulD (.int mx) (.int 40014) = some (.sh (.int (mx * 40014))) := mul_int (nat_lt400 (k := 2 ^ 62) (by omega) (by decide)) (by decide)
    generalize hb : (if decide (c < 0) = true then (1 : Int) else 0) = bb
    have bb0 : 0 ≤ bb ∧ bb ≤ 1 := by rw [← hb]; split <;> omega
    have m4 : mulD (.int 5) (.int bb) = some (.sh (.int (5 * bb))) := mul_int (by decide) (nat_lt400 (k := 100) (by omega) (by decide))
    have a3 := mod_int (i := mx * 40014 + 1009 * (k : Nat) + 5 * bb + 29) (j := 2147483489) (by decide)
    have ib : intB [.bl (decide (c < 0))] = some (.sh (.int bb)) := by rw [int_bl, hb]
    have mxx : maxB [.int 0, .int (gr - 1000000000000000000)] = some (.sh (.int (if gr - 1000000000000000000 > 0 then gr - 1000000000000000000 else 0))) := rfl
    refine ⟨.int gr, .int (mx * 40014 + 1009 * (k : Nat) + 5 * bb + 29), dic (if gr - 1000000000000000000 > 0 then gr - 1000000000000000000 else 0) ((mx * 40014 + 1009 * (k : Nat) + 5 * bb + 29) % 2147483489) 0, ?_, ⟨_, _, _, rfl, by split <;> omega, Int.emod_nonneg _ (by decide), Int.emod_lt_of_pos _ (by decide), Int.le_refl 0, Int.le_refl 0⟩⟩
    unfold dic
    simp [hq1, hq2, hq3, a1, a2, m2, m3, m4, a3, ib, mxx, -int_bl, -max_int]
  by_cases h : k < ns.length
  · obtain ⟨x, y, d, hf, hd⟩ := fin ns[k]
    have hi : (k : Int) < (ns.length : Int) := by omega
    refine ⟨d, ?_, hd⟩
    rw [evF_app]
    simp only [B__law_dice]
    rw [List.length_cons, List.length_cons, List.length_nil, if_pos rfl, seqS_cons]
    have s1 : asS (binC addD (binC mulD (conC (.int 13)) (nameC 1)) (conC (.int 6))) (asgN 2) ([.sh (.scr ns), .sh (.int (k : Nat))] ++ List.replicate (5 - 2) .em) = .ok (.nx, [.sh (.scr ns), .sh (.int (k : Nat)), .sh (.int (13 * (k : Nat) + 6)), .em, .em]) := by simp [m1]
    have s2 : ifS (cmpT (binC ltD (nameC 1) (callC lenB [nameC 0]))) (seqS [asS (ixC (nameC 0) (nameC 1)) (asgN 2)]) (seqS []) [.sh (.scr ns), .sh (.int (k : Nat)), .sh (.int (13 * (k : Nat) + 6)), .em, .em] = .ok (.nx, [.sh (.scr ns), .sh (.int (k : Nat)), .sh (.int ns[k]), .em, .em]) := by simp [hi, ix_scr h]
    rw [s1, obn_ok, seqK_nx, seqS_cons, s2, obn_ok, seqK_nx, hf]
    simp
  · obtain ⟨x, y, d, hf, hd⟩ := fin (13 * (k : Nat) + 6)
    have hi : ¬ (k : Int) < (ns.length : Int) := by omega
    refine ⟨d, ?_, hd⟩
    rw [evF_app]
    simp only [B__law_dice]
    rw [List.length_cons, List.length_cons, List.length_nil, if_pos rfl, seqS_cons]
    have s1 : asS (binC addD (binC mulD (conC (.int 13)) (nameC 1)) (conC (.int 6))) (asgN 2) ([.sh (.scr ns), .sh (.int (k : Nat))] ++ List.replicate (5 - 2) .em) = .ok (.nx, [.sh (.scr ns), .sh (.int (k : Nat)), .sh (.int (13 * (k : Nat) + 6)), .em, .em]) := by simp [m1]
    have s2 : ifS (cmpT (binC ltD (nameC 1) (callC lenB [nameC 0]))) (seqS [asS (ixC (nameC 0) (nameC 1)) (asgN 2)]) (seqS []) [.sh (.scr ns), .sh (.int (k : Nat)), .sh (.int (13 * (k : Nat) + 6)), .em, .em] = .ok (.nx, [.sh (.scr ns), .sh (.int (k : Nat)), .sh (.int (13 * (k : Nat) + 6)), .em, .em]) := by simp [hi]
    rw [s1, obn_ok, seqK_nx, seqS_cons, s2, obn_ok, seqK_nx, hf]
    simp
end Qv
namespace Qv
open PySem L2

/-! ### names, columns, rows: what is told of any value -/
def sgn : Array Nat := (("abcdefghijklmnopqrstuvwxyz" : String) : Str).cps
def nameS (s : Str) : Bool := decide (1 ≤ s.length) && (decide (s.length ≤ 8) && s.cps.toList.all fun c => decide (c ∈ sgn))
def nameD : D → Bool
  | .str s => nameS s
  | _ => false
/-- a value of a plain type, texts not too long -/
def PT1 (d : D) : Prop := (∃ t, tyD d = some t) ∧ ∀ s, d = .str s → s.length ≤ lenLim
def PT2 (d : D) : Prop := PT1 d ∧ ∀ l, d = .tup l → l.length ≤ lenLim ∧ ∀ x ∈ l, PT1 x
theorem bls_map {α : Type} (p : α → Bool) : ∀ l : List α, bls (l.map fun a => .bl (p a)) = some (l.map p)
  | [] => rfl
  | d :: l => by
    show (bls (l.map fun a => .bl (p a))).map (p d :: ·) = _
    rw [bls_map p l]
    rfl
theorem allB_bl {α : Type} (p : α → Bool) (l : List α) : allB [.lst (l.map fun a => .bl (p a))] = some (.sh (.bl (l.all p))) := by
  show (bls _).map _ = _
  rw [bls_map]
  simp [List.all_map, Function.comp_def]
def dS : D → Bool
  | .str _ => true
  | _ => false
def dT : D → Bool
  | .tup _ => true
  | _ => false
def dI : D → Bool
  | .int _ => true
  | .bl _ => true
  | _ => false
def dB : D → Bool
  | .bl _ => true
  | _ => false
@[simp] theorem dS_s (s : Str) : dS (.str s) = true := rfl
@[simp] theorem dT_t (l : List D) : dT (.tup l) = true := rfl
theorem isi_str {d : D} (h : ∃ t, tyD d = some t) : isiD "str" d = some (dS d) := by
  obtain ⟨t, h⟩ := h
  cases d <;> first | (cases h; done) | (show Option.bind (some _) (fun t => kitB t "str") = some true; decide +kernel) | (show Option.bind (some _) (fun t => kitB t "str") = some false; decide +kernel)
theorem isi_tup {d : D} (h : ∃ t, tyD d = some t) : isiD "tuple" d = some (dT d) := by
  obtain ⟨t, h⟩ := h
  cases d <;> first | (cases h; done) | (show Option.bind (some _) (fun t => kitB t "tuple") = some true; decide +kernel) | (show Option.bind (some _) (fun t => kitB t "tuple") = some false; decide +kernel)
theorem isi_int {d : D} (h : ∃ t, tyD d = some t) : isiD "int" d = some (dI d) := by
  obtain ⟨t, h⟩ := h
  cases d <;> first | (cases h; done) | (show Option.bind (some _) (fun t => kitB t "int") = some true; decide +kernel) | (show Option.bind (some _) (fun t => kitB t "int") = some false; decide +kernel)
theorem isi_bool {d : D} (h : ∃ t, tyD d = some t) : isiD "bool" d = some (dB d) := by
  obtain ⟨t, h⟩ := h
  cases d <;> first | (cases h; done) | (show Option.bind (some _) (fun t => kitB t "bool") = some true; decide +kernel) | (show Option.bind (some _) (fun t => kitB t "bool") = some false; decide +kernel)
theorem eq_nil (l : List D) : eqD (.lst l) (.lst []) = some (.sh (.bl l.isEmpty)) := by
  cases l with
  | nil => rfl
  | cons a r =>
    unfold eqD
    dsimp only
    split
    · rfl
    · rfl
theorem ne_nil (l : List D) : neD (.lst l) (.lst []) = some (.sh (.bl (!l.isEmpty))) := by
  cases l with
  | nil => rfl
  | cons a r =>
    unfold neD
    dsimp only
    split
    · rfl
    · rfl
theorem len_str {s : Str} (h : s.length ≤ lenLim) : lenB [.str s] = some (.sh (.int s.length)) := by show (if s.length ≤ lenLim then _ else _) = _; rw [if_pos h]
def OkName (ev : Ev) : Prop := ∀ d, PT1 d → ev [.sh d] = .ok (.sh (.bl (nameD d)), [.em])
theorem ok_name : OkName (evF 2 1 B_is_name) := by
  intro d hd
  have i1 : isiD "str" d = some (dS d) := isi_str hd.1
  by_cases hs : ∃ s, d = .str s
  · obtain ⟨s, rfl⟩ := hs
    have hl := hd.2 s rfl
    have hl2 : s.cps.size ≤ lenLim := hl
    have l1 := len_str hl
    have lc := lc_ty s.cps.toList (fun c => .str ⟨#[c]⟩) (fun _ => true) (fun c => .bl (decide (c ∈ sgn))) (own := [1]) (it := iterC (nameC 0)) (g := asgN 1) (t := ret true) (f := binC (inD false) (nameC 1) (conC (.str "abcdefghijklmnopqrstuvwxyz"))) (e := [.sh (.str s), .em]) (e0 := [.sh (.str s), .em]) (w := [.sh (.str s), .em])
      (by simp) (by simp) (by simpa using hl2) (by simp) (fun c hc => ⟨[.sh (.str s), .sh (.str ⟨#[c]⟩)], by simp, by simp, by simp, fun _ => ⟨.sh (.bl (decide (c ∈ sgn))), by simp; rfl, by simp⟩⟩)
    have e2 : s.cps.toList.filter (fun _ => true) = s.cps.toList := List.filter_eq_self.mpr fun _ _ => rfl
    rw [e2] at lc
    have al := allB_bl (fun c => decide (c ∈ sgn)) s.cps.toList
    by_cases h1 : 1 ≤ s.length
    · by_cases h8 : s.length ≤ 8
      · have h1' : (1 : Int) ≤ (s.length : Int) := by omega
        have h8' : (s.length : Int) ≤ 8 := by omega
        simp [B_is_name, i1, l1, h1', h8', lc, al, putE, nameD, nameS, h1, h8]
      · have h1' : (1 : Int) ≤ (s.length : Int) := by omega
        have h8' : ¬ (s.length : Int) ≤ 8 := by omega
        simp [B_is_name, i1, l1, h1', h8', nameD, nameS, h1, h8]
    · have h1' : ¬ (1 : Int) ≤ (s.length : Int) := by omega
      simp [B_is_name, i1, l1, h1', nameD, nameS, h1]
  · have i2 : isiD "str" d = some false := by
      rw [i1]
      cases d <;> first | rfl | exact absurd ⟨_, rfl⟩ hs
    have e1 : nameD d = false := by cases d <;> first | rfl | exact absurd ⟨_, rfl⟩ hs
    simp [B_is_name, i2, e1]
theorem ok_gname : OkName (evF 2 1 B__law_good_name) := by
  intro d hd
  have i1 : isiD "str" d = some (dS d) := isi_str hd.1
  by_cases hs : ∃ s, d = .str s
  · obtain ⟨s, rfl⟩ := hs
    have hl := hd.2 s rfl
    have hl2 : s.cps.size ≤ lenLim := hl
    have l1 := len_str hl
    have lc := lc_ty s.cps.toList (fun c => .str ⟨#[c]⟩) (fun c => !decide (c ∈ sgn)) (fun c => .str ⟨#[c]⟩) (own := [1]) (it := iterC (nameC 0)) (g := asgN 1) (t := cmpT (binC (inD true) (nameC 1) (conC (.str "abcdefghijklmnopqrstuvwxyz")))) (f := nameC 1) (e := [.sh (.str s), .em]) (e0 := [.sh (.str s), .em]) (w := [.sh (.str s), .em])
      (by simp) (by simp) (by simpa using hl2) (by simp) (fun c hc => ⟨[.sh (.str s), .sh (.str ⟨#[c]⟩)], by simp, by simp; rfl, by simp, fun _ => ⟨.sh (.str ⟨#[c]⟩), by simp, by simp⟩⟩)
    have e3 := eq_nil ((s.cps.toList.filter fun c => !decide (c ∈ sgn)).map fun c => D.str ⟨#[c]⟩)
    have e4 : ((s.cps.toList.filter fun c => !decide (c ∈ sgn)).map fun c => D.str ⟨#[c]⟩).isEmpty = s.cps.toList.all fun c => decide (c ∈ sgn) := by
      rw [List.isEmpty_map]
      induction s.cps.toList with
      | nil => rfl
      | cons a r ih => by_cases z : a ∈ sgn <;> simp [z, ih]
    rw [e4] at e3
    by_cases h1 : 1 ≤ s.length
    · by_cases h8 : s.length ≤ 8
      · have h1' : ¬ s.length = 0 := by omega
        have h8' : ¬ (8 : Int) < (s.length : Int) := by omega
        simp [B__law_good_name, i1, l1, h1', h8', lc, e3, putE, nameD, nameS, h1, h8]
      · have h1' : ¬ s.length = 0 := by omega
        have h8' : (8 : Int) < (s.length : Int) := by omega
        simp [B__law_good_name, i1, l1, h1', h8', nameD, nameS, h1, h8]
    · have h1' : s.length = 0 := by omega
      simp [B__law_good_name, i1, l1, h1', nameD, nameS, h1]
  · have i2 : isiD "str" d = some false := by
      rw [i1]
      cases d <;> first | rfl | exact absurd ⟨_, rfl⟩ hs
    have e1 : nameD d = false := by cases d <;> first | rfl | exact absurd ⟨_, rfl⟩ hs
    simp [B__law_good_name, i2, e1]
/-! ### columns -/
def lt1 (p : Str × Str) : Bool := decide (p.1.cps.toList < p.2.cps.toList)
def ascS (cs : List Str) : Bool := (cs.zip cs.tail).all lt1
def colsD : D → Bool
  | .tup l => decide (l.length ≤ 8) && (match strsOf l with
    | some cs => cs.all nameS && ascS cs
    | none => false)
  | _ => false
def lenGe : D → Int → Bool
  | .tup l, b => decide (b ≤ (l.length : Int))
  | _, _ => false
theorem names_or : ∀ l : List D, (∃ cs, l = sL cs ∧ strsOf l = some cs ∧ l.all nameD = cs.all nameS) ∨ (strsOf l = none ∧ l.all nameD = false)
  | [] => .inl ⟨[], rfl, rfl, rfl⟩
  | d :: l => by
    have ih := names_or l
    by_cases hd : ∃ s, d = .str s
    · obtain ⟨s, rfl⟩ := hd
      rcases ih with ⟨cs, rfl, h2, h3⟩ | ⟨h1, h2⟩
      · refine .inl ⟨s :: cs, rfl, ?_, ?_⟩
        · show (strsOf (sL cs)).map (s :: ·) = _
          rw [h2]; rfl
        · rw [List.all_cons, List.all_cons, h3]; rfl
      · refine .inr ⟨?_, ?_⟩
        · show (strsOf l).map (s :: ·) = _
          rw [h1]; rfl
        · rw [List.all_cons, h2, Bool.and_false]
    · refine .inr ⟨?_, ?_⟩
      · cases d <;> first | rfl | exact absurd ⟨_, rfl⟩ hd
      · rw [List.all_cons]
        have : nameD d = false := by cases d <;> first | rfl | exact absurd ⟨_, rfl⟩ hd
        rw [this]; rfl
theorem strs_sL : ∀ cs : List Str, strsOf (sL cs) = some cs
  | [] => rfl
  | s :: cs => by
    show (strsOf (sL cs)).map (s :: ·) = _
    rw [strs_sL cs]; rfl
theorem colsD_sL {cs : List Str} (h : cs.length ≤ 8) : colsD (.tup (sL cs)) = (cs.all nameS && ascS cs) := by
  show (decide ((sL cs).length ≤ 8) && (match strsOf (sL cs) with
    | some cs => cs.all nameS && ascS cs
    | none => false)) = _
  rw [strs_sL, len_sL, decide_eq_true h, Bool.true_and]
theorem z2_sL (cs : List Str) : z2L (sL cs) (sL cs).tail = (cs.zip cs.tail).map fun p => .tup [.str p.1, .str p.2] := by
  unfold z2L sL
  rw [← List.map_tail, List.zipWith_map]
  rw [List.zip_eq_zipWith, List.map_zipWith]
theorem cut1 (l : List D) : cutD l (some 1) none = l.drop 1 := by
  unfold cutD
  show (l.drop (min 1 l.length)).take (l.length - min 1 l.length) = _
  cases l with
  | nil => rfl
  | cons a r => simp
def OkAre (ev : Ev) : Prop := ∀ d, PT2 d → ev [.sh d] = .ok (.sh (.bl (colsD d)), [.em])
theorem ok_are {g : Ev} (hn : OkName g) : OkAre (evF 4 1 (B_are_columns g)) := by
  intro d hd
  have i1 := isi_tup hd.1.1
  by_cases ht : ∃ l, d = .tup l
  · obtain ⟨l, rfl⟩ := ht
    obtain ⟨hl, hx⟩ := hd.2 l rfl
    have lc := lc_ty l (fun x => x) (fun _ => true) (fun x => .bl (nameD x)) (own := [1]) (it := iterC (nameC 0)) (g := asgN 1) (t := ret true) (f := callV [false] g [nameC 1]) (e := [.sh (.tup l), .em, .em, .em]) (e0 := [.sh (.tup l), .em, .em, .em]) (w := [.sh (.tup l), .em, .em, .em])
      (by simp) (by simp) hl (by simp) (fun x hq => ⟨[.sh (.tup l), .sh x, .em, .em], by simp, by simp, by simp, fun _ => ⟨.sh (.bl (nameD x)), by simp [hn x (hx x hq)], by simp⟩⟩)
    have e2 : l.filter (fun _ => true) = l := List.filter_eq_self.mpr fun _ _ => rfl
    rw [e2] at lc
    have al := allB_bl nameD l
    by_cases h8 : l.length ≤ 8
    · have h8' : ¬ (8 : Int) < (l.length : Int) := by omega
      rcases names_or l with ⟨cs, rfl, h2, h3⟩ | ⟨h2, h3⟩
      · rw [h3] at al
        have lc2 := lc_ty (cs.zip cs.tail) (fun p => .tup [.str p.1, .str p.2]) (fun _ => true) (fun p => .bl (lt1 p)) (own := [2, 3]) (it := walkC zp2B [nameC 0, sliC (nameC 0) (partC (conC (.int 1))) noC]) (g := asgTn [asgN 2, asgN 3]) (t := ret true) (f := binC ltD (nameC 2) (nameC 3)) (e := [.sh (.tup (sL cs)), .em, .em, .em]) (e0 := [.sh (.tup (sL cs)), .em, .em, .em]) (w := [.sh (.tup (sL cs)), .em, .em, .em])
          (by simp [slD, cut1, z2_sL]) (by simp) (Nat.le_trans (by rw [List.length_zip]; exact Nat.min_le_left _ _) (by simpa using hl)) (by simp) (fun p hq => ⟨[.sh (.tup (sL cs)), .em, .sh (.str p.1), .sh (.str p.2)], by simp, by simp, by simp, fun _ => ⟨.sh (.bl (lt1 p)), by simp [lt1], by simp⟩⟩)
        have e3 : (cs.zip cs.tail).filter (fun _ => true) = cs.zip cs.tail := List.filter_eq_self.mpr fun _ _ => rfl
        rw [e3] at lc2
        have al2 := allB_bl lt1 (cs.zip cs.tail)
        have ec := colsD_sL (cs := cs) (by simpa using h8)
        have h9 : ¬ (8 : Int) < (cs.length : Int) := by simpa using h8'
        rw [ec]
        cases q : cs.all nameS with
        | true =>
          rw [q] at al
          simp [B_are_columns, i1, h9, lc, al, lc2, al2, putE, ascS]
        | false =>
          rw [q] at al
          simp [B_are_columns, i1, h9, lc, al, putE]
      · rw [h3] at al
        have ec : colsD (.tup l) = false := by
          unfold colsD
          dsimp only
          rw [h2, Bool.and_false]
        rw [ec]
        simp [B_are_columns, i1, h8', lc, al, putE]
    · have h8' : (8 : Int) < (l.length : Int) := by omega
      have ec : colsD (.tup l) = false := by
        unfold colsD
        dsimp only
        rw [decide_eq_false h8, Bool.false_and]
      rw [ec]
      simp [B_are_columns, i1, h8']
  · have i2 : isiD "tuple" d = some false := by
      rw [i1]
      cases d <;> first | rfl | exact absurd ⟨_, rfl⟩ ht
    have e1 : colsD d = false := by cases d <;> first | rfl | exact absurd ⟨_, rfl⟩ ht
    simp [B_are_columns, i2, e1]
def OkInt (ev : Ev) : Prop := ∀ d, PT1 d → ev [.sh d] = .ok (.sh (.bl (match d with | .int _ => true | _ => false)), [.em])
theorem ok_int_ : OkInt (evF 1 1 B_is_integer) := by
  intro d hd
  have i1 := isi_int hd.1
  have i2 := isi_bool hd.1
  cases d <;> first
    | (obtain ⟨t, ht⟩ := hd.1; cases ht; done)
    | (simp [B_is_integer, i1, i2, dI, dB])
def OkIdx (ev : Ev) : Prop := ∀ b : Int, 0 ≤ b → b < 9 → ev [.sh (.int 9), .sh (.int b)] = .ok (.sh (.bl true), [.em, .em])
theorem pt_int (i : Int) : PT1 (.int i) := ⟨⟨_, rfl⟩, fun _ h => by cases h⟩
theorem ok_idx {g : Ev} (h : OkInt g) : OkIdx (evF 2 2 (B_is_index g)) := by
  intro b h0 h1
  have q := h _ (pt_int b)
  simp [B_is_index, q, h0, h1]
def OkIsCols (ev : Ev) : Prop := ∀ d (b : Int), PT2 d → 0 ≤ b → b < 9 → ev [.sh d, .sh (.int b)] = .ok (.sh (.bl (colsD d && lenGe d b)), [.em, .em])
theorem colsD_tup {d : D} (h : colsD d = true) : ∃ cs, d = .tup (sL cs) ∧ cs.length ≤ 8 ∧ cs.all nameS = true ∧ ascS cs = true := by
  unfold colsD at h
  split at h
  · rename_i l
    rw [Bool.and_eq_true, decide_eq_true_eq] at h
    rcases names_or l with ⟨cs, rfl, h2, h3⟩ | ⟨h2, h3⟩
    · rw [h2] at h
      have h4 := h.2
      dsimp only at h4
      rw [Bool.and_eq_true] at h4
      exact ⟨cs, rfl, by simpa using h.1, h4.1, h4.2⟩
    · rw [h2] at h
      exact absurd h.2 Bool.false_ne_true
  · cases h
theorem ok_iscols {g1 g2 : Ev} (h1 : OkIdx g1) (h2 : OkAre g2) : OkIsCols (evF 2 2 (B_is_columns g1 g2)) := by
  intro d b hd h0 h9
  have q1 := h1 b h0 h9
  have q2 := h2 d hd
  cases hc : colsD d with
  | false =>
    rw [hc] at q2
    simp [B_is_columns, q1, q2]
  | true =>
    rw [hc] at q2
    obtain ⟨cs, rfl, _⟩ := colsD_tup hc
    simp [B_is_columns, q1, q2, lenGe]
end Qv
namespace Qv
open PySem L2

/-! ### in order, all different -/
theorem inS_mem (ks : List L2.Key) (i : Nat) (x : L2.Key) : St.inS ks i x = true ↔ x ∈ ks.take i := by
  unfold St.inS
  rw [List.any_eq_true]
  constructor
  · rintro ⟨z, hz, e⟩
    rw [← of_decide_eq_true e]; exact hz
  · intro h
    exact ⟨x, h, decide_eq_true rfl⟩
theorem grown_nodup (ks : List L2.Key) : ∀ i, i ≤ ks.length → (St.grown ks i = i ↔ (ks.take i).Nodup)
  | 0, _ => by simp [St.grown]
  | i + 1, h => by
    have ih := grown_nodup ks i (by omega)
    have le := St.grown_le ks i
    have hx : ks[i]? = some ks[i] := by simp [show i < ks.length by omega]
    have ht : ks.take (i + 1) = ks.take i ++ [ks[i]] := by rw [List.take_succ, hx]; rfl
    rw [ht, List.nodup_append]
    unfold St.grown
    rw [hx]
    dsimp only
    constructor
    · intro e
      split at e
      · omega
      · rename_i hn
        refine ⟨ih.mp (by omega), by simp, fun a ha b hb => ?_⟩
        have : b = ks[i] := by simpa using hb
        subst this
        intro z
        subst z
        exact hn ((inS_mem ks i _).mpr ha)
    · rintro ⟨h1, _, h3⟩
      have h4 := ih.mpr h1
      rw [if_neg (fun z => h3 _ ((inS_mem ks i _).mp z) _ (by simp) rfl)]
      omega
theorem grown_all (ks : List L2.Key) : St.grown ks ks.length = ks.length ↔ ks.Nodup := by
  have := grown_nodup ks ks.length (Nat.le_refl _)
  rw [List.take_length] at this
  exact this
abbrev LtS (a b : Str) : Prop := a.cps.toList < b.cps.toList
theorem asc_pw : ∀ cs : List Str, ascS cs = true ↔ cs.Pairwise LtS
  | [] => ⟨fun _ => .nil, fun _ => rfl⟩
  | [a] => ⟨fun _ => List.pairwise_singleton .., fun _ => rfl⟩
  | a :: b :: r => by
    have ih := asc_pw (b :: r)
    have e : ascS (a :: b :: r) = (lt1 (a, b) && ascS (b :: r)) := rfl
    rw [e, Bool.and_eq_true, ih]
    constructor
    · rintro ⟨h1, h2⟩
      have h1' : LtS a b := of_decide_eq_true h1
      refine List.pairwise_cons.mpr ⟨fun x hx => ?_, h2⟩
      rcases List.mem_cons.mp hx with rfl | hx
      · exact h1'
      · exact List.lt_trans h1' ((List.pairwise_cons.mp h2).1 x hx)
    · intro h
      obtain ⟨h1, h2⟩ := List.pairwise_cons.mp h
      exact ⟨decide_eq_true (h1 b List.mem_cons_self), h2⟩
theorem txtLe_of {a b : Str} (h : LtS a b) : txtLe a b = true := by
  show (!PySem.Spec.ltCps b.cps.toList a.cps.toList) = true
  rw [PyProof.Rows.ltCps_eq, decide_eq_false (List.lt_asymm h)]
  rfl
theorem lt_of_txt {a b : Str} (h : txtLe a b = true) (hn : a ≠ b) : LtS a b := by
  apply Classical.byContradiction
  intro hl
  apply hn
  refine txtLe_anti a b h ?_
  show (!PySem.Spec.ltCps a.cps.toList b.cps.toList) = true
  rw [PyProof.Rows.ltCps_eq, decide_eq_false hl]
  rfl
theorem asc_iff (cs : List Str) : ascS cs = (decide (cs = sortS cs) && decide (St.grown (cs.map Sum.inr) cs.length = cs.length)) := by
  rw [Bool.eq_iff_iff, asc_pw, Bool.and_eq_true, decide_eq_true_eq, decide_eq_true_eq]
  have hg := grown_all (cs.map (Sum.inr : Str → L2.Key))
  rw [List.length_map] at hg
  rw [hg]
  constructor
  · intro h
    refine ⟨List.Perm.eq_of_pairwise (fun _ _ _ _ a b => txtLe_anti _ _ a b) (h.imp fun h => txtLe_of h) (sortS_pw cs) (sortS_perm cs).symm, ?_⟩
    refine List.Pairwise.map _ (fun a b hab => ?_) h
    intro z
    cases z
    exact List.lt_irrefl _ hab
  · rintro ⟨h1, h2⟩
    have h3 : cs.Pairwise fun a b => txtLe a b = true := by rw [h1]; exact sortS_pw cs
    have h4 : cs.Nodup := by
      refine (List.pairwise_map.mp h2).imp fun hab z => hab (by rw [z])
    exact (h3.and h4).imp fun h => lt_of_txt h.1 h.2
theorem map_same {α : Type} (l : List α) : l.map (fun x => x) = l := by simp
theorem keyL_sL : ∀ cs : List Str, keyL (sL cs) = some (cs.map Sum.inr)
  | [] => rfl
  | s :: cs => by
    show (match keyS (.str s), keyL (sL cs) with
      | some k, some ks => some (k :: ks)
      | _, _ => none) = _
    rw [keyL_sL cs]
    rfl
theorem eqv_sL : ∀ cs ds : List Str, PyData.eqvAll (pyL (sL cs)) (pyL (sL ds)) = decide (cs = ds)
  | [], [] => rfl
  | [], _ :: _ => rfl
  | _ :: _, [] => rfl
  | a :: cs, b :: ds => by
    show ((a == b) && PyData.eqvAll (pyL (sL cs)) (pyL (sL ds))) = _
    rw [eqv_sL cs ds]
    by_cases h : a = b <;> by_cases h2 : cs = ds <;> simp [h, h2]
theorem sgn_small {c : Nat} (h : c ∈ sgn) : c < 0x110000 := by
  have e : sgn = (List.range' 97 26).toArray := by decide +kernel
  rw [e] at h
  have h2 : c ∈ List.range' 97 26 := by simpa using h
  rw [List.mem_range'] at h2
  omega
theorem nc_name {s : Str} (h : nameS s = true) : NC 0 82 (.str s) := by
  unfold nameS at h
  rw [Bool.and_eq_true, Bool.and_eq_true, decide_eq_true_eq, decide_eq_true_eq, List.all_eq_true] at h
  exact nc_str h.2.1 fun c hc => sgn_small (of_decide_eq_true (h.2.2 c hc))
theorem nc_names {cs : List Str} (h : cs.all nameS = true) : NC 1 (cs.length * 84 + 4) (.lst (sL cs)) := by
  have := nc_lst (a := 0) (w := 82) (l := sL cs) fun d hd => by
    obtain ⟨s, hs, rfl⟩ := List.mem_map.mp hd
    exact nc_name (List.all_eq_true.mp h s hs)
  rwa [len_sL] at this
theorem eqD_sL {cs ds : List Str} (h : cs.all nameS = true) (h2 : ds.all nameS = true) : eqD (.lst (sL cs)) (.lst (sL ds)) = some (.sh (.bl (decide (cs = ds)))) := by
  rw [NC.eq (nc_names h) (nc_names h2) (by decide) (by decide)]
  show some (Val.sh (.bl (PyData.eqvAll (pyL (sL cs)) (pyL (sL ds))))) = _
  rw [eqv_sL]
theorem sorted_sL {cs : List Str} (h : cs.length < 64) : sortedB [.lst (sL cs)] = some (.fr (.lst (sL (sortS cs)))) := by
  cases cs with
  | nil =>
    have e : sortS [] = [] := by simp [sortS]
    rw [e]; rfl
  | cons a r =>
    show (match intsOf (sL (a :: r)) with
      | some ns => some (Val.fr (.lst ((PySem.W.sortI ns).map .int)))
      | none => match strsOf (sL (a :: r)) with
        | some xs => if xs.length < 64 then some (.fr (.lst ((sortS xs).map .str))) else none
        | none => none) = _
    rw [strs_sL]
    show (if (a :: r).length < 64 then _ else _) = _
    rw [if_pos h]
    rfl
def OkGood (ev : Ev) : Prop := ∀ d (b : Int), PT2 d → ev [.sh d, .sh (.int b)] = .ok (.sh (.bl (colsD d && lenGe d b)), [.em, .em])
theorem ok_good {g : Ev} (hn : OkName g) : OkGood (evF 3 2 (B__law_good_columns g)) := by
  intro d b hd
  have i1 := isi_tup hd.1.1
  by_cases ht : ∃ l, d = .tup l
  · obtain ⟨l, rfl⟩ := ht
    obtain ⟨hl, hx⟩ := hd.2 l rfl
    have ge : lenGe (.tup l) b = decide (b ≤ (l.length : Int)) := rfl
    by_cases h8 : l.length ≤ 8
    · have h8' : ¬ (8 : Int) < (l.length : Int) := by omega
      by_cases hb : b ≤ (l.length : Int)
      · have hb' : ¬ (l.length : Int) < b := by omega
        have lc := lc_ty l (fun x => x) (fun x => !nameD x) (fun x => x) (own := [2]) (it := iterC (nameC 0)) (g := asgN 2) (t := notT (truC (callV [false] g [nameC 2]))) (f := nameC 2) (e := [.sh (.tup l), .sh (.int b), .em]) (e0 := [.sh (.tup l), .sh (.int b), .em]) (w := [.sh (.tup l), .sh (.int b), .em])
          (by simp) (by simp) hl (by simp) (fun x hq => ⟨[.sh (.tup l), .sh (.int b), .sh x], by simp, by simp [hn x (hx x hq)], by simp, fun _ => ⟨.sh x, by simp, by simp⟩⟩)
        have nn := ne_nil ((l.filter fun x => !nameD x).map fun x => x)
        have en : (!((l.filter fun x => !nameD x).map fun x => x).isEmpty) = !l.all nameD := by
          congr 1
          rw [List.isEmpty_map]
          clear lc nn hx hl h8 h8' hb hb' ge hd i1
          induction l with
          | nil => rfl
          | cons a r ih => cases z : nameD a <;> simp [z, ih]
        rw [en, map_same] at nn
        rw [map_same] at lc
        rcases names_or l with ⟨cs, rfl, h2, h3⟩ | ⟨h2, h3⟩
        · have c8 : cs.length ≤ 8 := by simpa using h8
          have h9 : ¬ (8 : Int) < (cs.length : Int) := by simpa using h8'
          have hb2 : ¬ (cs.length : Int) < b := by simpa using hb'
          have hb3 : b ≤ (cs.length : Int) := by simpa using hb
          rw [h3] at nn
          rw [colsD_sL c8, ge, len_sL, decide_eq_true hb3, Bool.and_true]
          cases q : cs.all nameS with
          | false =>
            rw [q] at nn
            simp [B__law_good_columns, i1, h9, hb2, lc, nn, putE]
          | true =>
            rw [q] at nn
            have lc2 := lc_ty cs (fun s => .str s) (fun _ => true) (fun s => .str s) (own := [2]) (it := iterC (nameC 0)) (g := asgN 2) (t := ret true) (f := callC strB [nameC 2]) (e := [.sh (.tup (sL cs)), .sh (.int b), .em]) (e0 := [.sh (.tup (sL cs)), .sh (.int b), .em]) (w := [.sh (.tup (sL cs)), .sh (.int b), .em])
              (by simp [sL]) (by simp) (by simpa using hl) (by simp) (fun s hs => ⟨[.sh (.tup (sL cs)), .sh (.int b), .sh (.str s)], by simp, by simp, by simp, fun _ => ⟨.sh (.str s), by simp [strB], by simp⟩⟩)
            have e3 : cs.filter (fun _ => true) = cs := List.filter_eq_self.mpr fun _ _ => rfl
            rw [e3] at lc2
            have lc3 : lcC [2] (iterC (nameC 0)) (asgN 2) (ret true) (callC strB [nameC 2]) [.sh (.tup (sL cs)), .sh (.int b), .em] = .ok (.fr (.lst (sL cs)), [.sh (.tup (sL cs)), .sh (.int b), .em]) := lc2
            have so := sorted_sL (cs := cs) (by omega)
            have sn : (sortS cs).all nameS = true := by
              rw [List.all_eq_true] at q ⊢
              exact fun x hx => q x ((sortS_perm cs).mem_iff.mp hx)
            have eq1 := eqD_sL q sn
            have ls : lenSetD (.tup (sL cs)) = some (.sh (.int (St.grown (cs.map Sum.inr) cs.length))) := by
              show (match keyL (sL cs) with
                | some ks => if ks.length < 4000 then some (Val.sh (.int (St.grown ks ks.length))) else none
                | none => none) = _
              rw [keyL_sL]
              dsimp only
              rw [List.length_map, if_pos (by omega)]
            rw [Bool.true_and, asc_iff]
            by_cases z : cs = sortS cs
            · rw [decide_eq_true z] at eq1
              rw [decide_eq_true z, Bool.true_and]
              rw [← z] at so eq1
              simp [B__law_good_columns, i1, h9, hb2, lc, nn, lc3, so, eq1, ls, putE]
              exact Int.ofNat_inj
            · rw [decide_eq_false z] at eq1
              simp [B__law_good_columns, i1, h9, hb2, lc, nn, lc3, so, eq1, z, putE]
        · rw [h3] at nn
          have ec : colsD (.tup l) = false := by
            unfold colsD
            dsimp only
            rw [h2, Bool.and_false]
          rw [ec]
          simp [B__law_good_columns, i1, h8', hb', lc, nn, putE]
      · have hb' : (l.length : Int) < b := by omega
        rw [ge, decide_eq_false hb, Bool.and_false]
        simp [B__law_good_columns, i1, h8', hb']
    · have h8' : (8 : Int) < (l.length : Int) := by omega
      have ec : colsD (.tup l) = false := by
        unfold colsD
        dsimp only
        rw [decide_eq_false h8, Bool.false_and]
      rw [ec]
      simp [B__law_good_columns, i1, h8']
  · have i2 : isiD "tuple" d = some false := by
      rw [i1]
      cases d <;> first | rfl | exact absurd ⟨_, rfl⟩ ht
    have e1 : colsD d = false := by cases d <;> first | rfl | exact absurd ⟨_, rfl⟩ ht
    simp [B__law_good_columns, i2, e1]
/-! ### rows -/
def intD : D → Bool
  | .int _ => true
  | _ => false
def rowD (n : Nat) : D → Bool
  | .tup l => decide (l.length = n) && l.all intD
  | _ => false
theorem int_two {d : D} (h : ∃ t, tyD d = some t) : intD d = (dI d && !dB d) := by
  obtain ⟨t, h⟩ := h
  cases d <;> first | (cases h; done) | rfl
def OkRowIn (ev : Ev) : Prop := ∀ (n : Nat) d, PT2 d → ev [.sh (.int (n : Nat)), .sh d] = .ok (.sh (.bl (rowD n d)), [.em, .em])
theorem ok_rowin {g : Ev} (h : OkInt g) : OkRowIn (evF 3 2 (B_is_row_in g)) := by
  intro n d hd
  have i1 := isi_tup hd.1.1
  by_cases ht : ∃ l, d = .tup l
  · obtain ⟨l, rfl⟩ := ht
    obtain ⟨hl, hx⟩ := hd.2 l rfl
    have lc := lc_ty l (fun x => x) (fun _ => true) (fun x => .bl (intD x)) (own := [2]) (it := iterC (nameC 1)) (g := asgN 2) (t := ret true) (f := callV [true] g [nameC 2]) (e := [.sh (.int (n : Nat)), .sh (.tup l), .em]) (e0 := [.sh (.int (n : Nat)), .sh (.tup l), .em]) (w := [.sh (.int (n : Nat)), .sh (.tup l), .em])
      (by simp) (by simp) hl (by simp) (fun x hq => ⟨[.sh (.int (n : Nat)), .sh (.tup l), .sh x], by simp, by simp, by simp, fun _ => ⟨.sh (.bl (intD x)), by
        have q := h x (hx x hq)
        have q2 : g [.sh x] = .ok (.sh (.bl (intD x)), [.em]) := q
        simp [q2], by simp⟩⟩)
    have e2 : l.filter (fun _ => true) = l := List.filter_eq_self.mpr fun _ _ => rfl
    rw [e2] at lc
    have al := allB_bl intD l
    have er : rowD n (.tup l) = (decide (l.length = n) && l.all intD) := rfl
    rw [er]
    by_cases hn : l.length = n
    · subst hn
      simp [B_is_row_in, i1, lc, al, putE]
    · have hn' : ¬ (l.length : Int) = (n : Int) := by omega
      simp [B_is_row_in, i1, hn, hn']
  · have i2 : isiD "tuple" d = some false := by
      rw [i1]
      cases d <;> first | rfl | exact absurd ⟨_, rfl⟩ ht
    have e1 : rowD n d = false := by cases d <;> first | rfl | exact absurd ⟨_, rfl⟩ ht
    simp [B_is_row_in, i2, e1]
def OkReq (ev : Ev) : Prop := ∀ d, PT2 d → colsD d = true → ev [.sh d] = .ok (.sh .non, [.em])
theorem ok_req {g : Ev} (h : OkAre g) : OkReq (evF 1 1 (B_require_columns g)) := by
  intro d hd hc
  have q := h d hd
  rw [hc] at q
  simp [B_require_columns, q]
def OkRow (ev : Ev) : Prop := ∀ (cs : List Str) d, PT2 (.tup (sL cs)) → colsD (.tup (sL cs)) = true → PT2 d → ev [.sh (.tup (sL cs)), .sh d] = .ok (.sh (.bl (rowD cs.length d)), [.em, .em])
theorem ok_row {g1 g2 : Ev} (h1 : OkReq g1) (h2 : OkRowIn g2) : OkRow (evF 2 2 (B_is_row g1 g2)) := by
  intro cs d hp hc hd
  have q1 := h1 _ hp hc
  have q2 := h2 cs.length d hd
  simp [B_is_row, q1, q2]
def OkDue (ev : Ev) : Prop := ∀ (n : Nat) d, PT2 d → ev [.sh (.int (n : Nat)), .sh d] = .ok (.sh (.bl (rowD n d)), [.em, .em])
theorem ok_due : OkDue (evF 3 2 B__law_row_due) := by
  intro n d hd
  have i1 := isi_tup hd.1.1
  by_cases ht : ∃ l, d = .tup l
  · obtain ⟨l, rfl⟩ := ht
    obtain ⟨hl, hx⟩ := hd.2 l rfl
    have lc := lc_ty l (fun x => x) (fun x => !intD x) (fun x => x) (own := [2]) (it := iterC (nameC 1)) (g := asgN 2) (t := bopT true [truC (isiC "bool" (nameC 2)), notT (truC (isiC "int" (nameC 2)))]) (f := nameC 2) (e := [.sh (.int (n : Nat)), .sh (.tup l), .em]) (e0 := [.sh (.int (n : Nat)), .sh (.tup l), .em]) (w := [.sh (.int (n : Nat)), .sh (.tup l), .em])
      (by simp) (by simp) hl (by simp) (fun x hq => ⟨[.sh (.int (n : Nat)), .sh (.tup l), .sh x], by simp, by
        have ib := isi_bool (hx x hq).1
        have ii := isi_int (hx x hq).1
        rw [int_two (hx x hq).1]
        cases z : dB x <;> simp [ib, ii, z], by simp, fun _ => ⟨.sh x, by simp, by simp⟩⟩)
    have nn := eq_nil ((l.filter fun x => !intD x).map fun x => x)
    have en : ((l.filter fun x => !intD x).map fun x => x).isEmpty = l.all intD := by
      rw [List.isEmpty_map]
      clear lc nn hx hl hd i1
      induction l with
      | nil => rfl
      | cons a r ih => cases z : intD a <;> simp [z, ih]
    rw [en, map_same] at nn
    rw [map_same] at lc
    have er : rowD n (.tup l) = (decide (l.length = n) && l.all intD) := rfl
    rw [er]
    by_cases hn : l.length = n
    · subst hn
      simp [B__law_row_due, i1, lc, nn, putE]
    · have hn' : ¬ (l.length : Int) = (n : Int) := by omega
      simp [B__law_row_due, i1, hn, hn']
  · have i2 : isiD "tuple" d = some false := by
      rw [i1]
      cases d <;> first | rfl | exact absurd ⟨_, rfl⟩ ht
    have e1 : rowD n d = false := by cases d <;> first | rfl | exact absurd ⟨_, rfl⟩ ht
    simp [B__law_row_due, i2, e1]
end Qv
namespace Qv
open PySem L2

/-! ### what can be shown -/
structure SH (dep w : Nat) (d : D) : Prop where
  sh : d.py.showable = true
  len : d.py.shown.length ≤ w
  dep : d.py.depth ≤ dep
theorem NC.to {a w : Nat} {d : D} (h : NC a w d) : SH a w d := ⟨h.sh, h.len, h.dep⟩
theorem SH.mono {a b w v : Nat} {d : D} (h : SH a w d) (h1 : a ≤ b) (h2 : w ≤ v) : SH b v d := ⟨h.sh, Nat.le_trans h.len h2, Nat.le_trans h.dep h1⟩
theorem sh_all {a w : Nat} : ∀ {l : List D}, (∀ d ∈ l, SH a w d) → PyData.showableAll (pyL l) = true ∧ PyData.depthAll (pyL l) ≤ a ∧ piled (PyData.shownAll (pyL l)) ≤ l.length * (w + 2)
  | [], _ => ⟨rfl, Nat.zero_le _, Nat.zero_le _⟩
  | d :: l, h => by
    obtain ⟨h3, h4, h5⟩ := sh_all fun x hx => h x (List.mem_cons_of_mem _ hx)
    have q := h d List.mem_cons_self
    refine ⟨by simp [pyL, PyData.showableAll, q.sh, h3], ?_, ?_⟩
    · rw [pyL, PyData.depthAll]
      exact Nat.max_le.mpr ⟨q.dep, h4⟩
    · rw [pyL, PyData.shownAll, piled_cons, List.length_cons]
      have := q.len
      rw [Nat.add_mul]
      omega
theorem sh_tup {a w : Nat} {l : List D} (h : ∀ d ∈ l, SH a w d) : SH (a + 1) (l.length * (w + 2) + 4) (.tup l) := by
  obtain ⟨h3, h4, h5⟩ := sh_all h
  refine ⟨h3, ?_, Nat.succ_le_succ h4⟩
  show (tupleText (PyData.shownAll (pyL l))).length ≤ _
  unfold tupleText
  rw [strLen_append, strLen_append]
  by_cases z : PyData.shownAll (pyL l) = []
  · rw [z]
    show 1 + 0 + 1 ≤ _
    omega
  · have j := join_length_add _ z
    have e1 : (("(" : String) : Str).length = 1 := rfl
    have e2 : ((if (PyData.shownAll (pyL l)).length == 1 then ",)" else ")" : String) : Str).length ≤ 2 := by split <;> decide +kernel
    omega
/-- of plain things alone, or without lists -/
def Kd (d : D) : Bool := d.nl || (d.pl && d.py.canLay0)
/-- can be shown and asked about -/
structure Vn (d : D) : Prop where
  pt : PT2 d
  rp : ∃ t, reprD d = some t
theorem SH.repr {a w : Nat} {d : D} (h : SH a w d) (k : Kd d = true) (h1 : a ≤ 64) (h2 : w ≤ lenLim) : reprD d = some d.py.shown := by
  unfold reprD
  have h3 := Nat.le_trans h.len h2
  have h4 := Nat.le_trans h.dep h1
  unfold Kd at k
  rw [if_pos (by rw [k]; simp [h.sh, h3, h4])]
theorem kd_tup : ∀ {l : List D}, (l.all D.nl = true ∨ (l.all fun d => d.pl && d.py.canLay0) = true) → Kd (.tup l) = true
  | l, h => by
    have a1 : ∀ l : List D, l.all D.nl = true → nlL l = true := fun l => by
      induction l with
      | nil => intro _; rfl
      | cons a r ih => intro h; rw [List.all_cons, Bool.and_eq_true] at h; show (D.nl a && nlL r) = true; rw [h.1, ih h.2]; rfl
    have a2 : ∀ l : List D, (l.all fun d => d.pl && d.py.canLay0) = true → (plL l && PyData.canLayAll0 (pyL l)) = true := fun l => by
      induction l with
      | nil => intro _; rfl
      | cons a r ih =>
        intro h
        rw [List.all_cons, Bool.and_eq_true, Bool.and_eq_true] at h
        have := ih h.2
        rw [Bool.and_eq_true] at this
        show ((D.pl a && plL r) && (a.py.canLay0 && PyData.canLayAll0 (pyL r))) = true
        rw [h.1.1, h.1.2, this.1, this.2]; rfl
    rcases h with h | h
    · show (nlL l || _) = true
      rw [a1 l h]; rfl
    · show (_ || (plL l && PyData.canLayAll0 (pyL l))) = true
      rw [a2 l h, Bool.or_true]
/-- a thing of a tuple -/
structure At (d : D) : Prop where
  pt : PT1 d
  sh : SH 3 4100 d
  kd : Kd d = true
def SOk (s : Str) : Prop := s.length ≤ 400 ∧ ∀ c ∈ s.cps.toList, c < 0x110000
theorem pt_str {s : Str} (h : SOk s) : PT1 (.str s) := ⟨⟨_, rfl⟩, fun t e => by cases e; exact Nat.le_trans h.1 (by decide)⟩
theorem nc_sok {s : Str} (h : SOk s) : NC 0 4002 (.str s) := nc_str h.1 h.2
theorem at_str {s : Str} (h : SOk s) : At (.str s) := ⟨pt_str h, ((nc_sok h).to).mono (by omega) (by omega), rfl⟩
theorem vn_str {s : Str} (h : SOk s) : Vn (.str s) := ⟨⟨pt_str h, fun l e => by cases e⟩, _, ((nc_sok h).to).repr rfl (by omega) (by decide)⟩
theorem sok_name {s : Str} (h : Nm s) : SOk s := ⟨Nat.le_trans h.2.1 (by decide), fun c hc => by have := h.2.2 c hc; omega⟩
/-- a tuple of texts and one thing more -/
theorem vn_tup {cs : List Str} {xs : List D} (hc : ∀ s ∈ cs, SOk s) (hl : cs.length + xs.length ≤ 20) (hx : ∀ x ∈ xs, At x) (h1 : xs.length ≤ 1) : Vn (.tup (sL cs ++ xs)) := by
  have all : ∀ x ∈ sL cs ++ xs, At x := fun x hm => by
    rcases List.mem_append.mp hm with z | z
    · obtain ⟨s, hs, rfl⟩ := List.mem_map.mp z
      exact at_str (hc s hs)
    · exact hx x z
  refine ⟨⟨⟨⟨_, rfl⟩, fun t e => by cases e⟩, fun l e => ?_⟩, _, (sh_tup fun d hd => (all d hd).sh).repr ?_ (by omega) ?_⟩
  · cases e
    exact ⟨Nat.le_trans (by rw [List.length_append, len_sL]; exact hl) (by decide), fun x hm => (all x hm).pt⟩
  · have s1 : (sL cs).all D.nl = true := by rw [List.all_eq_true]; intro d hd; obtain ⟨s, _, rfl⟩ := List.mem_map.mp hd; rfl
    have s2 : ((sL cs).all fun d => d.pl && d.py.canLay0) = true := by
      rw [List.all_eq_true]; intro d hd; obtain ⟨s, hs, rfl⟩ := List.mem_map.mp hd
      rw [(nc_sok (hc s hs)).pl, (nc_sok (hc s hs)).lay]; rfl
    cases xs with
    | nil => exact kd_tup (.inl (by rw [List.append_nil]; exact s1))
    | cons x r =>
      cases r with
      | cons y r => simp at h1
      | nil =>
        have k := (hx x List.mem_cons_self).kd
        unfold Kd at k
        rcases Bool.or_eq_true_iff.mp k with k | k
        · exact kd_tup (.inl (by rw [List.all_append, s1]; simp [k]))
        · refine kd_tup (.inr ?_)
          rw [List.all_append, s2]
          rw [Bool.and_eq_true] at k
          simp [k.1, k.2]
  · rw [List.length_append, len_sL]
    have : (cs.length + xs.length) * (4100 + 2) ≤ 20 * (4100 + 2) := Nat.mul_le_mul_right _ hl
    exact Nat.le_trans (Nat.add_le_add_right this 4) (by decide)
theorem vn_lst {cs : List Str} (hc : ∀ s ∈ cs, SOk s) (hl : cs.length ≤ 20) : Vn (.lst (sL cs)) := by
  have q := nc_lst (a := 0) (w := 4002) (l := sL cs) fun d hd => by
    obtain ⟨s, hs, rfl⟩ := List.mem_map.mp hd
    exact nc_sok (hc s hs)
  refine ⟨⟨⟨⟨_, rfl⟩, fun t e => by cases e⟩, fun l e => by cases e⟩, _, q.repr (by omega) ?_⟩
  rw [len_sL]
  have : cs.length * (4002 + 2) ≤ 20 * (4002 + 2) := Nat.mul_le_mul_right _ hl
  exact Nat.le_trans (Nat.add_le_add_right this 4) (by decide)
/-! ### drawn values -/
def odds : List D := [.non, .bl true, .bl false, .int 0, .int 7, .int (-3), .int 1000000000000000000000000000000000000000, .lst [], .dct [], .tup [.non], .tup [.tup [.str "a"]], .lst [.str "a"], .dct [(.str "a", .int 1)], .tup [.tup []]]
def atOk (d : D) : Bool := (tyD d).isSome && ((match d with | .str s => decide (s.length ≤ 400) && s.cps.toList.all (fun c => decide (c < 0x110000)) | .tup l => decide (l.length ≤ 20) && l.all (fun x => (tyD x).isSome && (match x with | .str s => decide (s.length ≤ 400) | _ => true)) | _ => true) && (d.py.showable && (decide (d.py.shown.length ≤ 4100) && (decide (d.py.depth ≤ 3) && Kd d))))
theorem atOk_ok {d : D} (h : atOk d = true) : At d ∧ Vn d := by
  unfold atOk at h
  rw [Bool.and_eq_true, Bool.and_eq_true, Bool.and_eq_true, Bool.and_eq_true, Bool.and_eq_true, decide_eq_true_eq, decide_eq_true_eq, Option.isSome_iff_exists] at h
  obtain ⟨h1, h2, h3, h4, h5, h6⟩ := h
  have p1 : PT1 d := ⟨h1, fun s e => by
    subst e
    dsimp only at h2
    rw [Bool.and_eq_true, decide_eq_true_eq] at h2
    exact Nat.le_trans h2.1 (by decide)⟩
  have sh : SH 3 4100 d := ⟨h3, h4, h5⟩
  refine ⟨⟨p1, sh, h6⟩, ⟨p1, fun l e => ?_⟩, _, sh.repr h6 (by omega) (by decide)⟩
  subst e
  dsimp only at h2
  rw [Bool.and_eq_true, decide_eq_true_eq, List.all_eq_true] at h2
  refine ⟨Nat.le_trans h2.1 (by decide), fun x hx => ?_⟩
  have q := h2.2 x hx
  rw [Bool.and_eq_true, Option.isSome_iff_exists] at q
  refine ⟨q.1, fun s e => ?_⟩
  subst e
  have q2 := q.2
  dsimp only at q2
  exact Nat.le_trans (of_decide_eq_true q2) (by decide)
theorem odds_ok : odds.all atOk = true := by decide +kernel
def OkOdd (ev : Ev) : Prop := ∀ (N : Nat) (d : D), Di N d → N < 2 ^ 59 → ∃ x d', ev [.ow true d] = .ok (.sh x, [.ow true d']) ∧ Di (N + 1) d' ∧ At x ∧ Vn x
theorem ok_odd {g : Ev} (h : OkPick g) : OkOdd (evF 1 1 (B__law_odd_value g)) := by
  intro N d hd hN
  unfold B__law_odd_value
  generalize hfl : lstC [conC .non, conC (.bl true), conC (.bl false), conC (.int 0), conC (.int 7), negC (conC (.int 3)), binC powD (conC (.int 10)) (conC (.int 39)), lstC [], dct0C, tupC [conC .non], tupC [tupC [conC (.str "a")]], lstC [conC (.str "a")], dictC [(conC (.str "a"), conC (.int 1))], tupC [tupC []]] = fl
  have hl : fl [.ow true d] = .ok (.fr (.lst odds), [.ow true d]) := by rw [← hfl]; kernel_rfl
  obtain ⟨x, d', h1, h2, h3⟩ := pick_at h (k := 0) (e := [.ow true d]) (l := odds) (fl := fl) rfl hl rfl hd (by omega) (by decide) (by decide)
  obtain ⟨a, b⟩ := atOk_ok (List.all_eq_true.mp odds_ok x h3)
  exact ⟨x, d', by simp [h1, -callV_app], h2, a, b⟩
end Qv
namespace Qv
open PySem L2

theorem repS_chars (a : Str) (n : Nat) : ∀ c ∈ (repS a n).cps.toList, c ∈ a.cps.toList := by
  have go : ∀ (n : Nat) (acc : Array Nat) (c : Nat), c ∈ ((List.replicate n a.cps).foldl (· ++ ·) acc).toList → c ∈ acc.toList ∨ c ∈ a.cps.toList := by
    intro n
    induction n with
    | zero => intro acc c h; exact .inl h
    | succ n ih =>
      intro acc c h
      rw [List.replicate_succ, List.foldl_cons] at h
      rcases ih _ c h with z | z
      · rw [Array.toList_append, List.mem_append] at z
        exact z
      · exact .inr z
  intro c h
  rcases go n #[] c h with z | z
  · exact absurd z List.not_mem_nil
  · exact z
theorem rep_str {s : Str} {k : Nat} (h1 : 2 ≤ k) (h2 : k ≤ 1000) (h3 : s.length ≤ 1000) (h4 : s.length ≠ 0) : mulD (.str s) (.int (k : Nat)) = some (.sh (.str (repS s k))) := by
  show (if (2 : Int) ≤ (k : Int) ∧ (k : Int) ≤ 1000 ∧ s.length ≤ 1000 ∧ s.length ≠ 0 then _ else _) = _
  rw [if_pos ⟨by omega, by omega, h3, h4⟩, Int.toNat_natCast]
theorem sok_rep {s : Str} {k : Nat} (h : SOk s) (hl : k * s.length ≤ 400) : SOk (repS s k) := ⟨by rw [repS_len]; exact hl, fun c hc => h.2 c (repS_chars s k c hc)⟩
def sokB (d : D) : Bool := match d with
  | .str s => decide (s.length ≤ 400) && s.cps.toList.all (fun c => decide (c < 0x110000))
  | _ => false
theorem sokB_ok {d : D} (h : sokB d = true) : ∃ s, d = .str s ∧ SOk s := by
  cases d with
  | str s =>
    have h' : (decide (s.length ≤ 400) && s.cps.toList.all (fun c => decide (c < 0x110000))) = true := h
    rw [Bool.and_eq_true, decide_eq_true_eq, List.all_eq_true] at h'
    exact ⟨s, rfl, h'.1, fun c hc => of_decide_eq_true (h'.2 c hc)⟩
  | _ => cases h
theorem Cols.nmS {cs : List Str} (h : Cols cs) : ∀ s ∈ cs, SOk s := fun s hs => sok_name (h.nm s hs)
/-- so many columns, drawn -/
theorem mk_at {ev : Ev} (h : OkMk ev) {N k : Nat} {e e2 : En} {b : Bool} {d d2 : D} {n : Nat} {ft : M Val} (hk : e[k]? = some (.ow b d)) (hft : ft e = .ok (.sh (.int (n : Nat)), e2)) (hk2 : e2[k]? = some (.ow b d2)) (hd : Di N d2) (hN : N < 2 ^ 59) (hn : n ≤ 8) :
    ∃ cs d', callV [true, false] ev [nameC k, ft] e = .ok (.sh (.tup (sL cs)), e2.set k (.ow b d')) ∧ Di (N + 40) d' ∧ Cols cs ∧ cs.length = n := by
  obtain ⟨cs, d', h1, h2, h3, h4⟩ := h N d2 n hd hN hn
  exact ⟨cs, d', by simp [hk, hft, hk2, h1], h2, h3, h4⟩
def strs1 : List D := [.str "", .str "A", .str "aB", .str "a1", .str "a_b", .str "a b", .str " a", .str "a ", .str "a\n", .str "-", .str "a-b", .str "name.s"]
def strs2 : List D := [.str "abcdefgh", .str "abcdefghi", .str "zzzzzzzz", .str "zzzzzzzzz", .str (repS "a" 300)]
theorem strs1_ok : strs1.all sokB = true := by decide +kernel
theorem strs2_ok : strs2.all sokB = true := by decide +kernel
def OkStr (ev : Ev) : Prop := ∀ (N : Nat) (d : D), Di N d → N < 2 ^ 58 → ∃ s d', ev [.ow true d] = .ok (.sh (.str s), [.ow true d']) ∧ Di (N + 50) d' ∧ SOk s
theorem ok_string {g1 g2 g3 : Ev} (h1 : OkMk g1) (h2 : OkPull g2) (h3 : OkPick g3) : OkStr (evF 3 1 (B__law_string g1 g2 g3)) := by
  intro N d hd hN
  unfold B__law_string
  generalize hf1 : lstC [conC (.str ""), conC (.str "A"), conC (.str "aB"), conC (.str "a1"), conC (.str "a_b"), conC (.str "a b"), conC (.str " a"), conC (.str "a "), conC (.str "a\n"), conC (.str "-"), conC (.str "a-b"), conC (.str "name.s")] = f1
  generalize hf2 : lstC [conC (.str "abcdefgh"), conC (.str "abcdefghi"), conC (.str "zzzzzzzz"), conC (.str "zzzzzzzzz"), binC mulD (conC (.str "a")) (conC (.int 300))] = f2
  obtain ⟨cs, d1, m1, hd1, hc, hl⟩ := mk_at h1 (k := 0) (e := [.ow true d, .em, .em]) (ft := conC (.int 1)) (n := 1) rfl rfl rfl hd (by omega) (by omega)
  obtain ⟨s, rfl⟩ := List.length_eq_one_iff.mp hl
  have sok := hc.nmS s List.mem_cons_self
  have nm := hc.nm s List.mem_cons_self
  have ix : ixD (.tup (sL [s])) (.int 0) = some (.str s) := rfl
  obtain ⟨r, d2, p2, hd2, r0, r1⟩ := pull_at h2 (k := 0) (e := [.ow true d1, .sh (.str s), .em]) (ft := conC (.int 8)) (t := 8) rfl hd1 (by omega) rfl (by omega) (by omega)
  have hcase : r = 0 ∨ r = 1 ∨ r = 2 ∨ (r ≠ 0 ∧ r ≠ 1 ∧ r ≠ 2) := by omega
  rcases hcase with rfl | rfl | rfl | ⟨n0, n1, n2⟩
  · have hm : mulD (.str s) (.int 3) = some (.sh (.str (repS s 3))) := rep_str (k := 3) (by omega) (by omega) (by have := nm.2.1; omega) (by have := nm.1; omega)
    exact ⟨repS s 3, d2, by simp [m1, ix, p2, hm, -callV_app], hd2.mono (by omega), sok_rep sok (by have := nm.2.1; omega)⟩
  · have hl1 : f1 [.ow true d2, .sh (.str s), .sh (.int 1)] = .ok (.fr (.lst strs1), [.ow true d2, .sh (.str s), .sh (.int 1)]) := by rw [← hf1]; kernel_rfl
    obtain ⟨x, d3, p3, hd3, hx⟩ := pick_at h3 (k := 0) (e := [.ow true d2, .sh (.str s), .sh (.int 1)]) rfl hl1 rfl hd2 (by omega) (by decide) (by decide)
    obtain ⟨t, rfl, ht⟩ := sokB_ok (List.all_eq_true.mp strs1_ok x hx)
    exact ⟨t, d3, by simp [m1, ix, p2, p3, -callV_app], hd3.mono (by omega), ht⟩
  · have hl2 : f2 [.ow true d2, .sh (.str s), .sh (.int 2)] = .ok (.fr (.lst strs2), [.ow true d2, .sh (.str s), .sh (.int 2)]) := by rw [← hf2]; kernel_rfl
    obtain ⟨x, d3, p3, hd3, hx⟩ := pick_at h3 (k := 0) (e := [.ow true d2, .sh (.str s), .sh (.int 2)]) rfl hl2 rfl hd2 (by omega) (by decide) (by decide)
    obtain ⟨t, rfl, ht⟩ := sokB_ok (List.all_eq_true.mp strs2_ok x hx)
    exact ⟨t, d3, by simp [m1, ix, p2, p3, -callV_app], hd3.mono (by omega), ht⟩
  · exact ⟨s, d2, by simp [m1, ix, p2, n0, n1, n2, -callV_app], hd2.mono (by omega), sok⟩
/-- handed back: shared, or nobody's -/
def Gv (v : Val) (x : D) : Prop := v = .sh x ∨ v = .fr x
def OkNames (ev : Ev) : Prop := ∀ (N : Nat) (d : D), Di N d → N < 2 ^ 58 → ∃ v x d', ev [.ow true d] = .ok (v, [.ow true d']) ∧ Gv v x ∧ Di (N + 100) d' ∧ Vn x
theorem add_lst {a b : List D} (h : a.length + b.length ≤ 1000) : addD (.lst a) (.lst b) = some (.fr (.lst (a ++ b))) := by
  show (if a.length + b.length ≤ lenLim then _ else _) = _
  rw [if_pos (le_lim h)]
theorem cut_hi (l : List D) (k : Nat) : cutD l none (some (k : Int)) = l.take k := by
  unfold cutD
  show (l.drop 0).take (min k l.length - 0) = _
  rw [List.drop_zero, Nat.sub_zero]
  rw [List.take_eq_take_iff]
  omega
theorem sL_rev (cs : List Str) : (sL cs).reverse = sL cs.reverse := by simp [sL]
theorem sL_take (cs : List Str) (k : Nat) : (sL cs).take k = sL (cs.take k) := by simp [sL]
theorem sL_app (cs ds : List Str) : sL cs ++ sL ds = sL (cs ++ ds) := by simp [sL]
theorem vn_texts {cs : List Str} (hc : ∀ s ∈ cs, SOk s) (hl : cs.length ≤ 20) : Vn (.tup (sL cs)) := by
  have := vn_tup (xs := []) hc (by simpa using hl) (fun x hx => by cases hx) (by simp)
  rwa [List.append_nil] at this
theorem ok_names {g1 g2 g3 g4 : Ev} (h1 : OkMk g1) (h2 : OkPull g2) (h3 : OkPick g3) (h4 : OkOdd g4) : OkNames (evF 3 1 (B__law_names g1 g2 g3 g4)) := by
  intro N d hd hN
  unfold B__law_names
  obtain ⟨rn, d0, p0, hd0, rn0, rn1⟩ := pull_at h2 (k := 0) (e := [.ow true d, .em, .em]) (ft := conC (.int 9)) (t := 9) rfl hd (by omega) rfl (by omega) (by omega)
  obtain ⟨n, rfl⟩ := Int.eq_ofNat_of_zero_le rn0
  obtain ⟨cs, d1, m1, hd1, hc, hl⟩ := mk_at h1 (k := 0) (e := [.ow true d, .em, .em]) (ft := callV [true, true] g2 [nameC 0, conC (.int 9)]) (n := n) rfl p0 rfl hd0 (by omega) (by omega)
  obtain ⟨r, d2, p2, hd2, r0, r1⟩ := pull_at h2 (k := 0) (e := [.ow true d1, .ow false (.lst (sL cs)), .em]) (ft := conC (.int 7)) (t := 7) rfl hd1 (by omega) rfl (by omega) (by omega)
  have hc8 := hc.len
  have hcase : r = 0 ∨ r = 1 ∨ r = 2 ∨ r = 3 ∨ r = 4 ∨ (r ≠ 0 ∧ r ≠ 1 ∧ r ≠ 2 ∧ r ≠ 3 ∧ r ≠ 4) := by omega
  rcases hcase with rfl | rfl | rfl | rfl | rfl | ⟨n0, n1, n2, n3, n4⟩
  · exact ⟨_, .tup (sL cs.reverse), d2, by simp [m1, p2, sL_rev, -callV_app], .inl rfl, hd2.mono (by omega), vn_texts (fun s hs => hc.nmS s (List.mem_reverse.mp hs)) (by simp; omega)⟩
  · exact ⟨_, .lst (sL cs), d2, by simp [m1, p2, -callV_app], .inr rfl, hd2.mono (by omega), vn_lst hc.nmS (by omega)⟩
  · have c1 : cutD (sL cs) none (some 1) = sL (cs.take 1) := by rw [← sL_take]; exact cut_hi _ 1
    have a1 := add_lst (a := sL cs) (b := sL (cs.take 1)) (by simp; omega)
    exact ⟨_, .tup (sL (cs ++ cs.take 1)), d2, by simp [m1, p2, slD, c1, a1, sL_app, -callV_app], .inl rfl, hd2.mono (by omega), vn_texts (fun s hs => by
      rcases List.mem_append.mp hs with z | z
      · exact hc.nmS s z
      · exact hc.nmS s (List.mem_of_mem_take z)) (by simp; omega)⟩
  · obtain ⟨x, d3, q3, hd3, ax, vx⟩ := h4 _ d2 hd2 (by omega)
    have o3 : callV [true] g4 [nameC 0] [.ow true d2, .ow false (.lst (sL cs)), .sh (.int 3)] = .ok (.sh x, [.ow true d3, .ow false (.lst (sL cs)), .sh (.int 3)]) := by simp [q3]
    have l3 : lstC [callV [true] g4 [nameC 0], conC (.str "Z"), conC (.str "zzzzzzzzz"), conC (.str "")] [.ow true d2, .ow false (.lst (sL cs)), .sh (.int 3)] = .ok (.fr (.lst [x, .str "Z", .str "zzzzzzzzz", .str ""]), [.ow true d3, .ow false (.lst (sL cs)), .sh (.int 3)]) := by simp [o3, -callV_app]
    obtain ⟨y, d4, p4, hd4, hy⟩ := pick_at h3 (k := 0) (e := [.ow true d2, .ow false (.lst (sL cs)), .sh (.int 3)]) rfl l3 rfl hd3 (by omega) (by simp) (by simp)
    have ay : At y := by
      simp only [List.mem_cons, List.not_mem_nil, or_false] at hy
      rcases hy with rfl | rfl | rfl | rfl
      · exact ax
      · exact at_str ⟨by decide +kernel, by decide +kernel⟩
      · exact at_str ⟨by decide +kernel, by decide +kernel⟩
      · exact at_str ⟨by decide +kernel, by decide +kernel⟩
    have a4 := add_lst (a := sL cs) (b := [y]) (by simp; omega)
    exact ⟨_, .tup (sL cs ++ [y]), d4, by simp [m1, p2, p4, a4, -callV_app], .inl rfl, hd4.mono (by omega), vn_tup hc.nmS (by simp; omega) (fun z hz => by rw [List.mem_singleton.mp hz]; exact ay) (by simp)⟩
  · obtain ⟨cs2, d3, m3, hd3, hc2, hl2⟩ := mk_at h1 (k := 0) (e := [.ow true d2, .ow false (.lst (sL cs)), .sh (.int 4)]) (ft := conC (.int 8)) (n := 8) rfl rfl rfl hd2 (by omega) (by omega)
    obtain ⟨w, d4, p4, hd4, w0, w1⟩ := pull_at h2 (k := 0) (e := [.ow true d3, .ow false (.lst (sL cs)), .sh (.int 4)]) (ft := conC (.int 2)) (t := 2) rfl hd3 (by omega) rfl (by omega) (by omega)
    obtain ⟨k, rfl⟩ := Int.eq_ofNat_of_zero_le w0
    have c4 : cutD [.str "zz", .str "zzz"] none (some (1 + (k : Int))) = sL ((["zz", "zzz"] : List Str).take (1 + k)) := by
      have e : (1 + (k : Int)) = ((1 + k : Nat) : Int) := by omega
      rw [e, cut_hi, ← sL_take]; rfl
    have a4 := add_lst (a := sL cs2) (b := sL ((["zz", "zzz"] : List Str).take (1 + k))) (by simp; omega)
    refine ⟨_, .tup (sL (cs2 ++ (["zz", "zzz"] : List Str).take (1 + k))), d4, by simp [m1, p2, m3, p4, slD, c4, a4, sL_app, -callV_app], .inl rfl, hd4.mono (by omega), vn_texts (fun s hs => ?_) (by simp; omega)⟩
    rcases List.mem_append.mp hs with z | z
    · exact hc2.nmS s z
    · have z2 := List.mem_of_mem_take z
      simp only [List.mem_cons, List.not_mem_nil, or_false] at z2
      rcases z2 with rfl | rfl
      · exact ⟨by decide +kernel, by decide +kernel⟩
      · exact ⟨by decide +kernel, by decide +kernel⟩
  · exact ⟨_, .tup (sL cs), d2, by simp [m1, p2, n0, n1, n2, n3, n4, -callV_app], .inl rfl, hd2.mono (by omega), vn_texts hc.nmS (by omega)⟩
end Qv
namespace Qv
open PySem L2

/-! ### rows drawn -/
structure A2 (d : D) : Prop where
  pt : PT1 d
  nc : NC 3 4100 d
theorem vn_seq {l : List D} (h : ∀ x ∈ l, A2 x) (hl : l.length ≤ 20) : Vn (.tup l) ∧ Vn (.lst l) := by
  have b : l.length * (4100 + 2) + 4 ≤ lenLim := by
    have : l.length * (4100 + 2) ≤ 20 * (4100 + 2) := Nat.mul_le_mul_right _ hl
    exact Nat.le_trans (Nat.add_le_add_right this 4) (by decide)
  refine ⟨⟨⟨⟨⟨_, rfl⟩, fun t e => by cases e⟩, fun m e => ?_⟩, _, (nc_tup fun d hd => (h d hd).nc).repr (by omega) b⟩, ⟨⟨⟨⟨_, rfl⟩, fun t e => by cases e⟩, fun l e => by cases e⟩, _, (nc_lst fun d hd => (h d hd).nc).repr (by omega) b⟩⟩
  cases e
  exact ⟨Nat.le_trans hl (by decide), fun x hx => (h x hx).pt⟩
def a2B (d : D) : Bool := atOk d && (d.pl && d.py.canLay0)
theorem a2B_ok {d : D} (h : a2B d = true) : A2 d := by
  unfold a2B at h
  rw [Bool.and_eq_true, Bool.and_eq_true] at h
  obtain ⟨h1, h2, h3⟩ := h
  have q := (atOk_ok h1).1
  exact ⟨q.pt, ⟨h2, h3, q.sh.sh, q.sh.len, q.sh.dep⟩⟩
def ints1 : List D := [.int 0, .int 1, .int (-1), .int 7, .int 1000000000000000000000000000000000000000]
def odd1 : List D := [.bl true, .bl false, .non, .str "1", .tup [.int 1], .lst [], .int 1000000000000000000000000000000000000000]
theorem ints1_ok : ints1.all a2B = true := by decide +kernel
theorem odd1_ok : odd1.all a2B = true := by decide +kernel
def OkVals (ev : Ev) : Prop := ∀ (N : Nat) (d : D) (n : Nat), Di N d → N < 2 ^ 58 → n ≤ 8 → ∃ v x d', ev [.ow true d, .sh (.int (n : Nat))] = .ok (v, [.ow true d', .em]) ∧ Gv v x ∧ Di (N + 100) d' ∧ Vn x
theorem row_of {g : Ev} (h : OkPick g) {f1 : M Val} (hf : ∀ e, f1 e = .ok (.fr (.lst ints1), e)) {N : Nat} {d : D} {n : Nat} {o3 o4 : Option D} (hd : Di N d) (hN : N < 2 ^ 59) (hn : n ≤ 8) :
    ∃ l d', lcC [3] (rngC rng1B [nameC 1]) (asgN 3) (ret true) (callV [true, true] g [nameC 0, f1]) [.ow true d, .sh (.int (n : Nat)), .em, op o3, op o4] = .ok (.fr (.lst l), [.ow true d', .sh (.int (n : Nat)), .em, op o3, op o4]) ∧ l.length = n ∧ (∀ x ∈ l, A2 x) ∧ Di (N + 8) d' := by
  let S : D → Option D → En := fun d o => [.ow true d, .sh (.int (n : Nat)), .em, op o, op o4]
  let J : List D → List D → En → Prop := fun done acc e => ∃ (d' : D) (o : Option D), acc.length = done.length ∧ (∀ x ∈ acc, A2 x) ∧ Di (N + done.length) d' ∧ e = S d' o
  have hrl : (rngD 0 n).length = n := by simp [rngD]
  have step : ∀ done x rest acc e, done ++ x :: rest = rngD 0 n → J done acc e → ∃ o e', Turn1 [3] (asgN 3) (ret true) (callV [true, true] g [nameC 0, f1]) x e o e' ∧ J (done ++ [x]) (acc ++ o.toList) e' := by
    rintro done x rest acc e hx ⟨d1, o, ha, hb, hd1, rfl⟩
    obtain ⟨rfl, hlt⟩ := rngD_at hx
    obtain ⟨y, d2, p1, hd2, hy⟩ := pick_at h (k := 0) (e := S d1 (some (.int (done.length : Nat)))) (fl := f1) rfl (hf _) rfl hd1 (by omega) (by decide) (by decide)
    refine ⟨some y, S d2 (some (.int (done.length : Nat))), ⟨S d1 none, S d1 (some (.int (done.length : Nat))), true, S d1 (some (.int (done.length : Nat))), by simp [S], by simp [S], by simp, rfl, .sh y, S d2 (some (.int (done.length : Nat))), p1, by simp⟩, d2, some (.int (done.length : Nat)), by simp [ha], fun z hz => ?_, by simpa [Nat.add_assoc] using hd2, rfl⟩
    rcases List.mem_append.mp hz with z1 | z1
    · exact hb z z1
    · have : z = y := by simpa using z1
      rw [this]; exact a2B_ok (List.all_eq_true.mp ints1_ok y hy)
  have last : ∀ acc e, J (rngD 0 n) acc e → (∃ w, wipE [3] e = .ok ((), w)) ∧ acc.length ≤ lenLim := by
    rintro acc e ⟨d1, o, ha, hb, hd1, rfl⟩
    exact ⟨⟨S d1 none, by simp [S]⟩, le_lim (by rw [ha, hrl]; omega)⟩
  obtain ⟨xs, e1, w, ⟨d', o, ha, hb, hd', rfl⟩, hw, lc⟩ := lcC_rule (own := [3]) (it := rngC rng1B [nameC 1]) (g := asgN 3) (t := ret true) (f := callV [true, true] g [nameC 0, f1]) (ds := rngD 0 n) (e := S d o3) (e0 := S d o3)
    (by simp [S, rng1_nat n (by omega)]) J step ⟨d, o3, rfl, (fun _ hx => by cases hx), hd, rfl⟩ last
  rw [hrl] at ha hd'
  refine ⟨xs, d', ?_, ha, hb, hd'.mono (by omega)⟩
  have hw2 : w = S d' none := by
    have : wipE [3] (S d' o) = .ok ((), S d' none) := by simp [S]
    rw [this] at hw
    cases hw
    rfl
  subst hw2
  have : putE [3] (S d o3) (S d' none) = S d' o3 := by simp [S]
  rw [this] at lc
  exact lc
theorem ixN_nat {n k : Nat} (h : k < n) : ixN n (k : Int) = some k := by
  unfold ixN
  simp [h]
theorem ok_vals {g1 g2 : Ev} (h1 : OkPick g1) (h2 : OkPull g2) : OkVals (evF 5 2 (B__law_values g1 g2)) := by
  intro N d n hd hN hn
  unfold B__law_values
  generalize hf1 : lstC [conC (.int 0), conC (.int 1), negC (conC (.int 1)), conC (.int 7), binC powD (conC (.int 10)) (conC (.int 39))] = f1
  generalize hf2 : lstC [conC (.bl true), conC (.bl false), conC .non, conC (.str "1"), tupC [conC (.int 1)], lstC [], binC powD (conC (.int 10)) (conC (.int 39))] = f2
  have k1 : ∀ e, f1 e = .ok (.fr (.lst ints1), e) := fun e => by rw [← hf1]; kernel_rfl
  have k2 : ∀ e, f2 e = .ok (.fr (.lst odd1), e) := fun e => by rw [← hf2]; kernel_rfl
  obtain ⟨l, d1, m1, hl, ha, hd1⟩ := row_of h1 k1 (o3 := none) (o4 := none) hd (by omega) hn
  have m1' : lcC [3] (rngC rng1B [nameC 1]) (asgN 3) (ret true) (callV [true, true] g1 [nameC 0, f1]) [.ow true d, .sh (.int (n : Nat)), .em, .em, .em] = .ok (.fr (.lst l), [.ow true d1, .sh (.int (n : Nat)), .em, .em, .em]) := m1
  obtain ⟨r, d2, p2, hd2, r0, r1⟩ := pull_at h2 (k := 0) (e := [.ow true d1, .sh (.int (n : Nat)), .ow false (.lst l), .em, .em]) (ft := conC (.int 6)) (t := 6) rfl hd1 (by omega) rfl (by omega) (by omega)
  have vs := vn_seq ha (by omega)
  have one : A2 (.int 1) := a2B_ok (by decide +kernel)
  have hcase : r = 0 ∨ r = 1 ∨ r = 2 ∨ r = 3 ∨ (r ≠ 0 ∧ r ≠ 1 ∧ r ≠ 2 ∧ r ≠ 3) := by omega
  rcases hcase with rfl | rfl | rfl | rfl | ⟨n0, n1, n2, n3⟩
  · have a4 := add_lst (a := l) (b := [.int 1]) (by simp; omega)
    exact ⟨_, .tup (l ++ [.int 1]), d2, by simp [m1', p2, a4, -callV_app], .inl rfl, hd2.mono (by omega), (vn_seq (l := l ++ [.int 1]) (fun x hx => by
      rcases List.mem_append.mp hx with z | z
      · exact ha x z
      · rw [List.mem_singleton.mp z]; exact one) (by simp; omega)).1⟩
  · have c1 : cutD l (some 1) none = l.tail := by rw [cut1]; simp
    exact ⟨_, .tup l.tail, d2, by simp [m1', p2, slD, c1, -callV_app], .inl rfl, hd2.mono (by omega), (vn_seq (fun x hx => ha x (List.mem_of_mem_tail hx)) (by simp; omega)).1⟩
  · exact ⟨_, .lst l, d2, by simp [m1', p2, -callV_app], .inr rfl, hd2.mono (by omega), vs.2⟩
  · have nn := ne_nil l
    by_cases hL : l = []
    · subst hL
      exact ⟨_, .tup [], d2, by simp [m1', p2, nn, -callV_app], .inl rfl, hd2.mono (by omega), vs.1⟩
    · have he : l.isEmpty = false := by cases l with
        | nil => exact absurd rfl hL
        | cons _ _ => rfl
      rw [he] at nn
      have hn1 : 0 < n := by rw [← hl]; exact List.length_pos_iff.mpr hL
      obtain ⟨x, d3, p3, hd3, hx⟩ := pick_at h1 (k := 0) (e := [.ow true d2, .sh (.int (n : Nat)), .ow false (.lst l), .em, .sh (.int 3)]) (fl := f2) rfl (k2 _) rfl hd2 (by omega) (by decide) (by decide)
      obtain ⟨w, d4, p4, hd4, w0, w1⟩ := pull_at h2 (k := 0) (e := [.ow true d3, .sh (.int (n : Nat)), .ow false (.lst l), .em, .sh (.int 3)]) (ft := nameC 1) (t := (n : Nat)) rfl hd3 (by omega) (by simp) (by omega) (by omega)
      obtain ⟨k, rfl⟩ := Int.eq_ofNat_of_zero_le w0
      have hk : k < l.length := by omega
      have ix := ixN_nat hk
      have hx2 := a2B_ok (List.all_eq_true.mp odd1_ok x hx)
      refine ⟨_, .tup (l.set k x), d4, by simp [m1', p2, nn, p3, p4, ix, -callV_app], .inl rfl, hd4.mono (by omega), (vn_seq (fun z hz => ?_) (by simp; omega)).1⟩
      rcases List.mem_or_eq_of_mem_set hz with q | q
      · exact ha z q
      · rw [q]; exact hx2
  · exact ⟨_, .tup l, d2, by simp [m1', p2, n0, n1, n2, n3, -callV_app], .inl rfl, hd2.mono (by omega), vs.1⟩
end Qv
namespace Qv
open PySem L2

/-! ### the law's parts -/
def OkR (ev : Ev) : Prop := ∀ (N : Nat) (d : D), Di N d → N < 2 ^ 56 → ∃ d', ev [.ow true d] = .ok (.sh (.bl true), [.ow true d']) ∧ Di (N + 1000) d'
theorem rp_bls {l : List Bool} (h : l.length ≤ 20) : ∃ t, reprB [.lst (l.map .bl)] = some (.sh (.str t)) := by
  have q := nc_lst (a := 0) (w := 5) (l := l.map D.bl) fun d hd => by
    obtain ⟨b, _, rfl⟩ := List.mem_map.mp hd
    exact nc_bl b
  exact ⟨_, q.reprB (by omega) (by rw [List.length_map]; exact Nat.le_trans (Nat.add_le_add_right (Nat.mul_le_mul_right _ h) 4) (by decide))⟩
theorem rp_bl (b : Bool) : ∃ t, reprB [.bl b] = some (.sh (.str t)) := ⟨_, (nc_bl b).reprB (by omega) (by decide)⟩
theorem rp_vn {d : D} (h : Vn d) : ∃ t, reprB [d] = some (.sh (.str t)) := by
  obtain ⟨t, ht⟩ := h.rp
  exact ⟨t, by show (reprD d).map _ = _; rw [ht]; rfl⟩
theorem ok_strings {g1 g2 g3 g4 g5 : Ev} (h1 : OkPull g1) (h2 : OkStr g2) (h3 : OkOdd g3) (h4 : OkName g4) (h5 : OkName g5) : OkR (evF 3 1 (B__law_strings_right g1 g2 g3 g4 g5)) := by
  intro N d hd hN
  unfold B__law_strings_right
  have r6 : rng1B [.int 6] = some (rngD 0 6) := by kernel_rfl
  have hrl : (rngD 0 6).length = 6 := by simp [rngD]
  generalize hbd : seqS [asS (ifC (cmpT (binC gtD (callV [true, true] g1 [nameC 0, conC (.int 4)]) (conC (.int 0)))) (callV [true] g2 [nameC 0]) (callV [true] g3 [nameC 0])) (asgN 2), ifS (cmpT (binC neD (callC reprB [lstC [callV [false] g4 [nameC 2], callV [false] g4 [nameC 2]]]) (callC reprB [binC mulD (lstC [callV [false] g5 [nameC 2]]) (conC (.int 2))]))) (seqS [rtS (conC (.bl false))]) (seqS [])] = bd
  obtain ⟨e', q, d', o1, o2, hd', rfl⟩ := forL_rule (g := asgN 1) (b := bd) (ds := rngD 0 6) (fun done e => ∃ (d' : D) (o1 o2 : Option D), Di (N + 60 * done.length) d' ∧ e = [.ow true d', op o1, op o2]) (by
    rintro done x rest e hx ⟨d1, o1, o2, hd1, rfl⟩
    obtain ⟨rfl, hlt⟩ := rngD_at hx
    generalize hk : done.length = k at *
    obtain ⟨r, d2, p2, hd2, r0, r1⟩ := pull_at h1 (k := 0) (e := [.ow true d1, .sh (.int (k : Nat)), op o2]) (ft := conC (.int 4)) (t := 4) rfl hd1 (by omega) rfl (by omega) (by omega)
    have val : ∃ x d3, ifC (cmpT (binC gtD (callV [true, true] g1 [nameC 0, conC (.int 4)]) (conC (.int 0)))) (callV [true] g2 [nameC 0]) (callV [true] g3 [nameC 0]) [.ow true d1, .sh (.int (k : Nat)), op o2] = .ok (.sh x, [.ow true d3, .sh (.int (k : Nat)), op o2]) ∧ Di (N + 60 * k + 51) d3 ∧ Vn x := by
      by_cases hr : 0 < r
      · obtain ⟨s, d3, q3, hd3, sk⟩ := h2 _ d2 hd2 (by omega)
        have c3 : callV [true] g2 [nameC 0] [.ow true d2, .sh (.int (k : Nat)), op o2] = .ok (.sh (.str s), [.ow true d3, .sh (.int (k : Nat)), op o2]) := by simp [q3]
        exact ⟨.str s, d3, by simp [p2, hr, c3, -callV_app], hd3.mono (by omega), vn_str sk⟩
      · obtain ⟨x, d3, q3, hd3, _, vx⟩ := h3 _ d2 hd2 (by omega)
        have c3 : callV [true] g3 [nameC 0] [.ow true d2, .sh (.int (k : Nat)), op o2] = .ok (.sh x, [.ow true d3, .sh (.int (k : Nat)), op o2]) := by simp [q3]
        exact ⟨x, d3, by simp [p2, hr, c3, -callV_app], hd3.mono (by omega), vx⟩
    obtain ⟨x, d3, vq, hd3, vx⟩ := val
    have n4 := h4 x vx.pt.1
    have n5 := h5 x vx.pt.1
    obtain ⟨t, ht⟩ := rp_bls (l := [nameD x, nameD x]) (by simp)
    have ht' : reprB [.lst [.bl (nameD x), .bl (nameD x)]] = some (.sh (.str t)) := ht
    have mm : mulD (.lst [.bl (nameD x)]) (.int 2) = some (.fr (.lst [.bl (nameD x), .bl (nameD x)])) := by kernel_rfl
    refine ⟨[.ow true d1, .sh (.int (k : Nat)), op o2], .nx, [.ow true d3, .sh (.int (k : Nat)), .sh x], by simp, ?_, .inl rfl, d3, some (.int (k : Nat)), some x, hd3.mono (by simp [hk]; omega), rfl⟩
    rw [← hbd]
    simp [vq, n4, n5, ht', mm, -ifC_app]) ⟨d, none, none, hd, rfl⟩
  rw [hrl] at hd'
  refine ⟨d', ?_, hd'.mono (by omega)⟩
  have q' : forL (asgN 1) bd (rngD 0 6) [.ow true d, .em, .em] = .ok (.nx, [.ow true d', op o1, op o2]) := q
  simp [r6, q']
theorem nameS_of {s : Str} (h : Nm s) : nameS s = true := by
  unfold nameS
  rw [Bool.and_eq_true, Bool.and_eq_true, decide_eq_true_eq, decide_eq_true_eq, List.all_eq_true]
  refine ⟨h.1, h.2.1, fun c hc => decide_eq_true ?_⟩
  have := signs_mem (h.2.2 c hc).1 (h.2.2 c hc).2
  exact Array.mem_toList_iff.mp this
theorem cols_true {cs : List Str} (h : Cols cs) : colsD (.tup (sL cs)) = true := by
  rw [colsD_sL h.len, Bool.and_eq_true, List.all_eq_true]
  exact ⟨fun s hs => nameS_of (h.nm s hs), (asc_pw cs).mpr h.asc⟩
theorem ok_columns {g1 g2 g3 g4 g5 : Ev} (h1 : OkPull g1) (h2 : OkNames g2) (h3 : OkOdd g3) (h4 : OkIsCols g4) (h5 : OkGood g5) : OkR (evF 6 1 (B__law_columns_right g1 g2 g3 g4 g5)) := by
  intro N d hd hN
  unfold B__law_columns_right
  have r6 : rng1B [.int 6] = some (rngD 0 6) := by kernel_rfl
  have r9 : rng1B [.int 9] = some (rngD 0 9) := by kernel_rfl
  have hrl : (rngD 0 6).length = 6 := by simp [rngD]
  generalize hl1 : lcC [5] (rngC rng1B [conC (.int 9)]) (asgN 5) (ret true) (callK [false, false] g4 [.ps 0, .kw 0] 1 1 [nameC 2] [nameC 5]) = l1
  generalize hl2 : lcC [5] (rngC rng1B [conC (.int 9)]) (asgN 5) (ret true) (callV [false, true] g5 [nameC 2, nameC 5]) = l2
  generalize hvl : ifC (cmpT (binC gtD (callV [true, true] g1 [nameC 0, conC (.int 5)]) (conC (.int 0)))) (callV [true] g2 [nameC 0]) (callV [true] g3 [nameC 0]) = vl
  generalize hbd : seqS [asS vl (asgN 2), asS (callC reprB [nameC 2]) (asgN 3), ifS (cmpT (binC neD (callC reprB [callK [false, false] g4 [.ps 0, .df 0 (.int 0)] 1 0 [nameC 2] []]) (callC reprB [callV [false, true] g5 [nameC 2, conC (.int 0)]]))) (seqS [rtS (conC (.bl false))]) (seqS []), asS l1 (asgN 4), ifS (bopT true [cmpT (binC neD (callC reprB [nameC 4]) (callC reprB [l2])), cmpT (binC neD (callC reprB [nameC 2]) (nameC 3))]) (seqS [rtS (conC (.bl false))]) (seqS [])] = bd
  obtain ⟨e', q, d', o1, o2, o3, s4, o5, hd', hs4, rfl⟩ := forL_rule (g := asgN 1) (b := bd) (ds := rngD 0 6) (fun done e => ∃ (d' : D) (o1 o2 o3 : Option D) (s4 : Slot) (o5 : Option D), Di (N + 110 * done.length) d' ∧ s4.io = false ∧ e = [.ow true d', op o1, op o2, op o3, s4, op o5]) (by
    rintro done x rest e hx ⟨d1, o1, o2, o3, s4, o5, hd1, hs4, rfl⟩
    obtain ⟨rfl, hlt⟩ := rngD_at hx
    generalize hk : done.length = k at *
    obtain ⟨r, d2, p2, hd2, r0, r1⟩ := pull_at h1 (k := 0) (e := [.ow true d1, .sh (.int (k : Nat)), op o2, op o3, s4, op o5]) (ft := conC (.int 5)) (t := 5) rfl hd1 (by omega) rfl (by omega) (by omega)
    have val : ∃ v x d3, vl [.ow true d1, .sh (.int (k : Nat)), op o2, op o3, s4, op o5] = .ok (v, [.ow true d3, .sh (.int (k : Nat)), op o2, op o3, s4, op o5]) ∧ Gv v x ∧ Di (N + 110 * k + 101) d3 ∧ Vn x := by
      rw [← hvl]
      by_cases hr : 0 < r
      · obtain ⟨v, x, d3, q3, gv, hd3, vx⟩ := h2 _ d2 hd2 (by omega)
        have c3 : callV [true] g2 [nameC 0] [.ow true d2, .sh (.int (k : Nat)), op o2, op o3, s4, op o5] = .ok (v, [.ow true d3, .sh (.int (k : Nat)), op o2, op o3, s4, op o5]) := by simp [q3]
        exact ⟨v, x, d3, by simp [p2, hr, c3, -callV_app], gv, hd3.mono (by omega), vx⟩
      · obtain ⟨x, d3, q3, hd3, _, vx⟩ := h3 _ d2 hd2 (by omega)
        have c3 : callV [true] g3 [nameC 0] [.ow true d2, .sh (.int (k : Nat)), op o2, op o3, s4, op o5] = .ok (.sh x, [.ow true d3, .sh (.int (k : Nat)), op o2, op o3, s4, op o5]) := by simp [q3]
        exact ⟨.sh x, x, d3, by simp [p2, hr, c3, -callV_app], .inl rfl, hd3.mono (by omega), vx⟩
    obtain ⟨v, x, d3, vq, gv, hd3, vx⟩ := val
    obtain ⟨t, ht⟩ := rp_vn vx
    have z4 := h4 x 0 vx.pt (by omega) (by omega)
    have z5 := h5 x 0 vx.pt
    obtain ⟨t0, ht0⟩ := rp_bl (colsD x && lenGe x 0)
    obtain ⟨t9, ht9⟩ := rp_bls (l := (List.range 9).map fun i => colsD x && lenGe x (0 + (i : Nat))) (by simp)
    have e9 : ((List.range 9).map fun i => colsD x && lenGe x (0 + ((i : Nat) : Int))).map D.bl = (List.range 9).map fun i => D.bl (colsD x && lenGe x (0 + ((i : Nat) : Int))) := by rw [List.map_map]; rfl
    rw [e9] at ht9
    have ef : (List.range 9).filter (fun _ => true) = List.range 9 := List.filter_eq_self.mpr fun _ _ => rfl
    have k1 : ∀ s4 : Slot, l1 [.ow true d3, .sh (.int (k : Nat)), .sh x, .sh (.str t), s4, op o5] = .ok (.fr (.lst ((List.range 9).map fun i => D.bl (colsD x && lenGe x (0 + ((i : Nat) : Int))))), [.ow true d3, .sh (.int (k : Nat)), .sh x, .sh (.str t), s4, op o5]) := by
      intro s4
      have lc := lc_ty (List.range 9) (fun i => .int (0 + ((i : Nat) : Int))) (fun _ => true) (fun i => .bl (colsD x && lenGe x (0 + ((i : Nat) : Int)))) (own := [5]) (it := rngC rng1B [conC (.int 9)]) (g := asgN 5) (t := ret true) (f := callK [false, false] g4 [.ps 0, .kw 0] 1 1 [nameC 2] [nameC 5]) (e := [.ow true d3, .sh (.int (k : Nat)), .sh x, .sh (.str t), s4, op o5]) (e0 := [.ow true d3, .sh (.int (k : Nat)), .sh x, .sh (.str t), s4, op o5]) (w := [.ow true d3, .sh (.int (k : Nat)), .sh x, .sh (.str t), s4, .em])
        (by simp [r9]; rfl) (by simp) (by simp) (by simp) (fun i hi => by
          have hi9 : i < 9 := List.mem_range.mp hi
          have z := h4 x (0 + ((i : Nat) : Int)) vx.pt (by omega) (by omega)
          refine ⟨[.ow true d3, .sh (.int (k : Nat)), .sh x, .sh (.str t), s4, .sh (.int (0 + ((i : Nat) : Int)))], by simp, by simp, by simp, fun _ => ⟨.sh (.bl (colsD x && lenGe x (0 + ((i : Nat) : Int)))), ?_, by simp⟩⟩
          generalize (0 + ((i : Nat) : Int)) = b at z ⊢
          simp [z])
      rw [ef, hl1] at lc
      rw [lc]
      simp
    have k2 : ∀ s4 : Slot, l2 [.ow true d3, .sh (.int (k : Nat)), .sh x, .sh (.str t), s4, op o5] = .ok (.fr (.lst ((List.range 9).map fun i => D.bl (colsD x && lenGe x (0 + ((i : Nat) : Int))))), [.ow true d3, .sh (.int (k : Nat)), .sh x, .sh (.str t), s4, op o5]) := by
      intro s4
      have lc := lc_ty (List.range 9) (fun i => .int (0 + ((i : Nat) : Int))) (fun _ => true) (fun i => .bl (colsD x && lenGe x (0 + ((i : Nat) : Int)))) (own := [5]) (it := rngC rng1B [conC (.int 9)]) (g := asgN 5) (t := ret true) (f := callV [false, true] g5 [nameC 2, nameC 5]) (e := [.ow true d3, .sh (.int (k : Nat)), .sh x, .sh (.str t), s4, op o5]) (e0 := [.ow true d3, .sh (.int (k : Nat)), .sh x, .sh (.str t), s4, op o5]) (w := [.ow true d3, .sh (.int (k : Nat)), .sh x, .sh (.str t), s4, .em])
        (by simp [r9]; rfl) (by simp) (by simp) (by simp) (fun i hi => by
          have z := h5 x (0 + ((i : Nat) : Int)) vx.pt
          refine ⟨[.ow true d3, .sh (.int (k : Nat)), .sh x, .sh (.str t), s4, .sh (.int (0 + ((i : Nat) : Int)))], by simp, by simp, by simp, fun _ => ⟨.sh (.bl (colsD x && lenGe x (0 + ((i : Nat) : Int)))), ?_, by simp⟩⟩
          generalize (0 + ((i : Nat) : Int)) = b at z ⊢
          simp [z])
      rw [ef, hl2] at lc
      rw [lc]
      simp
    generalize hls : ((List.range 9).map fun i => D.bl (colsD x && lenGe x (0 + ((i : Nat) : Int)))) = ls at k1 k2 ht9
    refine ⟨[.ow true d1, .sh (.int (k : Nat)), op o2, op o3, s4, op o5], .nx, [.ow true d3, .sh (.int (k : Nat)), .sh x, .sh (.str t), .ow false (.lst ls), op o5], by simp, ?_, .inl rfl, d3, some (.int (k : Nat)), some x, some (.str t), .ow false (.lst ls), o5, hd3.mono (by simp [hk]; omega), rfl, rfl⟩
    rw [← hbd]
    have dk : dOk (.int 0) = true := rfl
    rcases gv with rfl | rfl
    · simp [vq, ht, z4, z5, ht0, k1, k2, ht9, hs4, dk]
    · simp [vq, ht, z4, z5, ht0, k1, k2, ht9, hs4, dk]) ⟨d, none, none, none, .em, none, hd, rfl, rfl⟩
  rw [hrl] at hd'
  refine ⟨d', ?_, hd'.mono (by omega)⟩
  have q' : forL (asgN 1) bd (rngD 0 6) [.ow true d, .em, .em, .em, .em, .em] = .ok (.nx, [.ow true d', op o1, op o2, op o3, s4, op o5]) := q
  simp [r6, q']
end Qv
namespace Qv
open PySem L2

theorem ok_rows {g1 g2 g3 g4 g5 g6 : Ev} (h1 : OkPull g1) (h2 : OkMk g2) (h3 : OkVals g3) (h4 : OkOdd g4) (h5 : OkRow g5) (h6 : OkDue g6) : OkR (evF 6 1 (B__law_rows_right g1 g2 g3 g4 g5 g6)) := by
  intro N d hd hN
  unfold B__law_rows_right
  have r6 : rng1B [.int 6] = some (rngD 0 6) := by kernel_rfl
  have hrl : (rngD 0 6).length = 6 := by simp [rngD]
  generalize hvl : ifC (cmpT (binC gtD (callV [true, true] g1 [nameC 0, conC (.int 5)]) (conC (.int 0)))) (callV [true, false] g3 [nameC 0, nameC 2]) (callV [true] g4 [nameC 0]) = vl
  generalize hbd : seqS [asS (callV [true, true] g1 [nameC 0, conC (.int 9)]) (asgN 2), asS (callV [true, false] g2 [nameC 0, nameC 2]) (asgN 3), asS vl (asgN 4), asS (callC reprB [nameC 4]) (asgN 5), ifS (bopT true [cmpT (binC neD (callC reprB [callV [false, false] g5 [nameC 3, nameC 4]]) (callC reprB [callV [true, false] g6 [nameC 2, nameC 4]])), cmpT (binC neD (callC reprB [nameC 4]) (nameC 5))]) (seqS [rtS (conC (.bl false))]) (seqS [])] = bd
  obtain ⟨e', q, d', o1, o2, o3, o4, o5, hd', rfl⟩ := forL_rule (g := asgN 1) (b := bd) (ds := rngD 0 6) (fun done e => ∃ (d' : D) (o1 o2 o3 o4 o5 : Option D), Di (N + 150 * done.length) d' ∧ e = [.ow true d', op o1, op o2, op o3, op o4, op o5]) (by
    rintro done x rest e hx ⟨d1, o1, o2, o3, o4, o5, hd1, rfl⟩
    obtain ⟨rfl, hlt⟩ := rngD_at hx
    generalize hk : done.length = k at *
    obtain ⟨rn, d2, p2, hd2, r0, r1⟩ := pull_at h1 (k := 0) (e := [.ow true d1, .sh (.int (k : Nat)), op o2, op o3, op o4, op o5]) (ft := conC (.int 9)) (t := 9) rfl hd1 (by omega) rfl (by omega) (by omega)
    obtain ⟨n, rfl⟩ := Int.eq_ofNat_of_zero_le r0
    obtain ⟨cs, d3, m3, hd3, hc, hl⟩ := mk_at h2 (k := 0) (e := [.ow true d2, .sh (.int (k : Nat)), .sh (.int (n : Nat)), op o3, op o4, op o5]) (e2 := [.ow true d2, .sh (.int (k : Nat)), .sh (.int (n : Nat)), op o3, op o4, op o5]) (ft := nameC 2) (n := n) rfl (by simp) rfl hd2 (by omega) (by omega)
    obtain ⟨r, d4, p4, hd4, r40, r41⟩ := pull_at h1 (k := 0) (e := [.ow true d3, .sh (.int (k : Nat)), .sh (.int (n : Nat)), .sh (.tup (sL cs)), op o4, op o5]) (ft := conC (.int 5)) (t := 5) rfl hd3 (by omega) rfl (by omega) (by omega)
    have val : ∃ v x d5, vl [.ow true d3, .sh (.int (k : Nat)), .sh (.int (n : Nat)), .sh (.tup (sL cs)), op o4, op o5] = .ok (v, [.ow true d5, .sh (.int (k : Nat)), .sh (.int (n : Nat)), .sh (.tup (sL cs)), op o4, op o5]) ∧ Gv v x ∧ Di (N + 150 * k + 150) d5 ∧ Vn x := by
      rw [← hvl]
      by_cases hr : 0 < r
      · obtain ⟨v, x, d5, q5, gv, hd5, vx⟩ := h3 _ d4 n hd4 (by omega) (by omega)
        have c3 : callV [true, false] g3 [nameC 0, nameC 2] [.ow true d4, .sh (.int (k : Nat)), .sh (.int (n : Nat)), .sh (.tup (sL cs)), op o4, op o5] = .ok (v, [.ow true d5, .sh (.int (k : Nat)), .sh (.int (n : Nat)), .sh (.tup (sL cs)), op o4, op o5]) := by simp [q5]
        exact ⟨v, x, d5, by simp [p4, hr, c3, -callV_app], gv, hd5.mono (by omega), vx⟩
      · obtain ⟨x, d5, q5, hd5, _, vx⟩ := h4 _ d4 hd4 (by omega)
        have c3 : callV [true] g4 [nameC 0] [.ow true d4, .sh (.int (k : Nat)), .sh (.int (n : Nat)), .sh (.tup (sL cs)), op o4, op o5] = .ok (.sh x, [.ow true d5, .sh (.int (k : Nat)), .sh (.int (n : Nat)), .sh (.tup (sL cs)), op o4, op o5]) := by simp [q5]
        exact ⟨.sh x, x, d5, by simp [p4, hr, c3, -callV_app], .inl rfl, hd5.mono (by omega), vx⟩
    obtain ⟨v, x, d5, vq, gv, hd5, vx⟩ := val
    obtain ⟨t, ht⟩ := rp_vn vx
    have hpt := (vn_texts hc.nmS (by have := hc.len; omega)).pt
    have z5 := h5 cs x hpt (cols_true hc) vx.pt
    have z6 := h6 n x vx.pt
    rw [hl] at z5
    obtain ⟨t0, ht0⟩ := rp_bl (rowD n x)
    refine ⟨[.ow true d1, .sh (.int (k : Nat)), op o2, op o3, op o4, op o5], .nx, [.ow true d5, .sh (.int (k : Nat)), .sh (.int (n : Nat)), .sh (.tup (sL cs)), .sh x, .sh (.str t)], by simp, ?_, .inl rfl, d5, some (.int (k : Nat)), some (.int (n : Nat)), some (.tup (sL cs)), some x, some (.str t), hd5.mono (by simp [hk]; omega), rfl⟩
    rw [← hbd]
    have c5 : ∀ s : Slot, (s = .sh x ∨ s = .ow false x) → callV [false, false] g5 [nameC 3, nameC 4] [.ow true d5, .sh (.int (k : Nat)), .sh (.int (n : Nat)), .sh (.tup (sL cs)), s, .sh (.str t)] = .ok (.sh (.bl (rowD n x)), [.ow true d5, .sh (.int (k : Nat)), .sh (.int (n : Nat)), .sh (.tup (sL cs)), .sh x, .sh (.str t)]) := by
      rintro s (rfl | rfl) <;> simp [z5]
    have c6 : callV [true, false] g6 [nameC 2, nameC 4] [.ow true d5, .sh (.int (k : Nat)), .sh (.int (n : Nat)), .sh (.tup (sL cs)), .sh x, .sh (.str t)] = .ok (.sh (.bl (rowD n x)), [.ow true d5, .sh (.int (k : Nat)), .sh (.int (n : Nat)), .sh (.tup (sL cs)), .sh x, .sh (.str t)]) := by simp [z6]
    have c51 := c5 _ (.inl rfl)
    have c52 := c5 _ (.inr rfl)
    rcases gv with rfl | rfl
    · simp [p2, m3, vq, ht, c51, c6, ht0, -callV_app]
    · simp [p2, m3, vq, ht, c52, c6, ht0, -callV_app]) ⟨d, none, none, none, none, none, hd, rfl⟩
  rw [hrl] at hd'
  refine ⟨d', ?_, hd'.mono (by omega)⟩
  have q' : forL (asgN 1) bd (rngD 0 6) [.ow true d, .em, .em, .em, .em, .em] = .ok (.nx, [.ow true d', op o1, op o2, op o3, op o4, op o5]) := q
  simp [r6, q']
/-! ### the law -/
def eight : List D := [.str "a", .str "b", .str "c", .str "d", .str "e", .str "f", .str "g", .str "h"]
theorem pt_of (d : D) (h : atOk d = true) : PT2 d := (atOk_ok h).2.pt
theorem ok_law01 {g1 g2 g3 g4 g5 g6 g7 : Ev} (h1 : OkDice g1) (h2 : OkR g2) (h3 : OkR g3) (h4 : OkR g4) (h5 : OkName g5) (h6 : OkIsCols g6) (h7 : OkRow g7) (ns : List Int) (hns : ns.length ≤ 63) : ∃ e', evF 7 1 (B_law g1 g2 g3 g4 g5 g6 g7) [.sh (.scr ns)] = .ok (.sh (.bl true), e') := by
  unfold B_law
  let mx : Int := if (if (ns.length : Int) < 10 then (ns.length : Int) else 10) > 1 then (if (ns.length : Int) < 10 then (ns.length : Int) else 10) else 1
  obtain ⟨m, hm, hm10⟩ : ∃ m : Nat, mx = (m : Nat) ∧ m ≤ 10 := ⟨mx.toNat, by simp only [mx]; split <;> split <;> omega, by simp only [mx]; split <;> split <;> omega⟩
  have rm := rng1_nat m (by omega)
  rw [← hm] at rm
  have hrl : (rngD 0 m).length = m := by simp [rngD]
  generalize hbd : seqS [asS (callV [true, false] g1 [nameC 0, nameC 1]) (asgN 2), ifS (bopT true [notT (truC (callV [true] g2 [nameC 2])), notT (truC (callV [true] g3 [nameC 2])), notT (truC (callV [true] g4 [nameC 2]))]) (seqS [rtS (conC (.bl false))]) (seqS [])] = bd
  obtain ⟨e', q, o1, s2, hs2, rfl⟩ := forL_rule (g := asgN 1) (b := bd) (ds := rngD 0 m) (fun done e => ∃ (o1 : Option D) (s2 : Slot), s2.io = false ∧ e = [.sh (.scr ns), op o1, s2, .em, .em, .em, .em]) (by
    rintro done x rest e hx ⟨o1, s2, hs2, rfl⟩
    obtain ⟨rfl, hlt⟩ := rngD_at hx
    generalize hk : done.length = k at *
    obtain ⟨d0, q1, hd0⟩ := h1 ns k (by omega)
    obtain ⟨d1, q2, hd1⟩ := h2 0 d0 hd0 (by decide)
    obtain ⟨d2, q3, hd2⟩ := h3 _ d1 hd1 (by decide)
    obtain ⟨d3, q4, hd3⟩ := h4 _ d2 hd2 (by decide)
    refine ⟨[.sh (.scr ns), .sh (.int (k : Nat)), s2, .em, .em, .em, .em], .nx, [.sh (.scr ns), .sh (.int (k : Nat)), .ow false d3, .em, .em, .em, .em], by simp, ?_, .inl rfl, some (.int (k : Nat)), .ow false d3, rfl, rfl⟩
    rw [← hbd]
    simp [q1, q2, q3, q4, hs2]) ⟨none, .em, rfl, rfl⟩
  have q' : forL (asgN 1) bd (rngD 0 m) [.sh (.scr ns), .em, .em, .em, .em, .em, .em] = .ok (.nx, [.sh (.scr ns), op o1, s2, .em, .em, .em, .em]) := q
  have ml : minB [.int 10, .int ns.length] = some (.sh (.int (if (ns.length : Int) < 10 then (ns.length : Int) else 10))) := rfl
  have mxx : maxB [.int 1, .int (if (ns.length : Int) < 10 then (ns.length : Int) else 10)] = some (.sh (.int mx)) := rfl
  -- the alphabet
  generalize hsg : (D.str "abcdefghijklmnopqrstuvwxyz") = sg
  have lc : ∀ e1 e2 e5 e6, lcC [4] (iterC (nameC 3)) (asgN 4) (notT (truC (callV [false] g5 [nameC 4]))) (nameC 4) [.sh (.scr ns), e1, e2, .sh sg, .em, e5, e6] = .ok (.fr (.lst []), [.sh (.scr ns), e1, e2, .sh sg, .em, e5, e6]) := by
    intro e1 e2 e5 e6
    have := lc_ty (List.range' 97 26) (fun c => .str ⟨#[c]⟩) (fun _ => false) (fun c => .str ⟨#[c]⟩) (own := [4]) (it := iterC (nameC 3)) (g := asgN 4) (t := notT (truC (callV [false] g5 [nameC 4]))) (f := nameC 4) (e := [.sh (.scr ns), e1, e2, .sh sg, .em, e5, e6]) (e0 := [.sh (.scr ns), e1, e2, .sh sg, .em, e5, e6]) (w := [.sh (.scr ns), e1, e2, .sh sg, .em, e5, e6])
      (by
        have it : itemsD sg = some ((List.range' 97 26).map fun c => .str ⟨#[c]⟩) := by rw [← hsg]; kernel_rfl
        simp [it]) (by simp) (by decide) (by simp) (fun c hc => by
        have hp : PT1 (.str ⟨#[c]⟩) := ⟨⟨_, rfl⟩, fun s e => by cases e; exact (show (1 : Nat) ≤ lenLim by decide)⟩
        have hn : nameD (.str ⟨#[c]⟩) = true := by
          have hm := List.mem_range'.mp hc
          refine nameS_of ⟨Nat.le_refl 1, (show (1 : Nat) ≤ 8 by decide), fun z hz => ?_⟩
          have : z = c := by simpa using hz
          omega
        have z := h5 _ hp
        rw [hn] at z
        refine ⟨[.sh (.scr ns), e1, e2, .sh sg, .sh (.str ⟨#[c]⟩), e5, e6], by simp, by simp [z], by simp, fun h => by cases h⟩)
    rw [this]
    simp
  have nn := ne_nil []
  have s9 : slD sg none (some 9) = some (.sh (.str "abcdefghi")) := by rw [← hsg]; kernel_rfl
  have s18 : slD sg (some 18) none = some (.sh (.str "stuvwxyz")) := by rw [← hsg]; kernel_rfl
  have n9 := h5 (.str "abcdefghi") ⟨⟨_, rfl⟩, fun s e => by cases e; decide +kernel⟩
  have n18 := h5 (.str "stuvwxyz") ⟨⟨_, rfl⟩, fun s e => by cases e; decide +kernel⟩
  have v9 : nameD (.str "abcdefghi") = false := by decide +kernel
  have v18 : nameD (.str "stuvwxyz") = true := by decide +kernel
  rw [v9] at n9
  rw [v18] at n18
  -- columns and rows
  have k1 := h6 (.tup eight) 8 (pt_of _ (by decide +kernel)) (by decide) (by decide)
  have k2 := h6 (.tup (eight ++ [.str "i"])) 0 (pt_of _ (by decide +kernel)) (by decide) (by decide)
  have k3 := h6 (.tup []) 0 (pt_of _ (by decide +kernel)) (by decide) (by decide)
  have k4 := h6 (.tup []) 1 (pt_of _ (by decide +kernel)) (by decide) (by decide)
  have k5 := h6 (.tup [.str "a", .str "aa", .str "ab", .str "b"]) 0 (pt_of _ (by decide +kernel)) (by decide) (by decide)
  have w1 : (colsD (.tup eight) && lenGe (.tup eight) 8) = true := by decide +kernel
  have w2 : (colsD (.tup (eight ++ [.str "i"])) && lenGe (.tup (eight ++ [.str "i"])) 0) = false := by decide +kernel
  have w3 : (colsD (.tup []) && lenGe (.tup []) 0) = true := by decide +kernel
  have w4 : (colsD (.tup []) && lenGe (.tup []) 1) = false := by decide +kernel
  have w5 : (colsD (.tup [.str "a", .str "aa", .str "ab", .str "b"]) && lenGe (.tup [.str "a", .str "aa", .str "ab", .str "b"]) 0) = true := by decide +kernel
  rw [w1] at k1; rw [w2] at k2; rw [w3] at k3; rw [w4] at k4; rw [w5] at k5
  have j1 := h7 [] (.tup []) (pt_of _ (by decide +kernel)) (by decide +kernel) (pt_of _ (by decide +kernel))
  have j2 := h7 [] (.tup [.int 1]) (pt_of _ (by decide +kernel)) (by decide +kernel) (pt_of _ (by decide +kernel))
  have j3 := h7 ["a", "b", "c", "d", "e", "f", "g", "h"] (.tup [.int 0, .int 0, .int 0, .int 0, .int 0, .int 0, .int 0, .int 0]) (pt_of _ (by decide +kernel)) (by decide +kernel) (pt_of _ (by decide +kernel))
  have j1' : g7 [.sh (.tup []), .sh (.tup [])] = .ok (.sh (.bl true), [.em, .em]) := j1
  have j2' : g7 [.sh (.tup []), .sh (.tup [.int 1])] = .ok (.sh (.bl false), [.em, .em]) := j2
  have j3' : g7 [.sh (.tup eight), .sh (.tup [.int 0, .int 0, .int 0, .int 0, .int 0, .int 0, .int 0, .int 0])] = .ok (.sh (.bl true), [.em, .em]) := j3
  have a1 : addD (.tup eight) (.tup [.str "i"]) = some (.sh (.tup (eight ++ [.str "i"]))) := by kernel_rfl
  have a2 : mulD (.tup [.int 0]) (.int 8) = some (.sh (.tup [.int 0, .int 0, .int 0, .int 0, .int 0, .int 0, .int 0, .int 0])) := by kernel_rfl
  have t8 : ∀ e : En, tupC [conC (.str "a"), conC (.str "b"), conC (.str "c"), conC (.str "d"), conC (.str "e"), conC (.str "f"), conC (.str "g"), conC (.str "h")] e = .ok (.sh (.tup eight), e) := fun e => by kernel_rfl
  have t4 : ∀ e : En, tupC [conC (.str "a"), conC (.str "aa"), conC (.str "ab"), conC (.str "b")] e = .ok (.sh (.tup [.str "a", .str "aa", .str "ab", .str "b"]), e) := fun e => by kernel_rfl
  have t1 : ∀ e : En, tupC [conC (.str "i")] e = .ok (.sh (.tup [.str "i"]), e) := fun e => by kernel_rfl
  have dk : dOk (.int 0) = true := rfl
  have fin : eqD (.lst [.bl true, .bl false, .bl true, .bl false, .bl true, .bl false, .bl true, .bl true]) (.lst [.bl true, .bl false, .bl true, .bl false, .bl true, .bl false, .bl true, .bl true]) = some (.sh (.bl true)) := by kernel_rfl
  have add4 : addD (.lst [.bl true, .bl false, .bl true, .bl false]) (.lst [.bl true, .bl false, .bl true, .bl true]) = some (.fr (.lst [.bl true, .bl false, .bl true, .bl false, .bl true, .bl false, .bl true, .bl true])) := by kernel_rfl
  generalize hei : eight = ei at *
  generalize (D.tup [.str "a", .str "aa", .str "ab", .str "b"]) = t4v at *
  generalize tupC [conC (.str "a"), conC (.str "b"), conC (.str "c"), conC (.str "d"), conC (.str "e"), conC (.str "f"), conC (.str "g"), conC (.str "h")] = f8 at *
  generalize tupC [conC (.str "a"), conC (.str "aa"), conC (.str "ab"), conC (.str "b")] = f4 at *
  generalize tupC [conC (.str "i")] = f1 at *
  refine ⟨[.em], ?_⟩
  simp [ml, mxx, rm, q', hs2, lc, nn, s9, s18, n9, n18, t8, t4, t1, k1, k2, k3, k4, k5, j1', j2', j3', a1, a2, dk, add4, fin, -max_int, -min_int]
end Qv
/-! ### the law's functions (by gen.py) -/
namespace Kmostkept_k01_names_columns_and_rows
open PySem L2 Qv
def top (i : Nat) : Stmt := PySem.Challenge.pw_mostkept_k01_names_columns_and_rows.main.body.getD i (.Pass ⟨0, 0, 0, 0⟩)
def d_is_integer : DefI := ⟨["value"], ["value"], defScope (top 8), defBody (top 8), [true], defArgs (top 8), [], []⟩
def d_is_index : DefI := ⟨["total", "value"], ["total", "value"], defScope (top 9), defBody (top 9), [true, true], defArgs (top 9), [], []⟩
def d_is_name : DefI := ⟨["value", "sign"], ["value"], defScope (top 10), defBody (top 10), [false], defArgs (top 10), [], []⟩
def d_are_columns : DefI := ⟨["value", "name", "one", "other"], ["value"], defScope (top 11), defBody (top 11), [false], defArgs (top 11), [], []⟩
def d_is_columns : DefI := ⟨["value", "least"], ["value", "least"], defScope (top 12), defBody (top 12), [false, false], defArgs (top 12), [("least", .int 0)], [⟨1, [], [("least", .int 0)], [.ps 0, .df 0 (.int 0)]⟩, ⟨1, ["least"], [], [.ps 0, .kw 0]⟩]⟩
def d_require_columns : DefI := ⟨["columns"], ["columns"], defScope (top 13), defBody (top 13), [false], defArgs (top 13), [], []⟩
def d_is_row_in : DefI := ⟨["size", "value", "one"], ["size", "value"], defScope (top 14), defBody (top 14), [true, false], defArgs (top 14), [], []⟩
def d_is_row : DefI := ⟨["columns", "value"], ["columns", "value"], defScope (top 15), defBody (top 15), [false, false], defArgs (top 15), [], []⟩
def d__law_dice : DefI := ⟨["_law_script", "_law_at", "_law_cell", "_law_great", "_law_mixed"], ["_law_script", "_law_at"], defScope (top 17), defBody (top 17), [true, false], defArgs (top 17), [], []⟩
def d__law_pull : DefI := ⟨["_law_dice_here", "_law_total", "_law_found", "_law_one", "_law_two"], ["_law_dice_here", "_law_total"], defScope (top 18), defBody (top 18), [true, true], defArgs (top 18), [], []⟩
def d__law_pick : DefI := ⟨["_law_dice_here", "_law_items"], ["_law_dice_here", "_law_items"], defScope (top 19), defBody (top 19), [true, true], defArgs (top 19), [], []⟩
def d__law_columns : DefI := ⟨["_law_dice_here", "_law_total", "_law_signs", "_law_found", "_law_at", "_law_word", "_law_turn"], ["_law_dice_here", "_law_total"], defScope (top 20), defBody (top 20), [true, false], defArgs (top 20), [], []⟩
def d__law_good_name : DefI := ⟨["_law_value", "_law_sign"], ["_law_value"], defScope (top 21), defBody (top 21), [false], defArgs (top 21), [], []⟩
def d__law_good_columns : DefI := ⟨["_law_value", "_law_bottom", "_law_one"], ["_law_value", "_law_bottom"], defScope (top 22), defBody (top 22), [false, true], defArgs (top 22), [], []⟩
def d__law_odd_value : DefI := ⟨["_law_dice_here"], ["_law_dice_here"], defScope (top 23), defBody (top 23), [true], defArgs (top 23), [], []⟩
def d__law_string : DefI := ⟨["_law_dice_here", "_law_found", "_law_way"], ["_law_dice_here"], defScope (top 24), defBody (top 24), [true], defArgs (top 24), [], []⟩
def d__law_names : DefI := ⟨["_law_dice_here", "_law_found", "_law_way"], ["_law_dice_here"], defScope (top 25), defBody (top 25), [true], defArgs (top 25), [], []⟩
def d__law_values : DefI := ⟨["_law_dice_here", "_law_total", "_law_found", "_law_turn", "_law_way"], ["_law_dice_here", "_law_total"], defScope (top 26), defBody (top 26), [true, false], defArgs (top 26), [], []⟩
def d__law_row_due : DefI := ⟨["_law_total", "_law_value", "_law_one"], ["_law_total", "_law_value"], defScope (top 27), defBody (top 27), [true, false], defArgs (top 27), [], []⟩
def d__law_strings_right : DefI := ⟨["_law_dice_here", "_law_turn", "_law_value"], ["_law_dice_here"], defScope (top 28), defBody (top 28), [true], defArgs (top 28), [], []⟩
def d__law_columns_right : DefI := ⟨["_law_dice_here", "_law_turn", "_law_value", "_law_kept", "_law_told", "_law_bottom"], ["_law_dice_here"], defScope (top 29), defBody (top 29), [true], defArgs (top 29), [], []⟩
def d__law_rows_right : DefI := ⟨["_law_dice_here", "_law_turn", "_law_total", "_law_columns_here", "_law_value", "_law_kept"], ["_law_dice_here"], defScope (top 30), defBody (top 30), [true], defArgs (top 30), [], []⟩
def d_law : DefI := ⟨["_law_script", "_law_at", "_law_dice_here", "_law_alphabet", "_law_sign", "_law_eight", "_law_told"], ["_law_script"], defScope (top 31), defBody (top 31), [true], defArgs (top 31), [], []⟩
def P : Prg := ⟨[("MOST_COLUMNS", .int (8)), ("MOST_SIGNS", .int (8)), ("SIGNS", .str "abcdefghijklmnopqrstuvwxyz")], ["abs", "all", "bool", "int", "isinstance", "len", "list", "max", "min", "range", "repr", "set", "sorted", "str", "tuple", "zip"], [("is_integer", d_is_integer), ("is_index", d_is_index), ("is_name", d_is_name), ("are_columns", d_are_columns), ("is_columns", d_is_columns), ("require_columns", d_require_columns), ("is_row_in", d_is_row_in), ("is_row", d_is_row), ("_law_dice", d__law_dice), ("_law_pull", d__law_pull), ("_law_pick", d__law_pick), ("_law_columns", d__law_columns), ("_law_good_name", d__law_good_name), ("_law_good_columns", d__law_good_columns), ("_law_odd_value", d__law_odd_value), ("_law_string", d__law_string), ("_law_names", d__law_names), ("_law_values", d__law_values), ("_law_row_due", d__law_row_due), ("_law_strings_right", d__law_strings_right), ("_law_columns_right", d__law_columns_right), ("_law_rows_right", d__law_rows_right), ("law", d_law)], 100000⟩
theorem b_is_integer : BindsP "is_integer" d_is_integer := fun _ _ _ _ _ _ us hl => match us, hl with | [_], _ => rfl
theorem s_is_integer : FnScope d_is_integer.N d_is_integer.ps d_is_integer.sc := ⟨rfl, rfl, rfl, by decide +kernel, rfl, by decide +kernel, by decide +kernel⟩
theorem b_is_index : BindsP "is_index" d_is_index := fun _ _ _ _ _ _ us hl => match us, hl with | [_, _], _ => rfl
theorem s_is_index : FnScope d_is_index.N d_is_index.ps d_is_index.sc := ⟨rfl, rfl, rfl, by decide +kernel, rfl, by decide +kernel, by decide +kernel⟩
theorem b_is_name : BindsP "is_name" d_is_name := fun _ _ _ _ _ _ us hl => match us, hl with | [_], _ => rfl
theorem s_is_name : FnScope d_is_name.N d_is_name.ps d_is_name.sc := ⟨rfl, rfl, rfl, by decide +kernel, rfl, by decide +kernel, by decide +kernel⟩
theorem b_are_columns : BindsP "are_columns" d_are_columns := fun _ _ _ _ _ _ us hl => match us, hl with | [_], _ => rfl
theorem s_are_columns : FnScope d_are_columns.N d_are_columns.ps d_are_columns.sc := ⟨rfl, rfl, rfl, by decide +kernel, rfl, by decide +kernel, by decide +kernel⟩
theorem kb_is_columns : ∀ q ∈ d_is_columns.shp, KBp "is_columns" d_is_columns.N d_is_columns.args d_is_columns.body d_is_columns.sc d_is_columns.ps d_is_columns.kwd q ∧ q.srcs.all (srcOk q.ms) = true := by
  intro q hq
  rcases List.mem_cons.mp hq with rfl | hq
  · exact ⟨Or.inr ⟨List.cons_ne_nil _ _, by decide +kernel, fun _ _ _ _ _ _ us ws mv h1 h2 h3 => match us, ws, mv, h1, h2, h3 with | [_], [], [_], _, _, _ => ⟨_, _, _, _, _, _, rfl, rfl, rfl⟩⟩, by decide +kernel⟩
  rcases List.mem_cons.mp hq with rfl | hq
  · exact ⟨Or.inl ⟨rfl, fun _ _ _ _ _ _ us ws h1 h2 => match us, ws, h1, h2 with | [_], [_], _, _ => rfl⟩, by decide +kernel⟩
  · exact absurd hq List.not_mem_nil
theorem s_is_columns : FnScope d_is_columns.N d_is_columns.ps d_is_columns.sc := ⟨rfl, rfl, rfl, by decide +kernel, rfl, by decide +kernel, by decide +kernel⟩
theorem b_require_columns : BindsP "require_columns" d_require_columns := fun _ _ _ _ _ _ us hl => match us, hl with | [_], _ => rfl
theorem s_require_columns : FnScope d_require_columns.N d_require_columns.ps d_require_columns.sc := ⟨rfl, rfl, rfl, by decide +kernel, rfl, by decide +kernel, by decide +kernel⟩
theorem b_is_row_in : BindsP "is_row_in" d_is_row_in := fun _ _ _ _ _ _ us hl => match us, hl with | [_, _], _ => rfl
theorem s_is_row_in : FnScope d_is_row_in.N d_is_row_in.ps d_is_row_in.sc := ⟨rfl, rfl, rfl, by decide +kernel, rfl, by decide +kernel, by decide +kernel⟩
theorem b_is_row : BindsP "is_row" d_is_row := fun _ _ _ _ _ _ us hl => match us, hl with | [_, _], _ => rfl
theorem s_is_row : FnScope d_is_row.N d_is_row.ps d_is_row.sc := ⟨rfl, rfl, rfl, by decide +kernel, rfl, by decide +kernel, by decide +kernel⟩
theorem b__law_dice : BindsP "_law_dice" d__law_dice := fun _ _ _ _ _ _ us hl => match us, hl with | [_, _], _ => rfl
theorem s__law_dice : FnScope d__law_dice.N d__law_dice.ps d__law_dice.sc := ⟨rfl, rfl, rfl, by decide +kernel, rfl, by decide +kernel, by decide +kernel⟩
theorem b__law_pull : BindsP "_law_pull" d__law_pull := fun _ _ _ _ _ _ us hl => match us, hl with | [_, _], _ => rfl
theorem s__law_pull : FnScope d__law_pull.N d__law_pull.ps d__law_pull.sc := ⟨rfl, rfl, rfl, by decide +kernel, rfl, by decide +kernel, by decide +kernel⟩
theorem b__law_pick : BindsP "_law_pick" d__law_pick := fun _ _ _ _ _ _ us hl => match us, hl with | [_, _], _ => rfl
theorem s__law_pick : FnScope d__law_pick.N d__law_pick.ps d__law_pick.sc := ⟨rfl, rfl, rfl, by decide +kernel, rfl, by decide +kernel, by decide +kernel⟩
theorem b__law_columns : BindsP "_law_columns" d__law_columns := fun _ _ _ _ _ _ us hl => match us, hl with | [_, _], _ => rfl
theorem s__law_columns : FnScope d__law_columns.N d__law_columns.ps d__law_columns.sc := ⟨rfl, rfl, rfl, by decide +kernel, rfl, by decide +kernel, by decide +kernel⟩
theorem b__law_good_name : BindsP "_law_good_name" d__law_good_name := fun _ _ _ _ _ _ us hl => match us, hl with | [_], _ => rfl
theorem s__law_good_name : FnScope d__law_good_name.N d__law_good_name.ps d__law_good_name.sc := ⟨rfl, rfl, rfl, by decide +kernel, rfl, by decide +kernel, by decide +kernel⟩
theorem b__law_good_columns : BindsP "_law_good_columns" d__law_good_columns := fun _ _ _ _ _ _ us hl => match us, hl with | [_, _], _ => rfl
theorem s__law_good_columns : FnScope d__law_good_columns.N d__law_good_columns.ps d__law_good_columns.sc := ⟨rfl, rfl, rfl, by decide +kernel, rfl, by decide +kernel, by decide +kernel⟩
theorem b__law_odd_value : BindsP "_law_odd_value" d__law_odd_value := fun _ _ _ _ _ _ us hl => match us, hl with | [_], _ => rfl
theorem s__law_odd_value : FnScope d__law_odd_value.N d__law_odd_value.ps d__law_odd_value.sc := ⟨rfl, rfl, rfl, by decide +kernel, rfl, by decide +kernel, by decide +kernel⟩
theorem b__law_string : BindsP "_law_string" d__law_string := fun _ _ _ _ _ _ us hl => match us, hl with | [_], _ => rfl
theorem s__law_string : FnScope d__law_string.N d__law_string.ps d__law_string.sc := ⟨rfl, rfl, rfl, by decide +kernel, rfl, by decide +kernel, by decide +kernel⟩
theorem b__law_names : BindsP "_law_names" d__law_names := fun _ _ _ _ _ _ us hl => match us, hl with | [_], _ => rfl
theorem s__law_names : FnScope d__law_names.N d__law_names.ps d__law_names.sc := ⟨rfl, rfl, rfl, by decide +kernel, rfl, by decide +kernel, by decide +kernel⟩
theorem b__law_values : BindsP "_law_values" d__law_values := fun _ _ _ _ _ _ us hl => match us, hl with | [_, _], _ => rfl
theorem s__law_values : FnScope d__law_values.N d__law_values.ps d__law_values.sc := ⟨rfl, rfl, rfl, by decide +kernel, rfl, by decide +kernel, by decide +kernel⟩
theorem b__law_row_due : BindsP "_law_row_due" d__law_row_due := fun _ _ _ _ _ _ us hl => match us, hl with | [_, _], _ => rfl
theorem s__law_row_due : FnScope d__law_row_due.N d__law_row_due.ps d__law_row_due.sc := ⟨rfl, rfl, rfl, by decide +kernel, rfl, by decide +kernel, by decide +kernel⟩
theorem b__law_strings_right : BindsP "_law_strings_right" d__law_strings_right := fun _ _ _ _ _ _ us hl => match us, hl with | [_], _ => rfl
theorem s__law_strings_right : FnScope d__law_strings_right.N d__law_strings_right.ps d__law_strings_right.sc := ⟨rfl, rfl, rfl, by decide +kernel, rfl, by decide +kernel, by decide +kernel⟩
theorem b__law_columns_right : BindsP "_law_columns_right" d__law_columns_right := fun _ _ _ _ _ _ us hl => match us, hl with | [_], _ => rfl
theorem s__law_columns_right : FnScope d__law_columns_right.N d__law_columns_right.ps d__law_columns_right.sc := ⟨rfl, rfl, rfl, by decide +kernel, rfl, by decide +kernel, by decide +kernel⟩
theorem b__law_rows_right : BindsP "_law_rows_right" d__law_rows_right := fun _ _ _ _ _ _ us hl => match us, hl with | [_], _ => rfl
theorem s__law_rows_right : FnScope d__law_rows_right.N d__law_rows_right.ps d__law_rows_right.sc := ⟨rfl, rfl, rfl, by decide +kernel, rfl, by decide +kernel, by decide +kernel⟩
theorem b_law : BindsP "law" d_law := fun _ _ _ _ _ _ us hl => match us, hl with | [_], _ => rfl
theorem s_law : FnScope d_law.N d_law.ps d_law.sc := ⟨rfl, rfl, rfl, by decide +kernel, rfl, by decide +kernel, by decide +kernel⟩
theorem defs_ok : DefsOk P.defs := ⟨⟨⟨fun _ => b_is_integer, fun _ h => nomatch h⟩, s_is_integer⟩, ⟨⟨fun _ => b_is_index, fun _ h => nomatch h⟩, s_is_index⟩, ⟨⟨fun _ => b_is_name, fun _ h => nomatch h⟩, s_is_name⟩, ⟨⟨fun _ => b_are_columns, fun _ h => nomatch h⟩, s_are_columns⟩, ⟨⟨fun h => absurd h (List.cons_ne_nil _ _), kb_is_columns⟩, s_is_columns⟩, ⟨⟨fun _ => b_require_columns, fun _ h => nomatch h⟩, s_require_columns⟩, ⟨⟨fun _ => b_is_row_in, fun _ h => nomatch h⟩, s_is_row_in⟩, ⟨⟨fun _ => b_is_row, fun _ h => nomatch h⟩, s_is_row⟩, ⟨⟨fun _ => b__law_dice, fun _ h => nomatch h⟩, s__law_dice⟩, ⟨⟨fun _ => b__law_pull, fun _ h => nomatch h⟩, s__law_pull⟩, ⟨⟨fun _ => b__law_pick, fun _ h => nomatch h⟩, s__law_pick⟩, ⟨⟨fun _ => b__law_columns, fun _ h => nomatch h⟩, s__law_columns⟩, ⟨⟨fun _ => b__law_good_name, fun _ h => nomatch h⟩, s__law_good_name⟩, ⟨⟨fun _ => b__law_good_columns, fun _ h => nomatch h⟩, s__law_good_columns⟩, ⟨⟨fun _ => b__law_odd_value, fun _ h => nomatch h⟩, s__law_odd_value⟩, ⟨⟨fun _ => b__law_string, fun _ h => nomatch h⟩, s__law_string⟩, ⟨⟨fun _ => b__law_names, fun _ h => nomatch h⟩, s__law_names⟩, ⟨⟨fun _ => b__law_values, fun _ h => nomatch h⟩, s__law_values⟩, ⟨⟨fun _ => b__law_row_due, fun _ h => nomatch h⟩, s__law_row_due⟩, ⟨⟨fun _ => b__law_strings_right, fun _ h => nomatch h⟩, s__law_strings_right⟩, ⟨⟨fun _ => b__law_columns_right, fun _ h => nomatch h⟩, s__law_columns_right⟩, ⟨⟨fun _ => b__law_rows_right, fun _ h => nomatch h⟩, s__law_rows_right⟩, ⟨⟨fun _ => b_law, fun _ h => nomatch h⟩, s_law⟩, trivial⟩
theorem e_is_integer (n : Nat) : evD P (n + 1) d_is_integer = evF 1 1 (Qv.B_is_integer) := by kernel_rfl
theorem e_is_index (n : Nat) : evD P (n + 1) d_is_index = evF 2 2 (Qv.B_is_index (evD P n d_is_integer)) := by kernel_rfl
theorem e_is_name (n : Nat) : evD P (n + 1) d_is_name = evF 2 1 (Qv.B_is_name) := by kernel_rfl
theorem e_are_columns (n : Nat) : evD P (n + 1) d_are_columns = evF 4 1 (Qv.B_are_columns (evD P n d_is_name)) := by kernel_rfl
theorem e_is_columns (n : Nat) : evD P (n + 1) d_is_columns = evF 2 2 (Qv.B_is_columns (evD P n d_is_index) (evD P n d_are_columns)) := by kernel_rfl
theorem e_require_columns (n : Nat) : evD P (n + 1) d_require_columns = evF 1 1 (Qv.B_require_columns (evD P n d_are_columns)) := by kernel_rfl
theorem e_is_row_in (n : Nat) : evD P (n + 1) d_is_row_in = evF 3 2 (Qv.B_is_row_in (evD P n d_is_integer)) := by kernel_rfl
theorem e_is_row (n : Nat) : evD P (n + 1) d_is_row = evF 2 2 (Qv.B_is_row (evD P n d_require_columns) (evD P n d_is_row_in)) := by kernel_rfl
theorem e__law_dice (n : Nat) : evD P (n + 1) d__law_dice = evF 5 2 (Qv.B__law_dice) := by kernel_rfl
theorem e__law_pull (n : Nat) : evD P (n + 1) d__law_pull = evF 5 2 (Qv.B__law_pull) := by kernel_rfl
theorem e__law_pick (n : Nat) : evD P (n + 1) d__law_pick = evF 2 2 (Qv.B__law_pick (evD P n d__law_pull)) := by kernel_rfl
theorem e__law_columns (n : Nat) : evD P (n + 1) d__law_columns = evF 7 2 (Qv.B__law_columns (evD P n d__law_pull)) := by kernel_rfl
theorem e__law_good_name (n : Nat) : evD P (n + 1) d__law_good_name = evF 2 1 (Qv.B__law_good_name) := by kernel_rfl
theorem e__law_good_columns (n : Nat) : evD P (n + 1) d__law_good_columns = evF 3 2 (Qv.B__law_good_columns (evD P n d__law_good_name)) := by kernel_rfl
theorem e__law_odd_value (n : Nat) : evD P (n + 1) d__law_odd_value = evF 1 1 (Qv.B__law_odd_value (evD P n d__law_pick)) := by kernel_rfl
theorem e__law_string (n : Nat) : evD P (n + 1) d__law_string = evF 3 1 (Qv.B__law_string (evD P n d__law_columns) (evD P n d__law_pull) (evD P n d__law_pick)) := by kernel_rfl
theorem e__law_names (n : Nat) : evD P (n + 1) d__law_names = evF 3 1 (Qv.B__law_names (evD P n d__law_columns) (evD P n d__law_pull) (evD P n d__law_pick) (evD P n d__law_odd_value)) := by kernel_rfl
theorem e__law_values (n : Nat) : evD P (n + 1) d__law_values = evF 5 2 (Qv.B__law_values (evD P n d__law_pick) (evD P n d__law_pull)) := by kernel_rfl
theorem e__law_row_due (n : Nat) : evD P (n + 1) d__law_row_due = evF 3 2 (Qv.B__law_row_due) := by kernel_rfl
theorem e__law_strings_right (n : Nat) : evD P (n + 1) d__law_strings_right = evF 3 1 (Qv.B__law_strings_right (evD P n d__law_pull) (evD P n d__law_string) (evD P n d__law_odd_value) (evD P n d_is_name) (evD P n d__law_good_name)) := by kernel_rfl
theorem e__law_columns_right (n : Nat) : evD P (n + 1) d__law_columns_right = evF 6 1 (Qv.B__law_columns_right (evD P n d__law_pull) (evD P n d__law_names) (evD P n d__law_odd_value) (evD P n d_is_columns) (evD P n d__law_good_columns)) := by kernel_rfl
theorem e__law_rows_right (n : Nat) : evD P (n + 1) d__law_rows_right = evF 6 1 (Qv.B__law_rows_right (evD P n d__law_pull) (evD P n d__law_columns) (evD P n d__law_values) (evD P n d__law_odd_value) (evD P n d_is_row) (evD P n d__law_row_due)) := by kernel_rfl
theorem e_law (n : Nat) : evD P (n + 1) d_law = evF 7 1 (Qv.B_law (evD P n d__law_dice) (evD P n d__law_strings_right) (evD P n d__law_columns_right) (evD P n d__law_rows_right) (evD P n d_is_name) (evD P n d_is_columns) (evD P n d_is_row)) := by kernel_rfl
end Kmostkept_k01_names_columns_and_rows
namespace Kmostkept_k01_names_columns_and_rows
open PySem L2 Qv
theorem oInt (n : Nat) : OkInt (evD P (n + 1) d_is_integer) := by rw [e_is_integer]; exact ok_int_
theorem oIdx (n : Nat) : OkIdx (evD P (n + 2) d_is_index) := by rw [e_is_index]; exact ok_idx (oInt n)
theorem oName (n : Nat) : OkName (evD P (n + 1) d_is_name) := by rw [e_is_name]; exact ok_name
theorem oAre (n : Nat) : OkAre (evD P (n + 2) d_are_columns) := by rw [e_are_columns]; exact ok_are (oName n)
theorem oIsCols (n : Nat) : OkIsCols (evD P (n + 3) d_is_columns) := by rw [e_is_columns]; exact ok_iscols (oIdx n) (oAre n)
theorem oReq (n : Nat) : OkReq (evD P (n + 3) d_require_columns) := by rw [e_require_columns]; exact ok_req (oAre n)
theorem oRowIn (n : Nat) : OkRowIn (evD P (n + 2) d_is_row_in) := by rw [e_is_row_in]; exact ok_rowin (oInt n)
theorem oRow (n : Nat) : OkRow (evD P (n + 4) d_is_row) := by rw [e_is_row]; exact ok_row (oReq n) (oRowIn (n + 1))
theorem oDice (n : Nat) : OkDice (evD P (n + 1) d__law_dice) := by rw [e__law_dice]; exact ok_dice
theorem oPull (n : Nat) : OkPull (evD P (n + 1) d__law_pull) := by rw [e__law_pull]; exact ok_pull
theorem oPick (n : Nat) : OkPick (evD P (n + 2) d__law_pick) := by rw [e__law_pick]; exact ok_pick (oPull n)
theorem oMk (n : Nat) : OkMk (evD P (n + 2) d__law_columns) := by rw [e__law_columns]; exact ok_mk (oPull n)
theorem oGName (n : Nat) : OkName (evD P (n + 1) d__law_good_name) := by rw [e__law_good_name]; exact ok_gname
theorem oGood (n : Nat) : OkGood (evD P (n + 2) d__law_good_columns) := by rw [e__law_good_columns]; exact ok_good (oGName n)
theorem oOdd (n : Nat) : OkOdd (evD P (n + 3) d__law_odd_value) := by rw [e__law_odd_value]; exact ok_odd (oPick n)
theorem oStr (n : Nat) : OkStr (evD P (n + 3) d__law_string) := by rw [e__law_string]; exact ok_string (oMk n) (oPull (n + 1)) (oPick n)
theorem oNames (n : Nat) : OkNames (evD P (n + 4) d__law_names) := by rw [e__law_names]; exact ok_names (oMk (n + 1)) (oPull (n + 2)) (oPick (n + 1)) (oOdd n)
theorem oVals (n : Nat) : OkVals (evD P (n + 3) d__law_values) := by rw [e__law_values]; exact ok_vals (oPick n) (oPull (n + 1))
theorem oDue (n : Nat) : OkDue (evD P (n + 1) d__law_row_due) := by rw [e__law_row_due]; exact ok_due
theorem oStrings (n : Nat) : OkR (evD P (n + 4) d__law_strings_right) := by rw [e__law_strings_right]; exact ok_strings (oPull (n + 2)) (oStr n) (oOdd n) (oName (n + 2)) (oGName (n + 2))
theorem oColumns (n : Nat) : OkR (evD P (n + 5) d__law_columns_right) := by rw [e__law_columns_right]; exact ok_columns (oPull (n + 3)) (oNames n) (oOdd (n + 1)) (oIsCols (n + 1)) (oGood (n + 2))
theorem oRows (n : Nat) : OkR (evD P (n + 5) d__law_rows_right) := by rw [e__law_rows_right]; exact ok_rows (oPull (n + 3)) (oMk (n + 2)) (oVals (n + 1)) (oOdd (n + 1)) (oRow n) (oDue (n + 3))
theorem hev (ns : List Int) (h : ns.length ≤ 63) : ∃ e', evD P 12 d_law [.sh (.scr ns)] = .ok (.sh (.bl true), e') := by
  rw [e_law]
  exact ok_law01 (oDice 10) (oStrings 7) (oColumns 6) (oRows 6) (oName 10) (oIsCols 8) (oRow 7) ns h
abbrev R : PySem.W.OpenRow := PySem.W.OpenLaw.row PySem.Challenge.rw_mostkept_k01_names_columns_and_rows
abbrev hk : PySem.W.Hook := He.hookD 4 (faP P) (fnP P)
def ob (s : PySem.W.SharedT) : He.AlD := He.obsDG 4 (faP P) (fnP P) (HandSHeadRun.getT s)
theorem ob_eq (s : PySem.W.SharedT) : ob s = hk.obs s.abs := He.obsDG_eq (HandSHeadRun.getT_eq s)
def loose : List Str := ["TableError", "InvalidColumns", "InvalidNumber", "SIGNS", "MOST_SIGNS", "MOST_COLUMNS", "is_integer", "is_index", "is_name", "are_columns", "is_columns", "require_columns", "is_row_in", "is_row", "_law_dice", "_law_pull", "_law_pick", "_law_columns", "_law_good_name", "_law_good_columns", "_law_odd_value", "_law_string", "_law_names", "_law_values", "_law_row_due", "_law_strings_right", "_law_columns_right", "_law_rows_right"]
theorem run (w : World) : HandSHeadRun.RunEq R (PySem.W.view R.prog [31]) hk ob 4000 loose w := by
  intro os
  kernel_rfl
end Kmostkept_k01_names_columns_and_rows
open PySem PySem.W PySem.Calls PyProof.Rows
theorem PySem.Challenge.cw_mostkept_k01_names_columns_and_rows_holds : PySem.Challenge.rw_mostkept_k01_names_columns_and_rows.Holds := by
  w_on; o_law
  refine HandSHeadRun.head_any (r := OpenLaw.row PySem.Challenge.rw_mostkept_k01_names_columns_and_rows) (q := view (OpenLaw.row PySem.Challenge.rw_mostkept_k01_names_columns_and_rows).prog [31]) (H := Kmostkept_k01_names_columns_and_rows.hk) (ob := Kmostkept_k01_names_columns_and_rows.ob) (M := 4000) (loose := Kmostkept_k01_names_columns_and_rows.loose) (d := HandSHeadRun.topDef (OpenLaw.row PySem.Challenge.rw_mostkept_k01_names_columns_and_rows).prog 31) (kwd := []) Kmostkept_k01_names_columns_and_rows.ob_eq
    (by kernel_rfl) (fun s => by kernel_rfl) Kmostkept_k01_names_columns_and_rows.run (by kernel_rfl) (by kernel_rfl) (by kernel_rfl) (by rfl) (by first | assumption | decide +kernel) (by decide +kernel) ⟨rfl, rfl, rfl, rfl, rfl, by decide +kernel⟩ ?hw ?hc
  case hw => w_witness2
  case hc =>
    refine Qv.walk_ofG (l := PySem.Challenge.rw_mostkept_k01_names_columns_and_rows) (n := 63) (k := 13) (x := "_law_script") (ev := Qv.evD Kmostkept_k01_names_columns_and_rows.P 12 Kmostkept_k01_names_columns_and_rows.d_law) rfl (by decide) (by kernel_rfl) ⟨rfl, by decide, by decide⟩ ?F Kmostkept_k01_names_columns_and_rows.hev
    intro w mg fa h Y G hmg0
    obtain ⟨K, KX, c⟩ := Y
    have hmg : mg ("law" : PySem.Str) = some (.ref fa) := by
      have e : (HandSHeadRun.topDef (OpenLaw.row PySem.Challenge.rw_mostkept_k01_names_columns_and_rows).prog 31).name = ("law" : PySem.Str) := by kernel_rfl
      rw [← e]
      exact hmg0
    obtain ⟨fd, hb, hF⟩ := Qv.law_facts (P := Kmostkept_k01_names_columns_and_rows.P) (prog := (PySem.Challenge.rw_mostkept_k01_names_columns_and_rows).prog) (w := w) (p := "_law_script") (d := Kmostkept_k01_names_columns_and_rows.d_law) KX G (by decide +kernel) Kmostkept_k01_names_columns_and_rows.defs_ok (by kernel_rfl) (by kernel_rfl) (by kernel_rfl) hmg c 12
    exact ⟨K, fd, KX, hb, hF⟩
