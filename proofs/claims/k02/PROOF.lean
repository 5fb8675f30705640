import PyProof.Rows.All
import Wide.All
import OpenK.AllK
import Wide.FinOn
import HandS.ForMost
import HandS.Evl
import HandS.Wide
import HandS.TupAny
import HandS.TupMul
import HandS.IsInst
import HandS.Zip
import HandS.Flow
import HandS.RaiseMore
import PyProof.ReprReads
import PyProof.ReprRoads
import KE.GoesNew
import HandS.Words
import HandS.WordsExc
import HandS.Defaults
import HandS.Head0
import HandS.Head1
import HandS.Head2
import HandS.HeadEnd
import HandS.HeadHook1
import HandS.HeadHook2
import PyProof.FitsInt
import PyProof.StrLawsRepr
import PyProof.P3Eq
import PySem.Challenge.RW_mostkept_k02_values_and_agreements
set_option Elab.async false
set_option linter.all false
set_option maxRecDepth 100000
set_option maxHeartbeats 4000000
set_option exponentiation.threshold 20000
namespace Pv
open PySem L2

/-- plain data, as deep as it goes -/
inductive D where
  | non | bl (b : Bool) | int (i : Int) | str (s : Str) | tup (l : List D) | lst (l : List D) | dct (l : List (D × D)) | scr (l : List Int) | ins (c : Str) (fs : List (Str × D))
deriving Inhabited

mutual
def D.py : D → PyData
  | .non => .none | .bl b => .bool b | .int i => .int i | .str s => .str s
  | .tup l => .tuple (pyL l) | .lst l => .list (pyL l) | .dct l => .dict (pyK l)
  | .scr l => .list (l.map .int) | .ins _ _ => .none
def pyL : List D → List PyData
  | [] => [] | d :: r => D.py d :: pyL r
def pyK : List (D × D) → List (PyData × PyData)
  | [] => [] | (k, v) :: r => (D.py k, D.py v) :: pyK r
end
mutual
/-- no instance in it -/
def D.pl : D → Bool
  | .tup l | .lst l => plL l
  | .dct l => plK l
  | .ins _ _ => false
  | _ => true
def plL : List D → Bool
  | [] => true | d :: r => D.pl d && plL r
def plK : List (D × D) → Bool
  | [] => true | (k, v) :: r => D.pl k && (D.pl v && plK r)
end

/-- what an expression hands back: a shared thing, a new list of nobody's, the thing owned at a slot -/
inductive Val where
  | sh (d : D) | fr (d : D) | ow (i : Nat)
/-- a slot: empty, a shared thing, a list owned here (io: the caller's, passed by reference) -/
inductive Slot where
  | em | sh (d : D) | ow (io : Bool) (d : D)
inductive Out (α : Type) where
  | ok (a : α) | err
abbrev En := List Slot
abbrev M (α : Type) := En → Out (α × En)
def ret {α : Type} (a : α) : M α := fun e => .ok (a, e)
def fail {α : Type} : M α := fun _ => .err
def bnd {α β : Type} (m : M α) (f : α → M β) : M β := fun e => match m e with
  | .ok (a, e') => f a e'
  | .err => .err
/-- a pending operand is shared -/
def opd : Val → Val
  | .fr d => .sh d
  | v => v
def derE (e : En) : Val → Option D
  | .sh d => some d
  | .fr d => some d
  | .ow i => match e[i]? with
    | some (.ow _ d) => some d
    | _ => none
def der (v : Val) : M D := fun e => match derE e v with
  | some d => .ok (d, e)
  | none => .err
def opt {α : Type} : Option α → M α
  | some a => ret a
  | none => fail
/-- shared from here on -/
def shr : Val → M D
  | .sh d => ret d
  | .fr d => ret d
  | .ow i => fun e => match e[i]? with
    | some (.ow false d) => .ok (d, e.set i (.sh d))
    | _ => .err

/-! ### operations on data -/
def lenLim : Nat := 16777216
def addD : D → D → Option Val
  | .int i, .int j => some (.sh (.int (i + j)))
  | .str a, .str b => if a.length + b.length ≤ lenLim then some (.sh (.str (a ++ b))) else none
  | .lst a, .lst b => if a.length + b.length ≤ lenLim then some (.fr (.lst (a ++ b))) else none
  | .tup a, .tup b => if a.length + b.length ≤ lenLim then some (.sh (.tup (a ++ b))) else none
  | _, _ => none
def subD : D → D → Option Val
  | .int i, .int j => some (.sh (.int (i - j)))
  | _, _ => none
def mulD : D → D → Option Val
  | .int i, .int j => if i.natAbs.log2 + j.natAbs.log2 < 1000000 then some (.sh (.int (i * j))) else none
  | .lst a, .int k => if a.length * k.toNat ≤ lenLim ∧ -(2 ^ 63) ≤ k ∧ k < 2 ^ 63 then some (.fr (.lst (List.replicate k.toNat a).flatten)) else none
  | _, _ => none
def fdivD : D → D → Option Val
  | .int i, .int j => if 0 < j ∧ j.natAbs.log2 < 9000 then some (.sh (.int (i / j))) else none
  | _, _ => none
def modD : D → D → Option Val
  | .int i, .int j => if 0 < j then some (.sh (.int (i % j))) else none
  | _, _ => none
def powD : D → D → Option Val
  | .int i, .int j => if 0 ≤ j ∧ (Builtin.Int.intBits i : Int) * j ≤ 2 ^ 27 then some (.sh (.int (i ^ j.toNat))) else none
  | _, _ => none
def binOf : Operator → D → D → Option Val
  | .Add => addD | .Sub => subD | .Mult => mulD | .FloorDiv => fdivD | .Mod => modD | .Pow => powD
  | _ => fun _ _ => none

def eqOk (d : D) : Bool := d.pl && SeqAt.shaped d.py
def eqD : D → D → Option Val
  | .str a, .str b => some (.sh (.bl (decide (a = b))))
  | a, b => if eqOk a && eqOk b then some (.sh (.bl (PyData.eqv a.py b.py))) else none
def neD : D → D → Option Val
  | .str a, .str b => some (.sh (.bl (!decide (a = b))))
  | a, b => if eqOk a && eqOk b then some (.sh (.bl (!PyData.eqv a.py b.py))) else none
def ltD : D → D → Option Val
  | .int i, .int j => some (.sh (.bl (decide (i < j))))
  | .str a, .str b => some (.sh (.bl (decide (a.cps.toList < b.cps.toList))))
  | _, _ => none
def leD : D → D → Option Val
  | .int i, .int j => some (.sh (.bl (decide (i ≤ j))))
  | .str a, .str b => some (.sh (.bl (!decide (b.cps.toList < a.cps.toList))))
  | _, _ => none
def gtD : D → D → Option Val
  | .int i, .int j => some (.sh (.bl (decide (j < i))))
  | .str a, .str b => some (.sh (.bl (decide (b.cps.toList < a.cps.toList))))
  | _, _ => none
def geD : D → D → Option Val
  | .int i, .int j => some (.sh (.bl (decide (j ≤ i))))
  | .str a, .str b => some (.sh (.bl (!decide (a.cps.toList < b.cps.toList))))
  | _, _ => none
def flatD : D → Option V
  | .non => some .non | .bl b => some (.bl b) | .int i => some (.int i) | .str s => some (.str s)
  | _ => none
def flatL : List D → Option (List V)
  | [] => some []
  | d :: r => match flatD d, flatL r with
    | some v, some vs => some (v :: vs)
    | _, _ => none
def inD (neg : Bool) : D → D → Option Val
  | .str a, .str z => match a.cps.toList with
    | [c] => some (.sh (.bl (if neg then !decide (c ∈ z.cps.toList) else decide (c ∈ z.cps.toList))))
    | _ => none
  | x, .tup l => match flatD x, flatL l with
    | some v, some vs => some (.sh (.bl (if neg then !inV v vs else inV v vs)))
    | _, _ => none
  | x, .lst l => match flatD x, flatL l with
    | some v, some vs => some (.sh (.bl (if neg then !inV v vs else inV v vs)))
    | _, _ => none
  | _, _ => none
def isND (neg : Bool) (x : D) : D → Option Val
  | .non => some (.sh (.bl (match x with | .non => !neg | _ => neg)))
  | _ => none
def cmpOf : CmpOp → D → D → Option Val
  | .Eq => eqD | .NotEq => neD | .Lt => ltD | .LtE => leD | .Gt => gtD | .GtE => geD
  | .In => inD false | .NotIn => inD true | .Is => isND false | .IsNot => isND true
def truD : D → Option Bool
  | .non => some false | .bl b => some b | .int i => some (i != 0)
  | .str s => if s.length ≤ lenLim then some ((s.length : Int) != 0) else none
  | .tup l => some (!l.isEmpty) | .lst l => some (!l.isEmpty)
  | _ => none
def ixD : D → D → Option D
  | .lst l, .int i => atI l i
  | .tup l, .int i => atI l i
  | .scr l, .int i => (atI l i).map .int
  | .str z, .int i => if z.length ≤ lenLim then (atI z.cps.toList i).map fun c => .str ⟨#[c]⟩ else none
  | _, _ => none
def cutD (l : List D) (lo hi : Option Int) : List D := (l.drop (HT.sIx l.length 0 lo)).take (HT.sIx l.length l.length hi - HT.sIx l.length 0 lo)
def slD : D → Option Int → Option Int → Option Val
  | .lst l, lo, hi => some (.fr (.lst (cutD l lo hi)))
  | .tup l, lo, hi => some (.sh (.tup (cutD l lo hi)))
  | .str z, lo, hi => if z.length ≤ lenLim then some (.sh (.str (cutS z lo hi))) else none
  | _, _, _ => none
end Pv
namespace Pv
open PySem L2
open Evl (Ex)

/-! ### how data lies in the abstract heap -/
mutual
inductive Rep (K : PySem.W.Frag) (H : Hp) : V → D → Prop
  | non : Rep K H .non .non
  | bl (b : Bool) : Rep K H (.bl b) (.bl b)
  | int (i : Int) : Rep K H (.int i) (.int i)
  | str (x : Str) : Rep K H (.str x) (.str x)
  | lst {a : Addr} {xs : List V} {ds : List D} : H a = some (.lst xs) → RepL K H xs ds → Rep K H (.ref a) (.lst ds)
  | tup {a : Addr} {xs : List V} {ds : List D} : SqT K H a xs → RepL K H xs ds → Rep K H (.ref a) (.tup ds)
  | dct {a : Addr} {kvs : List (Key × V)} {es : List (D × D)} : H a = some (.dK kvs) → RepK K H kvs es → Rep K H (.ref a) (.dct es)
  | scr {a : Addr} {ns : List Int} : SqL K H a (ns.map V.int) → Rep K H (.ref a) (.scr ns)
inductive RepL (K : PySem.W.Frag) (H : Hp) : List V → List D → Prop
  | nil : RepL K H [] []
  | cons {v : V} {vs : List V} {d : D} {ds : List D} : Rep K H v d → RepL K H vs ds → RepL K H (v :: vs) (d :: ds)
inductive RepK (K : PySem.W.Frag) (H : Hp) : List (Key × V) → List (D × D) → Prop
  | nil : RepK K H [] []
  | cons {k : Key} {v : V} {kvs : List (Key × V)} {kd d : D} {es : List (D × D)} : Rep K H (kV k) kd → Rep K H v d → RepK K H kvs es → RepK K H ((k, v) :: kvs) ((kd, d) :: es)
end
section
variable {K : PySem.W.Frag} {G H H' R : Hp}
theorem ex_lst {a : Addr} {xs : List V} (e : Ex H H') (h : H a = some (.lst xs)) : H' a = some (.lst xs) := e _ _ h
mutual
theorem Rep.mono (e : Ex H H') : ∀ {v : V} {d : D}, Rep K H v d → Rep K H' v d
  | _, _, .non => .non
  | _, _, .bl b => .bl b
  | _, _, .int i => .int i
  | _, _, .str x => .str x
  | _, _, .lst h r => .lst (e _ _ h) (RepL.mono e r)
  | _, _, .tup h r => .tup (Evl.ex_t e h) (RepL.mono e r)
  | _, _, .dct h r => .dct (e _ _ h) (RepK.mono e r)
  | _, _, .scr h => .scr (Evl.ex_l e h)
theorem RepL.mono (e : Ex H H') : ∀ {vs : List V} {ds : List D}, RepL K H vs ds → RepL K H' vs ds
  | _, _, .nil => .nil
  | _, _, .cons h r => .cons (Rep.mono e h) (RepL.mono e r)
theorem RepK.mono (e : Ex H H') : ∀ {kvs : List (Key × V)} {es : List (D × D)}, RepK K H kvs es → RepK K H' kvs es
  | _, _, .nil => .nil
  | _, _, .cons hk h r => .cons (Rep.mono e hk) (Rep.mono e h) (RepK.mono e r)
end
theorem RepL.length : ∀ {vs : List V} {ds : List D}, RepL K H vs ds → vs.length = ds.length
  | _, _, .nil => rfl
  | _, _, .cons _ r => congrArg Nat.succ (RepL.length r)
theorem RepL.get : ∀ {vs : List V} {ds : List D} {i : Nat} {d : D}, RepL K H vs ds → ds[i]? = some d → ∃ v, vs[i]? = some v ∧ Rep K H v d
  | _, _, _, _, .nil, e => by simp at e
  | _, _, 0, _, .cons h _, e => by simp at e; subst e; exact ⟨_, rfl, h⟩
  | _, _, i + 1, _, .cons _ r, e => by
    obtain ⟨v, a, b⟩ := RepL.get (i := i) r (by simpa using e)
    exact ⟨v, by simpa using a, b⟩
theorem RepL.getV : ∀ {vs : List V} {ds : List D} {i : Nat} {v : V}, RepL K H vs ds → vs[i]? = some v → ∃ d, ds[i]? = some d ∧ Rep K H v d
  | _, _, _, _, .nil, e => by simp at e
  | _, _, 0, _, .cons h _, e => by simp at e; subst e; exact ⟨_, rfl, h⟩
  | _, _, i + 1, _, .cons _ r, e => by
    obtain ⟨v, a, b⟩ := RepL.getV (i := i) r (by simpa using e)
    exact ⟨v, by simpa using a, b⟩
theorem RepL.append : ∀ {vs ws : List V} {ds es : List D}, RepL K H vs ds → RepL K H ws es → RepL K H (vs ++ ws) (ds ++ es)
  | _, _, _, _, .nil, s => s
  | _, _, _, _, .cons h r, s => .cons h (RepL.append r s)
theorem RepL.take : ∀ {vs : List V} {ds : List D} (n : Nat), RepL K H vs ds → RepL K H (vs.take n) (ds.take n)
  | _, _, 0, _ => .nil
  | _, _, _ + 1, .nil => .nil
  | _, _, n + 1, .cons h r => .cons h (RepL.take n r)
theorem RepL.drop : ∀ {vs : List V} {ds : List D} (n : Nat), RepL K H vs ds → RepL K H (vs.drop n) (ds.drop n)
  | _, _, 0, r => r
  | _, _, _ + 1, .nil => .nil
  | _, _, n + 1, .cons _ r => RepL.drop n r
theorem RepL.set {v : V} {d : D} (h : Rep K H v d) : ∀ {vs : List V} {ds : List D} (i : Nat), RepL K H vs ds → RepL K H (vs.set i v) (ds.set i d)
  | _, _, _, .nil => .nil
  | _, _, 0, .cons _ r => .cons h r
  | _, _, i + 1, .cons h' r => .cons h' (RepL.set h i r)
theorem RepL.rep {vs : List V} {ds : List D} (h : RepL K H vs ds) : ∀ k : Nat, RepL K H (List.replicate k vs).flatten (List.replicate k ds).flatten
  | 0 => .nil
  | k + 1 => by
    simp only [List.replicate_succ, List.flatten_cons]
    exact h.append (RepL.rep h k)
theorem RepL.rev : ∀ {vs : List V} {ds : List D}, RepL K H vs ds → RepL K H vs.reverse ds.reverse
  | _, _, .nil => .nil
  | _, _, .cons h r => by
    simp only [List.reverse_cons]
    exact (RepL.rev r).append (.cons h .nil)
theorem RepL.ints : ∀ (ns : List Int), RepL K H (ns.map V.int) (ns.map D.int)
  | [] => .nil
  | _ :: r => .cons (.int _) (RepL.ints r)

/-! ### the value read: its own object by H, what lies in it by G -/
def RdV (K : PySem.W.Frag) (G H : Hp) (v : V) : D → Prop
  | .lst ds => ∃ a xs, v = .ref a ∧ H a = some (.lst xs) ∧ RepL K G xs ds
  | .dct es => ∃ a kvs, v = .ref a ∧ H a = some (.dK kvs) ∧ RepK K G kvs es
  | d => Rep K G v d
theorem RdV.of {v : V} {d : D} (e : Ex G H) (h : Rep K G v d) : RdV K G H v d := by
  cases h with
  | lst h r => exact ⟨_, _, rfl, e _ _ h, r⟩
  | dct h r => exact ⟨_, _, rfl, e _ _ h, r⟩
  | non => exact .non
  | bl b => exact .bl b
  | int i => exact .int i
  | str x => exact .str x
  | tup h r => exact .tup h r
  | scr h => exact .scr h
theorem RdV.rep {v : V} {d : D} (e : Ex G H) (h : RdV K G H v d) : Rep K H v d := by
  cases d with
  | lst ds => obtain ⟨a, xs, rfl, h, r⟩ := h; exact .lst h (r.mono e)
  | dct es => obtain ⟨a, xs, rfl, h, r⟩ := h; exact .dct h (r.mono e)
  | non => exact Rep.mono e h
  | bl b => exact Rep.mono e h
  | int i => exact Rep.mono e h
  | str x => exact Rep.mono e h
  | tup l => exact Rep.mono e h
  | scr l => exact Rep.mono e h
  | ins c fs => exact Rep.mono e h
end

/-! ### the state -/
/-- an owned object's content -/
def OwnR (K : PySem.W.Frag) (G H : Hp) (p : Addr) : D → Prop
  | .lst ds => ∃ xs, H p = some (.lst xs) ∧ RepL K G xs ds
  | .dct es => ∃ kvs, H p = some (.dK kvs) ∧ RepK K G kvs es
  | _ => False
def SlR (K : PySem.W.Frag) (G R H : Hp) : Slot → Option (Option V) → Prop
  | .em, _ => True
  | .sh d, o => ∃ v, o = some (some v) ∧ Rep K G v d
  | .ow _ d, o => ∃ p, o = some (some (.ref p)) ∧ G p = none ∧ R p = none ∧ OwnR K G H p d
abbrev Pn := List (Nat × Addr)
structure RelG (K : PySem.W.Frag) (pn : Pn) (e : En) (σ : L2.St) (G R H : Hp) : Prop where
  gh : Ex G H
  rh : Ex R H
  dj : ∀ a, R a ≠ none → G a = none
  len : e.length = σ.length
  sl : ∀ (i : Nat) (s : Slot), e[i]? = some s → SlR K G R H s σ[i]?
  ap : ∀ (i j : Nat) (b : Bool) (d : D) (b' : Bool) (d' : D), i ≠ j → e[i]? = some (.ow b d) → e[j]? = some (.ow b' d') → σ[i]? ≠ σ[j]?
  pin : ∀ q ∈ pn, σ[q.1]? = some (some (.ref q.2)) ∧ ∃ d : D, e[q.1]? = some (.ow true d)
/-- owned at some slot -/
def Owd (e : En) (σ : L2.St) (a : Addr) : Prop := ∃ (i : Nat) (b : Bool) (d : D), e[i]? = some (.ow b d) ∧ σ[i]? = some (some (.ref a))
def RepVal (K : PySem.W.Frag) (G R H : Hp) (e : En) (σ : L2.St) (v : V) : Val → Prop
  | .sh d => Rep K G v d
  | .fr d => ∃ p, v = .ref p ∧ G p = none ∧ R p = none ∧ OwnR K G H p d ∧ ¬ Owd e σ p
  | .ow i => σ[i]? = some (some v) ∧ ∃ (b : Bool) (d : D), e[i]? = some (.ow b d)
section
variable {K : PySem.W.Frag} {pn : Pn} {e : En} {σ : L2.St} {G R H : Hp}
theorem OwnR.some {p : Addr} {d : D} (h : OwnR K G H p d) : ∃ o, H p = some o := by
  cases d with
  | lst ds => obtain ⟨xs, h, _⟩ := h; exact ⟨_, h⟩
  | dct es => obtain ⟨xs, h, _⟩ := h; exact ⟨_, h⟩
  | _ => exact h.elim
theorem OwnR.rdv {p : Addr} {d : D} (h : OwnR K G H p d) : RdV K G H (.ref p) d := by
  cases d with
  | lst ds => obtain ⟨xs, h, r⟩ := h; exact ⟨_, _, rfl, h, r⟩
  | dct es => obtain ⟨xs, h, r⟩ := h; exact ⟨_, _, rfl, h, r⟩
  | _ => exact h.elim
theorem OwnR.monoG {G' : Hp} {p : Addr} {d : D} (x : Ex G G') (h : OwnR K G H p d) : OwnR K G' H p d := by
  cases d with
  | lst ds => obtain ⟨xs, h, r⟩ := h; exact ⟨xs, h, r.mono x⟩
  | dct es => obtain ⟨xs, h, r⟩ := h; exact ⟨xs, h, r.mono x⟩
  | _ => exact h.elim
theorem OwnR.at {H' : Hp} {p : Addr} {d : D} (x : H' p = H p) (h : OwnR K G H p d) : OwnR K G H' p d := by
  cases d with
  | lst ds => obtain ⟨xs, h, r⟩ := h; exact ⟨xs, x.trans h, r⟩
  | dct es => obtain ⟨xs, h, r⟩ := h; exact ⟨xs, x.trans h, r⟩
  | _ => exact h.elim
theorem RelG.own {i : Nat} {b : Bool} {d : D} (g : RelG K pn e σ G R H) (h : e[i]? = some (.ow b d)) : ∃ p, σ[i]? = some (some (.ref p)) ∧ G p = none ∧ R p = none ∧ OwnR K G H p d := g.sl i _ h
theorem RelG.owd {a : Addr} (g : RelG K pn e σ G R H) (h : Owd e σ a) : G a = none ∧ R a = none ∧ ∃ o, H a = some o := by
  obtain ⟨i, b, d, h1, h2⟩ := h
  obtain ⟨p, h3, h4, h5, h6⟩ := g.own h1
  rw [h2] at h3
  cases h3
  exact ⟨h4, h5, h6.some⟩
/-- a value is read -/
theorem RelG.rd {v : V} {val : Val} {d : D} (g : RelG K pn e σ G R H) (r : RepVal K G R H e σ v val) (h : derE e val = some d) : RdV K G H v d := by
  cases val with
  | sh d' => cases h; exact RdV.of g.gh r
  | fr d' =>
    cases h
    obtain ⟨p, rfl, _, _, h, _⟩ := r
    exact h.rdv
  | ow i =>
    obtain ⟨h1, b, d', h2⟩ := r
    unfold derE at h
    simp only [h2] at h
    cases h
    obtain ⟨p, h3, _, _, h4⟩ := g.own h2
    rw [h1] at h3
    cases h3
    exact h4.rdv
theorem RelG.mono_sh {G' : Hp} (x : Ex G G') (gh : Ex G' H) (dj : ∀ a, R a ≠ none → G' a = none) (hn : ∀ a, Owd e σ a → G' a = none) (g : RelG K pn e σ G R H) : RelG K pn e σ G' R H where
  gh := gh
  rh := g.rh
  dj := dj
  len := g.len
  sl := fun i s h => by
    have q := g.sl i s h
    cases s with
    | em => exact trivial
    | sh d => obtain ⟨v, h1, h2⟩ := q; exact ⟨v, h1, h2.mono x⟩
    | ow b d => obtain ⟨p, h1, h2, h3, h4⟩ := q; exact ⟨p, h1, hn p ⟨i, b, d, h, h1⟩, h3, h4.monoG x⟩
  ap := g.ap
  pin := g.pin
theorem dj_upd {p : Addr} {o : HO} (dj : ∀ a, R a ≠ none → G a = none) (h : R p = none) : ∀ a, R a ≠ none → upd G p o a = none := fun a ha => by
  have hne : a ≠ p := fun z => ha (by rw [z]; exact h)
  rw [upd_ne hne]; exact dj a ha
/-- a new list of nobody's is shared -/
theorem RelG.share {v : V} {d : D} (g : RelG K pn e σ G R H) (r : RepVal K G R H e σ v (.fr d)) : ∃ G', Ex G G' ∧ RelG K pn e σ G' R H ∧ Rep K G' v d := by
  obtain ⟨p, rfl, h1, h2, h3, h4⟩ := r
  obtain ⟨o, ho⟩ := h3.some
  have x : Ex G (upd G p o) := Ex.new h1
  have x2 : Ex (upd G p o) H := fun a u q => by
    by_cases ha : a = p
    · subst ha; rw [upd_same] at q; cases q; exact ho
    · rw [upd_ne ha] at q; exact g.gh _ _ q
  refine ⟨_, x, g.mono_sh x x2 (dj_upd g.dj h2) (fun a ha => ?_), ?_⟩
  · rw [upd_ne (show a ≠ p from fun z => h4 (by rw [← z]; exact ha))]; exact (g.owd ha).1
  · cases d with
    | lst ds => obtain ⟨xs, h, r⟩ := h3; rw [ho] at h; cases h; exact .lst upd_same (r.mono x)
    | dct es => obtain ⟨xs, h, r⟩ := h3; rw [ho] at h; cases h; exact .dct upd_same (r.mono x)
    | _ => exact h3.elim
theorem getElem?_setB {α : Type} {l : List α} {i : Nat} {x : α} (h : i < l.length) : (l.set i x)[i]? = some x := by simp [h]
theorem RelG.frz {i : Nat} {d : D} {v : V} (g : RelG K pn e σ G R H) (h : e[i]? = some (.ow false d)) (hv : σ[i]? = some (some v)) : ∃ G', Ex G G' ∧ RelG K pn (e.set i (.sh d)) σ G' R H ∧ Rep K G' v d := by
  obtain ⟨p, h1, h2, h3, h4⟩ := g.own h
  rw [hv] at h1
  cases h1
  obtain ⟨o, ho⟩ := h4.some
  have x : Ex G (upd G p o) := Ex.new h2
  have x2 : Ex (upd G p o) H := fun a u q => by
    by_cases ha : a = p
    · subst ha; rw [upd_same] at q; cases q; exact ho
    · rw [upd_ne ha] at q; exact g.gh _ _ q
  have hi : i < e.length := (List.getElem?_eq_some_iff.mp h).1
  have hrep : Rep K (upd G p o) (.ref p) d := by
    cases d with
    | lst ds => obtain ⟨xs, h, r⟩ := h4; rw [ho] at h; cases h; exact .lst upd_same (r.mono x)
    | dct es => obtain ⟨xs, h, r⟩ := h4; rw [ho] at h; cases h; exact .dct upd_same (r.mono x)
    | _ => exact h4.elim
  refine ⟨_, x, ⟨x2, g.rh, dj_upd g.dj h3, by simpa using g.len, fun j s q => ?_, fun j k b d b' d' hjk q1 q2 => ?_, fun q hq => ?_⟩, hrep⟩
  · by_cases hj : j = i
    · subst hj
      rw [getElem?_setB hi] at q
      cases q
      exact ⟨_, hv, hrep⟩
    · rw [List.getElem?_set_ne (Ne.symm hj)] at q
      have z := g.sl j s q
      cases s with
      | em => exact trivial
      | sh d => obtain ⟨v, a, b⟩ := z; exact ⟨v, a, b.mono x⟩
      | ow b d' =>
        obtain ⟨p', a1, a2, a3, a4⟩ := z
        refine ⟨p', a1, ?_, a3, a4.monoG x⟩
        have hne : p' ≠ p := fun z => g.ap j i _ _ _ _ hj q h (by rw [a1, hv, z])
        rw [upd_ne hne]; exact a2
  · by_cases hj : j = i
    · subst hj; rw [getElem?_setB hi] at q1; cases q1
    · by_cases hk : k = i
      · subst hk; rw [getElem?_setB hi] at q2; cases q2
      · rw [List.getElem?_set_ne (Ne.symm hj)] at q1
        rw [List.getElem?_set_ne (Ne.symm hk)] at q2
        exact g.ap j k _ _ _ _ hjk q1 q2
  · obtain ⟨a, d', b⟩ := g.pin q hq
    refine ⟨a, d', ?_⟩
    have hne : q.1 ≠ i := fun z => by rw [z, h] at b; cases b
    rw [List.getElem?_set_ne (Ne.symm hne)]; exact b
/-- a new object is laid: shared -/
theorem RelG.laid {p : Addr} {o : HO} (g : RelG K pn e σ G R H) (h : H p = none) : RelG K pn e σ (upd G p o) R (upd H p o) ∧ Ex G (upd G p o) := by
  have hG : G p = none := Evl.fresh_back g.gh h
  have hR : R p = none := Evl.fresh_back g.rh h
  have x : Ex G (upd G p o) := Ex.new hG
  have hH : Ex H (upd H p o) := Ex.new h
  refine ⟨⟨fun a u q => ?_, g.rh.trans hH, dj_upd g.dj hR, g.len, fun i s q => ?_, g.ap, g.pin⟩, x⟩
  · by_cases ha : a = p
    · subst ha; rw [upd_same] at q ⊢; exact q
    · rw [upd_ne ha] at q ⊢; exact g.gh _ _ q
  · have z := g.sl i s q
    cases s with
    | em => exact trivial
    | sh d => obtain ⟨v, a, b⟩ := z; exact ⟨v, a, b.mono x⟩
    | ow b d =>
      obtain ⟨p', a1, a2, a3, a4⟩ := z
      obtain ⟨o', ho'⟩ := a4.some
      have hne : p' ≠ p := fun z => by rw [z, h] at ho'; cases ho'
      exact ⟨p', a1, by rw [upd_ne hne]; exact a2, a3, (a4.at (upd_ne hne)).monoG x⟩
/-- a new object is laid: nobody's -/
theorem RelG.laidF {p : Addr} {o : HO} (g : RelG K pn e σ G R H) (h : H p = none) : RelG K pn e σ G R (upd H p o) ∧ G p = none ∧ R p = none ∧ ¬ Owd e σ p := by
  have hG : G p = none := Evl.fresh_back g.gh h
  have hR : R p = none := Evl.fresh_back g.rh h
  have hH : Ex H (upd H p o) := Ex.new h
  refine ⟨⟨g.gh.trans hH, g.rh.trans hH, g.dj, g.len, fun i s q => ?_, g.ap, g.pin⟩, hG, hR, fun z => ?_⟩
  · have z := g.sl i s q
    cases s with
    | em => exact trivial
    | sh d => exact z
    | ow b d =>
      obtain ⟨p', a1, a2, a3, a4⟩ := z
      obtain ⟨o', ho'⟩ := a4.some
      have hne : p' ≠ p := fun z => by rw [z, h] at ho'; cases ho'
      exact ⟨p', a1, a2, a3, a4.at (upd_ne hne)⟩
  · obtain ⟨_, _, o', ho'⟩ := g.owd z
    rw [h] at ho'; cases ho'
end
end Pv
namespace Pv
open PySem L2
open Evl (Ex)

theorem bnd_ok {α β : Type} {m : M α} {f : α → M β} {e : En} {r : β × En} (h : bnd m f e = .ok r) : ∃ a e', m e = .ok (a, e') ∧ f a e' = .ok r := by
  unfold bnd at h
  cases q : m e with
  | err => rw [q] at h; cases h
  | ok p => rw [q] at h; exact ⟨p.1, p.2, rfl, h⟩
theorem der_ok {v : Val} {e : En} {r : D × En} (h : der v e = .ok r) : derE e v = some r.1 ∧ r.2 = e := by
  unfold der at h
  cases q : derE e v with
  | none => rw [q] at h; cases h
  | some d => rw [q] at h; cases h; exact ⟨rfl, rfl⟩
theorem opt_ok {α : Type} {o : Option α} {e : En} {r : α × En} (h : opt o e = .ok r) : o = some r.1 ∧ r.2 = e := by
  cases o with
  | none => cases h
  | some a => cases h; exact ⟨rfl, rfl⟩

/-! ### readings made of what this evaluator says -/
def Fin (K : PySem.W.Frag) (pn : Pn) (e : En) (σ : L2.St) (G R : Hp) (val : Val) (Q : VK) : Prop :=
  ∀ v G' H', Ex G G' → RelG K pn e σ G' R H' → RepVal K G' R H' e σ v val → Q v H'
def FinT (K : PySem.W.Frag) (pn : Pn) (e : En) (σ : L2.St) (G R : Hp) (b : Bool) (Q : Bool → Hp → Prop) : Prop :=
  ∀ G' H', Ex G G' → RelG K pn e σ G' R H' → Q b H'
def tEv (K : PySem.W.Frag) (f : M Val) : TE := fun σ H Q => ∃ pn e G R val e', f e = .ok (val, e') ∧ RelG K pn e σ G R H ∧ Fin K pn e' σ G R val Q
def tTv (K : PySem.W.Frag) (f : M Bool) : TT := fun σ H Q => ∃ pn e G R b e', f e = .ok (b, e') ∧ RelG K pn e σ G R H ∧ FinT K pn e' σ G R b Q
theorem Fin.ext {K : PySem.W.Frag} {pn : Pn} {e : En} {σ : L2.St} {G G1 R : Hp} {val : Val} {Q : VK} (h : Fin K pn e σ G R val Q) (x : Ex G G1) : Fin K pn e σ G1 R val Q :=
  fun v G' H' y g r => h v G' H' (x.trans y) g r
theorem FinT.ext {K : PySem.W.Frag} {pn : Pn} {e : En} {σ : L2.St} {G G1 R : Hp} {b : Bool} {Q : Bool → Hp → Prop} (h : FinT K pn e σ G R b Q) (x : Ex G G1) : FinT K pn e σ G1 R b Q :=
  fun G' H' y g => h G' H' (x.trans y) g

section
variable {X : Cx} {ex : Expr} {t t' : TE}
theorem PE_mono (h : PE X ex t) (m : ∀ σ H Q, t' σ H Q → t σ H Q) : PE X ex t' := ⟨fun pins s σ H Q I q => h.run pins s σ H Q I (m σ H Q q)⟩
theorem PT_mono {t t' : TT} (h : PT X ex t) (m : ∀ σ H Q, t' σ H Q → t σ H Q) : PT X ex t' := ⟨fun pins s σ H Q I q => h.run pins s σ H Q I (m σ H Q q)⟩
theorem PW_mono {t t' : TT} (h : PW X ex t) (m : ∀ σ H Q, t' σ H Q → t σ H Q) : PW X ex t' := ⟨fun wh pins s σ H Q I q => h.run wh pins s σ H Q I (m σ H Q q)⟩
theorem PA_mono {es : List Expr} {t t' : TA} (h : PA X es t) (m : ∀ σ H Q, t' σ H Q → t σ H Q) : PA X es t' := ⟨fun p pins s σ H Q I q => h.run p pins s σ H Q I (m σ H Q q)⟩
theorem PS_mono {st : Stmt} {t t' : TS} (h : PS X st t) (m : ∀ D σ H, t' D σ H → t D σ H) : PS X st t' := ⟨fun pins s σ H D I q => h.run pins s σ H D I (m D σ H q)⟩
theorem PSs_mono {st : List Stmt} {t t' : TS} (h : PSs X st t) (m : ∀ D σ H, t' D σ H → t D σ H) : PSs X st t' := ⟨fun pins s σ H D I q => h.run pins s σ H D I (m D σ H q)⟩
theorem PI_mono {tg : Expr} {t t' : TI} (h : PI X tg ex t) (m : ∀ σ H R, t' σ H R → t σ H R) : PI X tg ex t' := ⟨fun pins s σ H R I q => h.run pins s σ H R I (m σ H R q)⟩
theorem OpR_mono {f : Value → Value → Sem Value} {r r' : R2} (h : OpR X f r) (m : ∀ x y H Q, r' x y H Q → r x y H Q) : OpR X f r' := fun pins s σ H x y v u Q I a b q => h pins s σ H x y v u Q I a b (m x y H Q q)
theorem CallR_mono {f : Value} {r r' : List V → Hp → VK → Prop} (h : CallR X f r) (m : ∀ xs H Q, r' xs H Q → r xs H Q) : CallR X f r' := fun pins s σ H xs us Q I a q => h pins s σ H xs us Q I a (m xs H Q q)
end

section
variable {K : PySem.W.Frag} {pn : Pn} {e e' : En} {σ : L2.St} {G G' R H H' : Hp} {v : V} {val : Val}
/-- a pending operand: shared if it is nobody's -/
theorem RelG.pend (g : RelG K pn e σ G R H) (r : RepVal K G R H e σ v val) : ∃ G', Ex G G' ∧ RelG K pn e σ G' R H ∧ RepVal K G' R H e σ v (opd val) := by
  cases val with
  | sh d => exact ⟨G, Ex.refl G, g, r⟩
  | fr d => exact g.share r
  | ow i => exact ⟨G, Ex.refl G, g, r⟩
/-- .. read later -/
theorem RelG.rdLater {d : D} (r : RepVal K G R H e σ v (opd val)) (x : Ex G G') (g' : RelG K pn e' σ G' R H') (h : derE e' (opd val) = some d) : RdV K G' H' v d := by
  cases val with
  | sh d' => cases h; exact RdV.of g'.gh (Rep.mono x r)
  | fr d' => cases h; exact RdV.of g'.gh (Rep.mono x r)
  | ow i =>
    obtain ⟨h1, _⟩ := r
    have h' : derE e' (.ow i) = some d := h
    unfold derE at h'
    cases q : e'[i]? with
    | none => simp only [q] at h'; cases h'
    | some s =>
      simp only [q] at h'
      cases s with
      | em => cases h'
      | sh d' => cases h'
      | ow b d' =>
        cases h'
        obtain ⟨p, h3, _, _, h4⟩ := g'.own q
        rw [h1] at h3
        cases h3
        exact h4.rdv
end

/-! ### two-place operations -/
/-- a rule r of the layer does what g says of data -/
def ROK (K : PySem.W.Frag) (r : R2) (g : D → D → Option Val) : Prop :=
  ∀ (pn : Pn) (e : En) (σ : L2.St) (G R H : Hp) (x y : V) (dx dy : D) (val : Val), RelG K pn e σ G R H → RdV K G H x dx → RdV K G H y dy → g dx dy = some val → ∀ Q : VK, Fin K pn e σ G R val Q → r x y H Q
def binC (g : D → D → Option Val) (fa fb : M Val) : M Val := bnd fa fun va => bnd fb fun vb => bnd (der (opd va)) fun da => bnd (der vb) fun db => opt (g da db)
theorem tbin {K : PySem.W.Frag} {r : R2} {g : D → D → Option Val} {fa fb : M Val} (hr : ROK K r g) {σ : L2.St} {H : Hp} {Q : VK} (h : tEv K (binC g fa fb) σ H Q) : tOp r (tEv K fa) (tEv K fb) σ H Q := by
  obtain ⟨pn, e, G, R, val, e', he, g0, fin⟩ := h
  obtain ⟨va, e1, h1, k1⟩ := bnd_ok he
  obtain ⟨vb, e2, h2, k2⟩ := bnd_ok k1
  obtain ⟨da, e3, h3, k3⟩ := bnd_ok k2
  obtain ⟨q3, z3⟩ := der_ok h3
  simp only at q3 z3
  subst z3
  obtain ⟨db, e4, h4, k4⟩ := bnd_ok k3
  obtain ⟨q4, z4⟩ := der_ok h4
  simp only at q4 z4
  subst z4
  obtain ⟨q5, q6⟩ := opt_ok k4
  simp only at q5 q6
  subst q6
  refine ⟨pn, e, G, R, va, e1, h1, g0, fun x G1 H1 x1 g1 r1 => ?_⟩
  obtain ⟨G1', x1', g1', r1'⟩ := g1.pend r1
  refine ⟨pn, e1, G1', R, vb, _, h2, g1', fun y G2 H2 x2 g2 r2 => ?_⟩
  exact hr pn _ σ G2 R H2 x y da db val g2 (RelG.rdLater r1' x2 g2 q3) (g2.rd r2 q4) q5 Q (fin.ext ((x1.trans x1').trans x2))
theorem se_bin {X : Cx} {op : Operator} {a b : Expr} {pos : Pos} {r : R2} {g : D → D → Option Val} {fa fb : M Val} (ho : OpR X (binaryOp op) r) (hr : ROK X.K r g) (ha : PE X a (tEv X.K fa)) (hb : PE X b (tEv X.K fb)) :
    PE X (.BinOp a op b pos) (tEv X.K (binC g fa fb)) := PE_mono (pe_op ho ha hb) fun _ _ _ h => tbin hr h
theorem se_cmp {X : Cx} {op : CmpOp} {a b : Expr} {pos : Pos} {r : R2} {g : D → D → Option Val} {fa fb : M Val} (ho : OpR X (compareOp op) r) (hr : ROK X.K r g) (ha : PE X a (tEv X.K fa)) (hb : PE X b (tEv X.K fb)) (hm : behindInMarks op b = false) :
    PE X (.Compare a [op] [b] pos) (tEv X.K (binC g fa fb)) := PE_mono (pe_cmpR ho ha hb hm) fun _ _ _ h => tbin hr h

section
variable {K : PySem.W.Frag}
/-- the answer is a plain scalar: nothing has changed -/
theorem Fin.sc {pn : Pn} {e : En} {σ : L2.St} {G R H : Hp} {d : D} {v : V} {Q : VK} (g : RelG K pn e σ G R H) (f : Fin K pn e σ G R (.sh d) Q) (r : Rep K G v d) : Q v H := f v G H (Ex.refl G) g r
theorem Fin.newF {pn : Pn} {e : En} {σ : L2.St} {G R H : Hp} {ds : List D} {vs : List V} {Q : VK} (g : RelG K pn e σ G R H) (f : Fin K pn e σ G R (.fr (.lst ds)) Q) (r : RepL K G vs ds) : ∀ p, H p = none → Q (.ref p) (upd H p (.lst vs)) := fun p hp => by
  obtain ⟨g', a, b, c⟩ := g.laidF (o := .lst vs) hp
  exact f _ G _ (Ex.refl G) g' ⟨p, rfl, a, b, ⟨vs, upd_same, r⟩, c⟩
theorem Fin.newT {pn : Pn} {e : En} {σ : L2.St} {G R H : Hp} {ds : List D} {vs : List V} {Q : VK} (g : RelG K pn e σ G R H) (f : Fin K pn e σ G R (.sh (.tup ds)) Q) (r : RepL K G vs ds) : ∀ p, H p = none → Q (.ref p) (upd H p (.tup vs)) := fun p hp => by
  obtain ⟨g', x⟩ := g.laid (o := .tup vs) hp
  exact f _ _ _ x g' (.tup (SqT.of upd_same) (r.mono x))
theorem lim_eq : lenLim = sizeLine := by rw [sizeLine_eq]; rfl

def rAdd (K : PySem.W.Frag) : R2 := fun x y H Q => rI0 (fun i j => .int (i + j)) x y H Q ∨ (∃ i j, x = .str i ∧ y = .str j ∧ i.length + j.length ≤ sizeLine ∧ Q (.str (i ++ j)) H) ∨ rCat x y H Q ∨ rCatA K x y H Q
theorem op_addA {X : Cx} : OpR X (binaryOp .Add) (rAdd X.K) := op_add.or (op_add_str.or (op_cat.or op_catA))
theorem ok_add : ROK K (rAdd K) addD := by
  intro pn e σ G R H x y dx dy val g rx ry h Q f
  unfold addD at h
  split at h
  · cases h; cases rx; cases ry
    exact .inl ⟨_, _, rfl, rfl, f.sc g (.int _)⟩
  · split at h
    · cases h; cases rx; cases ry
      exact .inr (.inl ⟨_, _, rfl, rfl, by rw [← lim_eq]; assumption, f.sc g (.str _)⟩)
    · cases h
  · rename_i a b
    split at h
    · cases h
      obtain ⟨p, xs, rfl, hp, ra⟩ := rx
      obtain ⟨q, ys, rfl, hq, rb⟩ := ry
      exact .inr (.inr (.inl ⟨p, q, xs, ys, rfl, rfl, hp, hq, by rw [← lim_eq, ra.length, rb.length]; assumption, f.newF g (ra.append rb)⟩))
    · cases h
  · rename_i a b
    split at h
    · cases h
      have rx' : Rep K G x (.tup a) := rx
      have ry' : Rep K G y (.tup b) := ry
      cases rx' with
      | @tup p xs _ sp ra =>
        cases ry' with
        | @tup q ys _ sq rb =>
          refine .inr (.inr (.inr ⟨p, q, xs, ys, rfl, rfl, Evl.ex_t g.gh sp, Evl.ex_t g.gh sq, by rw [← lim_eq, ra.length, rb.length]; assumption, fun z => ?_, fun z z2 => ?_, fun _ _ => f.newT g (ra.append rb)⟩))
          · subst z
            cases ra
            exact f.sc g (.tup sq rb)
          · subst z2
            cases rb
            rw [List.append_nil] at f
            exact f.sc g (.tup sp ra)
    · cases h
  · cases h
theorem ok_sub : ROK K (rI0 fun i j => .int (i - j)) subD := by
  intro pn e σ G R H x y dx dy val g rx ry h Q f
  unfold subD at h
  split at h
  · cases h; cases rx; cases ry
    exact ⟨_, _, rfl, rfl, f.sc g (.int _)⟩
  · cases h
def rMulA : R2 := fun x y H Q => rI CMulW (fun i j => .int (i * j)) x y H Q ∨ rRep x y H Q
theorem op_mulA {X : Cx} : OpR X (binaryOp .Mult) rMulA := op_mulW.or op_rep
theorem ok_mul : ROK K rMulA mulD := by
  intro pn e σ G R H x y dx dy val g rx ry h Q f
  unfold mulD at h
  split at h
  · split at h
    · cases h; cases rx; cases ry
      exact .inl ⟨_, _, rfl, rfl, by assumption, f.sc g (.int _)⟩
    · cases h
  · split at h
    · rename_i c
      cases h; cases ry
      obtain ⟨p, xs, rfl, hp, ra⟩ := rx
      exact .inr ⟨p, _, xs, rfl, rfl, hp, c.2.1, c.2.2, by rw [← lim_eq, ra.length]; exact c.1, f.newF g (ra.rep _)⟩
    · cases h
  · cases h
theorem ok_fdiv : ROK K (rI CDivW fun i j => .int (i / j)) fdivD := by
  intro pn e σ G R H x y dx dy val g rx ry h Q f
  unfold fdivD at h
  split at h
  · split at h
    · cases h; cases rx; cases ry
      exact ⟨_, _, rfl, rfl, by assumption, f.sc g (.int _)⟩
    · cases h
  · cases h
theorem ok_mod : ROK K (rI (fun _ j => 0 < j) fun i j => .int (i % j)) modD := by
  intro pn e σ G R H x y dx dy val g rx ry h Q f
  unfold modD at h
  split at h
  · split at h
    · cases h; cases rx; cases ry
      exact ⟨_, _, rfl, rfl, by assumption, f.sc g (.int _)⟩
    · cases h
  · cases h
def CPowW (i j : Int) : Prop := 0 ≤ j ∧ (Builtin.Int.intBits i : Int) * j ≤ 2 ^ 27
theorem op_powW {X : Cx} : OpR X (binaryOp .Pow) (rI CPowW fun i j => .int (i ^ j.toNat)) := opI fun _ _ _ _ _ _ _ hc q => PyProof.Rows.pow_int hc.1 hc.2 q
theorem ok_pow : ROK K (rI CPowW fun i j => .int (i ^ j.toNat)) powD := by
  intro pn e σ G R H x y dx dy val g rx ry h Q f
  unfold powD at h
  split at h
  · split at h
    · cases h; cases rx; cases ry
      exact ⟨_, _, rfl, rfl, by assumption, f.sc g (.int _)⟩
    · cases h
  · cases h

/-! ### comparisons -/
mutual
theorem Rep.dp {H : Hp} : ∀ {d : D} {v : V}, d.pl = true → SeqAt.shaped d.py = true → Rep K H v d → Dp K H v d.py
  | _, _, _, _, .non => .non
  | _, _, _, _, .bl b => .bl b
  | _, _, _, _, .int i => .int i
  | _, _, _, _, .str x => .str x
  | _, _, p, s, .lst h r => .lst (SqL.of h) (RepL.dp p (by
      have c := SeqAt.canLay_of_shaped s
      simpa [D.py, PyData.canLay0] using c) r)
  | _, _, p, s, .tup h r => .tup h (RepL.dp p (by
      have c := SeqAt.canLay_of_shaped s
      simpa [D.py, PyData.canLay0] using c) r)
  | _, _, p, s, .dct h r => by
      have c := SeqAt.canLay_of_shaped s
      simp [D.py, PyData.canLay0] at c
  | _, _, p, s, .scr h => .lst h (by
      rename_i ns _
      clear s p h
      induction ns with
      | nil => exact .nil
      | cons n r ih => exact .cons (.int n) ih)
theorem RepL.dp {H : Hp} : ∀ {ds : List D} {vs : List V}, plL ds = true → PyData.canLayAll0 (pyL ds) = true → RepL K H vs ds → DpAll K H vs (pyL ds)
  | _, _, _, _, .nil => .nil
  | _, _, p, s, .cons h r => by
      rw [plL, Bool.and_eq_true] at p
      rw [pyL, PyData.canLayAll0, Bool.and_eq_true] at s
      exact .cons (Rep.dp' p.1 s.1 h) (RepL.dp p.2 s.2 r)
theorem Rep.dp' {H : Hp} : ∀ {d : D} {v : V}, d.pl = true → d.py.canLay0 = true → Rep K H v d → Dp K H v d.py
  | _, _, _, _, .non => .non
  | _, _, _, _, .bl b => .bl b
  | _, _, _, _, .int i => .int i
  | _, _, _, _, .str x => .str x
  | _, _, p, s, .lst h r => .lst (SqL.of h) (RepL.dp p (by simpa [D.py, PyData.canLay0] using s) r)
  | _, _, p, s, .tup h r => .tup h (RepL.dp p (by simpa [D.py, PyData.canLay0] using s) r)
  | _, _, p, s, .dct h r => by simp [D.py, PyData.canLay0] at s
  | _, _, p, s, .scr h => .lst h (by
      rename_i ns _
      clear s p h
      induction ns with
      | nil => exact .nil
      | cons n r ih => exact .cons (.int n) ih)
end
theorem dec_strV (a b : Str) : decide (V.str a = V.str b) = decide (a = b) := by
  by_cases h : a = b
  · subst h; simp
  · have : V.str a ≠ V.str b := fun z => h (by cases z; rfl)
    simp [h, this]
def rEqA (K : PySem.W.Frag) : R2 := fun x y H Q => rEq x y H Q ∨ rEqD K x y H Q
def rNeA (K : PySem.W.Frag) : R2 := fun x y H Q => rNe x y H Q ∨ rNeD K x y H Q
theorem ok_eq : ROK K (rEqA K) eqD := by
  intro pn e σ G R H x y dx dy val g rx ry h Q f
  unfold eqD at h
  split at h
  · cases h; cases rx; cases ry
    exact .inl ⟨rfl, by rw [dec_strV]; exact f.sc g (.bl _)⟩
  · split at h
    · rename_i c
      cases h
      rw [Bool.and_eq_true] at c
      obtain ⟨c1, c2⟩ := c
      unfold eqOk at c1 c2
      rw [Bool.and_eq_true] at c1 c2
      exact .inr ⟨_, _, Rep.dp c1.1 c1.2 (rx.rep g.gh), Rep.dp c2.1 c2.2 (ry.rep g.gh), c1.2, c2.2, f.sc g (.bl _)⟩
    · cases h
theorem ok_ne : ROK K (rNeA K) neD := by
  intro pn e σ G R H x y dx dy val g rx ry h Q f
  unfold neD at h
  split at h
  · cases h; cases rx; cases ry
    exact .inl ⟨rfl, by rw [dec_strV]; exact f.sc g (.bl _)⟩
  · split at h
    · rename_i c
      cases h
      rw [Bool.and_eq_true] at c
      obtain ⟨c1, c2⟩ := c
      unfold eqOk at c1 c2
      rw [Bool.and_eq_true] at c1 c2
      exact .inr ⟨_, _, Rep.dp c1.1 c1.2 (rx.rep g.gh), Rep.dp c2.1 c2.2 (ry.rep g.gh), c1.2, c2.2, f.sc g (.bl _)⟩
    · cases h
def rOrd (p : Int → Int → Bool) (q : Str → Str → Bool) : R2 := fun x y H Q => rI0 (fun i j => .bl (p i j)) x y H Q ∨ ∃ i j, x = .str i ∧ y = .str j ∧ Q (.bl (q i j)) H
theorem op_ltA {X : Cx} : OpR X (compareOp .Lt) (rOrd (fun i j => decide (i < j)) fun a b => decide (a.cps.toList < b.cps.toList)) := op_lt.or op_lt_str
theorem op_leA {X : Cx} : OpR X (compareOp .LtE) (rOrd (fun i j => decide (i ≤ j)) fun a b => !decide (b.cps.toList < a.cps.toList)) := op_le.or op_le_str
theorem op_gtA {X : Cx} : OpR X (compareOp .Gt) (rOrd (fun i j => decide (j < i)) fun a b => decide (b.cps.toList < a.cps.toList)) := op_gt.or op_gt_str
theorem op_geA {X : Cx} : OpR X (compareOp .GtE) (rOrd (fun i j => decide (j ≤ i)) fun a b => !decide (a.cps.toList < b.cps.toList)) := op_ge.or op_ge_str
theorem ok_lt : ROK K (rOrd (fun i j => decide (i < j)) fun a b => decide (a.cps.toList < b.cps.toList)) ltD := by
  intro pn e σ G R H x y dx dy val g rx ry h Q f
  unfold ltD at h
  split at h
  · cases h; cases rx; cases ry; exact .inl ⟨_, _, rfl, rfl, f.sc g (.bl _)⟩
  · cases h; cases rx; cases ry; exact .inr ⟨_, _, rfl, rfl, f.sc g (.bl _)⟩
  · cases h
theorem ok_le : ROK K (rOrd (fun i j => decide (i ≤ j)) fun a b => !decide (b.cps.toList < a.cps.toList)) leD := by
  intro pn e σ G R H x y dx dy val g rx ry h Q f
  unfold leD at h
  split at h
  · cases h; cases rx; cases ry; exact .inl ⟨_, _, rfl, rfl, f.sc g (.bl _)⟩
  · cases h; cases rx; cases ry; exact .inr ⟨_, _, rfl, rfl, f.sc g (.bl _)⟩
  · cases h
theorem ok_gt : ROK K (rOrd (fun i j => decide (j < i)) fun a b => decide (b.cps.toList < a.cps.toList)) gtD := by
  intro pn e σ G R H x y dx dy val g rx ry h Q f
  unfold gtD at h
  split at h
  · cases h; cases rx; cases ry; exact .inl ⟨_, _, rfl, rfl, f.sc g (.bl _)⟩
  · cases h; cases rx; cases ry; exact .inr ⟨_, _, rfl, rfl, f.sc g (.bl _)⟩
  · cases h
theorem ok_ge : ROK K (rOrd (fun i j => decide (j ≤ i)) fun a b => !decide (a.cps.toList < b.cps.toList)) geD := by
  intro pn e σ G R H x y dx dy val g rx ry h Q f
  unfold geD at h
  split at h
  · cases h; cases rx; cases ry; exact .inl ⟨_, _, rfl, rfl, f.sc g (.bl _)⟩
  · cases h; cases rx; cases ry; exact .inr ⟨_, _, rfl, rfl, f.sc g (.bl _)⟩
  · cases h
theorem flat_of {H : Hp} {d : D} {v w : V} (h : flatD d = some w) (r : Rep K H v d) : v = w ∧ flatV v = true := by
  cases r <;> first
    | (cases h; exact ⟨rfl, rfl⟩)
    | cases h
theorem flatL_of {H : Hp} : ∀ {ds : List D} {vs ws : List V}, flatL ds = some ws → RepL K H vs ds → vs = ws ∧ vs.all flatV = true
  | _, _, _, h, .nil => by cases h; exact ⟨rfl, rfl⟩
  | d :: ds, v :: vs, ws, h, .cons a b => by
    unfold flatL at h
    split at h
    · rename_i w ws' h1 h2
      cases h
      obtain ⟨e1, f1⟩ := flat_of h1 a
      obtain ⟨e2, f2⟩ := flatL_of h2 b
      exact ⟨by rw [e1, e2], by rw [List.all_cons, f1, f2]; rfl⟩
    · cases h
def rInA (K : PySem.W.Frag) (neg : Bool) : R2 := fun x y H Q => (∃ (c : Nat) (z : Str), x = .str ⟨#[c]⟩ ∧ y = .str z ∧ Q (.bl (if neg then !decide (c ∈ z.cps.toList) else decide (c ∈ z.cps.toList))) H) ∨ rIn K neg x y H Q
theorem op_inA {X : Cx} : OpR X (compareOp .In) (rInA X.K false) := op_in_sign.or op_in_seq
theorem op_ninA {X : Cx} : OpR X (compareOp .NotIn) (rInA X.K true) := op_notIn_sign.or op_notIn_seq
theorem str1 {a : Str} {c : Nat} (h : a.cps.toList = [c]) : a = ⟨#[c]⟩ := by
  cases a with
  | mk l =>
    cases l with
    | mk l =>
      simp at h
      subst h
      rfl
theorem ok_in (neg : Bool) : ROK K (rInA K neg) (inD neg) := by
  intro pn e σ G R H x y dx dy val g rx ry h Q f
  unfold inD at h
  split at h
  · split at h
    · rename_i a z l c hc
      cases h
      cases rx
      cases ry
      exact .inl ⟨c, z, by rw [str1 hc], rfl, f.sc g (.bl _)⟩
    · cases h
  · split at h
    · rename_i w ws h1 h2
      cases h
      have ry' : Rep K G y (.tup _) := ry
      cases ry' with
      | @tup q ys _ sq rb =>
        obtain ⟨e2, f2⟩ := flatL_of h2 rb
        obtain ⟨e1, f1⟩ := flat_of h1 (rx.rep g.gh)
        subst e1 e2
        exact .inr ⟨q, _, rfl, .inr (Evl.ex_t g.gh sq), f1, f2, f.sc g (.bl _)⟩
    · cases h
  · split at h
    · rename_i w ws h1 h2
      cases h
      obtain ⟨p, xs, rfl, hp, rb⟩ := ry
      obtain ⟨e2, f2⟩ := flatL_of h2 rb
      obtain ⟨e1, f1⟩ := flat_of h1 (rx.rep g.gh)
      subst e1 e2
      exact .inr ⟨p, _, rfl, .inl (SqL.of hp), f1, f2, f.sc g (.bl _)⟩
    · cases h
  · cases h
def rIsA (neg : Bool) : R2 := fun x y H Q => y = .non ∧ Q (.bl (if neg then !decide (x = .non) else decide (x = .non))) H
theorem op_isA {X : Cx} : OpR X (compareOp .Is) (rIsA false) := op_isN
theorem op_nisA {X : Cx} : OpR X (compareOp .IsNot) (rIsA true) := op_notN
theorem ok_is (neg : Bool) : ROK K (rIsA neg) (isND neg) := by
  intro pn e σ G R H x y dx dy val g rx ry h Q f
  unfold isND at h
  split at h
  · cases h
    cases ry
    refine ⟨rfl, ?_⟩
    have z : Rep K H x dx := rx.rep g.gh
    cases z <;> (cases neg <;> exact f.sc g (.bl _))
  · cases h
end
end Pv
namespace Pv
open PySem L2
open Evl (Ex)

/-! ### constants, names -/
def conC (d : D) : M Val := ret (.sh d)
def nameC (i : Nat) : M Val := fun e => match e[i]? with
  | some (.sh d) => .ok (.sh d, e)
  | some (.ow _ _) => .ok (.ow i, e)
  | _ => .err
section
variable {X : Cx} {pos : Pos}
theorem t_con {K : PySem.W.Frag} {d : D} {v : V} (h : ∀ G, Rep K G v d) {σ : L2.St} {H : Hp} {Q : VK} (q : tEv K (conC d) σ H Q) : tC v σ H Q := by
  obtain ⟨pn, e, G, R, val, e', he, g, f⟩ := q
  cases he
  exact f.sc g (h G)
theorem se_int {i : Int} {j : Nat} : PE X (.Constant (.int i) j pos) (tEv X.K (conC (.int i))) := PE_mono pe_int fun _ _ _ q => t_con (fun _ => .int i) q
theorem se_bl {b : Bool} {j : Nat} : PE X (.Constant (.bool b) j pos) (tEv X.K (conC (.bl b))) := PE_mono pe_bl fun _ _ _ q => t_con (fun _ => .bl b) q
theorem se_non {j : Nat} : PE X (.Constant .none j pos) (tEv X.K (conC .non)) := PE_mono pe_non fun _ _ _ q => t_con (fun _ => .non) q
theorem se_str {x : Str} {j : Nat} : PE X (.Constant (.str x) j pos) (tEv X.K (conC (.str x))) := PE_mono pe_str fun _ _ _ q => t_con (fun _ => .str x) q
theorem se_glob {x : Str} {d : D} {u : Value} {v : V} (hg : Gl X x) (hm : X.mg x = some u) (r : RelV v u) (h : ∀ G, Rep X.K G v d) (hd : (x == ("__debug__" : Str)) = false) : PE X (.Name x pos) (tEv X.K (conC d)) :=
  PE_mono (pe_glob hg hm r hd) fun _ _ _ q => t_con h q
theorem se_name {i : Nat} {x : Str} (hN : X.N[i]? = some x) (hv : Vis X.env.scope x) (hd : (x == ("__debug__" : Str)) = false) (hcd : (x == ("__classdict__" : Str)) = false) : PE X (.Name x pos) (tEv X.K (nameC i)) :=
  PE_mono (pe_var hN hv hd hcd) fun σ H Q q => by
    obtain ⟨pn, e, G, R, val, e', he, g, f⟩ := q
    unfold nameC at he
    cases h : e[i]? with
    | none => simp only [h] at he; cases he
    | some s =>
      have z := g.sl i s h
      simp only [h] at he
      cases s with
      | em => cases he
      | sh d =>
        cases he
        obtain ⟨v, h1, h2⟩ := z
        exact ⟨v, h1, f.sc g h2⟩
      | ow b d =>
        cases he
        obtain ⟨p, h1, _⟩ := z
        exact ⟨_, h1, f _ G H (Ex.refl G) g ⟨h1, b, d, h⟩⟩
end

/-! ### truth, not, and, or -/
def truC (f : M Val) : M Bool := bnd f fun v => bnd (der v) fun d => opt (truD d)
theorem truV {K : PySem.W.Frag} {G H : Hp} {v : V} {d : D} {k : Bool} (x : Ex G H) (r : RdV K G H v d) (h : truD d = some k) : TruV K v H k := by
  unfold truD at h
  split at h
  · cases h; cases r; rfl
  · cases h; cases r; rfl
  · cases h; cases r; rfl
  · split at h
    · cases h; cases r; exact ⟨by rw [← lim_eq]; assumption, rfl⟩
    · cases h
  · cases h
    have r' : Rep K G v (.tup _) := r
    cases r' with
    | tup hp ra =>
      refine .inr (.inl ⟨_, Evl.ex_t x hp, ?_⟩)
      cases ra <;> rfl
  · cases h
    obtain ⟨p, xs, rfl, hp, ra⟩ := r
    refine .inl ⟨_, SqL.of hp, ?_⟩
    cases ra <;> rfl
  · cases h
theorem tru_fin {K : PySem.W.Frag} {f : M Val} {σ : L2.St} {H : Hp} {Q : Bool → Hp → Prop} (h : tTv K (truC f) σ H Q) : tEv K f σ H fun x H1 => ∃ k, TruV K x H1 k ∧ Q k H1 := by
  obtain ⟨pn, e, G, R, b, e', he, g, fin⟩ := h
  obtain ⟨v, e1, h1, k1⟩ := bnd_ok he
  obtain ⟨d, e2, h2, k2⟩ := bnd_ok k1
  obtain ⟨q2, z2⟩ := der_ok h2
  simp only at q2 z2
  subst z2
  obtain ⟨q3, z3⟩ := opt_ok k2
  simp only at q3 z3
  subst z3
  exact ⟨pn, e, G, R, v, _, h1, g, fun x G1 H1 x1 g1 r1 => ⟨b, truV g1.gh (g1.rd r1 q2) q3, fin G1 H1 x1 g1⟩⟩
theorem st_tru {X : Cx} {a : Expr} {f : M Val} (ha : PE X a (tEv X.K f)) (he : ∀ whole, isTrue a X.env whole = (do let v ← whole; standAt a.pos; holding [v] (truthy v))) : PT X a (tTv X.K (truC f)) :=
  PT_mono (pt_truth ha he) fun _ _ _ h => tru_fin h
def notC (f : M Bool) : M Val := bnd f fun b => ret (.sh (.bl (!b)))
theorem se_not {X : Cx} {a : Expr} {f : M Val} {pos : Pos} (ha : PE X a (tEv X.K f)) : PE X (.UnaryOp .Not a pos) (tEv X.K (notC (truC f))) :=
  PE_mono (pe_notT ha) fun σ H Q h => by
    obtain ⟨pn, e, G, R, b, e', he, g, fin⟩ := h
    obtain ⟨v, e1, h1, k1⟩ := bnd_ok he
    cases k1
    exact tru_fin (Q := fun k H1 => Q (.bl (!k)) H1) ⟨pn, e, G, R, v, e', h1, g, fun G' H' x g' => fin _ G' H' x g' (.bl _)⟩
def notT (f : M Bool) : M Bool := bnd f fun b => ret (!b)
theorem st_not {X : Cx} {a : Expr} {f : M Bool} {pos : Pos} (ha : PT X a (tTv X.K f)) : PT X (.UnaryOp .Not a pos) (tTv X.K (notT f)) :=
  PT_mono (pt_not ha) fun σ H Q h => by
    obtain ⟨pn, e, G, R, b, e', he, g, fin⟩ := h
    obtain ⟨v, e1, h1, k1⟩ := bnd_ok he
    cases k1
    exact ⟨pn, e, G, R, v, e', h1, g, fun G' H' x g' => fin G' H' x g'⟩
/-- and, or as tests (w: the answer that ends it) -/
def bopT (w : Bool) : List (M Bool) → M Bool
  | [] => fail
  | [a] => a
  | a :: b :: r => bnd a fun c => if c = w then ret w else bopT w (b :: r)
theorem st_bop {X : Cx} {pos : Pos} (op : BoolOp) : ∀ (es : List Expr) (fs : List (M Bool)), Paired (fun a f => PT X a (tTv X.K f)) es fs → PW X (.BoolOp op es pos) (tTv X.K (bopT (op == .Or) fs))
  | _, _, .nil => ⟨fun wh pins s σ H Q I h => by obtain ⟨_, _, _, _, _, _, he, _⟩ := h; cases he⟩
  | [a], [f], .cons h .nil => by
    cases op
    · exact pw_and1 h
    · exact pw_or1 h
  | a :: b :: es, f :: f2 :: fs, .cons h (.cons h2 hr) => by
    have ih := st_bop (pos := pos) op (b :: es) (f2 :: fs) (.cons h2 hr)
    cases op
    · refine PW_mono (pw_and h ih) fun σ H Q q => ?_
      obtain ⟨pn, e, G, R, bb, e', he, g, fin⟩ := q
      obtain ⟨c, e1, h1, k1⟩ := bnd_ok he
      refine ⟨pn, e, G, R, c, e1, h1, g, fun G1 H1 x1 g1 => ?_⟩
      cases c with
      | true =>
        rw [if_pos rfl]
        exact ⟨pn, e1, G1, R, bb, e', k1, g1, fin.ext x1⟩
      | false =>
        rw [if_neg Bool.false_ne_true]
        cases k1
        exact fin G1 H1 x1 g1
    · refine PW_mono (pw_or h ih) fun σ H Q q => ?_
      obtain ⟨pn, e, G, R, bb, e', he, g, fin⟩ := q
      obtain ⟨c, e1, h1, k1⟩ := bnd_ok he
      refine ⟨pn, e, G, R, c, e1, h1, g, fun G1 H1 x1 g1 => ?_⟩
      cases c with
      | true =>
        rw [if_pos rfl]
        cases k1
        exact fin G1 H1 x1 g1
      | false =>
        rw [if_neg Bool.false_ne_true]
        exact ⟨pn, e1, G1, R, bb, e', k1, g1, fin.ext x1⟩
/-- .. as values -/
def bopC (w : Bool) : List (M Val) → M Val
  | [] => fail
  | [a] => a
  | a :: b :: r => bnd a fun v => bnd (bnd (der v) fun d => opt (truD d)) fun c => if c = w then ret v else bopC w (b :: r)
theorem se_bop {X : Cx} {pos : Pos} (op : BoolOp) : ∀ (es : List Expr) (fs : List (M Val)), Paired (fun a f => PE X a (tEv X.K f)) es fs → PE X (.BoolOp op es pos) (tEv X.K (bopC (op == .Or) fs))
  | _, _, .nil => ⟨fun pins s σ H Q I h => by obtain ⟨_, _, _, _, _, _, he, _⟩ := h; cases he⟩
  | [a], [f], .cons h .nil => pe_one h
  | a :: b :: es, f :: f2 :: fs, .cons h (.cons h2 hr) => by
    have ih := se_bop (pos := pos) op (b :: es) (f2 :: fs) (.cons h2 hr)
    cases op
    · refine PE_mono (pe_andT h ih) fun σ H Q q => ?_
      obtain ⟨pn, e, G, R, bb, e', he, g, fin⟩ := q
      obtain ⟨v, e1, h1, k1⟩ := bnd_ok he
      obtain ⟨c, e2, h2, k2⟩ := bnd_ok k1
      obtain ⟨d, e3, h3, k3⟩ := bnd_ok h2
      obtain ⟨q3, z3⟩ := der_ok h3
      simp only at q3 z3
      subst z3
      obtain ⟨q4, z4⟩ := opt_ok k3
      simp only at q4 z4
      subst z4
      refine ⟨pn, e, G, R, v, _, h1, g, fun x G1 H1 x1 g1 r1 => ⟨c, truV g1.gh (g1.rd r1 q3) q4, ?_⟩⟩
      cases c with
      | true =>
        rw [if_pos rfl]
        exact ⟨pn, _, G1, R, bb, e', k2, g1, fin.ext x1⟩
      | false =>
        rw [if_neg Bool.false_ne_true]
        cases k2
        exact fin _ G1 H1 x1 g1 r1
    · refine PE_mono (pe_orT h ih) fun σ H Q q => ?_
      obtain ⟨pn, e, G, R, bb, e', he, g, fin⟩ := q
      obtain ⟨v, e1, h1, k1⟩ := bnd_ok he
      obtain ⟨c, e2, h2, k2⟩ := bnd_ok k1
      obtain ⟨d, e3, h3, k3⟩ := bnd_ok h2
      obtain ⟨q3, z3⟩ := der_ok h3
      simp only at q3 z3
      subst z3
      obtain ⟨q4, z4⟩ := opt_ok k3
      simp only at q4 z4
      subst z4
      refine ⟨pn, e, G, R, v, _, h1, g, fun x G1 H1 x1 g1 r1 => ⟨c, truV g1.gh (g1.rd r1 q3) q4, ?_⟩⟩
      cases c with
      | true =>
        rw [if_pos rfl]
        cases k2
        exact fin _ G1 H1 x1 g1 r1
      | false =>
        rw [if_neg Bool.false_ne_true]
        exact ⟨pn, _, G1, R, bb, e', k2, g1, fin.ext x1⟩
/-- a if t else b -/
def ifC (t : M Bool) (a b : M Val) : M Val := bnd t fun c => if c = true then a else b
theorem se_if {X : Cx} {c a b : Expr} {pos : Pos} {t : M Bool} {fa fb : M Val} (hc : PT X c (tTv X.K t)) (ha : PE X a (tEv X.K fa)) (hb : PE X b (tEv X.K fb)) : PE X (.IfExp c a b pos) (tEv X.K (ifC t fa fb)) :=
  PE_mono (pe_ifExp hc ha hb) fun σ H Q q => by
    obtain ⟨pn, e, G, R, bb, e', he, g, fin⟩ := q
    obtain ⟨c, e1, h1, k1⟩ := bnd_ok he
    refine ⟨pn, e, G, R, c, e1, h1, g, fun G1 H1 x1 g1 => ?_⟩
    cases c with
    | true =>
      rw [if_pos rfl] at k1 ⊢
      exact ⟨pn, e1, G1, R, bb, e', k1, g1, fin.ext x1⟩
    | false =>
      rw [if_neg Bool.false_ne_true] at k1 ⊢
      exact ⟨pn, e1, G1, R, bb, e', k1, g1, fin.ext x1⟩
/-! ### comparisons as tests, chains -/
def asBl : Val → M Bool
  | .sh (.bl b) => ret b
  | _ => fail
def cmpT (f : M Val) : M Bool := bnd f asBl
theorem cmp_fin {K : PySem.W.Frag} {f : M Val} {σ : L2.St} {H : Hp} {Q : Bool → Hp → Prop} (h : tTv K (cmpT f) σ H Q) : tEv K f σ H fun x H1 => ∃ k, x = .bl k ∧ Q k H1 := by
  obtain ⟨pn, e, G, R, b, e', he, g, fin⟩ := h
  obtain ⟨v, e1, h1, k1⟩ := bnd_ok he
  refine ⟨pn, e, G, R, v, e1, h1, g, fun x G1 H1 x1 g1 r1 => ?_⟩
  unfold asBl at k1
  split at k1
  · cases k1
    have r1' : Rep K G1 x (.bl b) := r1
    cases r1'
    exact ⟨_, rfl, fin G1 H1 x1 g1⟩
  · cases k1
theorem st_cmp {X : Cx} {op : CmpOp} {a b : Expr} {pos : Pos} {r : R2} {g : D → D → Option Val} {fa fb : M Val} (ho : OpR X (compareOp op) r) (hr : ROK X.K r g) (ha : PE X a (tEv X.K fa)) (hb : PE X b (tEv X.K fb)) (hm : behindInMarks op b = false) :
    PT X (.Compare a [op] [b] pos) (tTv X.K (cmpT (binC g fa fb))) := PT_mono (pt_cmpR ho ha hb hm) fun _ _ _ h => tbin hr (cmp_fin h)
/-- a op b op' c -/
def chnC (g g' : D → D → Option Val) (fa fb fc : M Val) : M Val :=
  bnd fa fun va => bnd fb fun vb => bnd (der (opd va)) fun da => bnd (der (opd vb)) fun db => bnd (opt (g da db)) fun z => bnd (asBl z) fun k =>
    if k = true then bnd fc fun vc => bnd (der (opd vb)) fun db' => bnd (der vc) fun dc => opt (g' db' dc) else ret (.sh (.bl false))
theorem tchn {K : PySem.W.Frag} {r r' : R2} {g g' : D → D → Option Val} {fa fb fc : M Val} (hr : ROK K r g) (hr' : ROK K r' g') {σ : L2.St} {H : Hp} {Q : VK} (h : tEv K (chnC g g' fa fb fc) σ H Q) :
    tChain r r' (tEv K fa) (tEv K fb) (tEv K fc) σ H Q := by
  obtain ⟨pn, e, G, R, val, e', he, g0, fin⟩ := h
  obtain ⟨va, e1, h1, k1⟩ := bnd_ok he
  obtain ⟨vb, e2, h2, k2⟩ := bnd_ok k1
  obtain ⟨da, e3, h3, k3⟩ := bnd_ok k2
  obtain ⟨q3, z3⟩ := der_ok h3
  simp only at q3 z3
  subst z3
  obtain ⟨db, e4, h4, k4⟩ := bnd_ok k3
  obtain ⟨q4, z4⟩ := der_ok h4
  simp only at q4 z4
  subst z4
  obtain ⟨z, e5, h5, k5⟩ := bnd_ok k4
  obtain ⟨q5, z5⟩ := opt_ok h5
  simp only at q5 z5
  subst z5
  obtain ⟨k, e6, h6, k6⟩ := bnd_ok k5
  refine ⟨pn, e, G, R, va, e1, h1, g0, fun x G1 H1 x1 g1 r1 => ?_⟩
  obtain ⟨G1', x1', g1', r1'⟩ := g1.pend r1
  refine ⟨pn, e1, G1', R, vb, _, h2, g1', fun y G2 H2 x2 g2 r2 => ?_⟩
  obtain ⟨G2', x2', g2', r2'⟩ := g2.pend r2
  refine hr pn _ σ G2' R H2 x y da db z g2' (RelG.rdLater r1' (x2.trans x2') g2' q3) (RelG.rdLater r2' (Ex.refl _) g2' q4) q5 _ fun zv G3 H3 x3 g3 r3 => ?_
  unfold asBl at h6
  split at h6
  · cases h6
    have r3' : Rep K G3 zv (.bl _) := r3
    cases r3'
    refine ⟨_, rfl, ?_⟩
    cases k with
    | false =>
      rw [if_neg Bool.false_ne_true] at k6 ⊢
      cases k6
      exact fin _ G3 H3 ((((x1.trans x1').trans x2).trans x2').trans x3) g3 (.bl _)
    | true =>
      rw [if_pos rfl] at k6 ⊢
      obtain ⟨vc, e7, h7, k7⟩ := bnd_ok k6
      obtain ⟨db', e8, h8, k8⟩ := bnd_ok k7
      obtain ⟨q8, z8⟩ := der_ok h8
      simp only at q8 z8
      subst z8
      obtain ⟨dc, e9, h9, k9⟩ := bnd_ok k8
      obtain ⟨q9, z9⟩ := der_ok h9
      simp only at q9 z9
      subst z9
      obtain ⟨q10, z10⟩ := opt_ok k9
      simp only at q10 z10
      subst z10
      refine ⟨pn, _, G3, R, vc, _, h7, g3, fun w G4 H4 x4 g4 r4 => ?_⟩
      exact hr' pn _ σ G4 R H4 y w db' dc val g4 (RelG.rdLater r2' (x3.trans x4) g4 q8) (g4.rd r4 q9) q10 Q (fin.ext (((((x1.trans x1').trans x2).trans x2').trans x3).trans x4))
  · cases h6
end Pv
namespace Pv
open PySem L2
open Evl (Ex)

/-! ### argument lists -/
def argsC : List (M Val) → M (List Val)
  | [] => ret []
  | f :: r => bnd f fun v => bnd (argsC r) fun vs => ret (opd v :: vs)
/-- a value that waits -/
def PnV (K : PySem.W.Frag) (G : Hp) (σ : L2.St) (v : V) : Val → Prop
  | .sh d => Rep K G v d
  | .ow i => σ[i]? = some (some v)
  | .fr _ => False
theorem PnV.of {K : PySem.W.Frag} {G R H : Hp} {e : En} {σ : L2.St} {v : V} {val : Val} (h : RepVal K G R H e σ v (opd val)) : PnV K G σ v (opd val) := by
  cases val with
  | sh d => exact h
  | fr d => exact h
  | ow i => exact h.1
theorem PnV.mono {K : PySem.W.Frag} {G G' : Hp} {σ : L2.St} {v : V} {val : Val} (x : Ex G G') (h : PnV K G σ v val) : PnV K G' σ v val := by
  cases val with
  | sh d => exact Rep.mono x h
  | fr d => exact h
  | ow i => exact h
theorem PnV.rd {K : PySem.W.Frag} {pn : Pn} {G R H : Hp} {e : En} {σ : L2.St} {v : V} {val : Val} {d : D} (h : PnV K G σ v val) (g : RelG K pn e σ G R H) (q : derE e val = some d) : RdV K G H v d := by
  cases val with
  | sh d' => cases q; exact RdV.of g.gh h
  | fr d' => exact h.elim
  | ow i =>
    unfold derE at q
    cases z : e[i]? with
    | none => simp only [z] at q; cases q
    | some s =>
      simp only [z] at q
      cases s with
      | em => cases q
      | sh d' => cases q
      | ow b d' =>
        cases q
        obtain ⟨p, h3, _, _, h4⟩ := g.own z
        have h' : σ[i]? = some (some v) := h
        rw [h'] at h3
        cases h3
        exact h4.rdv
abbrev PnVs (K : PySem.W.Frag) (G : Hp) (σ : L2.St) : List V → List Val → Prop := Paired (PnV K G σ)
theorem PnVs.mono {K : PySem.W.Frag} {G G' : Hp} {σ : L2.St} (x : Ex G G') : ∀ {vs : List V} {vals : List Val}, PnVs K G σ vs vals → PnVs K G' σ vs vals
  | _, _, .nil => .nil
  | _, _, .cons h r => .cons (PnV.mono x h) (PnVs.mono x r)
def FinA (K : PySem.W.Frag) (pn : Pn) (e : En) (σ : L2.St) (G R : Hp) (vals : List Val) (Q : List V → Hp → Prop) : Prop :=
  ∀ vs G' H', Ex G G' → RelG K pn e σ G' R H' → PnVs K G' σ vs vals → Q vs H'
def tAv (K : PySem.W.Frag) (f : M (List Val)) : TA := fun σ H Q => ∃ pn e G R vals e', f e = .ok (vals, e') ∧ RelG K pn e σ G R H ∧ FinA K pn e' σ G R vals Q
def notStar : Expr → Bool
  | .Starred _ _ => false
  | _ => true
theorem star_cons {e : Expr} {es : List Expr} {env : Env} (h : notStar e = true) : starEach (e :: es) env = (false, eval e env) :: starEach es env := by
  cases e <;> first | rfl | cases h
theorem star_plain {env : Env} {pos : Pos} : ∀ {es : List Expr}, es.all notStar = true → (backTo pos (starEach es env)).any (·.1) = false
  | [], _ => rfl
  | e :: es, h => by
    rw [List.all_cons, Bool.and_eq_true] at h
    rw [star_cons h.1]
    show (false || (backTo pos (starEach es env)).any (·.1)) = false
    rw [star_plain h.2]
    rfl
section
variable {X : Cx}
theorem sa_args : ∀ (es : List Expr) (fs : List (M Val)), es.all notStar = true → Paired (fun a f => PE X a (tEv X.K f)) es fs → PA X es (tAv X.K (argsC fs))
  | _, _, _, .nil => PA_mono pa_nil fun σ H Q h => by
    obtain ⟨pn, e, G, R, vals, e', he, g, fin⟩ := h
    cases he
    exact fin [] G H (Ex.refl G) g .nil
  | a :: es, f :: fs, hn, .cons h hr => by
    rw [List.all_cons, Bool.and_eq_true] at hn
    refine PA_mono (pa_cons h (sa_args es fs hn.2 hr) (star_cons hn.1)) fun σ H Q q => ?_
    obtain ⟨pn, e, G, R, vals, e', he, g, fin⟩ := q
    obtain ⟨v, e1, h1, k1⟩ := bnd_ok he
    obtain ⟨vs, e2, h2, k2⟩ := bnd_ok k1
    cases k2
    refine ⟨pn, e, G, R, v, e1, h1, g, fun x G1 H1 x1 g1 r1 => ?_⟩
    obtain ⟨G1', x1', g1', r1'⟩ := g1.pend r1
    refine ⟨pn, e1, G1', R, vs, e', h2, g1', fun ws G2 H2 x2 g2 r2 => ?_⟩
    exact fin (x :: ws) G2 H2 ((x1.trans x1').trans x2) g2 (.cons ((PnV.of r1').mono x2) r2)
end
/-- all are shared -/
def shrAll : List Val → M (List D)
  | [] => ret []
  | v :: r => bnd (shr v) fun d => bnd (shrAll r) fun ds => ret (d :: ds)
section
variable {K : PySem.W.Frag} {pn : Pn} {e e' : En} {σ : L2.St} {G R H : Hp}
theorem RelG.shr {v : V} {val : Val} {d : D} (g : RelG K pn e σ G R H) (r : PnV K G σ v val) (h : shr val e = .ok (d, e')) : ∃ G', Ex G G' ∧ RelG K pn e' σ G' R H ∧ Rep K G' v d := by
  cases val with
  | sh d' => cases h; exact ⟨G, Ex.refl G, g, r⟩
  | fr d' => exact r.elim
  | ow i =>
    unfold Pv.shr at h
    dsimp only at h
    split at h
    · rename_i d' z
      cases h
      exact g.frz z r
    · cases h
theorem RelG.shrAll : ∀ {vals : List Val} {vs : List V} {e e' : En} {G : Hp} {ds : List D}, RelG K pn e σ G R H → PnVs K G σ vs vals → shrAll vals e = .ok (ds, e') → ∃ G', Ex G G' ∧ RelG K pn e' σ G' R H ∧ RepL K G' vs ds
  | _, _, e, e', G, ds, g, .nil, h => by cases h; exact ⟨G, Ex.refl G, g, .nil⟩
  | _, _, e, e', G, ds, g, .cons r rr, h => by
    obtain ⟨d, e1, h1, k1⟩ := bnd_ok h
    obtain ⟨ds', e2, h2, k2⟩ := bnd_ok k1
    cases k2
    obtain ⟨G1, x1, g1, r1⟩ := g.shr r h1
    obtain ⟨G2, x2, g2, r2⟩ := RelG.shrAll g1 (PnVs.mono x1 rr) h2
    exact ⟨G2, x1.trans x2, g2, .cons (r1.mono x2) r2⟩
end
def tupC (fs : List (M Val)) : M Val := bnd (argsC fs) fun vs => bnd (shrAll vs) fun ds => if ds.length ≤ lenLim then ret (.sh (.tup ds)) else fail
def lstC (fs : List (M Val)) : M Val := bnd (argsC fs) fun vs => bnd (shrAll vs) fun ds => if ds.length ≤ lenLim then ret (.fr (.lst ds)) else fail
section
variable {X : Cx} {pos : Pos}
theorem se_tup {k : Nat} {es : List Expr} {fs : List (M Val)} (hn : es.all notStar = true) (h : Paired (fun a f => PE X a (tEv X.K f)) es fs) : PE X (.Tuple es k pos) (tEv X.K (tupC fs)) :=
  PE_mono (pe_tup (sa_args es fs hn h)) fun σ H Q q => by
    obtain ⟨pn, e, G, R, val, e', he, g, fin⟩ := q
    obtain ⟨vs, e1, h1, k1⟩ := bnd_ok he
    obtain ⟨ds, e2, h2, k2⟩ := bnd_ok k1
    split at k2
    · rename_i hl
      cases k2
      refine ⟨pn, e, G, R, vs, e1, h1, g, fun ws G1 H1 x1 g1 r1 => ?_⟩
      obtain ⟨G2, x2, g2, r2⟩ := g1.shrAll r1 h2
      exact ⟨by rw [r2.length, ← lim_eq]; exact hl, (fin.ext (x1.trans x2)).newT g2 r2⟩
    · cases k2
theorem se_lst {es : List Expr} {fs : List (M Val)} (hn : es.all notStar = true) (h : Paired (fun a f => PE X a (tEv X.K f)) es fs) : PE X (.List es pos) (tEv X.K (lstC fs)) :=
  PE_mono (pe_lst (sa_args es fs hn h)) fun σ H Q q => by
    obtain ⟨pn, e, G, R, val, e', he, g, fin⟩ := q
    obtain ⟨vs, e1, h1, k1⟩ := bnd_ok he
    obtain ⟨ds, e2, h2, k2⟩ := bnd_ok k1
    split at k2
    · rename_i hl
      cases k2
      refine ⟨pn, e, G, R, vs, e1, h1, g, fun ws G1 H1 x1 g1 r1 => ?_⟩
      obtain ⟨G2, x2, g2, r2⟩ := g1.shrAll r1 h2
      exact ⟨by rw [r2.length, ← lim_eq]; exact hl, (fin.ext (x1.trans x2)).newF g2 r2⟩
    · cases k2
/-! ### subscripts -/
theorem atI_rep {K : PySem.W.Frag} {G : Hp} {vs : List V} {ds : List D} {i : Int} {d : D} (r : RepL K G vs ds) (h : atI ds i = some d) : ∃ v, atI vs i = some v ∧ Rep K G v d := by
  unfold atI at h ⊢
  rw [r.length]
  cases q : ixN ds.length i with
  | none => rw [q] at h; cases h
  | some j =>
    rw [q] at h
    exact r.get h
theorem ok_ix {K : PySem.W.Frag} : ROK K (rIx K) fun a b => (ixD a b).map Val.sh := by
  intro pn e σ G R H x y dx dy val g rx ry h Q f
  have h0 : (ixD dx dy).map Val.sh = some val := h
  clear h
  obtain ⟨d, h, rfl⟩ := Option.map_eq_some_iff.mp h0
  clear h0
  unfold ixD at h
  split at h
  · cases ry
    obtain ⟨p, xs, rfl, hp, ra⟩ := rx
    obtain ⟨v, h1, h2⟩ := atI_rep ra h
    exact .inl ⟨p, xs, _, v, rfl, rfl, SqL.of hp, h1, f.sc g h2⟩
  · cases ry
    have rx' : Rep K G x (.tup _) := rx
    cases rx' with
    | tup hp ra =>
      obtain ⟨v, h1, h2⟩ := atI_rep ra h
      exact .inr (.inl ⟨_, _, _, v, rfl, rfl, Evl.ex_t g.gh hp, h1, f.sc g h2⟩)
  · cases ry
    have rx' : Rep K G x (.scr _) := rx
    cases rx' with
    | scr hp =>
      obtain ⟨n, h1, rfl⟩ := Option.map_eq_some_iff.mp h
      refine .inl ⟨_, _, _, .int n, rfl, rfl, Evl.ex_l g.gh hp, ?_, f.sc g (.int n)⟩
      unfold atI at h1 ⊢
      rw [List.length_map]
      cases q : ixN _ _ with
      | none => rw [q] at h1; cases h1
      | some j =>
        rw [q] at h1
        have h1' : (_ : List Int)[j]? = some n := h1
        simp [h1']
  · split at h
    · cases ry
      have rx' : Rep K G x (.str _) := rx
      cases rx'
      obtain ⟨c, h1, rfl⟩ := Option.map_eq_some_iff.mp h
      exact .inr (.inr ⟨_, _, c, rfl, rfl, by rw [← lim_eq]; assumption, h1, f.sc g (.str _)⟩)
    · cases h
  · cases h
def ixC (fa fb : M Val) : M Val := binC (fun a b => (ixD a b).map Val.sh) fa fb
def notSlice : Expr → Bool
  | .Slice .. => false
  | _ => true
theorem plainIx_of {b : Expr} (h : notSlice b = true) : PlainIx b := by
  intro o i
  cases b <;> first | rfl | cases h
theorem se_ix {a b : Expr} {fa fb : M Val} (ha : PE X a (tEv X.K fa)) (hb : PE X b (tEv X.K fb)) (hs : notSlice b = true) : PE X (.Subscript a b pos) (tEv X.K (ixC fa fb)) :=
  PE_mono (pe_ix ix_seq ha hb (plainIx_of hs)) fun _ _ _ h => tbin ok_ix h
/-- a part of a slice: left out, or an int -/
def noC : M (Option Int) := ret none
def partC (f : M Val) : M (Option Int) := bnd f fun v => bnd (der v) fun d => match d with
  | .int i => ret (some i)
  | _ => fail
def tOv (K : PySem.W.Frag) (f : M (Option Int)) : TO := fun σ H Q => ∃ pn e G R o e', f e = .ok (o, e') ∧ RelG K pn e σ G R H ∧ ∀ G' H', Ex G G' → RelG K pn e' σ G' R H' → Q o H'
theorem PO_mono {e : Option Expr} {t t' : TO} (h : PO X e t) (m : ∀ σ H Q, t' σ H Q → t σ H Q) : PO X e t' := ⟨fun pins s σ H Q I q => h.run pins s σ H Q I (m σ H Q q)⟩
theorem so_no : PO X none (tOv X.K noC) := PO_mono po_none fun σ H Q q => by
  obtain ⟨pn, e, G, R, o, e', he, g, fin⟩ := q
  cases he
  exact fin G H (Ex.refl G) g
theorem so_part {a : Expr} {f : M Val} (ha : PE X a (tEv X.K f)) : PO X (some a) (tOv X.K (partC f)) := PO_mono (po_some ha) fun σ H Q q => by
  obtain ⟨pn, e, G, R, o, e', he, g, fin⟩ := q
  obtain ⟨v, e1, h1, k1⟩ := bnd_ok he
  obtain ⟨d, e2, h2, k2⟩ := bnd_ok k1
  obtain ⟨q2, z2⟩ := der_ok h2
  simp only at q2 z2
  subst z2
  refine ⟨pn, e, G, R, v, _, h1, g, fun x G1 H1 x1 g1 r1 => ?_⟩
  split at k2
  · cases k2
    have z : RdV X.K G1 H1 x (.int _) := g1.rd r1 q2
    cases z
    exact ⟨_, rfl, fin G1 H1 x1 g1⟩
  · cases k2
def sliC (fa : M Val) (lo hi : M (Option Int)) : M Val := bnd fa fun v => bnd lo fun l => bnd hi fun u => bnd (der (opd v)) fun d => opt (slD d l u)
def rSlA3 (K : PySem.W.Frag) : V → Option Int → Option Int → Hp → VK → Prop := fun x lo hi H Q => rSlL K x lo hi H Q ∨ rSlA K x lo hi H Q ∨ rSlS x lo hi H Q
theorem cut_rep {K : PySem.W.Frag} {G : Hp} {vs : List V} {ds : List D} (lo hi : Option Int) (r : RepL K G vs ds) : RepL K G (cutV vs lo hi) (cutD ds lo hi) := by
  unfold cutV cutD
  rw [r.length]
  exact (r.drop _).take _
theorem cut_all {α : Type} {l : List α} {lo hi : Option Int} (h : HT.sIx l.length 0 lo = 0 ∧ HT.sIx l.length l.length hi = l.length) : (l.drop (HT.sIx l.length 0 lo)).take (HT.sIx l.length l.length hi - HT.sIx l.length 0 lo) = l := by
  rw [h.1, h.2]
  simp
theorem se_sli {a : Expr} {lo hi : Option Expr} {fa : M Val} {fl fh : M (Option Int)} {p2 : Pos} (ha : PE X a (tEv X.K fa)) (hl : PO X lo (tOv X.K fl)) (hu : PO X hi (tOv X.K fh)) : PE X (.Subscript a (.Slice lo hi none p2) pos) (tEv X.K (sliC fa fl fh)) :=
  PE_mono (pe_slice (r := rSlA3 X.K) (sl_list.or (sl_tupA.or sl_str)) ha hl hu) fun σ H Q q => by
    obtain ⟨pn, e, G, R, val, e', he, g, fin⟩ := q
    obtain ⟨v, e1, h1, k1⟩ := bnd_ok he
    obtain ⟨l, e2, h2, k2⟩ := bnd_ok k1
    obtain ⟨u, e3, h3, k3⟩ := bnd_ok k2
    obtain ⟨d, e4, h4, k4⟩ := bnd_ok k3
    obtain ⟨q4, z4⟩ := der_ok h4
    simp only at q4 z4
    subst z4
    obtain ⟨q5, z5⟩ := opt_ok k4
    simp only at q5 z5
    subst z5
    refine ⟨pn, e, G, R, v, e1, h1, g, fun x G1 H1 x1 g1 r1 => ?_⟩
    obtain ⟨G1', x1', g1', r1'⟩ := g1.pend r1
    refine ⟨pn, e1, G1', R, l, e2, h2, g1', fun G2 H2 x2 g2 => ⟨pn, e2, G2, R, u, _, h3, g2, fun G3 H3 x3 g3 => ?_⟩⟩
    have rd := RelG.rdLater r1' (x2.trans x3) g3 q4
    have fin' := fin.ext (((x1.trans x1').trans x2).trans x3)
    cases d with
    | lst ds =>
      cases q5
      obtain ⟨p, xs, rfl, hp, ra⟩ := rd
      exact .inl ⟨p, xs, rfl, SqL.of hp, fin'.newF g3 (cut_rep l u ra)⟩
    | tup ds =>
      cases q5
      have rd' : Rep X.K G3 x (.tup ds) := rd
      cases rd' with
      | @tup p xs _ hp ra =>
        refine .inr (.inl ⟨p, xs, rfl, Evl.ex_t g3.gh hp, fun w => ?_, fun w => fin'.newT g3 (cut_rep l u ra)⟩)
        rw [ra.length] at w
        have e5 : cutD ds l u = ds := cut_all w
        rw [e5] at fin'
        exact fin'.sc g3 (.tup hp ra)
    | str z =>
      unfold slD at q5
      dsimp only at q5
      split at q5
      · cases q5
        cases rd
        exact .inr (.inr ⟨_, rfl, by rw [← lim_eq]; assumption, fin'.sc g3 (.str _)⟩)
      · cases q5
    | _ => cases q5
end
/-! ### calls of built-ins on data -/
def derAll : List Val → M (List D)
  | [] => ret []
  | v :: r => bnd (der v) fun d => bnd (derAll r) fun ds => ret (d :: ds)
abbrev RdVs (K : PySem.W.Frag) (G H : Hp) : List V → List D → Prop := Paired (RdV K G H)
theorem derAll_ok {K : PySem.W.Frag} {pn : Pn} {σ : L2.St} {G R H : Hp} {e : En} : ∀ {vals : List Val} {vs : List V} {e' : En} {ds : List D}, RelG K pn e σ G R H → PnVs K G σ vs vals → derAll vals e = .ok (ds, e') → e' = e ∧ RdVs K G H vs ds
  | _, _, e', ds, g, .nil, h => by cases h; exact ⟨rfl, .nil⟩
  | _, _, e', ds, g, .cons r rr, h => by
    obtain ⟨d, e1, h1, k1⟩ := bnd_ok h
    obtain ⟨q1, z1⟩ := der_ok h1
    simp only at q1 z1
    subst z1
    obtain ⟨ds', e2, h2, k2⟩ := bnd_ok k1
    cases k2
    obtain ⟨z2, r2⟩ := derAll_ok g rr h2
    exact ⟨z2, .cons (r.rd g q1) r2⟩
def callC (g : List D → Option Val) (fs : List (M Val)) : M Val := bnd (argsC fs) fun vs => bnd (derAll vs) fun ds => opt (g ds)
/-- a rule does what g says of data -/
def COK (K : PySem.W.Frag) (r : List V → Hp → VK → Prop) (g : List D → Option Val) : Prop :=
  ∀ (pn : Pn) (e : En) (σ : L2.St) (G R H : Hp) (xs : List V) (ds : List D) (val : Val), RelG K pn e σ G R H → RdVs K G H xs ds → g ds = some val → ∀ Q : VK, Fin K pn e σ G R val Q → r xs H Q
theorem tcall {K : PySem.W.Frag} {r : List V → Hp → VK → Prop} {g : List D → Option Val} {fs : List (M Val)} (hr : COK K r g) {σ : L2.St} {H : Hp} {Q : VK} (h : tEv K (callC g fs) σ H Q) : tCB r (tAv K (argsC fs)) σ H Q := by
  obtain ⟨pn, e, G, R, val, e', he, g0, fin⟩ := h
  obtain ⟨vs, e1, h1, k1⟩ := bnd_ok he
  obtain ⟨ds, e2, h2, k2⟩ := bnd_ok k1
  obtain ⟨q3, z3⟩ := opt_ok k2
  simp only at q3 z3
  subst z3
  refine ⟨pn, e, G, R, vs, e1, h1, g0, fun ws G1 H1 x1 g1 r1 => ?_⟩
  obtain ⟨z2, r2⟩ := derAll_ok g1 r1 h2
  subst z2
  exact hr pn _ σ G1 R H1 ws ds val g1 r2 q3 Q (fin.ext x1)
section
variable {X : Cx} {pos p : Pos} {x : Str} {id T : String} {r : List V → Hp → VK → Prop} {g : List D → Option Val} {a : Expr} {es : List Expr} {fs : List (M Val)}
theorem se_callB (hc : CallR X (.builtin id) r) (hr : COK X.K r g) (hg : Gl X x) (hm : X.mg x = none) (hv : bootBuiltins x = some (.builtin id)) (hn : x ≠ "__name__") (hdb : (x == ("__debug__" : Str)) = false) (hs : (a :: es).all notStar = true)
    (h : Paired (fun a f => PE X a (tEv X.K f)) (a :: es) fs) : PE X (.Call (.Name x p) (a :: es) [] pos) (tEv X.K (callC g fs)) := by
  have hs' := hs
  rw [List.all_cons, Bool.and_eq_true] at hs'
  exact PE_mono (pe_callB hc hg hm hv (sa_args _ fs hs h) hn hdb (star_cons hs'.1) (star_plain hs'.2)) fun _ _ _ q => tcall hr q
theorem se_callTy (hc : CallR X (.type T) r) (hr : COK X.K r g) (hg : Gl X x) (hm : X.mg x = none) (hv : bootBuiltins x = some (.type T)) (hn : x ≠ "__name__") (hdb : (x == ("__debug__" : Str)) = false) (hs : (a :: es).all notStar = true)
    (h : Paired (fun a f => PE X a (tEv X.K f)) (a :: es) fs) : PE X (.Call (.Name x p) (a :: es) [] pos) (tEv X.K (callC g fs)) := by
  have hs' := hs
  rw [List.all_cons, Bool.and_eq_true] at hs'
  exact PE_mono (pe_callTy hc hg hm hv (sa_args _ fs hs h) hn hdb (star_cons hs'.1) (star_plain hs'.2)) fun _ _ _ q => tcall hr q
end
end Pv
namespace Pv
open PySem L2
open Evl (Ex)

/-! ### built-ins -/
def lenB : List D → Option Val
  | [.lst l] => some (.sh (.int l.length))
  | [.tup l] => some (.sh (.int l.length))
  | [.scr l] => some (.sh (.int l.length))
  | [.str z] => if z.length ≤ lenLim then some (.sh (.int z.length)) else none
  | _ => none
def absB : List D → Option Val
  | [.int i] => some (.sh (.int (if i < 0 then -i else i)))
  | _ => none
def maxB : List D → Option Val
  | [.int i, .int j] => some (.sh (.int (if j > i then j else i)))
  | _ => none
def minB : List D → Option Val
  | [.int i, .int j] => some (.sh (.int (if j < i then j else i)))
  | _ => none
def intB : List D → Option Val
  | [.int i] => some (.sh (.int i))
  | [.bl k] => some (.sh (.int (if k then 1 else 0)))
  | _ => none
def bls : List D → Option (List Bool)
  | [] => some []
  | .bl b :: r => (bls r).map (b :: ·)
  | _ => none
def intsOf : List D → Option (List Int)
  | [] => some []
  | .int b :: r => (intsOf r).map (b :: ·)
  | _ => none
def strsOf : List D → Option (List Str)
  | [] => some []
  | .str b :: r => (strsOf r).map (b :: ·)
  | _ => none
def allB : List D → Option Val
  | [.lst l] => (bls l).map fun bs => .sh (.bl (bs.all id))
  | _ => none
def anyB : List D → Option Val
  | [.lst l] => (bls l).map fun bs => .sh (.bl (bs.any id))
  | _ => none
def sumB : List D → Option Val
  | [.lst l] => (intsOf l).map fun bs => .sh (.int bs.sum)
  | _ => none
def listB : List D → Option Val
  | [.lst l] => some (.fr (.lst l))
  | [.tup l] => some (.fr (.lst l))
  | _ => none
def tupleB : List D → Option Val
  | [.lst l] => some (.sh (.tup l))
  | [.tup l] => some (.sh (.tup l))
  | _ => none
def reprD (d : D) : Option Str := if d.pl && (d.py.canLay0 && (d.py.showable && (decide (d.py.shown.length ≤ lenLim) && decide (d.py.depth ≤ 64)))) then some d.py.shown else none
def reprB : List D → Option Val
  | [d] => (reprD d).map fun x => .sh (.str x)
  | _ => none
def strB : List D → Option Val
  | [.str x] => some (.sh (.str x))
  | [.int i] => if i.natAbs.log2 < 1920 then some (.sh (.str (toString i))) else none
  | _ => none
section
variable {X : Cx} {K : PySem.W.Frag}
theorem rd1 {G H : Hp} {xs : List V} {d : D} (h : RdVs K G H xs [d]) : ∃ x, xs = [x] ∧ RdV K G H x d := by
  cases h with
  | cons a b => cases b; exact ⟨_, rfl, a⟩
theorem rd2 {G H : Hp} {xs : List V} {d d2 : D} (h : RdVs K G H xs [d, d2]) : ∃ x y, xs = [x, y] ∧ RdV K G H x d ∧ RdV K G H y d2 := by
  cases h with
  | cons a b =>
    cases b with
    | cons c e => cases e; exact ⟨_, _, rfl, a, c⟩
def rLenA (K : PySem.W.Frag) : List V → Hp → VK → Prop := fun xs H Q => ∃ x n, xs = [x] ∧ LenV K x H n ∧ Q (.int n) H
theorem ok_len : COK K (rLenA K) lenB := by
  intro pn e σ G R H xs ds val g r h Q f
  unfold lenB at h
  split at h
  · cases h
    obtain ⟨x, rfl, rx⟩ := rd1 r
    obtain ⟨p, ys, rfl, hp, ra⟩ := rx
    exact ⟨_, _, rfl, .inl ⟨ys, SqL.of hp, ra.length.symm⟩, f.sc g (.int _)⟩
  · cases h
    obtain ⟨x, rfl, rx⟩ := rd1 r
    have rx' : Rep K G x (.tup _) := rx
    cases rx' with
    | tup hp ra => exact ⟨_, _, rfl, .inr ⟨_, Evl.ex_t g.gh hp, ra.length.symm⟩, f.sc g (.int _)⟩
  · cases h
    obtain ⟨x, rfl, rx⟩ := rd1 r
    have rx' : Rep K G x (.scr _) := rx
    cases rx' with
    | scr hp => exact ⟨_, _, rfl, .inl ⟨_, Evl.ex_l g.gh hp, by rw [List.length_map]⟩, f.sc g (.int _)⟩
  · split at h
    · cases h
      obtain ⟨x, rfl, rx⟩ := rd1 r
      cases rx
      exact ⟨_, _, rfl, ⟨by rw [← lim_eq]; assumption, rfl⟩, f.sc g (.int _)⟩
    · cases h
  · cases h
theorem ok_abs : COK K (fun xs H Q => ∃ i, xs = [.int i] ∧ Q (.int (if i < 0 then -i else i)) H) absB := by
  intro pn e σ G R H xs ds val g r h Q f
  unfold absB at h
  split at h
  · cases h
    obtain ⟨x, rfl, rx⟩ := rd1 r
    cases rx
    exact ⟨_, rfl, f.sc g (.int _)⟩
  · cases h
theorem ok_max : COK K (fun xs H Q => ∃ i j, xs = [.int i, .int j] ∧ Q (.int (if j > i then j else i)) H) maxB := by
  intro pn e σ G R H xs ds val g r h Q f
  unfold maxB at h
  split at h
  · cases h
    obtain ⟨x, y, rfl, rx, ry⟩ := rd2 r
    cases rx; cases ry
    exact ⟨_, _, rfl, f.sc g (.int _)⟩
  · cases h
theorem ok_min : COK K (fun xs H Q => ∃ i j, xs = [.int i, .int j] ∧ Q (.int (if j < i then j else i)) H) minB := by
  intro pn e σ G R H xs ds val g r h Q f
  unfold minB at h
  split at h
  · cases h
    obtain ⟨x, y, rfl, rx, ry⟩ := rd2 r
    cases rx; cases ry
    exact ⟨_, _, rfl, f.sc g (.int _)⟩
  · cases h
theorem ok_int : COK K (fun xs H Q => (∃ i, xs = [.int i] ∧ Q (.int i) H) ∨ ∃ k, xs = [.bl k] ∧ Q (.int (if k then 1 else 0)) H) intB := by
  intro pn e σ G R H xs ds val g r h Q f
  unfold intB at h
  split at h
  · cases h
    obtain ⟨x, rfl, rx⟩ := rd1 r
    cases rx
    exact .inl ⟨_, rfl, f.sc g (.int _)⟩
  · cases h
    obtain ⟨x, rfl, rx⟩ := rd1 r
    cases rx
    exact .inr ⟨_, rfl, f.sc g (.int _)⟩
  · cases h
theorem bls_rep {G : Hp} : ∀ {l : List D} {bs : List Bool} {vs : List V}, bls l = some bs → RepL K G vs l → vs = bs.map V.bl
  | _, _, _, h, .nil => by cases h; rfl
  | d :: l, bs, v :: vs, h, .cons a b => by
    cases d with
    | bl c =>
      unfold bls at h
      obtain ⟨bs', h1, rfl⟩ := Option.map_eq_some_iff.mp h
      cases a
      rw [bls_rep h1 b]
      rfl
    | _ => cases h
theorem ints_rep {G : Hp} : ∀ {l : List D} {bs : List Int} {vs : List V}, intsOf l = some bs → RepL K G vs l → vs = bs.map V.int
  | _, _, _, h, .nil => by cases h; rfl
  | d :: l, bs, v :: vs, h, .cons a b => by
    cases d with
    | int c =>
      unfold intsOf at h
      obtain ⟨bs', h1, rfl⟩ := Option.map_eq_some_iff.mp h
      cases a
      rw [ints_rep h1 b]
      rfl
    | _ => cases h
theorem strs_rep {G : Hp} : ∀ {l : List D} {bs : List Str} {vs : List V}, strsOf l = some bs → RepL K G vs l → vs = bs.map V.str
  | _, _, _, h, .nil => by cases h; rfl
  | d :: l, bs, v :: vs, h, .cons a b => by
    cases d with
    | str c =>
      unfold strsOf at h
      obtain ⟨bs', h1, rfl⟩ := Option.map_eq_some_iff.mp h
      cases a
      rw [strs_rep h1 b]
      rfl
    | _ => cases h
theorem ok_all : COK K (rAll K) allB := by
  intro pn e σ G R H xs ds val g r h Q f
  unfold allB at h
  split at h
  · obtain ⟨bs, h1, rfl⟩ := Option.map_eq_some_iff.mp h
    obtain ⟨x, rfl, rx⟩ := rd1 r
    obtain ⟨p, ys, rfl, hp, ra⟩ := rx
    rw [bls_rep h1 ra] at hp
    exact ⟨p, bs, rfl, SqL.of hp, f.sc g (.bl _)⟩
  · cases h
theorem ok_any : COK K (rAny K) anyB := by
  intro pn e σ G R H xs ds val g r h Q f
  unfold anyB at h
  split at h
  · obtain ⟨bs, h1, rfl⟩ := Option.map_eq_some_iff.mp h
    obtain ⟨x, rfl, rx⟩ := rd1 r
    obtain ⟨p, ys, rfl, hp, ra⟩ := rx
    rw [bls_rep h1 ra] at hp
    exact ⟨p, bs, rfl, SqL.of hp, f.sc g (.bl _)⟩
  · cases h
theorem ok_sum : COK K (rSum K) sumB := by
  intro pn e σ G R H xs ds val g r h Q f
  unfold sumB at h
  split at h
  · obtain ⟨bs, h1, rfl⟩ := Option.map_eq_some_iff.mp h
    obtain ⟨x, rfl, rx⟩ := rd1 r
    obtain ⟨p, ys, rfl, hp, ra⟩ := rx
    rw [ints_rep h1 ra] at hp
    exact ⟨p, bs, rfl, SqL.of hp, f.sc g (.int _)⟩
  · cases h
theorem ok_list : COK K (fun xs H Q => ∃ p ys, xs = [.ref p] ∧ (SqL K H p ys ∨ SqT K H p ys) ∧ ∀ l, H l = none → Q (.ref l) (upd H l (.lst ys))) listB := by
  intro pn e σ G R H xs ds val g r h Q f
  unfold listB at h
  split at h
  · cases h
    obtain ⟨x, rfl, rx⟩ := rd1 r
    obtain ⟨p, ys, rfl, hp, ra⟩ := rx
    exact ⟨p, ys, rfl, .inl (SqL.of hp), f.newF g ra⟩
  · cases h
    obtain ⟨x, rfl, rx⟩ := rd1 r
    have rx' : Rep K G x (.tup _) := rx
    cases rx' with
    | tup hp ra => exact ⟨_, _, rfl, .inr (Evl.ex_t g.gh hp), f.newF g ra⟩
  · cases h
theorem ok_tuple : COK K (fun xs H Q => ∃ p ys, xs = [.ref p] ∧ ((SqL K H p ys ∧ ∀ l, H l = none → Q (.ref l) (upd H l (.tup ys))) ∨ (SqT K H p ys ∧ Q (.ref p) H))) tupleB := by
  intro pn e σ G R H xs ds val g r h Q f
  unfold tupleB at h
  split at h
  · cases h
    obtain ⟨x, rfl, rx⟩ := rd1 r
    obtain ⟨p, ys, rfl, hp, ra⟩ := rx
    exact ⟨p, ys, rfl, .inl ⟨SqL.of hp, f.newT g ra⟩⟩
  · cases h
    obtain ⟨x, rfl, rx⟩ := rd1 r
    have rx' : Rep K G x (.tup _) := rx
    cases rx' with
    | tup hp ra => exact ⟨_, _, rfl, .inr ⟨Evl.ex_t g.gh hp, f.sc g (.tup hp ra)⟩⟩
  · cases h
def rStr : List V → Hp → VK → Prop := fun xs H Q => (∃ a, xs = [.str a] ∧ Q (.str a) H) ∨ ∃ i, xs = [.int i] ∧ i.natAbs.log2 < 1920 ∧ Q (.str (toString i)) H
theorem call_strA : CallR X (.type "str") rStr := SkE.call_str_str.or call_str_int
theorem ok_str : COK K rStr strB := by
  intro pn e σ G R H xs ds val g r h Q f
  unfold strB at h
  split at h
  · cases h
    obtain ⟨x, rfl, rx⟩ := rd1 r
    cases rx
    exact .inl ⟨_, rfl, f.sc g (.str _)⟩
  · split at h
    · cases h
      obtain ⟨x, rfl, rx⟩ := rd1 r
      cases rx
      exact .inr ⟨_, rfl, by assumption, f.sc g (.str _)⟩
    · cases h
  · cases h
/-! ### repr -/
def rRepr (K : PySem.W.Frag) : List V → Hp → VK → Prop := fun xs H Q => ∃ x d, xs = [x] ∧ Dp K H x d ∧ d.canLay0 = true ∧ d.showable = true ∧ d.shown.length ≤ sizeLine ∧ d.depth ≤ 64 ∧ Q (.str d.shown) H
theorem call_reprA (hg : X.A.guards = some []) (hu : X.A.units + 200 < cLine) : CallR X (.builtin "repr") (rRepr X.K) := by
  intro pins s σ H xs us Q I r h
  obtain ⟨x, d, rfl, hd, hc, hs, hl, hz, q⟩ := h
  obtain ⟨u, rfl, ru⟩ := vals1 r
  cases hd with
  | non => cases ru; exact PySem.P.repr_of_none ⟨.str _, H, I.tok _, ⟨_, rfl⟩, q⟩
  | bl b =>
    cases ru
    refine PySem.P.repr_of_bool ⟨.str _, H, I.tok _, ⟨_, rfl⟩, ?_⟩
    cases b <;> exact q
  | int i =>
    obtain ⟨t, rfl⟩ := ru
    exact PySem.P.repr_of_int (of_decide_eq_true hs) ⟨.str _, H, I.tok _, ⟨_, rfl⟩, q⟩
  | str y =>
    obtain ⟨t, rfl⟩ := ru
    exact PySem.P.repr_of_str ⟨.str _, H, I.tok _, ⟨_, rfl⟩, q⟩ hl
  | lst a b =>
    obtain ⟨as, rd⟩ := Dp.reads I _ _ _ (.lst a b) ru
    cases ru
    exact PySem.repr_of_reads' rd hs (PyData.noDict_hsm (PyData.hasDict_of_canLay _ hc)) hg (by omega) (fun _ _ z => z) (fun h' u tk k => ⟨.str _, H, I.kept k, ⟨_, rfl⟩, q⟩) hl
  | tup a b =>
    obtain ⟨as, rd⟩ := Dp.reads I _ _ _ (.tup a b) ru
    cases ru
    exact PySem.repr_of_reads' rd hs (PyData.noDict_hsm (PyData.hasDict_of_canLay _ hc)) hg (by omega) (fun _ _ z => z) (fun h' u tk k => ⟨.str _, H, I.kept k, ⟨_, rfl⟩, q⟩) hl
theorem ok_repr : COK K (rRepr K) reprB := by
  intro pn e σ G R H xs ds val g r h Q f
  unfold reprB at h
  split at h
  · rename_i d
    obtain ⟨bs, h1, rfl⟩ := Option.map_eq_some_iff.mp h
    obtain ⟨x, rfl, rx⟩ := rd1 r
    unfold reprD at h1
    split at h1
    · rename_i c
      cases h1
      simp only [Bool.and_eq_true, decide_eq_true_eq] at c
      obtain ⟨c1, c2, c3, c4, c5⟩ := c
      exact ⟨x, _, rfl, Rep.dp' c1 c2 (rx.rep g.gh), c2, c3, by rw [← lim_eq]; exact c4, c5, f.sc g (.str _)⟩
    · cases h1
  · cases h
/-! ### isinstance -/
/-- the built-in type of data -/
def tyD : D → Option String
  | .non => some "NoneType" | .bl _ => some "bool" | .int _ => some "int" | .str _ => some "str"
  | .tup _ => some "tuple" | .lst _ => some "list" | .dct _ => some "dict" | .scr _ => none | .ins _ _ => none
def isiD (T : String) (d : D) : Option Bool := (tyD d).bind fun t => kitB t T
def isiC (T : String) (f : M Val) : M Val := bnd f fun v => bnd (der (opd v)) fun d => bnd (opt (isiD T d)) fun b => ret (.sh (.bl b))
theorem tyX_of {G H : Hp} {v : V} {d : D} {t : String} (x : Ex G H) (h : RdV K G H v d) (q : tyD d = some t) : TyX K H v (.type t) := by
  cases d with
  | non => cases q; cases h; exact .base .non
  | bl b => cases q; cases h; exact .base (.bl _)
  | int b => cases q; cases h; exact .base (.int _)
  | str b => cases q; cases h; exact .base (.str _)
  | lst b => cases q; obtain ⟨a, xs, rfl, h, _⟩ := h; exact .base (.lst h)
  | dct b => cases q; obtain ⟨a, xs, rfl, h, _⟩ := h; exact .base (.dK h)
  | tup b =>
    cases q
    have h' : Rep K G v (.tup b) := h
    cases h' with
    | tup hp ra =>
      rcases Evl.ex_t x hp with (hp | ⟨o, hp⟩) | ⟨o, its, n, k1, k2, _⟩
      · exact .base (.tup hp)
      · exact .fTuple hp
      · exact .kTuple k1 k2
  | _ => cases q
theorem se_isi {y : Str} {p p2 pos : Pos} {a : Expr} {f : M Val} {T : String} (ha : PE X a (tEv X.K f)) (hg : Gl X "isinstance") (hm : X.mg "isinstance" = none) (hy : Gl X y) (hmy : X.mg y = none) (hv : bootBuiltins y = some (.type T)) (hn : y ≠ "__name__") (hdb : (y == ("__debug__" : Str)) = false)
    (hs : notStar a = true) : PE X (.Call (.Name "isinstance" p) [a, .Name y p2] [] pos) (tEv X.K (isiC T f)) := by
  have hv0 : bootBuiltins ("isinstance" : Str) = some (.builtin "isinstance") := by decide +kernel
  refine PE_mono (pe_callB call_isi hg hm hv0 (pa_cons ha (pa_cons (pe_bltn (v := .ty T) hy hmy hv rfl hn hdb) pa_nil rfl) (star_cons hs)) (by decide +kernel) (by decide +kernel) (star_cons hs) rfl) fun σ H Q q => ?_
  obtain ⟨pn, e, G, R, val, e', he, g, fin⟩ := q
  obtain ⟨v, e1, h1, k1⟩ := bnd_ok he
  obtain ⟨d, e2, h2, k2⟩ := bnd_ok k1
  obtain ⟨q2, z2⟩ := der_ok h2
  simp only at q2 z2
  subst z2
  obtain ⟨b, e3, h3, k3⟩ := bnd_ok k2
  obtain ⟨q3, z3⟩ := opt_ok h3
  simp only at q3 z3
  subst z3
  cases k3
  refine ⟨pn, e, G, R, v, _, h1, g, fun x G1 H1 x1 g1 r1 => ?_⟩
  obtain ⟨G2, x2, g2, r2⟩ := g1.pend r1
  have rd := RelG.rdLater r2 (Ex.refl _) g2 q2
  unfold isiD at q3
  obtain ⟨t, q4, q5⟩ := Option.bind_eq_some_iff.mp q3
  exact ⟨x, .ty T, .type t, .type T, b, rfl, .ty T, tyX_of g2.gh rd q4, kit_ty q5, (fin.ext (x1.trans x2)).sc g2 (.bl _)⟩
end
end Pv
namespace Pv
open PySem L2
open Evl (Ex)

/-! ### what is walked, whatever it is: the list of what it yields -/
/-- J yields ds, over whatever G grows into -/
def ItOk (K : PySem.W.Frag) (J : It) (G : Hp) (ds : List D) : Prop :=
  ∀ (pn : Pn) (e : En) (σ : L2.St) (G1 R H1 : Hp) (i : Nat), Ex G G1 → RelG K pn e σ G1 R H1 → (i < ds.length → J.go i H1) ∧ (i = ds.length → J.stop i H1) ∧
    ∀ x H2 d, J.yld i H1 x H2 → ds[i]? = some d → ∃ G2, Ex G1 G2 ∧ RelG K pn e σ G2 R H2 ∧ Rep K G2 x d
def tIv (K : PySem.W.Frag) (f : M (List D)) : TI := fun σ H Rr => ∃ pn e G R ds e', f e = .ok (ds, e') ∧ RelG K pn e σ G R H ∧ ∀ J G' H', Ex G G' → RelG K pn e' σ G' R H' → ItOk K J G' ds → Rr J H'
section
variable {K : PySem.W.Frag} {G : Hp}
theorem it_list {a : Addr} {xs : List V} {ds : List D} (h : G a = some (.lst xs)) (r : RepL K G xs ds) : ItOk K (Itl K a) G ds := by
  intro pn e σ G1 R H1 i x g
  have hq : SqL K H1 a xs := SqL.of (g.gh _ _ (x _ _ h))
  refine ⟨fun hi => ?_, fun hi => ⟨xs, hq, by rw [r.length]; omega⟩, fun v H2 d hy hd => ?_⟩
  · have hi' : i < xs.length := by rw [r.length]; exact hi
    exact ⟨xs, xs[i], hq, by simp [hi']⟩
  · obtain ⟨rfl, hy⟩ := hy
    obtain ⟨w, hw, rw'⟩ := r.get hd
    have e2 := hy xs hq
    rw [hw] at e2
    cases e2
    exact ⟨G1, Ex.refl _, g, rw'.mono x⟩
theorem it_tup {a : Addr} {xs : List V} {ds : List D} (h : SqT K G a xs) (r : RepL K G xs ds) : ItOk K (Itt K a) G ds := by
  intro pn e σ G1 R H1 i x g
  have hq : SqT K H1 a xs := Evl.ex_t g.gh (Evl.ex_t x h)
  refine ⟨fun hi => ?_, fun hi => ⟨xs, hq, by rw [r.length]; omega⟩, fun v H2 d hy hd => ?_⟩
  · have hi' : i < xs.length := by rw [r.length]; exact hi
    exact ⟨xs, xs[i], hq, by simp [hi']⟩
  · obtain ⟨rfl, hy⟩ := hy
    obtain ⟨w, hw, rw'⟩ := r.get hd
    have e2 := hy xs hq
    rw [hw] at e2
    cases e2
    exact ⟨G1, Ex.refl _, g, rw'.mono x⟩
theorem it_scr {a : Addr} {ns : List Int} (h : SqL K G a (ns.map V.int)) : ItOk K (Itl K a) G (ns.map D.int) := by
  intro pn e σ G1 R H1 i x g
  have hq : SqL K H1 a (ns.map V.int) := Evl.ex_l g.gh (Evl.ex_l x h)
  refine ⟨fun hi => ?_, fun hi => ⟨_, hq, by rw [List.length_map] at hi ⊢; omega⟩, fun v H2 d hy hd => ?_⟩
  · have hi' : i < ns.length := by simpa using hi
    exact ⟨_, .int ns[i], hq, by simp [hi']⟩
  · obtain ⟨rfl, hy⟩ := hy
    have e2 := hy _ hq
    rw [List.getElem?_map] at hd e2
    cases z : ns[i]? with
    | none => rw [z] at hd; cases hd
    | some n =>
      rw [z] at hd e2
      cases hd
      cases e2
      exact ⟨G1, Ex.refl _, g, .int n⟩
theorem it_str {x : Str} : ItOk K (Its x) G (x.cps.toList.map fun c => D.str ⟨#[c]⟩) := by
  intro pn e σ G1 R H1 i x1 g
  refine ⟨fun hi => ?_, fun hi => ?_, fun v H2 d hy hd => ?_⟩
  · have hi' : i < x.cps.size := by simpa using hi
    exact hi'
  · show x.cps.size ≤ i
    simp at hi
    omega
  · obtain ⟨rfl, c, hc, rfl⟩ := hy
    rw [List.getElem?_map, Array.getElem?_toList, hc] at hd
    cases hd
    exact ⟨G1, Ex.refl _, g, .str _⟩
/-- lo, lo + 1, .. -/
def rngD (lo : Int) (n : Nat) : List D := (List.range n).map fun i => .int (lo + (i : Nat))
theorem it_rng {lo : Int} {n : Nat} : ItOk K (Itr lo n) G (rngD lo n) := by
  intro pn e σ G1 R H1 i x1 g
  refine ⟨fun hi => ?_, fun hi => ?_, fun v H2 d hy hd => ?_⟩
  · have hi' : i < n := by simpa [rngD] using hi
    exact hi'
  · show n ≤ i
    simp [rngD] at hi
    omega
  · obtain ⟨rfl, rfl⟩ := hy
    have hi : i < n := by
      have := (List.getElem?_eq_some_iff.mp hd).1
      simpa [rngD] using this
    unfold rngD at hd
    rw [List.getElem?_map, List.getElem?_range hi] at hd
    cases hd
    exact ⟨G1, Ex.refl _, g, .int _⟩
end
/-- walked as it is: a list, a tuple, a text, the script -/
def itemsD : D → Option (List D)
  | .lst l => some l
  | .tup l => some l
  | .scr l => some (l.map .int)
  | .str z => some (z.cps.toList.map fun c => .str ⟨#[c]⟩)
  | _ => none
def iterC (f : M Val) : M (List D) := bnd f fun v => bnd (shr v) fun d => opt (itemsD d)
section
variable {X : Cx} {tg a : Expr}
theorem PI_or {t t' : TI} (h : PI X tg a t) (h' : PI X tg a t') : PI X tg a (fun σ H R => t σ H R ∨ t' σ H R) := ⟨fun pins s σ H R I q => q.elim (h.run pins s σ H R I) (h'.run pins s σ H R I)⟩
theorem RelG.shrV {K : PySem.W.Frag} {pn : Pn} {e e' : En} {σ : L2.St} {G R H : Hp} {v : V} {val : Val} {d : D} (g : RelG K pn e σ G R H) (r : RepVal K G R H e σ v val) (h : Pv.shr val e = .ok (d, e')) : ∃ G', Ex G G' ∧ RelG K pn e' σ G' R H ∧ Rep K G' v d := by
  cases val with
  | sh d' => cases h; exact ⟨G, Ex.refl G, g, r⟩
  | fr d' => cases h; exact g.share r
  | ow i => exact g.shr (val := .ow i) r.1 h
theorem si_iter {f : M Val} (ha : PE X a (tEv X.K f)) : PI X tg a (tIv X.K (iterC f)) :=
  PI_mono (PI_or (pi_list ha) (PI_or (pi_tup ha) (pi_str ha))) fun σ H Rr q => by
    obtain ⟨pn, e, G, R, ds, e', he, g, fin⟩ := q
    obtain ⟨v, e1, h1, k1⟩ := bnd_ok he
    obtain ⟨d, e2, h2, k2⟩ := bnd_ok k1
    obtain ⟨q3, z3⟩ := opt_ok k2
    simp only at q3 z3
    subst z3
    cases d with
    | lst l =>
      cases q3
      refine .inl ⟨pn, e, G, R, v, e1, h1, g, fun x G1 H1 x1 g1 r1 => ?_⟩
      obtain ⟨G2, x2, g2, r2⟩ := g1.shrV r1 h2
      cases r2 with
      | lst hp ra => exact ⟨_, rfl, ⟨_, SqL.of (g2.gh _ _ hp)⟩, fin _ G2 H1 (x1.trans x2) g2 (it_list hp ra)⟩
    | scr l =>
      cases q3
      refine .inl ⟨pn, e, G, R, v, e1, h1, g, fun x G1 H1 x1 g1 r1 => ?_⟩
      obtain ⟨G2, x2, g2, r2⟩ := g1.shrV r1 h2
      cases r2 with
      | scr hp => exact ⟨_, rfl, ⟨_, Evl.ex_l g2.gh hp⟩, fin _ G2 H1 (x1.trans x2) g2 (it_scr hp)⟩
    | tup l =>
      cases q3
      refine .inr (.inl ⟨pn, e, G, R, v, e1, h1, g, fun x G1 H1 x1 g1 r1 => ?_⟩)
      obtain ⟨G2, x2, g2, r2⟩ := g1.shrV r1 h2
      cases r2 with
      | tup hp ra => exact ⟨_, rfl, ⟨_, Evl.ex_t g2.gh hp⟩, fin _ G2 H1 (x1.trans x2) g2 (it_tup hp ra)⟩
    | str l =>
      cases q3
      refine .inr (.inr ⟨pn, e, G, R, v, e1, h1, g, fun x G1 H1 x1 g1 r1 => ?_⟩)
      obtain ⟨G2, x2, g2, r2⟩ := g1.shrV r1 h2
      cases r2
      exact ⟨_, rfl, fin _ G2 H1 (x1.trans x2) g2 it_str⟩
    | _ => cases q3
/-! ### range -/
def rng1B : List D → Option (List D)
  | [.int j] => if -(2 ^ 62) ≤ j ∧ j < 2 ^ 62 then some (rngD 0 j.toNat) else none
  | _ => none
def rng2B : List D → Option (List D)
  | [.int i, .int j] => if -(2 ^ 62) ≤ i ∧ i < 2 ^ 62 ∧ -(2 ^ 62) ≤ j ∧ j < 2 ^ 62 then some (rngD i (j - i).toNat) else none
  | _ => none
def rngC (g : List D → Option (List D)) (fs : List (M Val)) : M (List D) := bnd (argsC fs) fun vs => bnd (derAll vs) fun ds => opt (g ds)
theorem si_rng1 {x : Expr} {f : M Val} {p pos : Pos} (hg : Gl X "range") (hm : X.mg "range" = none) (hn : notStar x = true) (ha : PE X x (tEv X.K f)) : PI X tg (.Call (.Name "range" p) [x] [] pos) (tIv X.K (rngC rng1B [f])) :=
  PI_mono (pi_range1 hg hm (sa_args [x] [f] (by simp [hn]) (.cons ha .nil)) (star_cons hn)) fun σ H Rr q => by
    obtain ⟨pn, e, G, R, ds, e', he, g, fin⟩ := q
    obtain ⟨vs, e1, h1, k1⟩ := bnd_ok he
    obtain ⟨es, e2, h2, k2⟩ := bnd_ok k1
    obtain ⟨q3, z3⟩ := opt_ok k2
    simp only at q3 z3
    subst z3
    refine ⟨pn, e, G, R, vs, e1, h1, g, fun ws G1 H1 x1 g1 r1 => ?_⟩
    obtain ⟨z2, r2⟩ := derAll_ok g1 r1 h2
    subst z2
    unfold rng1B at q3
    split at q3
    · split at q3
      · rename_i c
        cases q3
        obtain ⟨x, rfl, rx⟩ := rd1 r2
        cases rx
        exact ⟨_, rfl, c.1, c.2, fin _ G1 H1 x1 g1 it_rng⟩
      · cases q3
    · cases q3
theorem si_rng2 {x y : Expr} {f f2 : M Val} {p pos : Pos} (hg : Gl X "range") (hm : X.mg "range" = none) (hn : notStar x = true) (hn2 : notStar y = true) (ha : PE X x (tEv X.K f)) (hb : PE X y (tEv X.K f2)) :
    PI X tg (.Call (.Name "range" p) [x, y] [] pos) (tIv X.K (rngC rng2B [f, f2])) :=
  PI_mono (pi_range2 hg hm (sa_args [x, y] [f, f2] (by simp [hn, hn2]) (.cons ha (.cons hb .nil))) (by rw [star_cons hn, star_cons hn2]; rfl) (star_cons hn2)) fun σ H Rr q => by
    obtain ⟨pn, e, G, R, ds, e', he, g, fin⟩ := q
    obtain ⟨vs, e1, h1, k1⟩ := bnd_ok he
    obtain ⟨es, e2, h2, k2⟩ := bnd_ok k1
    obtain ⟨q3, z3⟩ := opt_ok k2
    simp only at q3 z3
    subst z3
    refine ⟨pn, e, G, R, vs, e1, h1, g, fun ws G1 H1 x1 g1 r1 => ?_⟩
    obtain ⟨z2, r2⟩ := derAll_ok g1 r1 h2
    subst z2
    unfold rng2B at q3
    split at q3
    · split at q3
      · rename_i c
        cases q3
        obtain ⟨x, y, rfl, rx, ry⟩ := rd2 r2
        cases rx
        cases ry
        exact ⟨_, _, rfl, c, fin _ G1 H1 x1 g1 it_rng⟩
      · cases q3
    · cases q3
end
end Pv
namespace Pv
open PySem L2
open Evl (Ex)

/-! ### enumerate, zip over lists and tuples in any mix -/
/-- a list (false) or a tuple (true) at a -/
def SqK (K : PySem.W.Frag) (t : Bool) (H : Hp) (a : Addr) (xs : List V) : Prop := if t then SqT K H a xs else SqL K H a xs
def IsK (t : Bool) (h : Heap) (a : Addr) (its : Array Value) : Prop := if t then h.IsTuple a its else h.IsList a its
def ItK (t : Bool) (h : Heap) (it a : Addr) (i : Nat) : Prop := if t then h.IsTupleIter it a i else h.IsListIter it a i
def obK (t : Bool) (a : Addr) : Obj := if t then { cls := .type "tuple_iterator", data := .fields #[.ref a, .int 0 0] } else { cls := .type "list_iterator", data := .fields #[.ref a, .int 0 0] }
theorem SqK.ex {K : PySem.W.Frag} {t : Bool} {H H' : Hp} {a : Addr} {xs : List V} (x : Ex H H') (h : SqK K t H a xs) : SqK K t H' a xs := by
  cases t
  · exact Evl.ex_l x h
  · exact Evl.ex_t x h
section
variable {X : Cx} {pins : List (Addr × Obj)} {σ : L2.St} {H : Hp} {s : Shared} {a : Addr} {xs : List V}
theorem inv_sq {t : Bool} (I : Inv X pins σ H s) (h : SqK X.K t H a xs) : ∃ its : List Value, Vals xs its ∧ IsK t s.heap a its.toArray ∧ xs.length ≤ sizeLine ∧ a < s.heap.objs.size := by
  cases t
  · obtain ⟨its, rv, p, hz⟩ := I.list h
    exact ⟨its, rv, p.isList, hz, p.lt⟩
  · obtain ⟨its, rv, p, hz⟩ := I.tuple h
    exact ⟨its, rv, p, hz, p.lt⟩
theorem inv_inj {t : Bool} {ys : List V} (I : Inv X pins σ H s) (h : SqK X.K t H a xs) (h' : SqK X.K t H a ys) : xs = ys := by
  cases t
  · exact I.list_inj h h'
  · exact I.tuple_inj h h'
end
theorem ItK.obj {t : Bool} {h : Heap} {it a : Addr} {i : Nat} (x : ItK t h it a i) : ∃ o, h.get? it = some o ∧ ∀ v, o.data ≠ .cell v := by
  cases t
  · obtain ⟨o, ho, hc, hd⟩ := x
    exact ⟨o, ho, fun v q => by rw [hd] at q; cases q⟩
  · obtain ⟨o, ho, hc, hd⟩ := x
    exact ⟨o, ho, fun v q => by rw [hd] at q; cases q⟩
theorem ItK.at {t : Bool} {h h' : Heap} {it a : Addr} {i : Nat} (x : ItK t h it a i) (k : ∀ o, h.get? it = some o → h'.get? it = some o) : ItK t h' it a i := by
  cases t
  · exact Heap.IsListIter.at x k
  · exact Heap.IsTupleIter.at x k
theorem drawsK {prog : Program} {w : World} {A : Around} (t : Bool) (hh : A.handled = none) (it l : Addr) (hne : l ≠ it) (items : Array Value) :
    Draws prog w A it [it, l] items.size (fun i v => items[i]? = some v) (fun i h => ItK t h it l i ∧ IsK t h l items) := by
  cases t
  · exact .list hh it l hne items
  · exact .tuple hh it l hne items
theorem beginsK (t : Bool) (l : Addr) (items : Array Value) : Begins (.ref l) (obK t l) fun h => IsK t h l items := by
  cases t
  · exact begins_list l items
  · exact begins_tuple l items
theorem obK_it {t : Bool} {h : Heap} {it a : Addr} (e : h.get? it = some (obK t a)) : ItK t h it a 0 := by
  cases t
  · exact ⟨_, e, rfl, rfl⟩
  · exact ⟨_, e, rfl, rfl⟩
/-- an iterator of new tuples -/
def Itn (yi : Nat → Hp → List V → Prop) (go stop : Nat → Hp → Prop) : It := ⟨go, fun i H v H' => ∃ T xs, v = .ref T ∧ H T = none ∧ H' = upd H T (.tup xs) ∧ yi i H xs, stop⟩
/-- enumerate -/
def yEn (K : PySem.W.Frag) (t : Bool) (a : Addr) (i : Nat) (H : Hp) (xs : List V) : Prop := ∃ x, (∀ ys, SqK K t H a ys → ys[i]? = some x) ∧ xs = [.int (i : Nat), x]
def JEn (K : PySem.W.Frag) (t : Bool) (a : Addr) : It := Itn (yEn K t a) (fun i H => ∃ ys x, SqK K t H a ys ∧ ys[i]? = some x) fun i H => ∃ ys : List V, SqK K t H a ys ∧ i = ys.length
theorem turn_enK {P : Program} {w : World} {K : PySem.W.Frag} {elts : List Expr} {kk : Nat} {tpos : Pos} (t : Bool) (a e it : Addr) :
    Turn P w K (.Tuple elts kk tpos) (JEn K t a) [e, it] e (fun i h => (∃ old, IsEnum h e it ((i : Nat) : Int) old) ∧ ItK t h it a i ∧ e ≠ it ∧ a ≠ it ∧ a ≠ e) where
  mem := by simp
  obj := fun i h st b hb => by
    obtain ⟨⟨old, he⟩, hi, _⟩ := st
    have e' : b = e ∨ b = it := by simpa using hb
    rcases e' with z | z
    · subst z; exact ⟨_, he, fun v q => nomatch q⟩
    · subst z; exact hi.obj
  keep := fun i h h' st k => let ⟨⟨old, he⟩, hi, hne⟩ := st; ⟨⟨old, k e (by simp) _ he⟩, hi.at fun o q => k it (by simp) o q, hne⟩
  item := by
    intro X hP hw hK hc i pins s σ H E I hf st hg
    subst hP hw hK
    obtain ⟨ys, x, hq, hx⟩ := hg
    obtain ⟨⟨old, he⟩, hi, hne, hne2, hne3⟩ := st
    obtain ⟨its, rv, p, hz, hlt⟩ := inv_sq I hq
    obtain ⟨u, hu, ru⟩ := rv.get hx
    have W := GoesN.enumFrom (prog := X.prog) (w := X.w) (A := X.A) (elts := elts) (x1 := kk) (pos := tpos) 0 (drawsK t (A := X.A.in1) (I.ok.hd hc) it a hne2 its.toArray) e hne (by simp; exact ⟨hne, Ne.symm hne3⟩) (by simp)
    have hlen : i < its.toArray.size := by
      have := (List.getElem?_eq_some_iff.mp hu).1
      simpa using this
    refine W.goes i s _ E hlen ⟨⟨old, by rw [Int.zero_add]; exact he⟩, hi, p⟩ fun v h' tk hY st' hk htk => ?_
    obtain ⟨T, t', x', rfl, hT, hx', hTup⟩ := hY
    obtain ⟨⟨old', he'⟩, hi', p'⟩ := st'
    have hxu : x' = u := by
      have : its[i]? = some x' := by simpa using hx'
      rw [hu] at this
      exact (Option.some.inj this).symm
    subst hxu
    have new : ObjOk X.prog X.w (upd H T (.tup [.int (i : Nat), x])) h' T (.tup [.int (i : Nat), x]) :=
      ⟨by show 2 ≤ sizeLine; decide, [.int (0 + (i : Int)) t', x'], .cons ⟨t', by rw [Int.zero_add]⟩ (.cons ru .nil), hTup⟩
    have I1 := I.turnedNew (t' := tk) (ch := [e, it]) hk hf hT new
    refine ⟨.ref T, _, I1, rfl, ⟨T, _, rfl, I.hok.fresh hT, rfl, x, fun ys' hy => by rw [inv_inj I hy hq]; exact hx, rfl⟩, ⟨⟨old', ?_⟩, hi', hne, hne2, hne3⟩, fun b hb => ?_⟩
    · rw [Int.zero_add] at he'; exact he'
    · have hb' : b < s.heap.objs.size := by
        have e' : b = e ∨ b = it := by simpa using hb
        rcases e' with z | z
        · rw [z]; exact Heap.lt_size he
        · rw [z]; obtain ⟨o, ho, _⟩ := hi.obj; exact Heap.lt_size ho
      rw [upd_ne (Nat.ne_of_lt (Nat.lt_of_lt_of_le hb' hT))]
      exact (hf b hb).1
  done := by
    intro X hP hw hK hc i pins s σ H E I hf st hg
    subst hP hw hK
    obtain ⟨ys, hq, hx⟩ := hg
    obtain ⟨⟨old, he⟩, hi, hne, hne2, hne3⟩ := st
    obtain ⟨its, rv, p, hz, hlt⟩ := inv_sq I hq
    have W := GoesN.enumFrom (prog := X.prog) (w := X.w) (A := X.A) (elts := elts) (x1 := kk) (pos := tpos) 0 (drawsK t (A := X.A.in1) (I.ok.hd hc) it a hne2 its.toArray) e hne (by simp; exact ⟨hne, Ne.symm hne3⟩) (by simp)
    have hn : i = its.toArray.size := by rw [hx, rv.length]; simp
    rw [hn] at he hi
    exact W.stops s _ E ⟨⟨old, by rw [Int.zero_add]; exact he⟩, hi, p⟩ fun h' tk hk htk => I.turnedL (ch := [e, it]) hk hf
  self := fun A i s Q E st h => let ⟨⟨_, he⟩, _⟩ := st; wpAny_pyIter_enum he h
/-- zip of two -/
def yZ2 (K : PySem.W.Frag) (t u : Bool) (a b : Addr) (i : Nat) (H : Hp) (zs : List V) : Prop := ∃ x y, (∀ xs, SqK K t H a xs → xs[i]? = some x) ∧ (∀ ys, SqK K u H b ys → ys[i]? = some y) ∧ zs = [x, y]
def JZ2 (K : PySem.W.Frag) (t u : Bool) (a b : Addr) : It := Itn (yZ2 K t u a b) (fun i H => ∃ xs ys x y, SqK K t H a xs ∧ SqK K u H b ys ∧ xs[i]? = some x ∧ ys[i]? = some y) fun i H => ∃ xs ys : List V, SqK K t H a xs ∧ SqK K u H b ys ∧ i = min xs.length ys.length
theorem turn_z2K {P : Program} {w : World} {K : PySem.W.Frag} {elts : List Expr} {kk : Nat} {tpos : Pos} (t u : Bool) (a b z TI TO i1 i2 : Addr) (S : ZipSep2 z TI TO i1 i2 [i1, a] [i2, b]) (ha : a ≠ i1) (hb : b ≠ i2) :
    Turn P w K (.Tuple elts kk tpos) (JZ2 K t u a b) [z, TI, TO, i1, i2] z (fun i h => IsZip h z TI TO .none ∧ IsTupOf2 h TI (.ref i1) (.ref i2) ∧ (∃ a1 a2, IsTupOf2 h TO a1 a2) ∧ ItK t h i1 a i ∧ ItK u h i2 b i) where
  mem := by simp
  obj := fun i h st c hc => by
    obtain ⟨hz, hTI, ⟨a1, a2, hTO⟩, h1, h2⟩ := st
    have e' : c = z ∨ c = TI ∨ c = TO ∨ c = i1 ∨ c = i2 := by simpa using hc
    rcases e' with q | q | q | q | q
    · subst q; exact ⟨_, hz, fun v q => nomatch q⟩
    · subst q; exact ⟨_, hTI, fun v q => nomatch q⟩
    · subst q; exact ⟨_, hTO, fun v q => nomatch q⟩
    · subst q; exact h1.obj
    · subst q; exact h2.obj
  keep := fun i h h' st k => by
    obtain ⟨hz, hTI, ⟨a1, a2, hTO⟩, h1, h2⟩ := st
    exact ⟨k z (by simp) _ hz, k TI (by simp) _ hTI, ⟨a1, a2, k TO (by simp) _ hTO⟩, h1.at fun o q => k i1 (by simp) o q, h2.at fun o q => k i2 (by simp) o q⟩
  item := by
    intro X hP hw hK hc i pins s σ H E I hf st hg
    subst hP hw hK
    obtain ⟨xs, ys, x, y, hqx, hqy, hx, hy⟩ := hg
    obtain ⟨hz, hTI, hTO, h1, h2⟩ := st
    obtain ⟨its, rv, p, _, _⟩ := inv_sq I hqx
    obtain ⟨its2, rv2, p2, _, _⟩ := inv_sq I hqy
    obtain ⟨v1, hv1, r1⟩ := rv.get hx
    obtain ⟨v2, hv2, r2⟩ := rv2.get hy
    have W := GoesN.zip2 (prog := X.prog) (w := X.w) (A := X.A) (elts := elts) (x1 := kk) (pos := tpos) S (drawsK t (A := X.A.in1) (I.ok.hd hc) i1 a ha its.toArray) (drawsK u (A := X.A.in1) (I.ok.hd hc) i2 b hb its2.toArray)
    have hl1 : i < its.toArray.size := by
      have := (List.getElem?_eq_some_iff.mp hv1).1
      simpa using this
    have hl2 : i < its2.toArray.size := by
      have := (List.getElem?_eq_some_iff.mp hv2).1
      simpa using this
    refine W.goes i s _ E (by omega) ⟨hz, hTI, hTO, ⟨h1, p⟩, h2, p2⟩ fun v h' tk hY st' hk htk => ?_
    obtain ⟨T, x', y', rfl, hT, hx', hy', hTup⟩ := hY
    obtain ⟨hz', hTI', hTO', ⟨h1', _⟩, h2', _⟩ := st'
    have e1 : x' = v1 := by
      have : its[i]? = some x' := by simpa using hx'
      rw [hv1] at this
      exact (Option.some.inj this).symm
    have e2 : y' = v2 := by
      have : its2[i]? = some y' := by simpa using hy'
      rw [hv2] at this
      exact (Option.some.inj this).symm
    subst e1 e2
    have new : ObjOk X.prog X.w (upd H T (.tup [x, y])) h' T (.tup [x, y]) := ⟨by show 2 ≤ sizeLine; decide, [x', y'], .cons r1 (.cons r2 .nil), hTup⟩
    have I1 := I.turnedNew (t' := tk) (ch := [z, TI, TO, i1, i2]) (fun c o hb q => hk c o (fun m => hb (by
      have e' : c = z ∨ c = TO ∨ c = i1 ∨ c = i2 := by simpa using m
      rcases e' with q | q | q | q <;> simp [q])) q) hf hT new
    refine ⟨.ref T, _, I1, rfl, ⟨T, _, rfl, I.hok.fresh hT, rfl, x, y, fun ys' h' => by rw [inv_inj I h' hqx]; exact hx, fun ys' h' => by rw [inv_inj I h' hqy]; exact hy, rfl⟩, ⟨hz', hTI', hTO', h1', h2'⟩, fun c hcm => ?_⟩
    have hc' : c < s.heap.objs.size := by
      have e' : c = z ∨ c = TI ∨ c = TO ∨ c = i1 ∨ c = i2 := by simpa using hcm
      rcases e' with q | q | q | q | q
      · rw [q]; exact Heap.lt_size hz
      · rw [q]; exact Heap.lt_size hTI
      · rw [q]; obtain ⟨_, _, e⟩ := hTO; exact Heap.lt_size e
      · rw [q]; obtain ⟨o, ho, _⟩ := h1.obj; exact Heap.lt_size ho
      · rw [q]; obtain ⟨o, ho, _⟩ := h2.obj; exact Heap.lt_size ho
    rw [upd_ne (Nat.ne_of_lt (Nat.lt_of_lt_of_le hc' hT))]
    exact (hf c hcm).1
  done := by
    intro X hP hw hK hc i pins s σ H E I hf st hg
    subst hP hw hK
    obtain ⟨xs, ys, hqx, hqy, hx⟩ := hg
    obtain ⟨hz, hTI, hTO, h1, h2⟩ := st
    obtain ⟨its, rv, p, _, _⟩ := inv_sq I hqx
    obtain ⟨its2, rv2, p2, _, _⟩ := inv_sq I hqy
    have W := GoesN.zip2 (prog := X.prog) (w := X.w) (A := X.A) (elts := elts) (x1 := kk) (pos := tpos) S (drawsK t (A := X.A.in1) (I.ok.hd hc) i1 a ha its.toArray) (drawsK u (A := X.A.in1) (I.ok.hd hc) i2 b hb its2.toArray)
    have hn : i = min its.toArray.size its2.toArray.size := by rw [hx, rv.length, rv2.length]; simp
    rw [hn] at h1 h2
    exact W.stops s _ E ⟨hz, hTI, hTO, ⟨h1, p⟩, h2, p2⟩ fun h' tk hk htk => I.turnedL (ch := [z, TI, TO, i1, i2]) (fun c o hb q => hk c o (fun m => hb (by
      have e' : c = z ∨ c = TO ∨ c = i1 ∨ c = i2 := by simpa using m
      rcases e' with q | q | q | q <;> simp [q])) q) hf
  self := fun A i s Q E st h => wpAny_pyIter_zip st.1 h
/-- zip of three -/
def yZ3 (K : PySem.W.Frag) (t u v : Bool) (a b c : Addr) (i : Nat) (H : Hp) (ws : List V) : Prop := ∃ x y z, (∀ xs, SqK K t H a xs → xs[i]? = some x) ∧ (∀ ys, SqK K u H b ys → ys[i]? = some y) ∧ (∀ zs, SqK K v H c zs → zs[i]? = some z) ∧ ws = [x, y, z]
def JZ3 (K : PySem.W.Frag) (t u v : Bool) (a b c : Addr) : It := Itn (yZ3 K t u v a b c) (fun i H => ∃ xs ys zs x y z, SqK K t H a xs ∧ SqK K u H b ys ∧ SqK K v H c zs ∧ xs[i]? = some x ∧ ys[i]? = some y ∧ zs[i]? = some z)
  fun i H => ∃ xs ys zs : List V, SqK K t H a xs ∧ SqK K u H b ys ∧ SqK K v H c zs ∧ i = min (min xs.length ys.length) zs.length
theorem turn_z3K {P : Program} {w : World} {K : PySem.W.Frag} {elts : List Expr} {kk : Nat} {tpos : Pos} (t u v : Bool) (a b c z TI TO i1 i2 i3 : Addr) (S : ZipSep3 z TI TO i1 i2 i3 [i1, a] [i2, b] [i3, c]) (ha : a ≠ i1) (hb : b ≠ i2) (hc3 : c ≠ i3) :
    Turn P w K (.Tuple elts kk tpos) (JZ3 K t u v a b c) [z, TI, TO, i1, i2, i3] z (fun i h => IsZip h z TI TO .none ∧ IsTupOf3 h TI (.ref i1) (.ref i2) (.ref i3) ∧ (∃ a1 a2 a3, IsTupOf3 h TO a1 a2 a3) ∧ ItK t h i1 a i ∧ ItK u h i2 b i ∧ ItK v h i3 c i) where
  mem := by simp
  obj := fun i h st d hd => by
    obtain ⟨hz, hTI, ⟨a1, a2, a3, hTO⟩, h1, h2, h3⟩ := st
    have e' : d = z ∨ d = TI ∨ d = TO ∨ d = i1 ∨ d = i2 ∨ d = i3 := by simpa using hd
    rcases e' with q | q | q | q | q | q
    · subst q; exact ⟨_, hz, fun v q => nomatch q⟩
    · subst q; exact ⟨_, hTI, fun v q => nomatch q⟩
    · subst q; exact ⟨_, hTO, fun v q => nomatch q⟩
    · subst q; exact h1.obj
    · subst q; exact h2.obj
    · subst q; exact h3.obj
  keep := fun i h h' st k => by
    obtain ⟨hz, hTI, ⟨a1, a2, a3, hTO⟩, h1, h2, h3⟩ := st
    exact ⟨k z (by simp) _ hz, k TI (by simp) _ hTI, ⟨a1, a2, a3, k TO (by simp) _ hTO⟩, h1.at fun o q => k i1 (by simp) o q, h2.at fun o q => k i2 (by simp) o q, h3.at fun o q => k i3 (by simp) o q⟩
  item := by
    intro X hP hw hK hc i pins s σ H E I hf st hg
    subst hP hw hK
    obtain ⟨xs, ys, zs, x, y, z3, hqx, hqy, hqz, hx, hy, hz3⟩ := hg
    obtain ⟨hz, hTI, hTO, h1, h2, h3⟩ := st
    obtain ⟨its, rv, p, _, _⟩ := inv_sq I hqx
    obtain ⟨its2, rv2, p2, _, _⟩ := inv_sq I hqy
    obtain ⟨its3, rv3, p3, _, _⟩ := inv_sq I hqz
    obtain ⟨v1, hv1, r1⟩ := rv.get hx
    obtain ⟨v2, hv2, r2⟩ := rv2.get hy
    obtain ⟨v3, hv3, r3⟩ := rv3.get hz3
    have W := GoesN.zip3 (prog := X.prog) (w := X.w) (A := X.A) (elts := elts) (x1 := kk) (pos := tpos) S (drawsK t (A := X.A.in1) (I.ok.hd hc) i1 a ha its.toArray) (drawsK u (A := X.A.in1) (I.ok.hd hc) i2 b hb its2.toArray) (drawsK v (A := X.A.in1) (I.ok.hd hc) i3 c hc3 its3.toArray)
    have hl1 : i < its.toArray.size := by
      have := (List.getElem?_eq_some_iff.mp hv1).1
      simpa using this
    have hl2 : i < its2.toArray.size := by
      have := (List.getElem?_eq_some_iff.mp hv2).1
      simpa using this
    have hl3 : i < its3.toArray.size := by
      have := (List.getElem?_eq_some_iff.mp hv3).1
      simpa using this
    refine W.goes i s _ E (by omega) ⟨hz, hTI, hTO, ⟨h1, p⟩, ⟨h2, p2⟩, h3, p3⟩ fun v h' tk hY st' hk htk => ?_
    obtain ⟨T, x', y', z', rfl, hT, hx', hy', hz', hTup⟩ := hY
    obtain ⟨hz2', hTI', hTO', ⟨h1', _⟩, ⟨h2', _⟩, h3', _⟩ := st'
    have e1 : x' = v1 := by
      have : its[i]? = some x' := by simpa using hx'
      rw [hv1] at this
      exact (Option.some.inj this).symm
    have e2 : y' = v2 := by
      have : its2[i]? = some y' := by simpa using hy'
      rw [hv2] at this
      exact (Option.some.inj this).symm
    have e3 : z' = v3 := by
      have : its3[i]? = some z' := by simpa using hz'
      rw [hv3] at this
      exact (Option.some.inj this).symm
    subst e1 e2 e3
    have new : ObjOk X.prog X.w (upd H T (.tup [x, y, z3])) h' T (.tup [x, y, z3]) := ⟨by show 3 ≤ sizeLine; decide, [x', y', z'], .cons r1 (.cons r2 (.cons r3 .nil)), hTup⟩
    have I1 := I.turnedNew (t' := tk) (ch := [z, TI, TO, i1, i2, i3]) (fun d o hb q => hk d o (fun m => hb (by
      have e' : d = z ∨ d = TO ∨ d = i1 ∨ d = i2 ∨ d = i3 := by simpa using m
      rcases e' with q | q | q | q | q <;> simp [q])) q) hf hT new
    refine ⟨.ref T, _, I1, rfl, ⟨T, _, rfl, I.hok.fresh hT, rfl, x, y, z3, fun ys' h' => by rw [inv_inj I h' hqx]; exact hx, fun ys' h' => by rw [inv_inj I h' hqy]; exact hy, fun ys' h' => by rw [inv_inj I h' hqz]; exact hz3, rfl⟩, ⟨hz2', hTI', hTO', h1', h2', h3'⟩, fun d hdm => ?_⟩
    have hc' : d < s.heap.objs.size := by
      have e' : d = z ∨ d = TI ∨ d = TO ∨ d = i1 ∨ d = i2 ∨ d = i3 := by simpa using hdm
      rcases e' with q | q | q | q | q | q
      · rw [q]; exact Heap.lt_size hz
      · rw [q]; exact Heap.lt_size hTI
      · rw [q]; obtain ⟨_, _, _, e⟩ := hTO; exact Heap.lt_size e
      · rw [q]; obtain ⟨o, ho, _⟩ := h1.obj; exact Heap.lt_size ho
      · rw [q]; obtain ⟨o, ho, _⟩ := h2.obj; exact Heap.lt_size ho
      · rw [q]; obtain ⟨o, ho, _⟩ := h3.obj; exact Heap.lt_size ho
    rw [upd_ne (Nat.ne_of_lt (Nat.lt_of_lt_of_le hc' hT))]
    exact (hf d hdm).1
  done := by
    intro X hP hw hK hc i pins s σ H E I hf st hg
    subst hP hw hK
    obtain ⟨xs, ys, zs, hqx, hqy, hqz, hx⟩ := hg
    obtain ⟨hz, hTI, hTO, h1, h2, h3⟩ := st
    obtain ⟨its, rv, p, _, _⟩ := inv_sq I hqx
    obtain ⟨its2, rv2, p2, _, _⟩ := inv_sq I hqy
    obtain ⟨its3, rv3, p3, _, _⟩ := inv_sq I hqz
    have W := GoesN.zip3 (prog := X.prog) (w := X.w) (A := X.A) (elts := elts) (x1 := kk) (pos := tpos) S (drawsK t (A := X.A.in1) (I.ok.hd hc) i1 a ha its.toArray) (drawsK u (A := X.A.in1) (I.ok.hd hc) i2 b hb its2.toArray) (drawsK v (A := X.A.in1) (I.ok.hd hc) i3 c hc3 its3.toArray)
    have hn : i = min (min its.toArray.size its2.toArray.size) its3.toArray.size := by rw [hx, rv.length, rv2.length, rv3.length]; simp
    rw [hn] at h1 h2 h3
    exact W.stops s _ E ⟨hz, hTI, hTO, ⟨h1, p⟩, ⟨h2, p2⟩, h3, p3⟩ fun h' tk hk htk => I.turnedL (ch := [z, TI, TO, i1, i2, i3]) (fun d o hb q => hk d o (fun m => hb (by
      have e' : d = z ∨ d = TO ∨ d = i1 ∨ d = i2 ∨ d = i3 := by simpa using m
      rcases e' with q | q | q | q | q <;> simp [q])) q) hf
  self := fun A i s Q E st h => wpAny_pyIter_zip st.1 h
end Pv
namespace Pv
open PySem L2
open Evl (Ex)

theorem fpNew {X : Cx} {pins : List (Addr × Obj)} {σ : L2.St} {H : Hp} {s : Shared} {h' : Heap} {l : List Addr} (I : Inv X pins σ H s) (h : ∀ b ∈ l, s.heap.objs.size ≤ b) : ∀ b ∈ l, FpOk X pins H b := fun b hb => I.fpOk (h b hb) (I.hok.fresh (h b hb))
def iEnK (K : PySem.W.Frag) (ta : TA) : TI := fun σ H R => ta σ H fun vs H1 => ∃ t a xs, vs = [.ref a] ∧ SqK K t H1 a xs ∧ R (JEn K t a) H1
def iZ2K (K : PySem.W.Frag) (ta : TA) : TI := fun σ H R => ta σ H fun vs H1 => ∃ t u a b xs ys, vs = [.ref a, .ref b] ∧ SqK K t H1 a xs ∧ SqK K u H1 b ys ∧ R (JZ2 K t u a b) H1
def iZ3K (K : PySem.W.Frag) (ta : TA) : TI := fun σ H R => ta σ H fun vs H1 => ∃ t u v a b c xs ys zs, vs = [.ref a, .ref b, .ref c] ∧ SqK K t H1 a xs ∧ SqK K u H1 b ys ∧ SqK K v H1 c zs ∧ R (JZ3 K t u v a b c) H1
/-- enumerate.__new__ over whatever begins -/
theorem enum_new1 {v : Value} {ob : Obj} {Hh : Heap → Prop} (B : Begins v ob Hh) :
    Meets (Builtin.«enumerate.__new__» ⟨[.type "enumerate", v], []⟩) (fun _ R z => Hh z.heap ∧
      R (.ok (.ret (.ref (z.heap.push ob).objs.size)))
        { z with heap := (z.heap.push ob).push { cls := .type "enumerate", data := .fields #[.none, .bool false, .ref z.heap.objs.size, rawInt 0, .none, .none] } }) :=
  .of_wp fun prog w A R z hyp => by
    obtain ⟨hp, gs, dr, tk, os⟩ := z
    obtain ⟨hB, hR⟩ := hyp
    have subE := sub_enumerate
    have itB : ∀ {A' : Around} {E' : Value → Shared → Prop} {Q' : Value → Shared → Prop}, Q' (.ref hp.objs.size) ⟨hp.push ob, gs, dr, tk, os⟩ → wpAny (model prog w) A' (pyIter v) Q' E' ⟨hp, gs, dr, tk, os⟩ :=
      fun q' => B.iter prog w _ _ ⟨hp, gs, dr, tk, os⟩ _ hB q'
    wp_walk using itB
    refine wpAny_stack_any fun _ => wpAny_pure ?_
    split
    · rename_i cl _ _ _ _ _
      cases (cl == Value.type "enumerate")
      all_goals
        wp_walk using itB
        exact ⟨_, rfl, hR⟩
    · wp_walk using itB
      exact ⟨_, rfl, hR⟩
theorem enum_beginsK {prog : Program} {w : World} {A : Around} {E : Value → Shared → Prop} {s : Shared} (t : Bool) {l : Addr} {its : Array Value} {Q : Value → Shared → Prop} (h1 : IsK t s.heap l its)
    (h : ∀ h', IsEnum h' (s.heap.objs.size + 1) s.heap.objs.size 0 .none → ItK t h' s.heap.objs.size l 0 → (∀ b o, s.heap.get? b = some o → h'.get? b = some o) → Q (.ref (s.heap.objs.size + 1)) { s with heap := h' }) :
    wpAny (model prog w) A (call (.type "enumerate") [.ref l]) Q E s := by
  have B := beginsK t l its
  refine callType_new F.called_enumerate (by decide) (F.typeCall_enumerate_1 _) (F.newCall_enumerate_1 _) (fun obj => F.args_object_init_2 obj _) F.entry_enumerate_new (enum_new1 B) ⟨h1, ?_⟩
  have sz : (s.heap.push (obK t l)).objs.size = s.heap.objs.size + 1 := Heap.size_push ..
  have he := Heap.get?_push_size (s.heap.push (obK t l)) (o := { cls := .type "enumerate", data := .fields #[.none, .bool false, .ref s.heap.objs.size, rawInt 0, .none, .none] }) rfl
  rw [sz] at he
  show _ ∧ _
  rw [sz]
  exact ⟨⟨_, he, rfl⟩, h _ he (obK_it (Heap.get?_push_of_some _ (Heap.get?_push_size _ B.free))) fun b o q => Heap.get?_push_of_some _ (Heap.get?_push_of_some _ q)⟩
section
variable {X : Cx}
theorem pi_z2K {e e2 : Expr} {ta : TA} {p pos tpos : Pos} {elts : List Expr} {kk : Nat} (hg : Gl X "zip") (hm : X.mg "zip" = none) (ha : PA X [e, e2] ta)
    (hs : starEach [e, e2] X.env = (false, eval e X.env) :: starEach [e2] X.env) (hpl : (backTo pos (starEach [e2] X.env)).any (·.1) = false) :
    PI X (.Tuple elts kk tpos) (.Call (.Name "zip" p) [e, e2] [] pos) (iZ2K X.K ta) := by
  refine ⟨fun pins s σ H R I h => ?_⟩
  refine PyProof.Rows.Call_ (ld_blt I hg hm PyProof.Rows.boot_zip (PyProof.Rows.callWith_type1 (thn (ha.run pos pins s σ H _ I h) fun us s1 ⟨vs, H1, I1, r1, q1⟩ => ?_) hs hpl))
  obtain ⟨t, u, a, b, xs, ys, ev, hqx, hqy, q⟩ := q1
  subst ev
  obtain ⟨u1, u2, rfl, z1, z2⟩ := vals2 r1
  cases z1
  cases z2
  obtain ⟨its, rv, p1, _, l1⟩ := inv_sq I1 hqx
  obtain ⟨its2, rv2, p2, _, l2⟩ := inv_sq I1 hqy
  refine zip_begins2 (beginsK t a its.toArray) (beginsK u b its2.toArray) p1 p2 fun h' hz hTI hTO g1 g2 hsz hk => wpAny_pyIter_zip hz ?_
  have I2 : Inv X pins σ H1 { s1 with heap := h' } := I1.kept (t' := s1.toks) hk
  have na : a ≠ s1.heap.objs.size := Nat.ne_of_lt l1
  have nb : b ≠ s1.heap.objs.size + 1 := Nat.ne_of_lt (Nat.lt_succ_of_lt l2)
  refine ⟨s1.heap.objs.size + 4, [s1.heap.objs.size + 4, s1.heap.objs.size + 2, s1.heap.objs.size + 3, s1.heap.objs.size, s1.heap.objs.size + 1], _, _, H1, rfl, I2,
    turn_z2K t u a b _ _ _ _ _ (zip_sep2 (N := s1.heap.objs.size) (fp1 := [a]) (fp2 := [b]) (by simpa using l1) (by simpa using l2)) na nb, ⟨hz, hTI, ⟨_, _, hTO⟩, obK_it g1, obK_it g2⟩, fpNew (h' := h') I1 ?_, q⟩
  intro c hc
  have e' : c = s1.heap.objs.size + 4 ∨ c = s1.heap.objs.size + 2 ∨ c = s1.heap.objs.size + 3 ∨ c = s1.heap.objs.size ∨ c = s1.heap.objs.size + 1 := by simpa using hc
  rcases e' with z | z | z | z | z <;> (rw [z]; first | exact Nat.le_add_right _ _ | exact Nat.le_refl _)
theorem pi_z3K {e e2 e3 : Expr} {ta : TA} {p pos tpos : Pos} {elts : List Expr} {kk : Nat} (hg : Gl X "zip") (hm : X.mg "zip" = none) (ha : PA X [e, e2, e3] ta)
    (hs : starEach [e, e2, e3] X.env = (false, eval e X.env) :: starEach [e2, e3] X.env) (hpl : (backTo pos (starEach [e2, e3] X.env)).any (·.1) = false) :
    PI X (.Tuple elts kk tpos) (.Call (.Name "zip" p) [e, e2, e3] [] pos) (iZ3K X.K ta) := by
  refine ⟨fun pins s σ H R I h => ?_⟩
  refine PyProof.Rows.Call_ (ld_blt I hg hm PyProof.Rows.boot_zip (PyProof.Rows.callWith_type1 (thn (ha.run pos pins s σ H _ I h) fun us s1 ⟨vs, H1, I1, r1, q1⟩ => ?_) hs hpl))
  obtain ⟨t, u, v, a, b, c, xs, ys, zs, ev, hqx, hqy, hqz, q⟩ := q1
  subst ev
  obtain ⟨u1, u2, u3, rfl, z1, z2, z3⟩ : ∃ u1 u2 u3, us = [u1, u2, u3] ∧ RelV (.ref a) u1 ∧ RelV (.ref b) u2 ∧ RelV (.ref c) u3 := by
    cases r1 with
    | cons x1 r =>
      cases r with
      | cons x2 r =>
        cases r with
        | cons x3 r => cases r; exact ⟨_, _, _, rfl, x1, x2, x3⟩
  cases z1
  cases z2
  cases z3
  obtain ⟨its, rv, p1, _, l1⟩ := inv_sq I1 hqx
  obtain ⟨its2, rv2, p2, _, l2⟩ := inv_sq I1 hqy
  obtain ⟨its3, rv3, p3, _, l3⟩ := inv_sq I1 hqz
  refine zip_begins3 (beginsK t a its.toArray) (beginsK u b its2.toArray) (beginsK v c its3.toArray) p1 p2 p3 fun h' hz hTI hTO g1 g2 g3 hsz hk => wpAny_pyIter_zip hz ?_
  have I2 : Inv X pins σ H1 { s1 with heap := h' } := I1.kept (t' := s1.toks) hk
  have na : a ≠ s1.heap.objs.size := Nat.ne_of_lt l1
  have nb : b ≠ s1.heap.objs.size + 1 := Nat.ne_of_lt (Nat.lt_succ_of_lt l2)
  have nc : c ≠ s1.heap.objs.size + 2 := Nat.ne_of_lt (Nat.lt_succ_of_lt (Nat.lt_succ_of_lt l3))
  refine ⟨s1.heap.objs.size + 5, [s1.heap.objs.size + 5, s1.heap.objs.size + 3, s1.heap.objs.size + 4, s1.heap.objs.size, s1.heap.objs.size + 1, s1.heap.objs.size + 2], _, _, H1, rfl, I2,
    turn_z3K t u v a b c _ _ _ _ _ _ (zip_sep3 (N := s1.heap.objs.size) (fp1 := [a]) (fp2 := [b]) (fp3 := [c]) (by simpa using l1) (by simpa using l2) (by simpa using l3)) na nb nc, ⟨hz, hTI, ⟨_, _, _, hTO⟩, obK_it g1, obK_it g2, obK_it g3⟩, fpNew (h' := h') I1 ?_, q⟩
  intro d hd
  have e' : d = s1.heap.objs.size + 5 ∨ d = s1.heap.objs.size + 3 ∨ d = s1.heap.objs.size + 4 ∨ d = s1.heap.objs.size ∨ d = s1.heap.objs.size + 1 ∨ d = s1.heap.objs.size + 2 := by simpa using hd
  rcases e' with z | z | z | z | z | z <;> (rw [z]; first | exact Nat.le_add_right _ _ | exact Nat.le_refl _)
theorem pi_enK {e : Expr} {ta : TA} {p pos tpos : Pos} {elts : List Expr} {kk : Nat} (hg : Gl X "enumerate") (hm : X.mg "enumerate" = none) (ha : PA X [e] ta) (hs : starEach [e] X.env = [(false, eval e X.env)]) :
    PI X (.Tuple elts kk tpos) (.Call (.Name "enumerate" p) [e] [] pos) (iEnK X.K ta) := by
  refine ⟨fun pins s σ H R I h => ?_⟩
  refine PyProof.Rows.Call_ (ld_blt I hg hm PyProof.Rows.boot_enumerate (PyProof.Rows.callWith_type1 (thn (ha.run pos pins s σ H _ I h) fun us s1 ⟨vs, H1, I1, r1, q1⟩ => ?_) hs rfl))
  obtain ⟨t, a, xs, ev, hq, q⟩ := q1
  subst ev
  obtain ⟨u, rfl, z⟩ := vals1 r1
  cases z
  obtain ⟨its, rv, p1, _, l1⟩ := inv_sq I1 hq
  refine enum_beginsK t p1 fun h' he hit hk => wpAny_pyIter_enum he ?_
  have I2 : Inv X pins σ H1 { s1 with heap := h' } := I1.kept (t' := s1.toks) hk
  refine ⟨s1.heap.objs.size + 1, [s1.heap.objs.size + 1, s1.heap.objs.size], _, _, H1, rfl, I2, turn_enK t a (s1.heap.objs.size + 1) s1.heap.objs.size, ⟨⟨.none, he⟩, hit, Nat.succ_ne_self _, Nat.ne_of_lt l1, Nat.ne_of_lt (Nat.lt_succ_of_lt l1)⟩, fpNew (h' := h') I1 ?_, q⟩
  intro b hb
  have e' : b = s1.heap.objs.size + 1 ∨ b = s1.heap.objs.size := by simpa using hb
  rcases e' with z | z <;> (rw [z]; first | exact Nat.le_add_right _ _ | exact Nat.le_refl _)
end
end Pv
namespace Pv
open PySem L2
open Evl (Ex)

def seqD : D → Option (List D)
  | .lst l => some l
  | .tup l => some l
  | .scr l => some (l.map .int)
  | _ => none
def isT : D → Bool
  | .tup _ => true
  | _ => false
theorem sq_of {K : PySem.W.Frag} {G : Hp} {v : V} {d : D} {l : List D} (h : seqD d = some l) (r : Rep K G v d) : ∃ a xs, v = .ref a ∧ SqK K (isT d) G a xs ∧ RepL K G xs l := by
  cases r with
  | lst hp ra => cases h; exact ⟨_, _, rfl, SqL.of hp, ra⟩
  | tup hp ra => cases h; exact ⟨_, _, rfl, hp, ra⟩
  | scr hp => cases h; exact ⟨_, _, rfl, hp, .ints _⟩
  | _ => cases h
def enL (l : List D) : List D := l.zipIdx.map fun p => .tup [.int (p.2 : Nat), p.1]
def z2L (l m : List D) : List D := List.zipWith (fun a b => .tup [a, b]) l m
def z3L (l m n : List D) : List D := List.zipWith (fun (p : D × D) c => .tup [p.1, p.2, c]) (l.zip m) n
section
variable {K : PySem.W.Frag} {G : Hp}
theorem new_tup {pn : Pn} {e : En} {σ : L2.St} {G1 R H1 : Hp} {T : Addr} {xs : List V} {ds : List D} (g : RelG K pn e σ G1 R H1) (hT : H1 T = none) (r : RepL K G1 xs ds) :
    ∃ G2, Ex G1 G2 ∧ RelG K pn e σ G2 R (upd H1 T (.tup xs)) ∧ Rep K G2 (.ref T) (.tup ds) := by
  obtain ⟨g2, x2⟩ := g.laid (o := .tup xs) hT
  exact ⟨_, x2, g2, .tup (SqT.of upd_same) (r.mono x2)⟩
/-- the walked thing is what it was: its items stand (by any state that bears it) -/
theorem it_en {t : Bool} {a : Addr} {xs : List V} {l : List D} (h : SqK K t G a xs) (r : RepL K G xs l) : ItOk K (JEn K t a) G (enL l) := by
  intro pn e σ G1 R H1 i x g
  have hq : SqK K t H1 a xs := (h.ex x).ex g.gh
  have hl : (enL l).length = l.length := by simp [enL]
  refine ⟨fun hi => ?_, fun hi => ⟨xs, hq, by rw [r.length]; omega⟩, fun v H2 d hy hd => ?_⟩
  · have hi' : i < xs.length := by rw [r.length]; omega
    exact ⟨xs, xs[i], hq, by simp [hi']⟩
  · obtain ⟨T, zs, rfl, hT, rfl, y, hys, rfl⟩ := hy
    have hyi := hys xs hq
    unfold enL at hd
    rw [List.getElem?_map] at hd
    cases z : l.zipIdx[i]? with
    | none => rw [z] at hd; cases hd
    | some p =>
      rw [z] at hd
      cases hd
      rw [List.getElem?_zipIdx] at z
      obtain ⟨d0, hd0, rfl⟩ := Option.map_eq_some_iff.mp z
      obtain ⟨w, hw, rw'⟩ := r.get hd0
      rw [hyi] at hw
      cases hw
      simp only [Nat.zero_add]
      exact new_tup g hT (.cons (.int _) (.cons (rw'.mono x) .nil))
theorem it_z2 {t s : Bool} {a b : Addr} {xs ys : List V} {l m : List D} 
    (h1 : SqK K t G a xs) (r1 : RepL K G xs l) (h2 : SqK K s G b ys) (r2 : RepL K G ys m) : ItOk K (JZ2 K t s a b) G (z2L l m) := by
  intro pn e σ G1 R H1 i x g
  have q1 : SqK K t H1 a xs := (h1.ex x).ex g.gh
  have q2 : SqK K s H1 b ys := (h2.ex x).ex g.gh
  have hl : (z2L l m).length = min l.length m.length := by simp [z2L]
  refine ⟨fun hi => ?_, fun hi => ⟨xs, ys, q1, q2, by rw [r1.length, r2.length]; omega⟩, fun v H2 d hy hd => ?_⟩
  · have i1 : i < xs.length := by rw [r1.length]; omega
    have i2 : i < ys.length := by rw [r2.length]; omega
    exact ⟨xs, ys, xs[i], ys[i], q1, q2, by simp [i1], by simp [i2]⟩
  · obtain ⟨T, zs, rfl, hT, rfl, x', y', a1, a2, rfl⟩ := hy
    have b1 := a1 xs q1
    have b2 := a2 ys q2
    unfold z2L at hd
    rw [List.getElem?_zipWith] at hd
    split at hd
    · rename_i da db c1 c2
      cases hd
      obtain ⟨w, hw, rw'⟩ := r1.get c1
      obtain ⟨w2, hw2, rw2'⟩ := r2.get c2
      rw [b1] at hw; rw [b2] at hw2
      cases hw; cases hw2
      exact new_tup g hT (.cons (rw'.mono x) (.cons (rw2'.mono x) .nil))
    · cases hd
theorem it_z3 {t s q : Bool} {a b c : Addr} {xs ys zs : List V} {l m n : List D} 
    (h1 : SqK K t G a xs) (r1 : RepL K G xs l) (h2 : SqK K s G b ys) (r2 : RepL K G ys m) (h3 : SqK K q G c zs) (r3 : RepL K G zs n) : ItOk K (JZ3 K t s q a b c) G (z3L l m n) := by
  intro pn e σ G1 R H1 i x g
  have q1 : SqK K t H1 a xs := (h1.ex x).ex g.gh
  have q2 : SqK K s H1 b ys := (h2.ex x).ex g.gh
  have q3 : SqK K q H1 c zs := (h3.ex x).ex g.gh
  have hl : (z3L l m n).length = min (min l.length m.length) n.length := by simp [z3L]
  refine ⟨fun hi => ?_, fun hi => ⟨xs, ys, zs, q1, q2, q3, by rw [r1.length, r2.length, r3.length]; omega⟩, fun v H2 d hy hd => ?_⟩
  · have i1 : i < xs.length := by rw [r1.length]; omega
    have i2 : i < ys.length := by rw [r2.length]; omega
    have i3 : i < zs.length := by rw [r3.length]; omega
    exact ⟨xs, ys, zs, xs[i], ys[i], zs[i], q1, q2, q3, by simp [i1], by simp [i2], by simp [i3]⟩
  · obtain ⟨T, ws, rfl, hT, rfl, x', y', z', a1, a2, a3, rfl⟩ := hy
    have b1 := a1 xs q1
    have b2 := a2 ys q2
    have b3 := a3 zs q3
    unfold z3L at hd
    rw [List.getElem?_zipWith] at hd
    split at hd
    · rename_i pp dc c1 c3
      cases hd
      rw [List.getElem?_zip_eq_some] at c1
      obtain ⟨w, hw, rw'⟩ := r1.get c1.1
      obtain ⟨w2, hw2, rw2'⟩ := r2.get c1.2
      obtain ⟨w3, hw3, rw3'⟩ := r3.get c3
      rw [b1] at hw; rw [b2] at hw2; rw [b3] at hw3
      cases hw; cases hw2; cases hw3
      exact new_tup g hT (.cons (rw'.mono x) (.cons (rw2'.mono x) (.cons (rw3'.mono x) .nil)))
    · cases hd
end
def enB : List D → Option (List D)
  | [d] => (seqD d).map enL
  | _ => none
def zpB : List D → Option (List D)
  | [a, b] => match seqD a, seqD b with
    | some l, some m => some (z2L l m)
    | _, _ => none
  | [a, b, c] => match seqD a, seqD b, seqD c with
    | some l, some m, some n => some (z3L l m n)
    | _, _, _ => none
  | _ => none
/-- the arguments are shared; what g makes of them is walked -/
def walkC (g : List D → Option (List D)) (fs : List (M Val)) : M (List D) := bnd (argsC fs) fun vs => bnd (shrAll vs) fun ds => opt (g ds)
section
variable {X : Cx} {p pos tpos : Pos} {elts : List Expr} {kk : Nat}
theorem si_en {x : Expr} {f : M Val} (hg : Gl X "enumerate") (hm : X.mg "enumerate" = none) (hn : notStar x = true) (ha : PE X x (tEv X.K f)) : PI X (.Tuple elts kk tpos) (.Call (.Name "enumerate" p) [x] [] pos) (tIv X.K (walkC enB [f])) :=
  PI_mono (pi_enK hg hm (sa_args [x] [f] (by simp [hn]) (.cons ha .nil)) (star_cons hn)) fun σ H Rr q => by
    obtain ⟨pn, e, G, R, ds, e', he, g, fin⟩ := q
    obtain ⟨vs, e1, h1, k1⟩ := bnd_ok he
    obtain ⟨es, e2, h2, k2⟩ := bnd_ok k1
    obtain ⟨q3, z3⟩ := opt_ok k2
    simp only at q3 z3
    subst z3
    refine ⟨pn, e, G, R, vs, e1, h1, g, fun ws G1 H1 x1 g1 r1 => ?_⟩
    obtain ⟨G2, x2, g2, r2⟩ := g1.shrAll r1 h2
    unfold enB at q3
    split at q3
    · obtain ⟨l, hl, rfl⟩ := Option.map_eq_some_iff.mp q3
      cases r2 with
      | cons rd rr =>
        cases rr
        obtain ⟨a, xs, rfl, hs, rl⟩ := sq_of hl rd
        exact ⟨_, a, xs, rfl, hs.ex g2.gh, fin _ G2 H1 (x1.trans x2) g2 (it_en hs rl)⟩
    · cases q3
theorem si_zp2 {x y : Expr} {f f2 : M Val} (hg : Gl X "zip") (hm : X.mg "zip" = none) (hn : notStar x = true) (hn2 : notStar y = true) (ha : PE X x (tEv X.K f)) (hb : PE X y (tEv X.K f2)) :
    PI X (.Tuple elts kk tpos) (.Call (.Name "zip" p) [x, y] [] pos) (tIv X.K (walkC zpB [f, f2])) :=
  PI_mono (pi_z2K hg hm (sa_args [x, y] [f, f2] (by simp [hn, hn2]) (.cons ha (.cons hb .nil))) (star_cons hn) (star_plain (by simp [hn2]))) fun σ H Rr q => by
    obtain ⟨pn, e, G, R, ds, e', he, g, fin⟩ := q
    obtain ⟨vs, e1, h1, k1⟩ := bnd_ok he
    obtain ⟨es, e2, h2, k2⟩ := bnd_ok k1
    obtain ⟨q3, z3⟩ := opt_ok k2
    simp only at q3 z3
    subst z3
    refine ⟨pn, e, G, R, vs, e1, h1, g, fun ws G1 H1 x1 g1 r1 => ?_⟩
    obtain ⟨G2, x2, g2, r2⟩ := g1.shrAll r1 h2
    have hlen : es.length = 2 := by
      have a := r2.length
      have b := r1.length
      obtain ⟨v1, e3, h3, k3⟩ := bnd_ok h1
      obtain ⟨vs1, e4, h4, k4⟩ := bnd_ok k3
      obtain ⟨v2, e5, h5, k5⟩ := bnd_ok h4
      obtain ⟨vs2, e6, h6, k6⟩ := bnd_ok k5
      cases h6; cases k6; cases k4
      rw [← a, b]; rfl
    unfold zpB at q3
    split at q3
    · split at q3
      · rename_i l m hl hm2
        cases q3
        cases r2 with
        | cons rd rr =>
          cases rr with
          | cons rd2 rr =>
            cases rr
            obtain ⟨a, xs, rfl, hs, rl⟩ := sq_of hl rd
            obtain ⟨b, ys, rfl, hs2, rl2⟩ := sq_of hm2 rd2
            exact ⟨_, _, a, b, xs, ys, rfl, hs.ex g2.gh, hs2.ex g2.gh, fin _ G2 H1 (x1.trans x2) g2 (it_z2 hs rl hs2 rl2)⟩
      · cases q3
    · simp at hlen
    · cases q3
theorem si_zp3 {x y z : Expr} {f f2 f3 : M Val} (hg : Gl X "zip") (hm : X.mg "zip" = none) (hn : notStar x = true) (hn2 : notStar y = true) (hn3 : notStar z = true) (ha : PE X x (tEv X.K f)) (hb : PE X y (tEv X.K f2)) (hc : PE X z (tEv X.K f3)) :
    PI X (.Tuple elts kk tpos) (.Call (.Name "zip" p) [x, y, z] [] pos) (tIv X.K (walkC zpB [f, f2, f3])) :=
  PI_mono (pi_z3K hg hm (sa_args [x, y, z] [f, f2, f3] (by simp [hn, hn2, hn3]) (.cons ha (.cons hb (.cons hc .nil)))) (star_cons hn) (star_plain (by simp [hn2, hn3]))) fun σ H Rr q => by
    obtain ⟨pn, e, G, R, ds, e', he, g, fin⟩ := q
    obtain ⟨vs, e1, h1, k1⟩ := bnd_ok he
    obtain ⟨es, e2, h2, k2⟩ := bnd_ok k1
    obtain ⟨q3, z3⟩ := opt_ok k2
    simp only at q3 z3
    subst z3
    refine ⟨pn, e, G, R, vs, e1, h1, g, fun ws G1 H1 x1 g1 r1 => ?_⟩
    obtain ⟨G2, x2, g2, r2⟩ := g1.shrAll r1 h2
    have hlen : es.length = 3 := by
      have a := r2.length
      have b := r1.length
      obtain ⟨v1, e3, h3, k3⟩ := bnd_ok h1
      obtain ⟨vs1, e4, h4, k4⟩ := bnd_ok k3
      obtain ⟨v2, e5, h5, k5⟩ := bnd_ok h4
      obtain ⟨vs2, e6, h6, k6⟩ := bnd_ok k5
      obtain ⟨v3, e7, h7, k7⟩ := bnd_ok h6
      obtain ⟨vs3, e8, h8, k8⟩ := bnd_ok k7
      cases h8; cases k8; cases k6; cases k4
      rw [← a, b]; rfl
    unfold zpB at q3
    split at q3
    · simp at hlen
    · split at q3
      · rename_i l m n hl hm2 hn2
        cases q3
        cases r2 with
        | cons rd rr =>
          cases rr with
          | cons rd2 rr =>
            cases rr with
            | cons rd3 rr =>
              cases rr
              obtain ⟨a, xs, rfl, hs, rl⟩ := sq_of hl rd
              obtain ⟨b, ys, rfl, hs2, rl2⟩ := sq_of hm2 rd2
              obtain ⟨c, zs, rfl, hs3, rl3⟩ := sq_of hn2 rd3
              exact ⟨_, _, _, a, b, c, xs, ys, zs, rfl, hs.ex g2.gh, hs2.ex g2.gh, hs3.ex g2.gh, fin _ G2 H1 (x1.trans x2) g2 (it_z3 hs rl hs2 rl2 hs3 rl3)⟩
      · cases q3
    · cases q3
end
end Pv
namespace Pv
open PySem L2
open Evl (Ex)

/-! ### slots are written -/
def setN (i : Nat) (s : Slot) : M Unit := fun e => match e[i]? with
  | some (.ow true _) => .err
  | some _ => .ok ((), e.set i s)
  | none => .err
def asgN (i : Nat) : Val → M Unit
  | .sh d => setN i (.sh d)
  | .fr d => setN i (.ow false d)
  | .ow j => bnd (shr (.ow j)) fun d => setN i (.sh d)
theorem setN_ok {i : Nat} {s : Slot} {e : En} {r : Unit × En} (h : setN i s e = .ok r) : i < e.length ∧ (∀ d : D, e[i]? ≠ some (.ow true d)) ∧ r.2 = e.set i s := by
  unfold setN at h
  cases q : e[i]? with
  | none => simp only [q] at h; cases h
  | some t =>
    have hi : i < e.length := (List.getElem?_eq_some_iff.mp q).1
    simp only [q] at h
    cases t with
    | em => cases h; exact ⟨hi, (fun d z => by cases z), rfl⟩
    | sh d => cases h; exact ⟨hi, (fun d z => by cases z), rfl⟩
    | ow b d => cases b with
      | true => cases h
      | false => cases h; exact ⟨hi, (fun d z => by cases z), rfl⟩
section
variable {K : PySem.W.Frag} {pn : Pn} {e e' : En} {σ : L2.St} {G G' R R' H H' : Hp} {v : V} {val : Val}
theorem set_ne {α : Type} {l : List α} {i j : Nat} {x : α} (h : j ≠ i) : (l.set i x)[j]? = l[j]? := List.getElem?_set_ne (Ne.symm h)
theorem RelG.put {i : Nat} {s : Slot} (g : RelG K pn e σ G R H) (hi : i < e.length) (hn : ∀ d : D, e[i]? ≠ some (.ow true d)) (hs : SlR K G R H s (some (some v)))
    (ho : ∀ (b : Bool) (d : D), s = .ow b d → ∀ p, v = .ref p → ¬ Owd e σ p) : RelG K pn (e.set i s) (σ.set i (some v)) G R H := by
  have hi2 : i < σ.length := by rw [← g.len]; exact hi
  refine ⟨g.gh, g.rh, g.dj, by simpa using g.len, fun j t q => ?_, fun j k b d b' d' hjk q1 q2 => ?_, fun q hq => ?_⟩
  · by_cases hj : j = i
    · subst hj
      rw [getElem?_setB hi] at q
      cases q
      rw [getElem?_setB hi2]
      exact hs
    · rw [set_ne hj] at q
      rw [set_ne hj]
      exact g.sl j t q
  · have key : ∀ (j k : Nat) (b : Bool) (d : D) (b' : Bool) (d' : D), j ≠ k → j = i → (e.set i s)[j]? = some (.ow b d) → (e.set i s)[k]? = some (.ow b' d') → (σ.set i (some v))[j]? ≠ (σ.set i (some v))[k]? := by
      intro j k b d b' d' hjk hj q1 q2 z
      subst hj
      rw [getElem?_setB hi] at q1
      cases q1
      have hk : k ≠ j := fun z => hjk z.symm
      rw [set_ne hk] at q2 z
      rw [getElem?_setB hi2] at z
      obtain ⟨p, a1, _⟩ := g.own q2
      rw [a1] at z
      cases z
      exact ho _ _ rfl p rfl ⟨k, b', d', q2, a1⟩
    by_cases hj : j = i
    · exact key j k b d b' d' hjk hj q1 q2
    · by_cases hk : k = i
      · exact fun z => key k j b' d' b d (Ne.symm hjk) hk q2 q1 z.symm
      · rw [set_ne hj] at q1 ⊢
        rw [set_ne hk] at q2 ⊢
        exact g.ap j k _ _ _ _ hjk q1 q2
  · obtain ⟨a, d, b⟩ := g.pin q hq
    have hne : q.1 ≠ i := fun z => by rw [z] at b; exact hn d b
    rw [set_ne hne, set_ne hne]
    exact ⟨a, d, b⟩
/-- an owned object's content is written -/
theorem RelG.updO {i : Nat} {b : Bool} {d d' : D} {p : Addr} {o : HO} (g : RelG K pn e σ G R H) (h : e[i]? = some (.ow b d)) (hv : σ[i]? = some (some (.ref p))) (ho : OwnR K G (upd H p o) p d') : RelG K pn (e.set i (.ow b d')) σ G R (upd H p o) := by
  obtain ⟨p', h1, h2, h3, h4⟩ := g.own h
  rw [hv] at h1
  cases h1
  have hi : i < e.length := (List.getElem?_eq_some_iff.mp h).1
  refine ⟨fun a u q => ?_, fun a u q => ?_, g.dj, by simpa using g.len, fun j t q => ?_, fun j k b1 d1 b2 d2 hjk q1 q2 => ?_, fun q hq => ?_⟩
  · rw [upd_ne (fun z => by rw [z, h2] at q; cases q)]; exact g.gh _ _ q
  · rw [upd_ne (fun z => by rw [z, h3] at q; cases q)]; exact g.rh _ _ q
  · by_cases hj : j = i
    · subst hj
      rw [getElem?_setB hi] at q
      cases q
      exact ⟨p, hv, h2, h3, ho⟩
    · rw [set_ne hj] at q
      have z := g.sl j t q
      cases t with
      | em => exact trivial
      | sh d => exact z
      | ow b2 d2 =>
        obtain ⟨p', a1, a2, a3, a4⟩ := z
        have hne : p' ≠ p := fun z => g.ap j i _ _ _ _ hj q h (by rw [a1, hv, z])
        exact ⟨p', a1, a2, a3, a4.at (upd_ne hne)⟩
  · have r : ∀ (j : Nat) (b1 : Bool) (d1 : D), (e.set i (.ow b d'))[j]? = some (.ow b1 d1) → ∃ (b2 : Bool) (d2 : D), e[j]? = some (.ow b2 d2) := fun j b1 d1 q => by
      by_cases hj : j = i
      · subst hj; exact ⟨_, _, h⟩
      · rw [set_ne hj] at q; exact ⟨_, _, q⟩
    obtain ⟨_, _, r1⟩ := r j _ _ q1
    obtain ⟨_, _, r2⟩ := r k _ _ q2
    exact g.ap j k _ _ _ _ hjk r1 r2
  · obtain ⟨a, d1, c⟩ := g.pin q hq
    refine ⟨a, ?_⟩
    by_cases hj : q.1 = i
    · rw [hj] at c ⊢
      rw [h] at c
      cases c
      exact ⟨d', getElem?_setB hi⟩
    · rw [set_ne hj]; exact ⟨d1, c⟩
/-- what is framed grows smaller -/
theorem RelG.weakR (g : RelG K pn e σ G R' H) (x : Ex R R') : RelG K pn e σ G R H where
  gh := g.gh
  rh := x.trans g.rh
  dj := fun a ha => g.dj a fun z => ha (by
    cases q : R a with
    | none => rfl
    | some o => rw [x _ _ q] at z; cases z)
  len := g.len
  sl := fun i s h => by
    have q := g.sl i s h
    cases s with
    | em => exact trivial
    | sh d => exact q
    | ow b d =>
      obtain ⟨p, h1, h2, h3, h4⟩ := q
      refine ⟨p, h1, h2, ?_, h4⟩
      cases q : R p with
      | none => rfl
      | some o => rw [x _ _ q] at h3; cases h3
  ap := g.ap
  pin := g.pin
theorem RepVal.weakR (r : RepVal K G R' H e σ v val) (x : Ex R R') : RepVal K G R H e σ v val := by
  cases val with
  | sh d => exact r
  | ow i => exact r
  | fr d =>
    obtain ⟨p, h1, h2, h3, h4⟩ := r
    refine ⟨p, h1, h2, ?_, h4⟩
    cases q : R p with
    | none => rfl
    | some o => rw [x _ _ q] at h3; cases h3
/-- an object of nobody's is framed -/
theorem RelG.addR {p : Addr} {o : HO} (g : RelG K pn e σ G R H) (h1 : G p = none) (h2 : H p = some o) (h3 : ¬ Owd e σ p) : RelG K pn e σ G (upd R p o) H where
  gh := g.gh
  rh := fun a u q => by
    by_cases ha : a = p
    · subst ha; rw [upd_same] at q; cases q; exact h2
    · rw [upd_ne ha] at q; exact g.rh _ _ q
  dj := fun a ha => by
    by_cases hp : a = p
    · rw [hp]; exact h1
    · rw [upd_ne hp] at ha; exact g.dj a ha
  len := g.len
  sl := fun i s h => by
    have q := g.sl i s h
    cases s with
    | em => exact trivial
    | sh d => exact q
    | ow b d =>
      obtain ⟨p', a1, a2, a3, a4⟩ := q
      refine ⟨p', a1, a2, ?_, a4⟩
      rw [upd_ne (fun z => h3 (by rw [← z]; exact ⟨i, b, d, h, a1⟩))]; exact a3
  ap := g.ap
  pin := g.pin
/-- a framed object is written -/
theorem RelG.frameSet {p : Addr} {o o' : HO} (g : RelG K pn e σ G (upd R p o) H) : RelG K pn e σ G (upd R p o') (upd H p o') where
  gh := fun a u q => by
    have hne : a ≠ p := fun z => by
      have := g.dj p (by rw [upd_same]; simp)
      rw [z, this] at q; cases q
    rw [upd_ne hne]; exact g.gh _ _ q
  rh := fun a u q => by
    by_cases ha : a = p
    · subst ha; rw [upd_same] at q ⊢; exact q
    · rw [upd_ne ha] at q ⊢; exact g.rh _ _ (by rw [upd_ne ha]; exact q)
  dj := fun a ha => by
    by_cases hp : a = p
    · rw [hp]; exact g.dj p (by rw [upd_same]; simp)
    · rw [upd_ne hp] at ha; exact g.dj a (by rw [upd_ne hp]; exact ha)
  len := g.len
  sl := fun i s h => by
    have q := g.sl i s h
    cases s with
    | em => exact trivial
    | sh d => exact q
    | ow b d =>
      obtain ⟨p', a1, a2, a3, a4⟩ := q
      have hne : p' ≠ p := fun z => by rw [z, upd_same] at a3; cases a3
      rw [upd_ne hne] at a3
      exact ⟨p', a1, a2, by rw [upd_ne hne]; exact a3, a4.at (upd_ne hne)⟩
  ap := g.ap
  pin := g.pin
end

/-! ### targets -/
/-- only these slots are written -/
def Same (ixs : List Nat) (σ σ' : L2.St) : Prop := σ'.length = σ.length ∧ ∀ k, k ∉ ixs → σ'[k]? = σ[k]?
theorem Same.refl {ixs : List Nat} {σ : L2.St} : Same ixs σ σ := ⟨rfl, fun _ _ => rfl⟩
theorem Same.trans {ixs : List Nat} {σ σ' σ'' : L2.St} (h : Same ixs σ σ') (h' : Same ixs σ' σ'') : Same ixs σ σ'' := ⟨h'.1.trans h.1, fun k hk => (h'.2 k hk).trans (h.2 k hk)⟩
theorem Same.of {ixs jxs : List Nat} {σ σ' : L2.St} (h : Same ixs σ σ') (s : ∀ i ∈ ixs, i ∈ jxs) : Same jxs σ σ' := ⟨h.1, fun k hk => h.2 k fun z => hk (s k z)⟩
def FinG (K : PySem.W.Frag) (ixs : List Nat) (pn : Pn) (e : En) (σ : L2.St) (G R : Hp) (Q : L2.St → Hp → Prop) : Prop := ∀ σ' G' H', Ex G G' → Same ixs σ σ' → RelG K pn e σ' G' R H' → Q σ' H'
def tGv (K : PySem.W.Frag) (ixs : List Nat) (f : Val → M Unit) : TG := fun v σ H Q => ∃ pn e G R val e', f val e = .ok ((), e') ∧ RelG K pn e σ G R H ∧ RepVal K G R H e σ v val ∧ FinG K ixs pn e' σ G R Q
theorem PG_mono {X : Cx} {tg : Expr} {t t' : TG} (h : PG X tg t) (m : ∀ v σ H Q, t' v σ H Q → t v σ H Q) : PG X tg t' := ⟨fun pins s σ H v u Q I r q => h.run pins s σ H v u Q I r (m v σ H Q q)⟩
theorem PGs_mono {X : Cx} {tg : List Expr} {t t' : TGs} (h : PGs X tg t) (m : ∀ v σ H Q, t' v σ H Q → t v σ H Q) : PGs X tg t' := ⟨fun pins s σ H v u Q I r q => h.run pins s σ H v u Q I r (m v σ H Q q)⟩
section
variable {X : Cx} {pos : Pos}
theorem Same.set {i : Nat} {σ : L2.St} {v : V} : Same [i] σ (σ.set i (some v)) := ⟨by simp, fun k hk => set_ne (by simpa using hk)⟩
theorem asgN_ok {K : PySem.W.Frag} {pn : Pn} {e e' : En} {σ : L2.St} {G R H : Hp} {v : V} {val : Val} {i : Nat} (g : RelG K pn e σ G R H) (r : RepVal K G R H e σ v val) (h : asgN i val e = .ok ((), e')) :
    ∃ G', Ex G G' ∧ RelG K pn e' (σ.set i (some v)) G' R H := by
  cases val with
  | sh d =>
    obtain ⟨h1, h2, h3⟩ := setN_ok h
    simp only at h3
    subst h3
    exact ⟨G, Ex.refl G, g.put h1 h2 ⟨v, rfl, r⟩ fun b d z => by cases z⟩
  | fr d =>
    obtain ⟨h1, h2, h3⟩ := setN_ok h
    simp only at h3
    subst h3
    obtain ⟨p, rfl, a1, a2, a3, a4⟩ := r
    exact ⟨G, Ex.refl G, g.put h1 h2 ⟨p, rfl, a1, a2, a3⟩ fun b d z q hq => by cases hq; exact a4⟩
  | ow j =>
    obtain ⟨d, e1, k1, k2⟩ := bnd_ok h
    obtain ⟨G2, x2, g2, r2⟩ := g.shrV r k1
    obtain ⟨h1, h2, h3⟩ := setN_ok k2
    simp only at h3
    subst h3
    exact ⟨G2, x2, g2.put h1 h2 ⟨v, rfl, r2⟩ fun b d z => by cases z⟩
theorem sg_name {i : Nat} {x : Str} (hN : X.N.Nodup) (hi : X.N[i]? = some x) (hx : Loc X.env.scope x) (hf : X.fn x = true ∨ X.env.scope.names.lookup x = some .local) : PG X (.Name x pos) (tGv X.K [i] (asgN i)) :=
  PG_mono (pg_name hN hi hx hf) fun v σ H Q q => by
    obtain ⟨pn, e, G, R, val, e', he, g, r, fin⟩ := q
    obtain ⟨G', x', g'⟩ := asgN_ok g r he
    exact fin _ G' H x' Same.set g'
/-- several, of shared things -/
def asgL : List (Val → M Unit) → List D → M Unit
  | [], [] => ret ()
  | f :: fs, d :: ds => bnd (f (.sh d)) fun _ => asgL fs ds
  | _, _ => fail
def asgT (fs : List (Val → M Unit)) (val : Val) : M Unit := bnd (shr val) fun d => match d with
  | .tup ds => asgL fs ds
  | _ => fail
def tGsv (K : PySem.W.Frag) (ixs : List Nat) (fs : List (Val → M Unit)) : TGs := fun vs σ H Q => ∃ pn e G R ds e', asgL fs ds e = .ok ((), e') ∧ RelG K pn e σ G R H ∧ RepL K G vs ds ∧ FinG K ixs pn e' σ G R Q
theorem sgs {ixs : List Nat} : ∀ (es : List Expr) (fs : List (Val → M Unit)), es.all notStar = true → Paired (fun a f => PG X a (tGv X.K ixs f)) es fs → PGs X es (tGsv X.K ixs fs)
  | _, _, _, .nil => PGs_mono pgs_nil fun vs σ H Q q => by
    obtain ⟨pn, e, G, R, ds, e', he, g, r, fin⟩ := q
    cases r with
    | nil => cases he; exact ⟨rfl, fin σ G H (Ex.refl G) Same.refl g⟩
    | cons => cases he
  | a :: es, f :: fs, hn, .cons h hr => by
    rw [List.all_cons, Bool.and_eq_true] at hn
    refine PGs_mono (pgs_cons h (sgs es fs hn.2 hr) ?_) fun vs σ H Q q => ?_
    · cases a <;> first | rfl | cases hn.1
    · obtain ⟨pn, e, G, R, ds, e', he, g, r, fin⟩ := q
      cases r with
      | nil => cases he
      | @cons v vs d ds r rr =>
        obtain ⟨_, e1, h1, k1⟩ := bnd_ok he
        refine ⟨v, vs, rfl, pn, e, G, R, .sh d, e1, h1, g, r, fun σ1 G1 H1 x1 s1 g1 => ⟨pn, e1, G1, R, ds, e', k1, g1, rr.mono x1, fun σ2 G2 H2 x2 s2 g2 => fin σ2 G2 H2 (x1.trans x2) (s1.trans s2) g2⟩⟩
theorem asgL_len : ∀ {fs : List (Val → M Unit)} {ds : List D} {e : En} {r : Unit × En}, asgL fs ds e = .ok r → ds.length = fs.length
  | [], [], _, _, _ => rfl
  | f :: fs, d :: ds, e, r, h => by
    obtain ⟨_, e1, h1, k1⟩ := bnd_ok h
    rw [List.length_cons, List.length_cons, asgL_len k1]
  | [], _ :: _, _, _, h => by cases h
  | _ :: _, [], _, _, h => by cases h
theorem each_len : ∀ {es : List Expr} {env : Env}, es.all notStar = true → (assignEach es env).length = es.length ∧ (assignEach es env).findIdx? (·.1) = none
  | [], _, _ => ⟨rfl, rfl⟩
  | a :: es, env, h => by
    rw [List.all_cons, Bool.and_eq_true] at h
    obtain ⟨h1, h2⟩ := each_len (env := env) h.2
    have e : assignEach (a :: es) env = (false, assign a env) :: assignEach es env := by cases a <;> first | rfl | cases h.1
    rw [e]
    exact ⟨by rw [List.length_cons, h1, List.length_cons], by rw [List.findIdx?_cons, h2]; rfl⟩
theorem paired_len {α β : Type} {p : α → β → Prop} : ∀ {l : List α} {m : List β}, Paired p l m → l.length = m.length
  | _, _, .nil => rfl
  | _, _, .cons _ r => congrArg Nat.succ (paired_len r)
theorem sg_tup {ixs : List Nat} {k : Nat} {es : List Expr} {fs : List (Val → M Unit)} (hc : X.calm = true) (hn : es.all notStar = true) (h : Paired (fun a f => PG X a (tGv X.K ixs f)) es fs) : PG X (.Tuple es k pos) (tGv X.K ixs (asgT fs)) :=
  PG_mono (pg_tup (n := es.length) hc (sgs es fs hn h) (each_len hn).1 (each_len hn).2) fun v σ H Q q => by
    obtain ⟨pn, e, G, R, val, e', he, g, r, fin⟩ := q
    obtain ⟨d, e1, h1, k1⟩ := bnd_ok he
    obtain ⟨G2, x2, g2, r2⟩ := g.shrV r h1
    split at k1
    · cases r2 with
      | tup hp ra =>
        refine ⟨_, _, rfl, Evl.ex_t g2.gh hp, ?_, pn, e1, G2, R, _, e', k1, g2, ra, fun σ3 G3 H3 x3 s3 g3 => fin σ3 G3 H3 (x2.trans x3) s3 g3⟩
        rw [ra.length, asgL_len k1, paired_len h]
    · cases k1
/-- the list at slot j is written -/
def updL (j : Nat) (f : List D → Option (List D)) : M Unit := fun e => match e[j]? with
  | some (.ow b (.lst l)) => match f l with
    | some l' => .ok ((), e.set j (.ow b (.lst l')))
    | none => .err
  | _ => .err
theorem updL_ok {j : Nat} {f : List D → Option (List D)} {e : En} {r : Unit × En} (h : updL j f e = .ok r) : ∃ b l l', e[j]? = some (.ow b (.lst l)) ∧ f l = some l' ∧ r.2 = e.set j (.ow b (.lst l')) := by
  unfold updL at h
  split at h
  · split at h
    · cases h; exact ⟨_, _, _, by assumption, by assumption, rfl⟩
    · cases h
  · cases h
def owJ : Val → M Nat
  | .ow j => ret j
  | _ => fail
theorem owJ_ok {v : Val} {e : En} {r : Nat × En} (h : owJ v e = .ok r) : v = .ow r.1 ∧ r.2 = e := by
  cases v with
  | ow j => cases h; exact ⟨rfl, rfl⟩
  | _ => cases h
def asInt : D → M Int
  | .int i => ret i
  | _ => fail
theorem asInt_ok {v : D} {e : En} {r : Int × En} (h : asInt v e = .ok r) : v = .int r.1 ∧ r.2 = e := by
  cases v with
  | int j => cases h; exact ⟨rfl, rfl⟩
  | _ => cases h
def asgI (fo fi : M Val) (val : Val) : M Unit := bnd (shr val) fun d => bnd fo fun vo => bnd (owJ vo) fun j => bnd fi fun vi => bnd (der vi) fun di => bnd (asInt di) fun k => updL j fun l => (ixN l.length k).map fun n => l.set n d
theorem sg_sub {o i : Expr} {fo fi : M Val} (ho : PE X o (tEv X.K fo)) (hi : PE X i (tEv X.K fi)) (hs : notSlice i = true) : PG X (.Subscript o i pos) (tGv X.K [] (asgI fo fi)) :=
  PG_mono (pg_sub ho hi set_list (by intro v; cases i <;> first | rfl | cases hs)) fun v σ H Q q => by
    obtain ⟨pn, e, G, R, val, e', he, g, r, fin⟩ := q
    obtain ⟨d, e1, h1, k1⟩ := bnd_ok he
    obtain ⟨G2, x2, g2, r2⟩ := g.shrV r h1
    obtain ⟨vo, e3, h3, k3⟩ := bnd_ok k1
    obtain ⟨j, e4, h4, k4⟩ := bnd_ok k3
    obtain ⟨q4, z4⟩ := owJ_ok h4
    simp only at q4 z4
    subst z4 q4
    obtain ⟨vi, e5, h5, k5⟩ := bnd_ok k4
    obtain ⟨di, e6, h6, k6⟩ := bnd_ok k5
    obtain ⟨q6, z6⟩ := der_ok h6
    simp only at q6 z6
    subst z6
    obtain ⟨k, e7, h7, k7⟩ := bnd_ok k6
    obtain ⟨q7, z7⟩ := asInt_ok h7
    simp only at q7 z7
    subst z7 q7
    obtain ⟨b, l, l', q8, q9, q10⟩ := updL_ok k7
    simp only at q10
    subst q10
    obtain ⟨n, hn, rfl⟩ := Option.map_eq_some_iff.mp q9
    refine ⟨pn, e1, G2, R, .ow j, e4, h3, g2, fun ov G3 H3 x3 g3 r3 => ⟨pn, e4, G3, R, vi, _, h5, g3, fun iv G4 H4 x4 g4 r4 => ?_⟩⟩
    have rk : RdV X.K G4 H4 iv (.int k) := g4.rd r4 q6
    cases rk
    obtain ⟨p, a1, a2, a3, a4⟩ := g4.own q8
    rw [r3.1] at a1
    cases a1
    obtain ⟨xs, hx, rx⟩ := a4
    refine ⟨p, xs, k, n, rfl, rfl, hx, by rw [rx.length]; exact hn, ?_⟩
    exact fin σ G4 _ ((x2.trans x3).trans x4) Same.refl (g4.updO q8 r3.1 ⟨_, upd_same, rx.set (r2.mono (x3.trans x4)) n⟩)
end
end Pv
namespace Pv
open PySem L2
open Evl (Ex)

/-! ### statements -/
inductive Fl where
  | nx | bk | ct | rt (v : Val)
def FinS (K : PySem.W.Frag) (pn : Pn) (e : En) (σ : L2.St) (G R : Hp) (D : Ends) : Fl → Prop
  | .nx => ∀ σ' G' H', Ex G G' → σ'.length = σ.length → RelG K pn e σ' G' R H' → D.nx σ' H'
  | .bk => ∀ σ' G' H', Ex G G' → σ'.length = σ.length → RelG K pn e σ' G' R H' → D.bk σ' H'
  | .ct => ∀ σ' G' H', Ex G G' → σ'.length = σ.length → RelG K pn e σ' G' R H' → D.ct σ' H'
  | .rt val => ∀ v σ' G' H', Ex G G' → σ'.length = σ.length → RelG K pn e σ' G' R H' → RepVal K G' R H' e σ' v val → D.rt v H'
def tSv (K : PySem.W.Frag) (f : M Fl) : TS := fun D σ H => ∃ pn e G R fl e', f e = .ok (fl, e') ∧ RelG K pn e σ G R H ∧ FinS K pn e' σ G R D fl
theorem FinS.ext {K : PySem.W.Frag} {pn : Pn} {e : En} {σ σ1 : L2.St} {G G1 R : Hp} {D : Ends} : ∀ {fl : Fl}, FinS K pn e σ G R D fl → Ex G G1 → σ1.length = σ.length → FinS K pn e σ1 G1 R D fl
  | .nx, h, x, l => fun σ' G' H' x' l' g => h σ' G' H' (x.trans x') (l'.trans l) g
  | .bk, h, x, l => fun σ' G' H' x' l' g => h σ' G' H' (x.trans x') (l'.trans l) g
  | .ct, h, x, l => fun σ' G' H' x' l' g => h σ' G' H' (x.trans x') (l'.trans l) g
  | .rt _, h, x, l => fun v σ' G' H' x' l' g r => h v σ' G' H' (x.trans x') (l'.trans l) g r
def nxS : M Fl := ret .nx
def bkS : M Fl := ret .bk
def ctS : M Fl := ret .ct
def rtS (f : M Val) : M Fl := bnd f fun v => ret (.rt v)
def rtN : M Fl := ret (.rt (.sh .non))
def drS (f : M Val) : M Fl := bnd f fun _ => ret .nx
def seqS : List (M Fl) → M Fl
  | [] => ret .nx
  | f :: r => bnd f fun fl => match fl with
    | .nx => seqS r
    | .bk => ret .bk
    | .ct => ret .ct
    | .rt v => ret (.rt v)
def ifS (c : M Bool) (a b : M Fl) : M Fl := bnd c fun k => if k = true then a else b
def asS (f : M Val) (g : Val → M Unit) : M Fl := bnd f fun v => bnd (g v) fun _ => ret .nx
section
variable {X : Cx} {pos : Pos} {st : Stmt} {a c : Expr} {f : M Val}
theorem ss_nx {t : TS} (h : PS X st tNext) : PS X st (tSv X.K nxS) := PS_mono h fun D σ H q => by
  obtain ⟨pn, e, G, R, fl, e', he, g, fin⟩ := q
  cases he
  exact fin σ G H (Ex.refl G) rfl g
theorem ss_pass : PS X (.Pass pos) (tSv X.K nxS) := ss_nx (t := tNext) ps_pass
theorem ss_break : PS X (.Break pos) (tSv X.K bkS) := PS_mono ps_break fun D σ H q => by
  obtain ⟨pn, e, G, R, fl, e', he, g, fin⟩ := q
  cases he
  exact fin σ G H (Ex.refl G) rfl g
theorem ss_cont : PS X (.Continue pos) (tSv X.K ctS) := PS_mono ps_continue fun D σ H q => by
  obtain ⟨pn, e, G, R, fl, e', he, g, fin⟩ := q
  cases he
  exact fin σ G H (Ex.refl G) rfl g
theorem ss_ret (ha : PE X a (tEv X.K f)) : PS X (.Return (some a) pos) (tSv X.K (rtS f)) := PS_mono (ps_ret ha) fun D σ H q => by
  obtain ⟨pn, e, G, R, fl, e', he, g, fin⟩ := q
  obtain ⟨v, e1, h1, k1⟩ := bnd_ok he
  cases k1
  exact ⟨pn, e, G, R, v, e', h1, g, fun x G1 H1 x1 g1 r1 => fin x σ G1 H1 x1 rfl g1 r1⟩
theorem ss_retN : PS X (.Return none pos) (tSv X.K rtN) := PS_mono ps_retN fun D σ H q => by
  obtain ⟨pn, e, G, R, fl, e', he, g, fin⟩ := q
  cases he
  exact fin .non σ G H (Ex.refl G) rfl g .non
theorem ss_expr (ha : PE X a (tEv X.K f)) (hs : swapsWith a none pos.line X.env = pure false) : PS X (.Expr a pos) (tSv X.K (drS f)) := PS_mono (ps_expr ha hs) fun D σ H q => by
  obtain ⟨pn, e, G, R, fl, e', he, g, fin⟩ := q
  obtain ⟨v, e1, h1, k1⟩ := bnd_ok he
  cases k1
  exact ⟨pn, e, G, R, v, e', h1, g, fun x G1 H1 x1 g1 r1 => fin σ G1 H1 x1 rfl g1⟩
theorem ss_if {p q : List Stmt} {t : M Bool} {fp fq : M Fl} (hc : PT X c (tTv X.K t)) (ha : PSs X p (tSv X.K fp)) (hb : PSs X q (tSv X.K fq)) : PS X (.If c p q pos) (tSv X.K (ifS t fp fq)) := PS_mono (ps_if hc ha hb) fun D σ H q => by
  obtain ⟨pn, e, G, R, fl, e', he, g, fin⟩ := q
  obtain ⟨k, e1, h1, k1⟩ := bnd_ok he
  refine ⟨pn, e, G, R, k, e1, h1, g, fun G1 H1 x1 g1 => ?_⟩
  cases k with
  | true => rw [if_pos rfl] at k1 ⊢; exact ⟨pn, e1, G1, R, fl, e', k1, g1, fin.ext x1 rfl⟩
  | false => rw [if_neg Bool.false_ne_true] at k1 ⊢; exact ⟨pn, e1, G1, R, fl, e', k1, g1, fin.ext x1 rfl⟩
theorem tasg {K : PySem.W.Frag} {ixs : List Nat} {te : TE} {f : M Val} {h : Val → M Unit} (hE : ∀ σ H Q, tEv K f σ H Q → te σ H Q) (D : Ends) (σ : L2.St) (H : Hp) (q : tSv K (asS f h) D σ H) : tAsg te (tGv K ixs h) D σ H := by
  obtain ⟨pn, e, G, R, fl, e', he, g, fin⟩ := q
  obtain ⟨v, e1, h1, k1⟩ := bnd_ok he
  obtain ⟨_, e2, h2, k2⟩ := bnd_ok k1
  cases k2
  exact hE _ _ _ ⟨pn, e, G, R, v, e1, h1, g, fun x G1 H1 x1 g1 r1 => ⟨pn, e1, G1, R, v, _, h2, g1, r1, fun σ2 G2 H2 x2 s2 g2 => fin σ2 G2 H2 (x1.trans x2) s2.1 g2⟩⟩
theorem ss_asg {ixs : List Nat} {tg : Expr} {h : Val → M Unit} (he : PE X a (tEv X.K f)) (hg : PG X tg (tGv X.K ixs h)) (hs : swapsWithSole [tg] a pos.line X.env = pure false) (hw : swappedStores [tg] a X.env = pure none)
    (hn : notStar tg = true) : PS X (.Assign [tg] a pos) (tSv X.K (asS f h)) := by
  refine PS_mono (ps_asg he hg hs hw ?_) fun D σ H q => tasg (fun _ _ _ h => h) D σ H q
  cases tg <;> first | rfl | cases hn
theorem sss_nil : PSs X [] (tSv X.K (seqS [])) := PSs_mono pss_nil fun D σ H q => by
  obtain ⟨pn, e, G, R, fl, e', he, g, fin⟩ := q
  cases he
  exact fin σ G H (Ex.refl G) rfl g
theorem sss_cons {rest : List Stmt} {fs : M Fl} {fr : List (M Fl)} (h1 : PS X st (tSv X.K fs)) (h2 : PSs X rest (tSv X.K (seqS fr))) : PSs X (st :: rest) (tSv X.K (seqS (fs :: fr))) := PSs_mono (pss_cons h1 h2) fun D σ H q => by
  obtain ⟨pn, e, G, R, fl, e', he, g, fin⟩ := q
  obtain ⟨k, e1, h1, k1⟩ := bnd_ok he
  refine ⟨pn, e, G, R, k, e1, h1, g, ?_⟩
  cases k with
  | nx => exact fun σ1 G1 H1 x1 l1 g1 => ⟨pn, e1, G1, R, fl, e', k1, g1, fin.ext x1 l1⟩
  | bk => cases k1; exact fin
  | ct => cases k1; exact fin
  | rt v => cases k1; exact fin
theorem sss : ∀ (sts : List Stmt) (fs : List (M Fl)), Paired (fun s f => PS X s (tSv X.K f)) sts fs → PSs X sts (tSv X.K (seqS fs))
  | _, _, .nil => sss_nil
  | _, _, .cons h r => sss_cons h (sss _ _ r)
/-! ### for -/
def forL (g : Val → M Unit) (b : M Fl) : List D → M Fl
  | [] => ret .nx
  | d :: r => bnd (g (.sh d)) fun _ => bnd b fun fl => match fl with
    | .nx => forL g b r
    | .ct => forL g b r
    | .bk => ret .nx
    | .rt v => ret (.rt v)
def forS (it : M (List D)) (g : Val → M Unit) (b : M Fl) : M Fl := bnd it fun ds => forL g b ds
theorem ss_for {ixs : List Nat} {tg iter : Expr} {body : List Stmt} {wi : M (List D)} {h : Val → M Unit} {fb : M Fl} (hp : PassesOwn (model X.prog X.w) X.A X.env X.xe) (hc : X.calm = true) (hi : PI X tg iter (tIv X.K wi)) (hg : PG X tg (tGv X.K ixs h))
    (hb : PSs X body (tSv X.K fb)) (hs : ∀ x, foldedSetIterable iter X.env x = pure x) : PS X (.For tg iter body [] pos) (tSv X.K (forS wi h fb)) := PS_mono (ps_for hp hc hi hg hb hs) fun D σ H q => by
  obtain ⟨pn, e, G, R, fl, e', he, g, fin⟩ := q
  obtain ⟨ds, e1, h1, k1⟩ := bnd_ok he
  refine ⟨pn, e, G, R, ds, e1, h1, g, fun J G1 H1 x1 g1 ok => ?_⟩
  refine ⟨fun i m σ' H' => m = ds.length - i ∧ i ≤ ds.length ∧ ∃ e2 G2, Ex G1 G2 ∧ σ'.length = σ.length ∧ RelG X.K pn e2 σ' G2 R H' ∧ forL h fb (ds.drop i) e2 = .ok (fl, e'), ⟨_, rfl, Nat.zero_le _, e1, G1, Ex.refl _, rfl, g1, k1⟩, ?_⟩
  rintro i m σ2 H2 ⟨rfl, hi, e2, G2, x2, l2, g2, k2⟩
  obtain ⟨ok1, ok2, ok3⟩ := ok pn e2 σ2 G2 R H2 i x2 g2
  by_cases hlt : i < ds.length
  · refine .inr ⟨ok1 hlt, fun σ' H' => ∃ e4 G4, Ex G1 G4 ∧ σ'.length = σ.length ∧ RelG X.K pn e4 σ' G4 R H' ∧ forL h fb (ds.drop (i + 1)) e4 = .ok (fl, e'), fun σ' H' z => ⟨_, by omega, rfl, hlt, z⟩, fun x H3 y3 => ?_⟩
    have hd : ds[i]? = some ds[i] := by simp [hlt]
    obtain ⟨G3, x3, g3, r3⟩ := ok3 x H3 _ y3 hd
    rw [List.drop_eq_getElem_cons hlt] at k2
    obtain ⟨_, e4, h4, k4⟩ := bnd_ok k2
    obtain ⟨fl5, e5, h5, k5⟩ := bnd_ok k4
    refine ⟨pn, e2, G3, R, .sh ds[i], e4, h4, g3, r3, fun σ4 G4 H4 x4 s4 g4 => ⟨pn, e4, G4, R, fl5, e5, h5, g4, ?_⟩⟩
    have y := ((x2.trans x3).trans x4)
    have l4 : σ4.length = σ.length := s4.1.trans l2
    cases fl5 with
    | nx => exact fun σ6 G6 H6 x6 l6 g6 => ⟨e5, G6, y.trans x6, l6.trans l4, g6, k5⟩
    | ct => exact fun σ6 G6 H6 x6 l6 g6 => ⟨e5, G6, y.trans x6, l6.trans l4, g6, k5⟩
    | bk => cases k5; exact fun σ6 G6 H6 x6 l6 g6 => fin σ6 G6 H6 (x1.trans (y.trans x6)) (l6.trans l4) g6
    | rt v => cases k5; exact fun v6 σ6 G6 H6 x6 l6 g6 r6 => fin v6 σ6 G6 H6 (x1.trans (y.trans x6)) (l6.trans l4) g6 r6
  · have e0 : i = ds.length := by omega
    refine .inl ⟨ok2 e0, ?_⟩
    rw [List.drop_eq_nil_of_le (by omega)] at k2
    cases k2
    exact fin σ2 G2 H2 (x1.trans x2) l2 g2
/-! ### while -/
def whS (c : M Bool) (b : M Fl) : Nat → M Fl
  | 0 => fail
  | n + 1 => bnd c fun k => if k = true then bnd b fun fl => match fl with
    | .nx => whS c b n
    | .ct => whS c b n
    | .bk => ret .nx
    | .rt v => ret (.rt v)
    else ret .nx
theorem ss_while {body : List Stmt} {t : M Bool} {fb : M Fl} {n : Nat} (hp : PassesOwn (model X.prog X.w) X.A X.env X.xe) (hc : PT X c (tTv X.K t)) (hb : PSs X body (tSv X.K fb)) : PS X (.While c body [] pos) (tSv X.K (whS t fb n)) := PS_mono (ps_while hp hc hb) fun D σ H q => by
  obtain ⟨pn, e, G, R, fl, e', he, g, fin⟩ := q
  refine ⟨fun m σ' H' => ∃ e2 G2, Ex G G2 ∧ σ'.length = σ.length ∧ RelG X.K pn e2 σ' G2 R H' ∧ whS t fb m e2 = .ok (fl, e'), ⟨n, e, G, Ex.refl _, rfl, g, he⟩, ?_⟩
  rintro m σ2 H2 ⟨e2, G2, x2, l2, g2, k2⟩
  cases m with
  | zero => cases k2
  | succ m =>
    obtain ⟨k, e3, h3, k3⟩ := bnd_ok k2
    refine ⟨pn, e2, G2, R, k, e3, h3, g2, fun G3 H3 x3 g3 => ?_⟩
    cases k with
    | false =>
      rw [if_neg Bool.false_ne_true] at k3 ⊢
      cases k3
      exact fin σ2 G3 H3 (x2.trans x3) l2 g3
    | true =>
      rw [if_pos rfl] at k3 ⊢
      obtain ⟨fl5, e5, h5, k5⟩ := bnd_ok k3
      refine ⟨fun σ' H' => ∃ e2 G2, Ex G G2 ∧ σ'.length = σ.length ∧ RelG X.K pn e2 σ' G2 R H' ∧ whS t fb m e2 = .ok (fl, e'), fun σ' H' z => ⟨m, Nat.lt_succ_self _, z⟩, pn, e3, G3, R, fl5, e5, h5, g3, ?_⟩
      have y := x2.trans x3
      cases fl5 with
      | nx => exact fun σ6 G6 H6 x6 l6 g6 => ⟨e5, G6, y.trans x6, l6.trans l2, g6, k5⟩
      | ct => exact fun σ6 G6 H6 x6 l6 g6 => ⟨e5, G6, y.trans x6, l6.trans l2, g6, k5⟩
      | bk => cases k5; exact fun σ6 G6 H6 x6 l6 g6 => fin σ6 G6 H6 (y.trans x6) (l6.trans l2) g6
      | rt v => cases k5; exact fun v6 σ6 G6 H6 x6 l6 g6 r6 => fin v6 σ6 G6 H6 (y.trans x6) (l6.trans l2) g6 r6
end
/-! ### list comprehensions -/
def wipE : List Nat → M Unit
  | [] => ret ()
  | i :: r => bnd (wipE r) fun _ => fun e => match e[i]? with
    | some (.ow _ _) => .err
    | some _ => .ok ((), e.set i .em)
    | none => .err
/-- the slots as they were -/
def putE : List Nat → En → En → En
  | [], _, e => e
  | i :: r, e0, e => match e0[i]? with
    | some s => (putE r e0 e).set i s
    | none => putE r e0 e
def lcL (own : List Nat) (g : Val → M Unit) (t : M Bool) (f : M Val) : List D → M (List D)
  | [] => bnd (wipE own) fun _ => ret []
  | d :: r => bnd (wipE own) fun _ => bnd (g (.sh d)) fun _ => bnd t fun k =>
    if k = true then bnd f fun v => bnd (shr v) fun x => bnd (lcL own g t f r) fun xs => ret (x :: xs) else lcL own g t f r
def lcC (own : List Nat) (it : M (List D)) (g : Val → M Unit) (t : M Bool) (f : M Val) : M Val := bnd it fun ds => fun e0 => match lcL own g t f ds e0 with
  | .ok (xs, e1) => if xs.length ≤ lenLim then .ok (.fr (.lst xs), putE own e0 e1) else .err
  | .err => .err
section
variable {K : PySem.W.Frag} {pn : Pn} {e e' : En} {σ : L2.St} {G G' R R' H H' : Hp} {v : V} {val : Val}
/-- a slot is forgotten: its reading, then its state -/
theorem RelG.em {i : Nat} {σ' : L2.St} (g : RelG K pn e σ G R H) (hl : σ'.length = σ.length) (hs : ∀ k, k ≠ i → σ'[k]? = σ[k]?) (ho : ∀ b d, e[i]? ≠ some (.ow b d)) : RelG K pn (e.set i .em) σ' G R H where
  gh := g.gh
  rh := g.rh
  dj := g.dj
  len := by rw [List.length_set, hl]; exact g.len
  sl := fun j s q => by
    by_cases hj : j = i
    · subst hj
      by_cases hi : j < e.length
      · rw [getElem?_setB hi] at q; cases q; exact trivial
      · rw [List.getElem?_eq_none (by simpa using hi)] at q; cases q
    · rw [set_ne hj] at q
      rw [hs j hj]
      exact g.sl j s q
  ap := fun j k b d b' d' hjk q1 q2 => by
    have ne : ∀ j b d, (e.set i .em)[j]? = some (.ow b d) → j ≠ i := fun j b d q z => by
      subst z
      by_cases hi : j < e.length
      · rw [getElem?_setB hi] at q; cases q
      · rw [List.getElem?_eq_none (by simpa using hi)] at q; cases q
    have n1 := ne j _ _ q1
    have n2 := ne k _ _ q2
    rw [set_ne n1] at q1
    rw [set_ne n2] at q2
    rw [hs j n1, hs k n2]
    exact g.ap j k _ _ _ _ hjk q1 q2
  pin := fun q hq => by
    obtain ⟨a, d, b⟩ := g.pin q hq
    have hne : q.1 ≠ i := fun z => ho true d (by rw [← z]; exact b)
    rw [hs _ hne, set_ne hne]
    exact ⟨a, d, b⟩
theorem wipE_ok : ∀ {own : List Nat} {e e' : En} {σ : L2.St}, RelG K pn e σ G R H → wipE own e = .ok ((), e') → RelG K pn e' (wipe σ own) G R H
  | [], e, e', σ, g, h => by cases h; exact g
  | i :: r, e, e', σ, g, h => by
    obtain ⟨_, e1, h1, k1⟩ := bnd_ok h
    have g1 := wipE_ok g h1
    have go : e' = e1.set i .em → (∀ b d, e1[i]? ≠ some (.ow b d)) → RelG K pn e' (wipe σ (i :: r)) G R H := fun z ho => by
      subst z
      refine g1.em (by show ((wipe σ r).set i none).length = _; simp) (fun k hk => by show ((wipe σ r).set i none)[k]? = _; exact set_ne hk) ho
    split at k1
    · cases k1
    · rename_i s hs hq
      cases k1
      exact go rfl fun b d z => by rw [z] at hq; cases hq; exact hs b d rfl
    · cases k1
theorem wipE_env : ∀ {own : List Nat} {e e' : En}, wipE own e = .ok ((), e') → e'.length = e.length ∧ (∀ k, k ∉ own → e'[k]? = e[k]?) ∧ ∀ k ∈ own, e'[k]? = some .em
  | [], e, e', h => by cases h; exact ⟨rfl, fun _ _ => rfl, fun k hk => by cases hk⟩
  | i :: r, e, e', h => by
    obtain ⟨_, e1, h1, k1⟩ := bnd_ok h
    obtain ⟨a, b, c⟩ := wipE_env h1
    have go : ∀ (hi : i < e1.length), e' = e1.set i .em → e'.length = e.length ∧ (∀ k, k ∉ i :: r → e'[k]? = e[k]?) ∧ ∀ k ∈ i :: r, e'[k]? = some .em := fun hi z => by
      subst z
      refine ⟨by simpa using a, fun k hk => ?_, fun k hk => ?_⟩
      · rw [List.mem_cons, not_or] at hk
        rw [set_ne hk.1]; exact b k hk.2
      · by_cases hk2 : k = i
        · subst hk2; exact getElem?_setB hi
        · rw [set_ne hk2]
          rcases List.mem_cons.mp hk with z | z
          · exact absurd z hk2
          · exact c k z
    split at k1
    · cases k1
    · rename_i s hs hq
      cases k1
      exact go (List.getElem?_eq_some_iff.mp hq).1 rfl
    · cases k1
theorem putE_len : ∀ {own : List Nat} {e0 e1 : En}, (putE own e0 e1).length = e1.length
  | [], _, _ => rfl
  | i :: r, e0, e1 => by
    unfold putE
    split
    · rw [List.length_set]; exact putE_len
    · exact putE_len
theorem putE_ne : ∀ {own : List Nat} {e0 e1 : En} {k : Nat}, k ∉ own → (putE own e0 e1)[k]? = e1[k]?
  | [], _, _, _, _ => rfl
  | i :: r, e0, e1, k, h => by
    rw [List.mem_cons, not_or] at h
    unfold putE
    split
    · rw [set_ne h.1]; exact putE_ne h.2
    · exact putE_ne h.2
theorem putE_eq : ∀ {own : List Nat} {e0 e1 : En} {k : Nat}, k ∈ own → e0.length = e1.length → (putE own e0 e1)[k]? = e0[k]?
  | [], _, _, _, h, _ => by cases h
  | i :: r, e0, e1, k, h, l => by
    unfold putE
    by_cases hk : k = i
    · subst hk
      split
      · rename_i s hs
        have hi : k < e0.length := (List.getElem?_eq_some_iff.mp hs).1
        rw [getElem?_setB (by rw [putE_len, ← l]; exact hi), hs]
      · rename_i hs
        rw [hs]
        exact List.getElem?_eq_none (by rw [putE_len, ← l]; exact List.getElem?_eq_none_iff.mp hs)
    · have hr : k ∈ r := by
        rcases List.mem_cons.mp h with z | z
        · exact absurd z hk
        · exact z
      split
      · rw [set_ne hk]; exact putE_eq hr l
      · exact putE_eq hr l
theorem wipe_ne {σ : L2.St} : ∀ {own : List Nat} {k : Nat}, k ∉ own → (wipe σ own)[k]? = σ[k]?
  | [], _, _ => rfl
  | i :: r, k, h => by
    rw [List.mem_cons, not_or] at h
    show ((wipe σ r).set i none)[k]? = _
    rw [set_ne h.1]; exact wipe_ne h.2
theorem wipe_in {σ : L2.St} : ∀ {own : List Nat} {k : Nat}, k ∈ own → k < σ.length → (wipe σ own)[k]? = some none
  | i :: r, k, h, l => by
    show ((wipe σ r).set i none)[k]? = _
    by_cases hk : k = i
    · subst hk; exact getElem?_setB (by rw [wipe_length]; exact l)
    · rw [set_ne hk]
      rcases List.mem_cons.mp h with z | z
      · exact absurd z hk
      · exact wipe_in z l
theorem wipe_same {own : List Nat} {σ σ' : L2.St} (h : Same own σ σ') : wipe σ' own = wipe σ own := by
  apply List.ext_getElem?
  intro k
  by_cases hk : k ∈ own
  · by_cases hl : k < σ.length
    · rw [wipe_in hk hl, wipe_in hk (by rw [h.1]; exact hl)]
    · rw [List.getElem?_eq_none (by rw [wipe_length, h.1]; exact Nat.le_of_not_lt hl), List.getElem?_eq_none (by rw [wipe_length]; exact Nat.le_of_not_lt hl)]
  · rw [wipe_ne hk, wipe_ne hk]; exact h.2 k hk
theorem same_wipe {own : List Nat} {σ : L2.St} : Same own σ (wipe σ own) := ⟨wipe_length _ _, fun k hk => wipe_ne hk⟩
theorem wipE_not : ∀ {own : List Nat} {e : En} {r : Unit × En}, wipE own e = .ok r → ∀ k ∈ own, ∀ b d, e[k]? ≠ some (.ow b d)
  | [], _, _, _, k, hk => by cases hk
  | i :: r, e, q, h, k, hk => fun b d z => by
    obtain ⟨_, e1, h1, k1⟩ := bnd_ok h
    by_cases hr : k ∈ r
    · exact wipE_not h1 k hr b d z
    · have : k = i := by rcases List.mem_cons.mp hk with z | z; exact z; exact absurd z hr
      subst this
      obtain ⟨_, b2, _⟩ := wipE_env h1
      rw [← b2 k hr] at z
      rw [z] at k1
      cases k1
/-- behind the block the slots are as they were -/
theorem RelG.unwip {own : List Nat} {e0 e1 : En} (g0 : RelG K pn e0 σ G R' H) (hno : ∀ k ∈ own, ∀ b d, e0[k]? ≠ some (.ow b d)) (x : Ex G G') (g : RelG K pn e1 (wipe σ own) G' R H') (he : ∀ k ∈ own, e1[k]? = some .em) : RelG K pn (putE own e0 e1) σ G' R H' := by
  have hlen : e0.length = e1.length := by rw [g0.len, g.len, wipe_length]
  have ow : ∀ {j : Nat} {b : Bool} {d : D}, (putE own e0 e1)[j]? = some (.ow b d) → e1[j]? = some (.ow b d) ∧ j ∉ own := fun {j b d} q => by
    by_cases hj : j ∈ own
    · rw [putE_eq hj hlen] at q; exact absurd q (hno j hj b d)
    · rw [putE_ne hj] at q; exact ⟨q, hj⟩
  refine ⟨g.gh, g.rh, g.dj, by rw [putE_len, ← hlen]; exact g0.len, fun j s q => ?_, fun j k b d b' d' hjk q1 q2 => ?_, fun q hq => ?_⟩
  · by_cases hj : j ∈ own
    · rw [putE_eq hj hlen] at q
      have z := g0.sl j s q
      cases s with
      | em => exact trivial
      | sh d => obtain ⟨v, a, b⟩ := z; exact ⟨v, a, b.mono x⟩
      | ow b d => exact absurd q (hno j hj b d)
    · rw [putE_ne hj] at q
      have z := g.sl j s q
      rw [wipe_ne hj] at z
      exact z
  · obtain ⟨r1, n1⟩ := ow q1
    obtain ⟨r2, n2⟩ := ow q2
    have z := g.ap j k _ _ _ _ hjk r1 r2
    rw [wipe_ne n1, wipe_ne n2] at z
    exact z
  · obtain ⟨a, d, b⟩ := g.pin q hq
    have hn : q.1 ∉ own := fun z => by rw [he _ z] at b; cases b
    rw [wipe_ne hn] at a
    rw [putE_ne hn]
    exact ⟨a, d, b⟩
end
theorem lcL_env {own : List Nat} {g : Val → M Unit} {t : M Bool} {f : M Val} : ∀ {ds : List D} {e : En} {r : List D × En}, lcL own g t f ds e = .ok r → (∀ k ∈ own, r.2[k]? = some .em) ∧ ∃ e1, wipE own e = .ok ((), e1)
  | [], e, r, h => by
    obtain ⟨_, e1, h1, k1⟩ := bnd_ok h
    cases k1
    exact ⟨(wipE_env h1).2.2, e1, h1⟩
  | d :: ds, e, r, h => by
    obtain ⟨_, e1, h1, k1⟩ := bnd_ok h
    refine ⟨?_, e1, h1⟩
    obtain ⟨_, e2, h2, k2⟩ := bnd_ok k1
    obtain ⟨k, e3, h3, k3⟩ := bnd_ok k2
    cases k with
    | false =>
      rw [if_neg Bool.false_ne_true] at k3
      exact (lcL_env k3).1
    | true =>
      rw [if_pos rfl] at k3
      obtain ⟨v, e4, h4, k4⟩ := bnd_ok k3
      obtain ⟨x, e5, h5, k5⟩ := bnd_ok k4
      obtain ⟨xs, e6, h6, k6⟩ := bnd_ok k5
      cases k6
      exact (lcL_env h6).1
theorem tlc {K : PySem.W.Frag} {own ixs : List Nat} {it : M (List D)} {g : Val → M Unit} {t : M Bool} {f : M Val} (hix : ∀ i ∈ ixs, i ∈ own) (σ : L2.St) (H : Hp) (Q : VK) (q : tEv K (lcC own it g t f) σ H Q) : tLc (tIv K it) (tGv K ixs g) (tTv K t) (tEv K f) own σ H Q := by
  obtain ⟨pn, e, G, R, val, e', he, g0, fin⟩ := q
  obtain ⟨ds, e1, h1, k1⟩ := bnd_ok he
  refine ⟨pn, e, G, R, ds, e1, h1, g0, fun J G1 H1 x1 g1 ok D hD => ?_⟩
  cases k2 : lcL own g t f ds e1 with
  | err => rw [k2] at k1; cases k1
  | ok p =>
    obtain ⟨xs, e2⟩ := p
    rw [k2] at k1
    have k1' : (if xs.length ≤ lenLim then Out.ok (Val.fr (.lst xs), putE own e1 e2) else Out.err) = Out.ok (val, e') := k1
    clear k1
    split at k1'
    · rename_i hlen
      cases k1'
      obtain ⟨hem, ew, hw⟩ := lcL_env k2
      have gD := g1.laidF (o := .lst []) hD
      obtain ⟨gD, GD, RD, oD⟩ := gD
      have gA : RelG K pn e1 σ G1 (upd R D (.lst [])) (upd H1 D (.lst [])) := gD.addR GD upd_same oD
      refine ⟨fun i m H' => m = ds.length - i ∧ i ≤ ds.length ∧ ∃ e3 σ3 G3 acc as xs', Ex G1 G3 ∧ Same own σ σ3 ∧ RelG K pn e3 σ3 G3 (upd R D (.lst acc)) H' ∧ RepL K G3 acc as ∧ xs = as ++ xs' ∧ lcL own g t f (ds.drop i) e3 = .ok (xs', e2), ⟨_, rfl, Nat.zero_le _, e1, σ, G1, [], [], xs, Ex.refl _, Same.refl, gA, .nil, rfl, k2⟩, ?_⟩
      rintro i m H3 ⟨rfl, hi, e3, σ3, G3, acc, as, xs', x3, s3, g3, ra, hx, k3⟩
      have ws : wipe σ3 own = wipe σ own := wipe_same s3
      by_cases hlt : i < ds.length
      · rw [List.drop_eq_getElem_cons hlt] at k3
        obtain ⟨_, e4, h4, k4⟩ := bnd_ok k3
        have g4 := wipE_ok g3 h4
        rw [ws] at g4
        obtain ⟨ok1, ok2, ok3⟩ := ok pn e4 (wipe σ own) G3 _ H3 i x3 g4
        obtain ⟨_, e5, h5, k5⟩ := bnd_ok k4
        obtain ⟨kb, e6, h6, k6⟩ := bnd_ok k5
        refine .inr ⟨ok1 hlt, fun H' => ∃ e3 σ3 G3 acc as xs', Ex G1 G3 ∧ Same own σ σ3 ∧ RelG K pn e3 σ3 G3 (upd R D (.lst acc)) H' ∧ RepL K G3 acc as ∧ xs = as ++ xs' ∧ lcL own g t f (ds.drop (i + 1)) e3 = .ok (xs', e2), fun H' z => ⟨_, by omega, rfl, hlt, z⟩, fun x H5 y5 => ?_⟩
        have hd : ds[i]? = some ds[i] := by simp [hlt]
        obtain ⟨G5, x5, g5, r5⟩ := ok3 x H5 _ y5 hd
        refine ⟨pn, e4, G5, _, .sh ds[i], e5, h5, g5, r5, fun σ6 G6 H6 x6 s6 g6 => ?_⟩
        have s6' : Same own (wipe σ own) σ6 := s6.of hix
        have s7 : Same own σ σ6 := same_wipe.trans s6'
        refine ⟨wipe_same s7, pn, e5, G6, _, kb, e6, h6, g6, fun G7 H7 x7 g7 => ?_⟩
        have y := x3.trans (x5.trans (x6.trans x7))
        have y0 := x5.trans (x6.trans x7)
        cases kb with
        | false =>
          rw [if_neg Bool.false_ne_true] at k6
          show ∃ e3 σ3 G3 acc as xs', _
          exact ⟨e6, σ6, G7, acc, as, xs', y, s7, g7, ra.mono y0, hx, k6⟩
        | true =>
          rw [if_pos rfl] at k6
          show tEv K f σ6 H7 _
          obtain ⟨v, e8, h8, k8⟩ := bnd_ok k6
          obtain ⟨xd, e9, h9, k9⟩ := bnd_ok k8
          obtain ⟨xs2, e10, h10, k10⟩ := bnd_ok k9
          cases k10
          refine ⟨pn, e6, G7, _, v, e8, h8, g7, fun z G8 H8 x8 g8 r8 => ?_⟩
          obtain ⟨G9, x9, g9, r9⟩ := g8.shrV r8 h9
          have ra9 := ra.mono (y0.trans (x8.trans x9))
          refine ⟨acc, g9.rh _ _ upd_same, ?_, e9, σ6, G9, acc ++ [z], as ++ [xd], xs2, y.trans (x8.trans x9), s7, g9.frameSet, ra9.append (.cons r9 .nil), by rw [hx, List.append_assoc]; rfl, h10⟩
          rw [← lim_eq, ra.length]
          rw [hx, List.length_append, List.length_cons] at hlen
          omega
      · have e0 : i = ds.length := by omega
        rw [List.drop_eq_nil_of_le (by omega)] at k3
        obtain ⟨_, e4, h4, k4⟩ := bnd_ok k3
        cases k4
        have g4 := wipE_ok g3 h4
        rw [ws] at g4
        obtain ⟨ok1, ok2, ok3⟩ := ok pn e2 (wipe σ own) G3 _ H3 i x3 g4
        refine .inl ⟨ok2 e0, ?_⟩
        have hno := wipE_not hw
        have g5 : RelG K pn (putE own e1 e2) σ G3 (upd R D (.lst acc)) H3 := RelG.unwip g1 hno x3 g4 (wipE_env h4).2.2
        have RD' : R D = none := RD
        have ns : ¬ Owd (putE own e1 e2) σ D := fun z => by
          obtain ⟨_, z2, _⟩ := g5.owd z
          rw [upd_same] at z2; cases z2
        have g6 : RelG K pn (putE own e1 e2) σ G3 R H3 := g5.weakR (Ex.new RD')
        rw [List.append_nil] at hx
        subst hx
        exact fin _ G3 H3 (x1.trans x3) g6 ⟨D, rfl, g5.dj D (by rw [upd_same]; simp), RD', ⟨acc, g5.rh _ _ upd_same, ra⟩, ns⟩
    · cases k1'
end Pv
namespace Pv
open PySem L2
open Evl (Ex)

/-! ### calls of the text's own functions -/
def frzL : List Bool → List Val → M (List Val)
  | _, [] => ret []
  | true :: bs, v :: vs => bnd (frzL bs vs) fun r => ret (v :: r)
  | false :: bs, v :: vs => bnd (shr v) fun d => bnd (frzL bs vs) fun r => ret (.sh d :: r)
  | [], v :: vs => bnd (shr v) fun d => bnd (frzL [] vs) fun r => ret (.sh d :: r)
def slotOf (e : En) : Val → Option Slot
  | .sh d => some (.sh d)
  | .fr _ => none
  | .ow i => match e[i]? with
    | some (.ow _ d) => some (.ow true d)
    | _ => none
theorem slotOf_ow {e : En} {i : Nat} {s : Slot} (h : slotOf e (.ow i) = some s) : ∃ b d, e[i]? = some (.ow b d) ∧ s = .ow true d := by
  have h' : (match e[i]? with
    | some (.ow _ d) => some (Slot.ow true d)
    | _ => none) = some s := h
  split at h'
  · cases h'; exact ⟨_, _, by assumption, rfl⟩
  · cases h'
def slotsOf (e : En) : List Val → Option (List Slot)
  | [] => some []
  | v :: vs => match slotOf e v, slotsOf e vs with
    | some s, some ss => some (s :: ss)
    | _, _ => none
def pairs : Nat → List Val → List (Nat × Nat)
  | _, [] => []
  | k, .ow i :: r => (k, i) :: pairs (k + 1) r
  | k, .sh _ :: r => pairs (k + 1) r
  | k, .fr _ :: r => pairs (k + 1) r
def backE : List (Nat × Nat) → En → En → Option En
  | [], _, e => some e
  | (k, i) :: r, e', e => match e[i]?, e'[k]? with
    | some (.ow io _), some (.ow true d) => backE r e' (e.set i (.ow io d))
    | _, _ => none
def retV (e' : En) : Val → Option Val
  | .sh d => some (.sh d)
  | .fr d => some (.fr d)
  | .ow k => match e'[k]? with
    | some (.ow false d) => some (.fr d)
    | _ => none
abbrev Ev := List Slot → Out (Val × En)
def goV (ev : Ev) (vals : List Val) : M Val := fun e => match slotsOf e vals with
  | none => .err
  | some ss => if ((pairs 0 vals).map Prod.snd).Nodup then match ev ss with
      | .ok (val, e') => match backE (pairs 0 vals) e' e, retV e' val with
        | some e2, some val' => .ok (val', e2)
        | _, _ => .err
      | .err => .err
    else .err
def callV (bs : List Bool) (ev : Ev) (fs : List (M Val)) : M Val := bnd (argsC fs) fun vals => bnd (frzL bs vals) fun vals1 => goV ev vals1
def evF (n np : Nat) (body : M Fl) : Ev := fun ss => if ss.length = np then match body (ss ++ List.replicate (n - ss.length) .em) with
    | .ok (.rt v, e) => .ok (v, e)
    | .ok (.nx, e) => .ok (.sh .non, e)
    | _ => .err
  else .err
theorem evF_len {n np : Nat} {body : M Fl} {ss : List Slot} {r : Val × En} (h : evF n np body ss = .ok r) : ss.length = np := by
  unfold evF at h
  split at h
  · assumption
  · cases h

section
variable {K : PySem.W.Frag} {pn : Pn} {e e' : En} {σ : L2.St} {G G' R R' H H' : Hp} {v : V} {val : Val}
theorem frzL_ok : ∀ {bs : List Bool} {vals : List Val} {vs : List V} {e e' : En} {G : Hp} {r : List Val}, RelG K pn e σ G R H → PnVs K G σ vs vals → frzL bs vals e = .ok (r, e') → ∃ G', Ex G G' ∧ RelG K pn e' σ G' R H ∧ PnVs K G' σ vs r
  | bs, _, _, e, e', G, r, g, .nil, h => by
    have h' : ret ([] : List Val) e = .ok (r, e') := by cases bs with
      | nil => exact h
      | cons b _ => cases b <;> exact h
    cases h'
    exact ⟨G, Ex.refl G, g, .nil⟩
  | true :: bs, _, _, e, e', G, r, g, .cons p pp, h => by
    obtain ⟨r1, e1, h1, k1⟩ := bnd_ok h
    cases k1
    obtain ⟨G1, x1, g1, p1⟩ := frzL_ok g pp h1
    exact ⟨G1, x1, g1, .cons (p.mono x1) p1⟩
  | false :: bs, _, _, e, e', G, r, g, .cons p pp, h => by
    obtain ⟨d, e1, h1, k1⟩ := bnd_ok h
    obtain ⟨r2, e2, h2, k2⟩ := bnd_ok k1
    cases k2
    obtain ⟨G1, x1, g1, p1⟩ := g.shr p h1
    obtain ⟨G2, x2, g2, p2⟩ := frzL_ok g1 (PnVs.mono x1 pp) h2
    exact ⟨G2, x1.trans x2, g2, .cons (Rep.mono x2 p1) p2⟩
  | [], _, _, e, e', G, r, g, .cons p pp, h => by
    obtain ⟨d, e1, h1, k1⟩ := bnd_ok h
    obtain ⟨r2, e2, h2, k2⟩ := bnd_ok k1
    cases k2
    obtain ⟨G1, x1, g1, p1⟩ := g.shr p h1
    obtain ⟨G2, x2, g2, p2⟩ := frzL_ok g1 (PnVs.mono x1 pp) h2
    exact ⟨G2, x1.trans x2, g2, .cons (Rep.mono x2 p1) p2⟩
theorem pairs_mem : ∀ {vals : List Val} {k0 k i : Nat}, (k, i) ∈ pairs k0 vals ↔ ∃ j, k = k0 + j ∧ vals[j]? = some (.ow i)
  | [], k0, k, i => ⟨fun h => (nomatch h), fun ⟨j, _, h⟩ => by simp at h⟩
  | v :: r, k0, k, i => by
    have ih := fun k0 => @pairs_mem r k0 k i
    have up : (∃ j, k = k0 + j ∧ (v :: r)[j]? = some (.ow i)) ↔ (k = k0 ∧ v = .ow i) ∨ ∃ j, k = k0 + 1 + j ∧ r[j]? = some (.ow i) := by
      constructor
      · rintro ⟨j, h1, h2⟩
        cases j with
        | zero => simp at h2; exact .inl ⟨h1, h2⟩
        | succ j => exact .inr ⟨j, by omega, by simpa using h2⟩
      · rintro (⟨h1, h2⟩ | ⟨j, h1, h2⟩)
        · exact ⟨0, h1, by simp [h2]⟩
        · exact ⟨j + 1, by omega, by simpa using h2⟩
    rw [up]
    cases v with
    | ow i' =>
      show (k, i) ∈ (k0, i') :: pairs (k0 + 1) r ↔ _
      rw [List.mem_cons, ih]
      constructor
      · rintro (h | h)
        · cases h; exact .inl ⟨rfl, rfl⟩
        · exact .inr h
      · rintro (⟨h1, h2⟩ | h)
        · cases h2; subst h1; exact .inl rfl
        · exact .inr h
    | sh d =>
      show (k, i) ∈ pairs (k0 + 1) r ↔ _
      rw [ih]
      exact ⟨.inr, fun h => h.elim (fun z => by cases z.2) id⟩
    | fr d =>
      show (k, i) ∈ pairs (k0 + 1) r ↔ _
      rw [ih]
      exact ⟨.inr, fun h => h.elim (fun z => by cases z.2) id⟩
theorem slotsOf_get : ∀ {vals : List Val} {ss : List Slot}, slotsOf e vals = some ss → ss.length = vals.length ∧ ∀ (j : Nat) (w : Val), vals[j]? = some w → ∃ s, ss[j]? = some s ∧ slotOf e w = some s
  | [], ss, h => by cases h; exact ⟨rfl, fun j w q => by simp at q⟩
  | w :: r, ss, h => by
    unfold slotsOf at h
    split at h
    · rename_i s ss' h1 h2
      cases h
      obtain ⟨a, b⟩ := slotsOf_get h2
      refine ⟨by simpa using a, fun j x q => ?_⟩
      cases j with
      | zero => simp at q; subst q; exact ⟨s, rfl, h1⟩
      | succ j => obtain ⟨t, t1, t2⟩ := b j x (by simpa using q); exact ⟨t, by simpa using t1, t2⟩
    · cases h
theorem backE_ok : ∀ {ps : List (Nat × Nat)} {e e' e2 : En}, (ps.map Prod.snd).Nodup → backE ps e' e = some e2 → e2.length = e.length ∧ (∀ i, i ∉ ps.map Prod.snd → e2[i]? = e[i]?) ∧
    ∀ k i, (k, i) ∈ ps → ∃ (io : Bool) (d d' : D), e[i]? = some (.ow io d) ∧ e'[k]? = some (.ow true d') ∧ e2[i]? = some (.ow io d')
  | [], e, e', e2, _, h => by cases h; exact ⟨rfl, fun _ _ => rfl, fun k i q => (nomatch q)⟩
  | (k, i) :: r, e, e', e2, nd, h => by
    unfold backE at h
    split at h
    · rename_i io d d' h1 h2
      rw [List.map_cons, List.nodup_cons] at nd
      obtain ⟨a, b, c⟩ := backE_ok nd.2 h
      have hi : i < e.length := (List.getElem?_eq_some_iff.mp h1).1
      refine ⟨by simpa using a, fun j hj => ?_, fun k' i' q => ?_⟩
      · rw [List.map_cons, List.mem_cons, not_or] at hj
        rw [b j hj.2, set_ne hj.1]
      · rcases List.mem_cons.mp q with z | z
        · cases z
          exact ⟨io, d, d', h1, h2, by rw [b i nd.1, getElem?_setB hi]⟩
        · obtain ⟨io', d1, d2, q1, q2, q3⟩ := c k' i' z
          have hne : i' ≠ i := fun w => nd.1 (by rw [← w]; exact List.mem_map.mpr ⟨(k', i'), z, rfl⟩)
          rw [set_ne hne] at q1
          exact ⟨io', d1, d2, q1, q2, q3⟩
    · cases h
theorem snd_inj {ps : List (Nat × Nat)} (nd : (ps.map Prod.snd).Nodup) {k k' i : Nat} (h : (k, i) ∈ ps) (h' : (k', i) ∈ ps) : k = k' := by
  induction ps with
  | nil => cases h
  | cons q r ih =>
    rw [List.map_cons, List.nodup_cons] at nd
    rcases List.mem_cons.mp h with z | z <;> rcases List.mem_cons.mp h' with z' | z'
    · rw [← z] at z'; cases z'; rfl
    · exact absurd (List.mem_map.mpr ⟨(k', i), z', rfl⟩) (by rw [← z] at nd; exact nd.1)
    · exact absurd (List.mem_map.mpr ⟨(k, i), z, rfl⟩) (by rw [← z'] at nd; exact nd.1)
    · exact ih nd.2 z z'
theorem fst_inj {vals : List Val} {k i i' : Nat} (h : (k, i) ∈ pairs 0 vals) (h' : (k, i') ∈ pairs 0 vals) : i = i' := by
  obtain ⟨j, e1, q1⟩ := pairs_mem.mp h
  obtain ⟨j', e2, q2⟩ := pairs_mem.mp h'
  have : j = j' := by omega
  subst this
  rw [q1] at q2
  cases q2; rfl
/-- owned by the caller and not handed over -/
def Kept (e : En) (σ : L2.St) (ps : List (Nat × Nat)) (a : Addr) : Prop := ∃ (i : Nat) (b : Bool) (d : D), e[i]? = some (.ow b d) ∧ σ[i]? = some (some (.ref a)) ∧ i ∉ ps.map Prod.snd
open Classical in
noncomputable def Rc (e : En) (σ : L2.St) (ps : List (Nat × Nat)) (R H : Hp) : Hp := fun a => if Kept e σ ps a then H a else R a
def pnOf (ps : List (Nat × Nat)) (σ : L2.St) : Pn := ps.filterMap fun q => match σ[q.2]? with
  | some (some (V.ref p)) => some (q.1, p)
  | _ => none
theorem pnOf_mem {ps : List (Nat × Nat)} {q : Nat × Addr} (h : q ∈ pnOf ps σ) : ∃ i, (q.1, i) ∈ ps ∧ σ[i]? = some (some (.ref q.2)) := by
  obtain ⟨a, h1, h2⟩ := List.mem_filterMap.mp h
  split at h2
  · cases h2; exact ⟨a.2, h1, by assumption⟩
  · cases h2
theorem mem_pnOf {ps : List (Nat × Nat)} {k i : Nat} {p : Addr} (h : (k, i) ∈ ps) (hs : σ[i]? = some (some (.ref p))) : (k, p) ∈ pnOf ps σ := List.mem_filterMap.mpr ⟨(k, i), h, by simp only [hs]⟩
theorem rc_ex (g : RelG K pn e σ G R H) (ps : List (Nat × Nat)) : Ex R (Rc e σ ps R H) := fun a u q => by
  unfold Rc
  split
  · exact g.rh _ _ q
  · exact q
theorem paired_get {α β : Type} {p : α → β → Prop} : ∀ {l : List α} {m : List β} {i : Nat} {y : β}, Paired p l m → m[i]? = some y → ∃ x, l[i]? = some x ∧ p x y
  | _, _, _, _, .nil, h => by simp at h
  | _, _, 0, _, .cons h _, e => by simp at e; subst e; exact ⟨_, rfl, h⟩
  | _, _, i + 1, _, .cons _ r, e => by
    obtain ⟨x, a, b⟩ := paired_get (i := i) r (by simpa using e)
    exact ⟨x, by simpa using a, b⟩
/-- into the callee -/
theorem RelG.into {vals : List Val} {vs : List V} {ss : List Slot} {n : Nat} (g : RelG K pn e σ G R H) (r : PnVs K G σ vs vals) (hs : slotsOf e vals = some ss) (nd : ((pairs 0 vals).map Prod.snd).Nodup) :
    RelG K (pnOf (pairs 0 vals) σ) (ss ++ List.replicate n .em) (vs.map some ++ List.replicate n none) G (Rc e σ (pairs 0 vals) R H) H := by
  obtain ⟨hl, hg⟩ := slotsOf_get hs
  have hvl : vs.length = vals.length := paired_len r
  have inv : ∀ (j : Nat) (s : Slot), (ss ++ List.replicate n .em)[j]? = some s → s = .em ∨ ∃ w v, vals[j]? = some w ∧ slotOf e w = some s ∧ vs[j]? = some v ∧ PnV K G σ v w ∧ (vs.map some ++ List.replicate n none)[j]? = some (some v) := fun j s q => by
    by_cases hj : j < ss.length
    · rw [List.getElem?_append_left hj] at q
      have hj2 : j < vals.length := by rw [← hl]; exact hj
      obtain ⟨s', t1, t2⟩ := hg j vals[j] (by simp [hj2])
      rw [q] at t1
      cases t1
      obtain ⟨v, v1, v2⟩ := paired_get (i := j) r (by simp [hj2] : vals[j]? = some vals[j])
      refine .inr ⟨_, v, by simp [hj2], t2, v1, v2, ?_⟩
      rw [List.getElem?_append_left (by rw [List.length_map, hvl]; exact hj2), List.getElem?_map, v1]
      rfl
    · rw [List.getElem?_append_right (by omega), List.getElem?_replicate] at q
      split at q
      · cases q; exact .inl rfl
      · cases q
  have ow : ∀ (j : Nat) (b : Bool) (d : D), (ss ++ List.replicate n .em)[j]? = some (.ow b d) → ∃ (i : Nat) (b' : Bool) (p : Addr), b = true ∧ (j, i) ∈ pairs 0 vals ∧ e[i]? = some (.ow b' d) ∧ σ[i]? = some (some (.ref p)) ∧ (vs.map some ++ List.replicate n none)[j]? = some (some (.ref p)) ∧ G p = none ∧ R p = none ∧ OwnR K G H p d := fun j b d q => by
    rcases inv j _ q with z | ⟨w, v, h1, h2, h3, h4, h5⟩
    · cases z
    · cases w with
      | sh d' => cases h2
      | fr d' => cases h2
      | ow i =>
        obtain ⟨b', d', hq, h6⟩ := slotOf_ow h2
        cases h6
        obtain ⟨p, a1, a2, a3, a4⟩ := g.own hq
        have h4' : σ[i]? = some (some v) := h4
        rw [a1] at h4'
        cases h4'
        exact ⟨i, b', p, rfl, pairs_mem.mpr ⟨j, by omega, h1⟩, hq, a1, h5, a2, a3, a4⟩
  refine ⟨g.gh, fun a u q => ?_, fun a ha => ?_, by simp [hl, hvl], fun j s q => ?_, fun j k b d b' d' hjk q1 q2 => ?_, fun q hq => ?_⟩
  · unfold Rc at q
    split at q
    · exact q
    · exact g.rh _ _ q
  · unfold Rc at ha
    split at ha
    · rename_i hk
      obtain ⟨i, b, d, h1, h2, _⟩ := hk
      exact (g.owd ⟨i, b, d, h1, h2⟩).1
    · exact g.dj a ha
  · rcases inv j s q with z | ⟨w, v, h1, h2, h3, h4, h5⟩
    · subst z; exact trivial
    · rw [h5]
      cases s with
      | em => exact trivial
      | sh d =>
        refine ⟨v, rfl, ?_⟩
        cases w with
        | sh d' => cases h2; exact h4
        | fr d' => cases h2
        | ow i => obtain ⟨_, _, _, h6⟩ := slotOf_ow h2; cases h6
      | ow b d =>
        obtain ⟨i, b', p, rfl, m, q1, q2, q3, a2, a3, a4⟩ := ow j b d q
        rw [h5] at q3
        cases q3
        refine ⟨p, rfl, a2, ?_, a4⟩
        unfold Rc
        rw [if_neg]
        · exact a3
        · rintro ⟨i2, b2, d2, z1, z2, z3⟩
          have hne : i2 ≠ i := fun z => z3 (by rw [z]; exact List.mem_map.mpr ⟨(j, i), m, rfl⟩)
          exact g.ap i2 i _ _ _ _ hne z1 q1 (by rw [z2, q2])
  · obtain ⟨i, b1, p, _, m, q3, q4, q5, _⟩ := ow j _ _ q1
    obtain ⟨i', b1', p', _, m', q3', q4', q5', _⟩ := ow k _ _ q2
    rw [q5, q5']
    intro z
    cases z
    have hne : i ≠ i' := fun z => hjk (by subst z; exact snd_inj nd m m')
    exact g.ap i i' _ _ _ _ hne q3 q3' (by rw [q4, q4'])
  · obtain ⟨i, m, hσ⟩ := pnOf_mem hq
    obtain ⟨j, e1, hv⟩ := pairs_mem.mp m
    have e1' : q.1 = j := by omega
    rw [e1']
    obtain ⟨s, t1, t2⟩ := hg j _ hv
    have hj : j < vals.length := (List.getElem?_eq_some_iff.mp hv).1
    obtain ⟨v, v1, v2⟩ := paired_get r hv
    have v2' : σ[i]? = some (some v) := v2
    rw [hσ] at v2'
    cases v2'
    refine ⟨by rw [List.getElem?_append_left (by rw [List.length_map, hvl]; exact hj), List.getElem?_map, v1]; rfl, ?_⟩
    rw [List.getElem?_append_left (by rw [hl]; exact hj), t1]
    obtain ⟨_, d, _, h6⟩ := slotOf_ow t2
    exact ⟨d, by rw [h6]⟩
/-- .. and back -/
theorem RelG.back {vals : List Val} {ec e2 : En} {σc : L2.St} {pc : Pn} (g : RelG K pn e σ G R H) (nd : ((pairs 0 vals).map Prod.snd).Nodup) (hpc : pc = pnOf (pairs 0 vals) σ) (x : Ex G G') (gc : RelG K pc ec σc G' (Rc e σ (pairs 0 vals) R H) H') (hb : backE (pairs 0 vals) ec e = some e2) :
    RelG K pn e2 σ G' R H' ∧ ∀ a, Owd e2 σ a → (Rc e σ (pairs 0 vals) R H) a ≠ none ∨ ∃ (k : Nat) (d : D), ec[k]? = some (.ow true d) ∧ σc[k]? = some (some (.ref a)) := by
  subst hpc
  obtain ⟨b1, b2, b3⟩ := backE_ok nd hb
  have ow : ∀ (i : Nat) (b : Bool) (d : D), e2[i]? = some (.ow b d) → ∃ (p : Addr) (d0 : D), e[i]? = some (.ow b d0) ∧ σ[i]? = some (some (.ref p)) ∧ G' p = none ∧ R p = none ∧ OwnR K G' H' p d ∧ ((Rc e σ (pairs 0 vals) R H) p ≠ none ∨ ∃ (k : Nat) (d : D), ec[k]? = some (.ow true d) ∧ σc[k]? = some (some (.ref p))) := fun i b d q => by
    by_cases hm : i ∈ (pairs 0 vals).map Prod.snd
    · obtain ⟨⟨k, i'⟩, m, rfl⟩ := List.mem_map.mp hm
      obtain ⟨io, d1, d2, q1, q2, q3⟩ := b3 k i' m
      simp only at q
      rw [q3] at q
      cases q
      obtain ⟨p, a1, a2, a3, a4⟩ := g.own q1
      obtain ⟨c1, _⟩ := gc.pin (k, p) (mem_pnOf m a1)
      obtain ⟨p', c3, c4, c5, c6⟩ := gc.own q2
      simp only at c1
      rw [c1] at c3
      cases c3
      exact ⟨p, d1, q1, a1, c4, a3, c6, .inr ⟨k, _, q2, c1⟩⟩
    · rw [b2 i hm] at q
      obtain ⟨p, a1, a2, a3, a4⟩ := g.own q
      have hk : Kept e σ (pairs 0 vals) p := ⟨i, b, d, q, a1, hm⟩
      obtain ⟨o, ho⟩ := a4.some
      have hR : (Rc e σ (pairs 0 vals) R H) p = some o := by unfold Rc; rw [if_pos hk]; exact ho
      have hH' := gc.rh _ _ hR
      exact ⟨p, d, q, a1, gc.dj p (by rw [hR]; simp), a3, (a4.at (hH'.trans ho.symm)).monoG x, .inl (by rw [hR]; simp)⟩
  refine ⟨⟨gc.gh, (rc_ex g _).trans gc.rh, fun a ha => gc.dj a fun z => ha (by
    cases q : R a with
    | none => rfl
    | some o => rw [rc_ex g _ _ _ q] at z; cases z), by rw [b1]; exact g.len, fun i s q => ?_, fun i j b d b' d' hij q1 q2 => ?_, fun q hq => ?_⟩, fun a ha => ?_⟩
  · cases s with
    | em => exact trivial
    | sh d =>
      have hm : i ∉ (pairs 0 vals).map Prod.snd := fun hm => by
        obtain ⟨⟨k, i'⟩, m, rfl⟩ := List.mem_map.mp hm
        obtain ⟨io, d1, d2, q1, q2, q3⟩ := b3 k i' m
        simp only at q
        rw [q3] at q
        cases q
      rw [b2 i hm] at q
      obtain ⟨v, a, b⟩ := g.sl i _ q
      exact ⟨v, a, b.mono x⟩
    | ow b d =>
      obtain ⟨p, d0, _, a1, a2, a3, a4, _⟩ := ow i b d q
      exact ⟨p, a1, a2, a3, a4⟩
  · obtain ⟨_, _, r1, _⟩ := ow i b d q1
    obtain ⟨_, _, r2, _⟩ := ow j b' d' q2
    exact g.ap i j _ _ _ _ hij r1 r2
  · obtain ⟨a, d, b⟩ := g.pin q hq
    refine ⟨a, ?_⟩
    by_cases hm : q.1 ∈ (pairs 0 vals).map Prod.snd
    · obtain ⟨⟨k, i'⟩, m, hi⟩ := List.mem_map.mp hm
      obtain ⟨io, d1, d2, q1, q2, q3⟩ := b3 k i' m
      simp only at hi
      rw [← hi] at b ⊢
      rw [q1] at b
      cases b
      exact ⟨d2, q3⟩
    · rw [b2 _ hm]; exact ⟨d, b⟩
  · obtain ⟨i, b, d, q1, q2⟩ := ha
    obtain ⟨p, d0, _, a1, _, _, _, h⟩ := ow i b d q1
    rw [q2] at a1
    cases a1
    exact h
/-- what the callee hands back -/
theorem retV_ok {ec e2 : En} {σc : L2.St} {pc : Pn} {Rk : Hp} {val val' : Val} (gc : RelG K pc ec σc G' Rk H') (x : Ex R Rk) (ho : ∀ a, Owd e2 σ a → Rk a ≠ none ∨ ∃ (k : Nat) (d : D), ec[k]? = some (.ow true d) ∧ σc[k]? = some (some (.ref a))) (r : RepVal K G' Rk H' ec σc v val) (h : retV ec val = some val') : RepVal K G' R H' e2 σ v val' := by
  have low : ∀ p, Rk p = none → R p = none := fun p z => by
    cases q : R p with
    | none => rfl
    | some o => rw [x _ _ q] at z; cases z
  cases val with
  | sh d => cases h; exact r
  | fr d =>
    cases h
    obtain ⟨p, h1, h2, h3, h4, h5⟩ := r
    exact ⟨p, h1, h2, low p h3, h4, fun z => (ho p z).elim (fun w => w h3) fun ⟨k, d, w1, w2⟩ => h5 ⟨k, true, d, w1, w2⟩⟩
  | ow k =>
    have h' : (match ec[k]? with
      | some (.ow false d) => some (Val.fr d)
      | _ => none) = some val' := h
    split at h'
    · rename_i d hq
      cases h'
      obtain ⟨p, a1, a2, a3, a4⟩ := gc.own hq
      obtain ⟨r1, _⟩ := r
      rw [a1] at r1
      cases r1
      refine ⟨p, rfl, a2, low p a3, a4, fun z => ?_⟩
      rcases ho p z with w | ⟨j, d', w1, w2⟩
      · exact w a3
      · have hne : j ≠ k := fun z => by rw [z, hq] at w1; cases w1
        exact gc.ap j k _ _ _ _ hne w1 hq (by rw [w2, a1])
    · cases h'
end
end Pv
namespace Pv
open PySem L2 PySem.Spec PyProof.Rows
open Evl (Ex)

/-! ### a def's promise, no guard set -/
def noX : CXT := fun _ _ _ _ _ _ => False
def spG (K : PySem.W.Frag) (np : Nat) (ev : Ev) : List V → Hp → VK → Prop := fun vs H Q => vs.length = np ∧ ∃ (pn : Pn) (ss : List Slot) (G R : Hp) (val : Val) (e' : En), ev ss = .ok (val, e') ∧ ss.length = np ∧
  (∀ n, RelG K pn (ss ++ List.replicate n .em) (vs.map some ++ List.replicate n none) G R H) ∧ ∀ v σ' G' H', Ex G G' → RelG K pn e' σ' G' R H' → RepVal K G' R H' e' σ' v val → Q v H'
structure FnG (P : Program) (w : World) (K : PySem.W.Frag) (mg : Str → Option Value) (base : Heap) (k : Nat) (f : Addr) (fd : FuncData) (ps : List Str) (ev : Ev) : Prop where
  go : ∀ (A : Around) (out : List Env) (s : Shared) (H : Hp) (args : Args) (us : List Value) (vs : List V) (Q : VK), Room k A → A.guards = some [] → Env0 P w K mg base A out s H →
    BindsTo s fd args (ps.zip us) → Vals vs us → spG K ps.length ev vs H Q → codeAny (model P w) A (.call (.ref f) args) (CR noX out P w H s Q fun _ _ _ => False) s
theorem FnG.mono {P : Program} {w : World} {K : PySem.W.Frag} {mg : Str → Option Value} {base : Heap} {j k : Nat} {f : Addr} {fd : FuncData} {ps : List Str} {ev : Ev} (F : FnG P w K mg base j f fd ps ev) (h : j ≤ k) : FnG P w K mg base k f fd ps ev :=
  ⟨fun A out s H args us vs Q hr => F.go A out s H args us vs Q (hr.mono h)⟩
/-- the context of a body -/
abbrev cxG (P : Program) (w : World) (K : PySem.W.Frag) (mg : Str → Option Value) (base : Heap) (N : List Str) (qual : Str) (sc : Scope) (f : Addr) (cd : Value) (A : Around) (out : List Env) (s : Shared) (H : Hp) : Cx :=
  (cxOf noX P w K mg base N qual sc f cd A out s H fun _ _ _ => False).nox
section
variable {P : Program} {w : World} {K : PySem.W.Frag} {mg : Str → Option Value} {base : Heap} {k : Nat} {f : Addr}
theorem fnG_of {nm qual : Str} {prm : Arguments} {body : List Stmt} {sc : Scope} {dV kV doc pm cdv ct oc : Value} {an od : Option Addr} {osl : Array (Option Value)} {N ps : List Str} {fb : M Fl}
    (lk : K.lookup f = some ⟨oc, od, .func (PySem.W.fnOf nm qual prm body sc dV kV doc pm an cdv ct), osl⟩) (hcd : PySem.W.codeIn K cdv qual = true) (S : FnScope N ps sc)
    (hbody : ∀ (A : Around) (out : List Env) (s : Shared) (H : Hp), Room k (A.deeper (envOfC qual sc s.heap.objs.size f cdv)) → A.guards = some [] → PSs (cxG P w K mg base N qual sc f cdv A out s H) body (tSv K fb)) :
    FnG P w K mg base (k + 1) f (PySem.W.fnOf nm qual prm body sc dV kV doc pm an cdv ct) ps (evF N.length ps.length fb) := by
  constructor
  intro A out s H args us vs Q hr hgu e0 hb r hsp
  obtain ⟨hl, pn, ss, G, R, val, e', hev, hsl, hrel, hQ⟩ := hsp
  have inK : K.In s.heap := e0.mod.kin.keeps fun b o z => (e0.bs b o z).1
  have nolim : s.heap.NoLimit := e0.mod.nolimit.keeps fun b o z => (e0.bs b o z).1
  have kinds : ∀ y ∈ ps.zip us, sc.names.lookup y.1 = some .local ∨ (sc.names.lookup y.1 = some .cell ∧ ((cellsFrom (s.heap.objs.size + 1) sc.names []).lookup y.1).isSome = true) := by
    intro y hy
    obtain ⟨a, b⟩ := y
    have hp := S.par a (List.of_mem_zip hy).1
    cases hp with
    | inl q => exact Or.inl q
    | inr q => exact Or.inr ⟨q, PySem.W.cellsFrom_some _ _ _ (Or.inl q)⟩
  apply codeAny_call_function hr.depth (inK _ _ lk) rfl S.co S.gen rfl (PySem.W.codeRec_of inK hcd) (hb _ _ _ _ ?_)
  apply wpAny_newFunctionEnv_cells S.kind kinds
  intro env he s1 x
  subst he
  refine ⟨nolim.keeps x.toInCall.keep, codeAny_func ?_⟩
  have J := inv_start (CX := noX) (E := fun _ _ _ => False) S hr.hd e0 hl r x
  have B := (hbody A out s H (hr.deeper _) hgu).nox
  have q : tSv K fb { nx := fun _ H' => Q .non H', rt := Q } (start N vs) H := by
    unfold evF at hev
    rw [if_pos hsl] at hev
    have hN : N.length - ss.length = N.length - vs.length := by rw [hl, hsl]
    rw [hN] at hev
    split at hev
    · rename_i v1 e1 h1
      cases hev
      exact ⟨pn, _, G, R, _, _, h1, hrel _, fun v σ' G' H' x' _ g' r' => hQ v σ' G' H' x' g' r'⟩
    · rename_i e1 h1
      cases hev
      exact ⟨pn, _, G, R, _, _, h1, hrel _, fun σ' G' H' x' _ g' => hQ .non σ' G' H' x' g' .non⟩
    · cases hev
  refine wpAny_mono (B.run [] s1 (start N vs) H _ J q) (fun fl s' hs => ?_) fun e s' hs => hs
  cases fl with
  | ret u =>
    obtain ⟨v, σ', H', I2, rv, hq⟩ := hs
    exact ⟨v, H', I2.os, I2.bare, I2.base, I2.hok, rv, hq⟩
  | next =>
    obtain ⟨σ', H', I2, hq⟩ := hs
    exact ⟨V.non, H', I2.os, I2.bare, I2.base, I2.hok, (rfl : Value.none = _), hq⟩
  | brk => exact hs.elim fun _ z => z.elim fun _ z => z.2.elim
  | cont => exact hs.elim fun _ z => z.elim fun _ z => z.2.elim
end
/-! ### the caller's side -/
def tCl (sp : List V → Hp → VK → Prop) (t : TA) : TE := fun σ H Q => t σ H fun vs H1 => sp vs H1 Q
section
variable {X : Cx} {k : Nat} {f : Addr} {fd : FuncData} {ps : List Str} {ev : Ev} {x : Str} {p pos : Pos} {a : Expr} {es : List Expr} {t : TA} {fs : List (M Val)} {bs : List Bool}
theorem runG {pins : List (Addr × Obj)} {σ : L2.St} {H : Hp} {s : Shared} {Q : VK} {us : List Value} {vs : List V} (F : FnG X.prog X.w X.K X.mg X.base k f fd ps ev) (hr : Room k X.A) (hgu : X.A.guards = some []) (hb : Binds X.K fd ps [])
    (I : Inv X pins σ H s) (r : Vals vs us) (h : spG X.K ps.length ev vs H Q) : wpAny (model X.prog X.w) X.A (call (.ref f) us) (EP X pins σ Q) X.xe s := by
  have lu : (us ++ []).length = ps.length := by rw [List.append_nil, ← r.length]; exact h.1
  have bt := hb s us I.kIn lu
  rw [List.append_nil] at bt
  refine wpAny_call (codeAny_mono (F.go X.A X.stack s H ⟨us, []⟩ us vs Q hr hgu I.env0 bt r h) fun res s' hq => ?_)
  match res, hq with
  | .ok (.ret u), hq => exact I.after hq
theorem pe_callG (F : FnG X.prog X.w X.K X.mg X.base k f fd ps ev) (hr : Room k X.A) (hgu : X.A.guards = some []) (hg : Gl X x) (hm : X.mg x = some (.ref f)) (hk : PySem.W.keepIn X.K (.ref f) = true) (hb : Binds X.K fd ps [])
    (ha : PA X (a :: es) t) (hdb : (x == ("__debug__" : Str)) = false) (hs : (a :: es).all notStar = true) : PE X (.Call (.Name x p) (a :: es) [] pos) (tCl (spG X.K ps.length ev) t) := by
  constructor
  intro pins s σ H Q I h
  rw [List.all_cons, Bool.and_eq_true] at hs
  apply wpAny_Call_Name_kw
  apply ld_glob I hg hm _ hdb
  apply PySem.W.callWith_K (h₀ := X.base) I.ok.mod.kin hk _ (star_cons hs.1) (star_plain hs.2)
  exact thn (ha.run pos pins s σ H _ I h) fun us s1 ⟨vs, H1, I1, r, q⟩ => ⟨I1.kIn, runG F hr hgu hb I1 r q⟩
theorem pe_callG0 (F : FnG X.prog X.w X.K X.mg X.base k f fd ps ev) (hr : Room k X.A) (hgu : X.A.guards = some []) (hg : Gl X x) (hm : X.mg x = some (.ref f)) (hk : PySem.W.keepIn X.K (.ref f) = true) (hb : Binds X.K fd ps [])
    (hdb : (x == ("__debug__" : Str)) = false) : PE X (.Call (.Name x p) [] [] pos) (tCl (spG X.K ps.length ev) tNil) := by
  constructor
  intro pins s σ H Q I h
  apply wpAny_Call_Name_kw
  apply ld_glob I hg hm _ hdb
  exact PySem.W.callWith_K0 I.kIn hk (runG F hr hgu hb (us := []) I .nil h)
theorem tcl {K : PySem.W.Frag} {np : Nat} {σ : L2.St} {H : Hp} {Q : VK} (hl : ∀ ss r, ev ss = .ok r → ss.length = np) (h : tEv K (callV bs ev fs) σ H Q) : tCl (spG K np ev) (tAv K (argsC fs)) σ H Q := by
  obtain ⟨pn, e, G, R, val, e', he, g, fin⟩ := h
  obtain ⟨vals, e1, h1, k1⟩ := bnd_ok he
  obtain ⟨vals1, e2, h2, k2⟩ := bnd_ok k1
  refine ⟨pn, e, G, R, vals, e1, h1, g, fun vs G1 H1 x1 g1 p1 => ?_⟩
  obtain ⟨G2, x2, g2, p2⟩ := frzL_ok g1 p1 h2
  unfold goV at k2
  cases hs : slotsOf e2 vals1 with
  | none => simp only [hs] at k2; cases k2
  | some ss =>
    simp only [hs] at k2
    split at k2
    · rename_i nd
      cases hv : ev ss with
      | err => rw [hv] at k2; cases k2
      | ok q =>
        obtain ⟨vr, ec⟩ := q
        simp only [hv] at k2
        cases hb : backE (pairs 0 vals1) ec e2 with
        | none => simp only [hb] at k2; cases k2
        | some e3 =>
          simp only [hb] at k2
          cases hv2 : retV ec vr with
          | none => simp only [hv2] at k2; cases k2
          | some v3 =>
            simp only [hv2] at k2
            cases k2
            have ls := hl _ _ hv
            refine ⟨by rw [paired_len p2, ← (slotsOf_get hs).1, ls], pnOf (pairs 0 vals1) σ, ss, G2, Rc e2 σ (pairs 0 vals1) R H1, vr, ec, hv, ls, fun n => g2.into p2 hs nd, fun v σ' G' H' x' g' r' => ?_⟩
            obtain ⟨g4, ho⟩ := RelG.back g2 nd rfl x' g' hb
            exact fin v G' H' (x1.trans (x2.trans x')) g4 (retV_ok g' (rc_ex g2 _) ho r' hv2)
    · cases k2
theorem se_call (F : FnG X.prog X.w X.K X.mg X.base k f fd ps ev) (hr : Room k X.A) (hgu : X.A.guards = some []) (hg : Gl X x) (hm : X.mg x = some (.ref f)) (hk : PySem.W.keepIn X.K (.ref f) = true) (hb : Binds X.K fd ps [])
    (hl : ∀ ss r, ev ss = .ok r → ss.length = ps.length) (hdb : (x == ("__debug__" : Str)) = false) (hs : (a :: es).all notStar = true) (h : Paired (fun a f => PE X a (tEv X.K f)) (a :: es) fs) :
    PE X (.Call (.Name x p) (a :: es) [] pos) (tEv X.K (callV bs ev fs)) := PE_mono (pe_callG F hr hgu hg hm hk hb (sa_args _ fs hs h) hdb hs) fun _ _ _ q => tcl hl q
theorem se_call0 (F : FnG X.prog X.w X.K X.mg X.base k f fd ps ev) (hr : Room k X.A) (hgu : X.A.guards = some []) (hg : Gl X x) (hm : X.mg x = some (.ref f)) (hk : PySem.W.keepIn X.K (.ref f) = true) (hb : Binds X.K fd ps [])
    (hl : ∀ ss r, ev ss = .ok r → ss.length = ps.length) (hdb : (x == ("__debug__" : Str)) = false) : PE X (.Call (.Name x p) [] [] pos) (tEv X.K (callV bs ev [])) := PE_mono (pe_callG0 F hr hgu hg hm hk hb hdb) fun σ H Q q => by
  obtain ⟨pn, e, G, R, vals, e1, h1, g, fin⟩ := tcl hl q
  cases h1
  exact fin [] G H (Ex.refl G) g .nil
end
/-! ### the law's end -/
theorem law_callG {P : Program} {w : World} {K : PySem.W.Frag} {mg mb : Str → Option Value} {k : Nat} {fa a : Addr} {fd : FuncData} {x : Str} {ev : Ev} {t : Shared} {vs : List Value} {ns : List Int}
    (inK : K.In t.heap) (hns : t.heap.Ns mainGlobals mg) (hb : t.heap.Ns builtinsNs mb) (hbb : ∀ x : Str, x ≠ "__name__" → mb x = bootBuiltins x) (hlim : t.heap.NoLimit) (hg : t.gens = #[])
    (ha : t.heap.get? a = some { cls := .type "list", data := .seq vs.toArray }) (hi : IntsAre vs ns) (hl : ns.length ≤ sizeLine) (hr : Room k callerA)
    (F : ∀ base : Heap, K.In base → base.Ns mainGlobals mg → FnG P w K mg base k fa fd [x] ev) (hbind : ∀ (s : Shared) (u : Value), BindsTo s fd ⟨[u], []⟩ [(x, u)])
    (hev : ∃ e', ev [.sh (.scr ns)] = .ok (.sh (.bl true), e')) :
    codeAny (model P w) callerA (.call (.ref fa) ⟨[.ref a], []⟩) (fun r s' => r = .ok (.ret (.bool true)) ∧ OldK t.heap s'.heap ∧ s'.os = t.os ∧ AllBare s'.gens) t := by
  have rv := vals_ints hi
  have lenV := hi.length
  obtain ⟨e', hev⟩ := hev
  have key : ∀ H : Hp, Only H → SqL K H a (ns.map V.int) → HOk P w H t.heap → (∀ b, H b ≠ none → b = a) → (H a ≠ none → K.lookup a = none) →
      codeAny (model P w) callerA (.call (.ref fa) ⟨[.ref a], []⟩) (fun r s' => r = .ok (.ret (.bool true)) ∧ OldK t.heap s'.heap ∧ s'.os = t.os ∧ AllBare s'.gens) t := by
    intro H hO hS hok hA hK
    have at_a : ∀ {b : Addr}, (∃ u, H b = some u) → b = a := fun {b} ⟨u, q⟩ => hA b (by rw [q]; exact fun z => nomatch z)
    have noD : ∀ {b : Addr} {o : Obj} {es : Array DictEntry} {ep : Nat}, t.heap.get? b = some o → o.data = .dict es ep → H b = none := by
      intro b o es ep e d
      match q : H b with
      | none => rfl
      | some u =>
        have e2 := at_a ⟨u, q⟩
        subst e2
        rw [ha] at e; cases e
        exact (nomatch d)
    have nsK : ∀ {b : Addr} {m : Str → Option Value}, t.heap.Ns b m → (hidT t.heap H).Ns b m := by
      intro b m ⟨o, es, ep, e, d, r⟩
      exact ⟨o, es, ep, hidT_get e (noD e d), d, r⟩
    have inH : K.In (hidT t.heap H) := by
      intro b o e
      refine hidT_get (inK b o e) ?_
      match q : H b with
      | none => rfl
      | some u =>
        have e2 := at_a ⟨u, q⟩
        subst e2
        have e3 := hK (by rw [q]; exact fun z => nomatch z)
        rw [e3] at e; cases e
    obtain ⟨mc, lim1, lim2⟩ := hlim
    have mo : Mod K mg (hidT t.heap H) := ⟨inH, nsK hns, ⟨mb, nsK hb, hbb⟩, ⟨mc, nsK lim1, lim2⟩⟩
    have e0 : Env0 P w K mg (hidT t.heap H) callerA [] t H := by
      refine ⟨rfl, mo, fun b o e => of_hidT e, Nat.le_of_eq (hidT_size _ _), trivial, ?_, hok, AllBare.of_eq hg⟩
      intro b hb
      exact absurd (show b ∈ ([] : List Addr) from hb) (List.not_mem_nil)
    have sp : spG K [x].length ev [.ref a] H (fun v _ => v = .bl true) := by
      refine ⟨rfl, [], [.sh (.scr ns)], H, fun _ => none, .sh (.bl true), e', hev, rfl, fun n => ⟨Ex.refl H, (fun _ _ z => nomatch z), (fun _ z => absurd rfl z), by simp, fun i s q => ?_, fun i j b d b' d' hij q1 q2 => ?_, (fun q hq => nomatch hq)⟩, fun v σ' G' H' _ _ r => ?_⟩
      · cases i with
        | zero => simp at q; subst q; exact ⟨.ref a, rfl, .scr hS⟩
        | succ i =>
          have q' : (List.replicate n Slot.em)[i]? = some s := by simpa using q
          rw [List.getElem?_replicate] at q'
          split at q'
          · cases q'; exact trivial
          · cases q'
      · cases i with
        | zero => simp at q1
        | succ i =>
          have q' : (List.replicate n Slot.em)[i]? = some (.ow b d) := by simpa using q1
          rw [List.getElem?_replicate] at q'
          split at q' <;> cases q'
      · have r' : Rep K G' v (.bl true) := r
        cases r'
        rfl
    refine codeAny_mono ((F _ inH (nsK hns)).go callerA [] t H ⟨[.ref a], []⟩ [.ref a] [.ref a] _ hr rfl e0 (hbind t (.ref a)) (.cons rfl .nil) sp) fun r s' h => ?_
    match r, h with
    | .ok (.ret u), ⟨v, H', os, bare, un, hok', r', q⟩ =>
      have q' : v = .bl true := q
      subst q'
      have ru : u = Value.bool true := r'
      refine ⟨by rw [ru], OldK.of_keep fun b o e => ?_, os, bare⟩
      match q : H b with
      | none => exact un.keep b o e q (fun z => absurd (show b ∈ ([] : List Addr) from z) List.not_mem_nil) (by simp)
      | some u =>
        match hO b with
        | .inl z => rw [q] at z; cases z
        | .inr ⟨ob, xs, z⟩ =>
          have h1 := (hok b _ z).1
          have h2 := (hok' b _ (un.frzs b ob _ z)).1
          rw [e] at h1
          cases h1
          exact h2
  match hk : K.lookup a with
  | some o =>
    have e := inK a o hk
    rw [ha] at e
    cases e
    apply key (fun _ => none) (fun _ => .inl rfl) (.inr ⟨_, vs.toArray, _, hk, rfl, rfl, rfl, by rw [List.size_toArray, lenV]; exact hl, by simpa using rv⟩)
    · intro b u z; exact nomatch z
    · intro b z; exact absurd rfl z
    · intro z; exact absurd rfl z
  | none =>
    let ob : Obj := { cls := .type "list", data := .seq vs.toArray }
    let Ha : Hp := fun b => if b = a then some (.frz ob (.lst (ns.map V.int))) else none
    have H1 : Ha a = some (.frz ob (.lst (ns.map V.int))) := if_pos rfl
    have H2 : ∀ b, b ≠ a → Ha b = none := fun b h => if_neg h
    apply key Ha
    · intro b
      by_cases hb : b = a
      · exact .inr ⟨ob, _, by rw [hb]; exact H1⟩
      · exact .inl (H2 b hb)
    · exact .inl (.inr ⟨ob, H1⟩)
    · intro b u z
      by_cases hb : b = a
      · subst hb
        rw [H1] at z
        cases z
        exact ⟨ha, by rw [List.length_map]; exact hl, vs, _, rv, ha⟩
      · rw [H2 b hb] at z; cases z
    · intro b z
      by_cases hb : b = a
      · exact hb
      · exact absurd (H2 b hb) z
    · intro _; exact hk
theorem walk_ofG {l : PySem.W.OpenLaw} {n k : Nat} {q : Program} {loose : List Str} {XP : (Str → Option Value) → Heap → Prop} {YP : World → Heap → Prop} {d : DefRec} {x : Str} {ev : Ev}
    (hn : l.most = some n) (hn2 : n ≤ sizeLine) (hdf : d.params.defaults = []) (hr : Room k callerA)
    (F : ∀ (w : World) (mg : Str → Option Value) (fa : Addr) (h : Heap), YP w h → h.Ns mainGlobals mg → mg d.name = some (.ref fa) →
      ∃ (K : PySem.W.Frag) (fd : FuncData), K.In h ∧ (∀ (s : Shared) (u : Value), BindsTo s fd ⟨[u], []⟩ [(x, u)]) ∧ ∀ base : Heap, K.In base → base.Ns mainGlobals mg → FnG l.prog w K mg base k fa fd [x] ev)
    (hev : ∀ ns : List Int, ns.length ≤ n → ∃ e', ev [.sh (.scr ns)] = .ok (.sh (.bl true), e')) :
    PySem.W.WalkO q loose XP YP l.row.toRowW d [] (fun f vs => PySem.call f vs) := by
  apply Att.attach_call hn hdf
  intro w s₀ t mg mb fa o pm cd doc a vs ns gr Y ho hd hcd hmg hobj hints hlen hg
  obtain ⟨K, fd, inK, hb, hF⟩ := F w mg fa _ Y gr.T.g hmg
  exact law_callG inK gr.T.g gr.T.b gr.T.builtins gr.T.nolimit hg hobj hints (Nat.le_trans hlen hn2) hr hF hb (hev ns hlen)
end Pv
namespace Pv
open PySem L2 PySem.Spec PyProof.Rows
open Evl (Ex)

/-! ### a few more readings -/
def negC (f : M Val) : M Val := bnd f fun v => bnd (der v) fun d => bnd (asInt d) fun i => ret (.sh (.int (-i)))
section
variable {X : Cx} {pos : Pos} {a b c : Expr} {fa fb fc : M Val}
theorem se_neg (ha : PE X a (tEv X.K fa)) : PE X (.UnaryOp .USub a pos) (tEv X.K (negC fa)) := PE_mono (pe_un un_neg ha) fun σ H Q q => by
  obtain ⟨pn, e, G, R, val, e', he, g, fin⟩ := q
  obtain ⟨v, e1, h1, k1⟩ := bnd_ok he
  obtain ⟨d, e2, h2, k2⟩ := bnd_ok k1
  obtain ⟨q2, z2⟩ := der_ok h2
  simp only at q2 z2
  subst z2
  obtain ⟨i, e3, h3, k3⟩ := bnd_ok k2
  obtain ⟨q3, z3⟩ := asInt_ok h3
  simp only at q3 z3
  subst z3 q3
  cases k3
  refine ⟨pn, e, G, R, v, _, h1, g, fun x G1 H1 x1 g1 r1 => ?_⟩
  have z : RdV X.K G1 H1 x (.int i) := g1.rd r1 q2
  cases z
  exact ⟨i, rfl, (fin.ext x1).sc g1 (.int _)⟩
theorem se_chn {op op' : CmpOp} {r r' : R2} {g g' : D → D → Option Val} (ho : OpR X (compareOp op) r) (ho' : OpR X (compareOp op') r') (hr : ROK X.K r g) (hr' : ROK X.K r' g') (ha : PE X a (tEv X.K fa)) (hb : PE X b (tEv X.K fb)) (hc : PE X c (tEv X.K fc))
    (hm : lastMarks [op, op'] [b, c] = false) : PE X (.Compare a [op, op'] [b, c] pos) (tEv X.K (chnC g g' fa fb fc)) := PE_mono (pe_chain ho ho' ha hb hc hm) fun _ _ _ h => tchn hr hr' h
theorem st_chn {op op' : CmpOp} {r r' : R2} {g g' : D → D → Option Val} (ho : OpR X (compareOp op) r) (ho' : OpR X (compareOp op') r') (hr : ROK X.K r g) (hr' : ROK X.K r' g') (ha : PE X a (tEv X.K fa)) (hb : PE X b (tEv X.K fb)) (hc : PE X c (tEv X.K fc))
    (hm : lastMarks [op, op'] [b, c] = false) : PT X (.Compare a [op, op'] [b, c] pos) (tTv X.K (cmpT (chnC g g' fa fb fc))) := PT_mono (pt_chain ho ho' ha hb hc hm) fun _ _ _ h => tchn hr hr' (cmp_fin h)
def owL : Val → M Nat
  | .ow j => fun e => match e[j]? with
    | some (.ow _ (.lst _)) => .ok (j, e)
    | _ => .err
  | _ => fail
theorem owL_ok {v : Val} {e : En} {r : Nat × En} (h : owL v e = .ok r) : v = .ow r.1 ∧ r.2 = e ∧ ∃ b l, e[r.1]? = some (.ow b (.lst l)) := by
  cases v with
  | ow j =>
    have h' : (match e[j]? with
      | some (.ow _ (.lst _)) => Out.ok (j, e)
      | _ => .err) = .ok r := h
    split at h'
    · cases h'; exact ⟨rfl, rfl, _, _, by assumption⟩
    · cases h'
  | _ => cases h
def notCall : Expr → Bool
  | .Call .. => false
  | _ => true
/-- x.append(e) -/
def appC (fo fa : M Val) : M Val := bnd fo fun vo => bnd (owL vo) fun j => bnd fa fun va => bnd (shr va) fun d => bnd (updL j fun l => if l.length < lenLim then some (l ++ [d]) else none) fun _ => ret (.sh .non)
theorem star_one {env : Env} (h : notStar a = true) : starEach [a] env = [(false, eval a env)] := star_cons h
theorem base_of {o : Expr} {m : Str} {env : Env} {w : Sem Value} (h : notCall o = true) : attributeBase o m env w = w := by
  cases o <;> first | rfl | cases h
theorem se_app {o : Expr} {apos cpos : Pos} {fo : M Val} (ho : PE X o (tEv X.K fo)) (ha : PE X a (tEv X.K fa)) (hn : notStar a = true) (hb : notCall o = true) (hl : (apos.endLine == cpos.line) = true) :
    PE X (.Call (.Attribute o "append" apos) [a] [] cpos) (tEv X.K (appC fo fa)) :=
  PE_mono (pe_bm PySem.F.plainAttrs_list PySem.F.slot_list_append PySem.F.type_list_append mt_append ho (pa_cons ha pa_nil (star_cons hn)) (base_of hb) (by rw [star_one hn]; rfl) hl (star_cons hn) rfl) fun σ H Q q => by
    obtain ⟨pn, e, G, R, val, e', he, g, fin⟩ := q
    obtain ⟨vo, e1, h1, k1⟩ := bnd_ok he
    obtain ⟨j, e2, h2, k2⟩ := bnd_ok k1
    obtain ⟨q2, z2, b0, l0, r2⟩ := owL_ok h2
    simp only at q2 z2 r2
    subst z2 q2
    obtain ⟨va, e3, h3, k3⟩ := bnd_ok k2
    obtain ⟨d, e4, h4, k4⟩ := bnd_ok k3
    obtain ⟨_, e5, h5, k5⟩ := bnd_ok k4
    cases k5
    obtain ⟨b, l, l', q8, q9, q10⟩ := updL_ok h5
    simp only at q10
    subst q10
    split at q9
    · rename_i hlt
      cases q9
      refine ⟨pn, e, G, R, .ow j, e2, h1, g, fun x G1 H1 x1 g1 r1 => ?_⟩
      obtain ⟨r1, _⟩ := r1
      obtain ⟨p, a1, a2, a3, a4⟩ := g1.own r2
      rw [r1] at a1
      cases a1
      obtain ⟨xs0, hx0, _⟩ := a4
      have ty : tyV X.K "list" (.ref p) H1 := .inl ⟨rfl, xs0, SqL.of hx0⟩
      refine ⟨ty, pn, e2, G1, R, va, e3, h3, g1, fun y G2 H2 x2 g2 r3 => ?_⟩
      obtain ⟨G3, x3, g3, r4⟩ := g2.shrV r3 h4
      obtain ⟨p', c1, c2, c3, c4⟩ := g3.own q8
      rw [r1] at c1
      cases c1
      obtain ⟨xs, hx, rx⟩ := c4
      refine ⟨p, xs, y, rfl, rfl, hx, by rw [← lim_eq, rx.length]; exact hlt, ?_⟩
      exact fin .non G3 _ ((x1.trans x2).trans x3) (g3.updO q8 r1 ⟨_, upd_same, rx.append (.cons r4 .nil)⟩) .non
    · cases q9
/-! ### a, b = x, y -/
def sol : Val → M Val
  | .sh d => ret (.sh d)
  | .fr d => ret (.fr d)
  | .ow i => bnd (shr (.ow i)) fun d => ret (.sh d)
def par2 (i j : Nat) (fa fb : M Val) : M Fl := bnd fa fun va => bnd (sol va) fun wa => bnd fb fun vb => bnd (sol vb) fun wb => bnd (asgN i wa) fun _ => bnd (asgN j wb) fun _ => ret .nx
theorem sol_ok {K : PySem.W.Frag} {pn : Pn} {e e' : En} {σ : L2.St} {G R H : Hp} {v : V} {val w : Val} (g : RelG K pn e σ G R H) (r : RepVal K G R H e σ v val) (h : sol val e = .ok (w, e')) :
    ∃ G', Ex G G' ∧ RelG K pn e' σ G' R H ∧ RepVal K G' R H e' σ v w ∧ ∀ i, w ≠ .ow i := by
  cases val with
  | sh d => cases h; exact ⟨G, Ex.refl G, g, r, fun i z => nomatch z⟩
  | fr d => cases h; exact ⟨G, Ex.refl G, g, r, fun i z => nomatch z⟩
  | ow i =>
    obtain ⟨d, e1, h1, k1⟩ := bnd_ok h
    cases k1
    obtain ⟨G2, x2, g2, r2⟩ := g.shrV r h1
    exact ⟨G2, x2, g2, r2, fun i z => nomatch z⟩
theorem putW {K : PySem.W.Frag} {pn : Pn} {e e' : En} {σ : L2.St} {G R H : Hp} {v : V} {w : Val} {i : Nat} (g : RelG K pn e σ G R H) (r : RepVal K G R H e σ v w) (hw : ∀ i, w ≠ .ow i) (h : asgN i w e = .ok ((), e')) :
    RelG K pn e' (σ.set i (some v)) G R H ∧ ∀ a, Owd e' (σ.set i (some v)) a → Owd e σ a ∨ v = .ref a ∧ ∃ d, w = .fr d := by
  have key : ∀ s : Slot, setN i s e = .ok ((), e') → SlR K G R H s (some (some v)) → (∀ (b : Bool) (d : D), s = .ow b d → (∀ p, v = .ref p → ¬ Owd e σ p) ∧ ∃ d, w = .fr d) → RelG K pn e' (σ.set i (some v)) G R H ∧ ∀ a, Owd e' (σ.set i (some v)) a → Owd e σ a ∨ v = .ref a ∧ ∃ d, w = .fr d := by
    intro s hs h2 h3
    obtain ⟨q1, q2, q3⟩ := setN_ok hs
    simp only at q3
    subst q3
    refine ⟨g.put q1 q2 h2 fun b d z => (h3 b d z).1, fun a ⟨j, b, d, z1, z2⟩ => ?_⟩
    by_cases hj : j = i
    · subst hj
      rw [getElem?_setB q1] at z1
      cases z1
      rw [getElem?_setB (by rw [← g.len]; exact q1)] at z2
      cases z2
      exact .inr ⟨rfl, (h3 _ _ rfl).2⟩
    · rw [set_ne hj] at z1 z2
      exact .inl ⟨j, b, d, z1, z2⟩
  cases w with
  | sh d => exact key _ h ⟨v, rfl, r⟩ fun b d z => nomatch z
  | fr d =>
    obtain ⟨p, rfl, a1, a2, a3, a4⟩ := r
    exact key _ h ⟨p, rfl, a1, a2, a3⟩ fun b d' z => ⟨fun q hq => by cases hq; exact a4, d, rfl⟩
  | ow j => exact absurd rfl (hw j)
theorem par2_core {K : PySem.W.Frag} {i j : Nat} {D : Ends} {σ : L2.St} {H : Hp} (q : tSv K (par2 i j fa fb) D σ H) :
    tEv K fa σ H fun v H1 => tEv K fb σ H1 fun w H3 => ∀ H', (H' = H3 ∨ ∃ p o, H3 p = none ∧ H' = upd H3 p o) → D.nx ((σ.set i (some v)).set j (some w)) H' := by
  obtain ⟨pn, e, G, R, fl, e', he, g, fin⟩ := q
  obtain ⟨va, e1, h1, k1⟩ := bnd_ok he
  obtain ⟨wa, e2, h2, k2⟩ := bnd_ok k1
  obtain ⟨vb, e3, h3, k3⟩ := bnd_ok k2
  obtain ⟨wb, e4, h4, k4⟩ := bnd_ok k3
  obtain ⟨_, e5, h5, k5⟩ := bnd_ok k4
  obtain ⟨_, e6, h6, k6⟩ := bnd_ok k5
  cases k6
  refine ⟨pn, e, G, R, va, e1, h1, g, fun v G1 H1 x1 g1 r1 => ?_⟩
  obtain ⟨G2, x2, g2, r2, n2⟩ := sol_ok g1 r1 h2
  have fin2 : ∀ (R1 G3 : Hp) (H3 : Hp) (w : V), Ex R R1 → Ex G2 G3 → RelG K pn e3 σ G3 R1 H3 → RepVal K G3 R1 H3 e3 σ w vb → (∀ d, wa = .fr d → ∃ p o, v = .ref p ∧ R1 p = some o ∧ R p = none ∧ H1 p = some o ∧ OwnR K G2 H1 p d) → ∀ H', (H' = H3 ∨ ∃ p o, H3 p = none ∧ H' = upd H3 p o) → D.nx ((σ.set i (some v)).set j (some w)) H' := by
    intro R1 G3 H3 w xr x3 g3 r3 hf H' hH'
    obtain ⟨G4, x4, g4, r4, n4⟩ := sol_ok g3 r3 h4
    have g4' : RelG K pn e4 σ G4 R H3 := g4.weakR xr
    have ra : RepVal K G4 R H3 e4 σ v wa := by
      cases wa with
      | sh d => exact Rep.mono (x3.trans x4) r2
      | ow k => exact absurd rfl (n2 k)
      | fr d =>
        obtain ⟨p, o, rfl, z1, z2, z3, z4⟩ := hf d rfl
        have hH : H3 p = H1 p := (g4.rh _ _ z1).trans z3.symm
        refine ⟨p, rfl, g4.dj p (by rw [z1]; simp), z2, (z4.at hH).monoG (x3.trans x4), fun z => ?_⟩
        obtain ⟨_, z5, _⟩ := g4.owd z
        rw [z1] at z5; cases z5
    obtain ⟨g5, o5⟩ := putW g4' ra n2 h5
    have rb : RepVal K G4 R H3 e5 (σ.set i (some v)) w wb := by
      cases wb with
      | sh d => exact r4
      | ow k => exact absurd rfl (n4 k)
      | fr d =>
        obtain ⟨p, rfl, z1, z2, z3, z4⟩ := r4
        refine ⟨p, rfl, z1, ?_, z3, fun z => ?_⟩
        · cases q : R p with
          | none => rfl
          | some o => rw [xr _ _ q] at z2; cases z2
        · rcases o5 p z with u | ⟨u, d', ud⟩
          · exact z4 u
          · obtain ⟨p', o, u1, u2, _⟩ := hf d' ud
            rw [u] at u1
            cases u1
            rw [u2] at z2; cases z2
    obtain ⟨g6, _⟩ := putW g5 rb n4 h6
    rcases hH' with rfl | ⟨p, o, hp, rfl⟩
    · exact fin _ G4 _ ((x1.trans x2).trans (x3.trans x4)) (by simp) g6
    · exact fin _ G4 _ ((x1.trans x2).trans (x3.trans x4)) (by simp) (g6.laidF hp).1
  cases wa with
  | ow k => exact absurd rfl (n2 k)
  | sh d => exact ⟨pn, e2, G2, R, vb, e3, h3, g2, fun w G3 H3 x3 g3 r3 => fin2 R G3 H3 w (Ex.refl R) x3 g3 r3 fun d z => nomatch z⟩
  | fr d =>
    obtain ⟨p, rfl, a1, a2, a3, a4⟩ := r2
    obtain ⟨o, ho⟩ := a3.some
    refine ⟨pn, e2, G2, upd R p o, vb, e3, h3, g2.addR a1 ho a4, fun w G3 H3 x3 g3 r3 => fin2 (upd R p o) G3 H3 w (Ex.new a2) x3 g3 r3 fun d' z => ?_⟩
    cases z
    exact ⟨p, o, rfl, upd_same, a2, ho, a3⟩
theorem ss_par2 {i j : Nat} {x y : Str} {px py pt : Pos} {kt k2 : Nat} {pt2 : Pos} (hc : X.calm = true) (hN : X.N.Nodup) (hi : X.N[i]? = some x) (hj : X.N[j]? = some y) (hij : i ≠ j)
    (hx : X.env.scope.names.lookup x = some .local) (hy : X.env.scope.names.lookup y = some .local) (ha : PE X a (tEv X.K fa)) (hb : PE X b (tEv X.K fb)) (hna : notStar a = true) (hnb : notStar b = true)
    (hw : swappedStores [.Tuple [.Name x px, .Name y py] kt pt] (.Tuple [a, b] k2 pt2) X.env = pure (some [x, y])) : PS X (.Assign [.Tuple [.Name x px, .Name y py] kt pt] (.Tuple [a, b] k2 pt2) pos) (tSv X.K (par2 i j fa fb)) :=
  PS_mono (ps_par hc hN hi hj hij hx hy (pa_cons ha (pa_cons hb pa_nil (star_cons hnb)) (star_cons hna)) hw) fun D σ H q => by
    have z := par2_core q
    obtain ⟨pn, e, G, R, val, e', he, g, fin⟩ := z
    refine ⟨pn, e, G, R, val, e', he, g, fun v G1 H1 x1 g1 r1 => ?_⟩
    obtain ⟨pn, e, G, R, val, e', he, g, fin⟩ := fin v G1 H1 x1 g1 r1
    exact ⟨pn, e, G, R, val, e', he, g, fun w G1 H1 x1 g1 r1 => ⟨v, w, rfl, fin w G1 H1 x1 g1 r1 H1 (.inl rfl)⟩⟩
/-- .. where the tuple is made and taken apart -/
theorem ss_par2T {i j : Nat} {x y : Str} {px py pt : Pos} {kt k2 : Nat} {pt2 : Pos} (hc : X.calm = true) (hN : X.N.Nodup) (hi : X.N[i]? = some x) (hj : X.N[j]? = some y)
    (hx : L2.Loc X.env.scope x) (hxf : X.fn x = true ∨ X.env.scope.names.lookup x = some .local) (hy : L2.Loc X.env.scope y) (hyf : X.fn y = true ∨ X.env.scope.names.lookup y = some .local) (ha : PE X a (tEv X.K fa)) (hb : PE X b (tEv X.K fb)) (hna : notStar a = true) (hnb : notStar b = true)
    (hw : swappedStores [.Tuple [.Name x px, .Name y py] kt pt] (.Tuple [a, b] k2 pt2) X.env = pure none) : PS X (.Assign [.Tuple [.Name x px, .Name y py] kt pt] (.Tuple [a, b] k2 pt2) pos) (tSv X.K (par2 i j fa fb)) :=
  PS_mono (ps_asg (pe_tup (pa_cons ha (pa_cons hb pa_nil (star_cons hnb)) (star_cons hna))) (pg_tup (n := 2) hc (pgs_cons (pg_name hN hi hx hxf) (pgs_cons (pg_name hN hj hy hyf) pgs_nil))) rfl hw rfl) fun D σ H q => by
    have z := par2_core q
    obtain ⟨pn, e, G, R, val, e', he, g, fin⟩ := z
    refine ⟨pn, e, G, R, val, e', he, g, fun v G1 H1 x1 g1 r1 => ?_⟩
    obtain ⟨pn, e, G, R, val, e', he, g, fin⟩ := fin v G1 H1 x1 g1 r1
    refine ⟨pn, e, G, R, val, e', he, g, fun w G1 H1 x1 g1 r1 => ?_⟩
    refine ⟨by show 2 ≤ sizeLine; decide, fun p hp => ⟨p, [v, w], rfl, SqT.of upd_same, rfl, v, [w], rfl, w, [], rfl, rfl, ?_⟩⟩
    exact fin w G1 H1 x1 g1 r1 _ (.inr ⟨p, _, hp, rfl⟩)
end
end Pv
namespace Pv
open PySem L2 PySem.Spec PyProof.Rows
open Evl (Ex)

/-! ### the evaluator on the text -/
structure Ct where
  N : List Str
  sc : Scope
  fn : Str → Bool
structure Tb where
  gl : Str → Option D
  fr : Str → Bool
  fns : Str → Option (List Bool × Ev)
structure EvX where
  E : Ct → Expr → M Val
  T : Ct → Expr → M Bool
def ixOf (N : List Str) (x : Str) : Option Nat := match N.findIdx? (· == x) with
  | some i => if N[i]? = some x then some i else none
  | none => none
theorem ixOf_ok {N : List Str} {x : Str} {i : Nat} (h : ixOf N x = some i) : N[i]? = some x := by
  unfold ixOf at h
  split at h
  · split at h
    · cases h; assumption
    · cases h
  · cases h
def isGl (C : Ct) (x : Str) : Bool := decide (C.sc.names.lookup x = some .globalImplicit)
def isVis (C : Ct) (x : Str) : Bool := match C.sc.names.lookup x with
  | some .local => true | some .cell => true | some .free => true | _ => false
def isLoc (C : Ct) (x : Str) : Bool := decide (C.sc.names.lookup x = some .local)
def okSt (C : Ct) (x : Str) : Bool := isLoc C x || (decide (C.sc.names.lookup x = some .cell) && C.fn x)
def noDbg (x : Str) : Bool := !(x == ("__debug__" : Str)) && !(x == ("__classdict__" : Str))
def nameE (T : Tb) (C : Ct) (x : Str) : M Val := if noDbg x then (if isVis C x then match ixOf C.N x with
      | some i => nameC i
      | none => fail
    else if isGl C x then match T.gl x with
      | some d => conC d
      | none => fail
    else fail)
  else fail
def isiOf (y : Str) : Option String :=
  if y = ("int" : Str) then some "int" else if y = ("str" : Str) then some "str" else if y = ("bool" : Str) then some "bool" else if y = ("tuple" : Str) then some "tuple" else if y = ("list" : Str) then some "list" else if y = ("dict" : Str) then some "dict" else none
def bltC (f : Str) (fs : List (M Val)) : M Val :=
  if f = ("len" : Str) then callC lenB fs else if f = ("abs" : Str) then callC absB fs else if f = ("max" : Str) then callC maxB fs else if f = ("min" : Str) then callC minB fs
  else if f = ("int" : Str) then callC intB fs else if f = ("all" : Str) then callC allB fs else if f = ("any" : Str) then callC anyB fs else if f = ("sum" : Str) then callC sumB fs
  else if f = ("list" : Str) then callC listB fs else if f = ("tuple" : Str) then callC tupleB fs else if f = ("repr" : Str) then callC reprB fs else if f = ("str" : Str) then callC strB fs else fail
def callE (T : Tb) (r : EvX) (C : Ct) (f : Str) (args : List Expr) : M Val :=
  if isGl C f && (noDbg f && args.all notStar) then match T.fns f with
    | some (bs, ev) => callV bs ev (args.map (r.E C))
    | none => if T.fr f then (if f = ("isinstance" : Str) then (match args with
          | [a, .Name y _] => if isGl C y && (T.fr y && noDbg y) then (match isiOf y with
            | some t => isiC t (r.E C a)
            | none => fail) else fail
          | _ => fail)
        else match args with
          | [] => fail
          | a :: es => bltC f ((a :: es).map (r.E C)))
      else fail
  else fail
def wkE (r : EvX) (C : Ct) (f : Str) (args : List Expr) (tg : Expr) : M (List D) :=
  if f = ("range" : Str) then (match args with
    | [x] => rngC rng1B [r.E C x]
    | [x, y] => rngC rng2B [r.E C x, r.E C y]
    | _ => fail)
  else match tg with
    | .Tuple _ _ _ => if f = ("enumerate" : Str) then (match args with
        | [x] => walkC enB [r.E C x]
        | _ => fail)
      else (match args with
        | [x, y] => walkC zpB [r.E C x, r.E C y]
        | [x, y, z] => walkC zpB [r.E C x, r.E C y, r.E C z]
        | _ => fail)
    | _ => fail
def isWk (f : Str) : Bool := decide (f = ("range" : Str)) || (decide (f = ("enumerate" : Str)) || decide (f = ("zip" : Str)))
def itE (T : Tb) (r : EvX) (C : Ct) (tg : Expr) (iter : Expr) : M (List D) := match iter with
  | .Call (.Name f _) args [] _ => if isGl C f && (T.fr f && (args.all notStar && isWk f)) then wkE r C f args tg else iterC (r.E C iter)
  | _ => iterC (r.E C iter)
def tgtE (r : EvX) (C : Ct) : Expr → Val → M Unit
  | .Name x _ => if okSt C x then (match ixOf C.N x with
    | some i => asgN i
    | none => fun _ => fail) else fun _ => fail
  | .Subscript o i _ => if notSlice i then asgI (r.E C o) (r.E C i) else fun _ => fail
  | _ => fun _ => fail
def tgE (r : EvX) (C : Ct) : Expr → Val → M Unit
  | .Tuple es _ _ => if es.all notStar then asgT (es.map (tgtE r C)) else fun _ => fail
  | e => tgtE r C e
def tgIx0 (C : Ct) : Expr → List Nat
  | .Name x _ => (ixOf C.N x).toList
  | _ => []
def tgIx (C : Ct) : Expr → List Nat
  | .Tuple es _ _ => es.flatMap (tgIx0 C)
  | e => tgIx0 C e
def tsE (r : EvX) (C : Ct) : List Expr → M Bool
  | [] => ret true
  | [c] => r.T C c
  | _ => fail
def notSet : Expr → Bool
  | .Set .. => false
  | _ => true
def ownOf (C : Ct) (scope : Scope) : List (Str × Nat) := scope.names.filterMap fun y => match y.2 with
  | .local => (ixOf C.N y.1).map fun i => (y.1, i)
  | .cell => (ixOf C.N y.1).map fun i => (y.1, i)
  | _ => none
def blkCt (C : Ct) (scope : Scope) : Ct := { N := C.N, sc := relS scope C.sc, fn := fun x => scope.names.lookup x == some .cell }
def lcE (T : Tb) (r : EvX) (C : Ct) (elt tg iter : Expr) (ifs : List Expr) (scope : Scope) : M Val :=
  if blkC C.N C.sc scope (ownOf C scope) && ((tgIx C tg).all (fun i => decide (i ∈ (ownOf C scope).map Prod.snd)) && notSet iter) then
    lcC ((ownOf C scope).map Prod.snd) (itE T r C tg iter) (tgE r (blkCt C scope) tg) (tsE r (blkCt C scope) ifs) (r.E (blkCt C scope) elt)
  else fail
def ptE (r : EvX) (C : Ct) : Option Expr → M (Option Int)
  | none => noC
  | some a => partC (r.E C a)
def stepE (T : Tb) (r : EvX) (C : Ct) : Expr → M Val
  | .Constant (.int i) _ _ => conC (.int i)
  | .Constant (.bool b) _ _ => conC (.bl b)
  | .Constant .none _ _ => conC .non
  | .Constant (.str x) _ _ => conC (.str x)
  | .Name x _ => nameE T C x
  | .BinOp a op b _ => binC (binOf op) (r.E C a) (r.E C b)
  | .UnaryOp .Not a _ => notC (truC (r.E C a))
  | .UnaryOp .USub a _ => negC (r.E C a)
  | .Compare a [op] [b] _ => if behindInMarks op b then fail else binC (cmpOf op) (r.E C a) (r.E C b)
  | .Compare a [op, op'] [b, c] _ => if lastMarks [op, op'] [b, c] then fail else chnC (cmpOf op) (cmpOf op') (r.E C a) (r.E C b) (r.E C c)
  | .BoolOp op es _ => bopC (op == .Or) (es.map (r.E C))
  | .IfExp c a b _ => ifC (r.T C c) (r.E C a) (r.E C b)
  | .Tuple es _ _ => if es.all notStar then tupC (es.map (r.E C)) else fail
  | .List es _ => if es.all notStar then lstC (es.map (r.E C)) else fail
  | .Subscript a (.Slice lo hi none _) _ => sliC (r.E C a) (ptE r C lo) (ptE r C hi)
  | .Subscript a b _ => if notSlice b then ixC (r.E C a) (r.E C b) else fail
  | .Call (.Name f _) args [] _ => callE T r C f args
  | .Call (.Attribute o m ap) [a] [] cp => if m = ("append" : Str) then (if notStar a && (notCall o && (ap.endLine == cp.line)) then appC (r.E C o) (r.E C a) else fail) else fail
  | .ListComp elt [⟨tg, iter, ifs, 0⟩] scope _ => lcE T r C elt tg iter ifs scope
  | _ => fail
def plainT : Expr → Bool
  | .UnaryOp .Not _ _ => false
  | .BoolOp .. => false
  | .IfExp .. => false
  | .Compare .. => false
  | _ => true
def stepT (T : Tb) (r : EvX) (C : Ct) : Expr → M Bool
  | .UnaryOp .Not a _ => notT (r.T C a)
  | .BoolOp op es _ => bopT (op == .Or) (es.map (r.T C))
  | .Compare a [op] [b] _ => if behindInMarks op b then fail else cmpT (binC (cmpOf op) (r.E C a) (r.E C b))
  | .Compare a [op, op'] [b, c] _ => if lastMarks [op, op'] [b, c] then fail else cmpT (chnC (cmpOf op) (cmpOf op') (r.E C a) (r.E C b) (r.E C c))
  | e => if plainT e then truC (r.E C e) else fail
def evN (T : Tb) : Nat → EvX
  | 0 => ⟨fun _ _ => fail, fun _ _ => fail⟩
  | n + 1 => ⟨stepE T (evN T n), stepT T (evN T n)⟩

/-! ### it says what the program does -/
structure XOk (T : Tb) (X : Cx) (C : Ct) : Prop where
  calm : X.calm = true
  nox : X.xe = fun _ _ => False
  N : X.N = C.N
  nd : C.N.Nodup
  sc : X.env.scope = C.sc
  fn : ∀ x, C.fn x = true → X.fn x = true
  gu : X.A.guards = some []
  un : X.A.units + 200 < cLine
  gl : ∀ x d, T.gl x = some d → ∃ u v, X.mg x = some u ∧ RelV v u ∧ ∀ G, Rep X.K G v d
  fr : ∀ x, T.fr x = true → X.mg x = none
  fns : ∀ x bs ev, T.fns x = some (bs, ev) → ∃ (k : Nat) (f : Addr) (fd : FuncData) (ps : List Str), FnG X.prog X.w X.K X.mg X.base k f fd ps ev ∧ Room k X.A ∧ X.mg x = some (.ref f) ∧ PySem.W.keepIn X.K (.ref f) = true ∧ Binds X.K fd ps [] ∧ ∀ ss q, ev ss = .ok q → ss.length = ps.length
theorem XOk.blk {T : Tb} {X : Cx} {C : Ct} {scope : Scope} (k : XOk T X C) (s : Shared) (H : Hp) (A : Addr) (cl : List (Str × Addr)) (fp : List Addr) : XOk T (X.blk s H scope (compEnvC scope cl A X.env) fp) (blkCt C scope) where
  calm := k.calm
  nox := rfl
  N := k.N
  nd := k.nd
  sc := by show relS scope X.env.scope = relS scope C.sc; rw [k.sc]
  fn := fun x h => h
  gu := k.gu
  un := k.un
  gl := k.gl
  fr := k.fr
  fns := k.fns
structure Snd (T : Tb) (r : EvX) : Prop where
  E : ∀ X C e, XOk T X C → PE X e (tEv X.K (r.E C e))
  T : ∀ X C e, XOk T X C → PT X e (tTv X.K (r.T C e))
theorem pe_fail {X : Cx} {e : Expr} : PE X e (tEv X.K fail) := ⟨fun pins s σ H Q I h => by obtain ⟨_, _, _, _, _, _, he, _⟩ := h; cases he⟩
theorem pt_fail {X : Cx} {e : Expr} : PT X e (tTv X.K fail) := ⟨fun pins s σ H Q I h => by obtain ⟨_, _, _, _, _, _, he, _⟩ := h; cases he⟩
theorem pi_fail {X : Cx} {tg e : Expr} : PI X tg e (tIv X.K fail) := ⟨fun pins s σ H Q I h => by obtain ⟨_, _, _, _, _, _, he, _⟩ := h; cases he⟩
theorem pg_fail {X : Cx} {e : Expr} {ixs : List Nat} : PG X e (tGv X.K ixs fun _ => fail) := ⟨fun pins s σ H v u Q I r h => by obtain ⟨_, _, _, _, _, _, he, _⟩ := h; cases he⟩
theorem ps_fail {X : Cx} {e : Stmt} : PS X e (tSv X.K fail) := ⟨fun pins s σ H D I h => by obtain ⟨_, _, _, _, _, _, he, _⟩ := h; cases he⟩
theorem pss_fail {X : Cx} {e : List Stmt} : PSs X e (tSv X.K fail) := ⟨fun pins s σ H D I h => by obtain ⟨_, _, _, _, _, _, he, _⟩ := h; cases he⟩
theorem paired_map {α β : Type} {p : α → β → Prop} {f : α → β} (h : ∀ a, p a (f a)) : ∀ l : List α, Paired p l (l.map f)
  | [] => .nil
  | a :: r => .cons (h a) (paired_map h r)
theorem sndEs {T : Tb} {r : EvX} {X : Cx} {C : Ct} (sr : Snd T r) (k : XOk T X C) : ∀ l : List Expr, Paired (fun a f => PE X a (tEv X.K f)) l (l.map (r.E C))
  | [] => .nil
  | a :: l => .cons (sr.E X C a k) (sndEs sr k l)
theorem sndTs {T : Tb} {r : EvX} {X : Cx} {C : Ct} (sr : Snd T r) (k : XOk T X C) : ∀ l : List Expr, Paired (fun a f => PT X a (tTv X.K f)) l (l.map (r.T C))
  | [] => .nil
  | a :: l => .cons (sr.T X C a k) (sndTs sr k l)
theorem plain_is : ∀ {e : Expr}, plainT e = true → ∀ (env : Env) (whole : Sem Value), isTrue e env whole = (do let v ← whole; standAt e.pos; holding [v] (truthy v)) := by
  intro e h env whole
  cases e <;> first
    | rfl
    | cases h
    | (rename_i op _ _; cases op <;> first | rfl | cases h)
theorem tGv_wide {X : Cx} {e : Expr} {ixs jxs : List Nat} {f : Val → M Unit} (h : PG X e (tGv X.K ixs f)) (s : ∀ i ∈ ixs, i ∈ jxs) : PG X e (tGv X.K jxs f) :=
  PG_mono h fun v σ H Q ⟨pn, e, G, R, val, e', he, g, r, fin⟩ => ⟨pn, e, G, R, val, e', he, g, r, fun σ' G' H' x s' g' => fin σ' G' H' x (s'.of s) g'⟩
section
variable {T : Tb} {r : EvX} {X : Cx} {C : Ct}
theorem noDbg_ok {x : Str} (h : noDbg x = true) : (x == ("__debug__" : Str)) = false ∧ (x == ("__classdict__" : Str)) = false := by
  unfold noDbg at h
  rw [Bool.and_eq_true] at h
  exact ⟨by simpa using h.1, by simpa using h.2⟩
theorem gl_ok (k : XOk T X C) {x : Str} (h : isGl C x = true) : Gl X x := by
  show X.env.scope.names.lookup x = _
  rw [k.sc]
  exact of_decide_eq_true h
theorem snd_name (k : XOk T X C) {x : Str} {p : Pos} : PE X (.Name x p) (tEv X.K (nameE T C x)) := by
  unfold nameE
  split
  · rename_i hd
    obtain ⟨d1, d2⟩ := noDbg_ok hd
    split
    · rename_i hv
      split
      · rename_i i hi
        refine se_name (by rw [k.N]; exact ixOf_ok hi) ?_ d1 d2
        unfold isVis at hv
        unfold Vis
        rw [k.sc]
        split at hv
        · exact .inl (by assumption)
        · exact .inr (.inl (by assumption))
        · exact .inr (.inr (by assumption))
        · cases hv
      · exact pe_fail
    · split
      · rename_i hg
        split
        · rename_i d hd
          obtain ⟨u, v, m, rv, rp⟩ := k.gl _ _ hd
          exact se_glob (gl_ok k hg) m rv rp d1
        · exact pe_fail
      · exact pe_fail
  · exact pe_fail
theorem snd_blt (k : XOk T X C) {f : Str} {p pos : Pos} {a : Expr} {es : List Expr} {fs : List (M Val)} (hg : Gl X f) (hm : X.mg f = none) (hs : (a :: es).all notStar = true) (h : Paired (fun a f => PE X a (tEv X.K f)) (a :: es) fs) (hd : (f == ("__debug__" : Str)) = false) :
    PE X (.Call (.Name f p) (a :: es) [] pos) (tEv X.K (bltC f fs)) := by
  unfold bltC
  split; · rename_i z; subst z; exact se_callB call_len ok_len hg hm (by decide +kernel) (by decide +kernel) hd hs h
  split; · rename_i z; subst z; exact se_callB call_abs ok_abs hg hm (by decide +kernel) (by decide +kernel) hd hs h
  split; · rename_i z; subst z; exact se_callB (call_max2 k.calm) ok_max hg hm (by decide +kernel) (by decide +kernel) hd hs h
  split; · rename_i z; subst z; exact se_callB (call_min2 k.calm) ok_min hg hm (by decide +kernel) (by decide +kernel) hd hs h
  split; · rename_i z; subst z; exact se_callTy call_int1 ok_int hg hm (by decide +kernel) (by decide +kernel) hd hs h
  split; · rename_i z; subst z; exact se_callB (cr_all k.calm) ok_all hg hm (by decide +kernel) (by decide +kernel) hd hs h
  split; · rename_i z; subst z; exact se_callB (cr_any k.calm) ok_any hg hm (by decide +kernel) (by decide +kernel) hd hs h
  split; · rename_i z; subst z; exact se_callB (cr_sum k.calm) ok_sum hg hm (by decide +kernel) (by decide +kernel) hd hs h
  split; · rename_i z; subst z; exact se_callTy call_list_of ok_list hg hm (by decide +kernel) (by decide +kernel) hd hs h
  split; · rename_i z; subst z; exact se_callTy call_tuple_of ok_tuple hg hm (by decide +kernel) (by decide +kernel) hd hs h
  split; · rename_i z; subst z; exact se_callB (call_reprA k.gu k.un) ok_repr hg hm (by decide +kernel) (by decide +kernel) hd hs h
  split; · rename_i z; subst z; exact se_callTy call_strA ok_str hg hm (by decide +kernel) (by decide +kernel) hd hs h
  exact pe_fail
theorem isiOf_ok {y : Str} {t : String} (h : isiOf y = some t) : bootBuiltins y = some (.type t) ∧ y ≠ "__name__" := by
  unfold isiOf at h
  split at h; · rename_i z; subst z; cases h; exact ⟨by decide +kernel, by decide +kernel⟩
  split at h; · rename_i z; subst z; cases h; exact ⟨by decide +kernel, by decide +kernel⟩
  split at h; · rename_i z; subst z; cases h; exact ⟨by decide +kernel, by decide +kernel⟩
  split at h; · rename_i z; subst z; cases h; exact ⟨by decide +kernel, by decide +kernel⟩
  split at h; · rename_i z; subst z; cases h; exact ⟨by decide +kernel, by decide +kernel⟩
  split at h; · rename_i z; subst z; cases h; exact ⟨by decide +kernel, by decide +kernel⟩
  cases h
theorem snd_call (sr : Snd T r) (k : XOk T X C) {f : Str} {p pos : Pos} {args : List Expr} : PE X (.Call (.Name f p) args [] pos) (tEv X.K (callE T r C f args)) := by
  unfold callE
  split
  · rename_i h
    rw [Bool.and_eq_true, Bool.and_eq_true] at h
    obtain ⟨h1, h2, h3⟩ := h
    have hg := gl_ok k h1
    have hd := (noDbg_ok h2).1
    split
    · rename_i bs ev hf
      obtain ⟨kk, fa, fd, ps, F, hr, hm, hk, hb, hl⟩ := k.fns _ _ _ hf
      cases args with
      | nil => exact se_call0 F hr k.gu hg hm hk hb hl hd
      | cons a es => exact se_call F hr k.gu hg hm hk hb hl hd h3 (sndEs sr k _)
    · split
      · rename_i hf
        split
        · rename_i z
          subst z
          split
          · split
            · rename_i a y p2 hy
              rw [Bool.and_eq_true, Bool.and_eq_true] at hy
              split
              · rename_i t ht
                rw [List.all_cons, Bool.and_eq_true] at h3
                obtain ⟨b1, b2⟩ := isiOf_ok ht
                exact se_isi (sr.E X C a k) hg (k.fr _ hf) (gl_ok k hy.1) (k.fr _ hy.2.1) b1 b2 (noDbg_ok hy.2.2).1 h3.1
              · exact pe_fail
            · exact pe_fail
          · exact pe_fail
        · split
          · exact pe_fail
          · exact snd_blt k hg (k.fr _ hf) h3 (sndEs sr k _) hd
      · exact pe_fail
  · exact pe_fail
theorem snd_it (sr : Snd T r) (k : XOk T X C) {tg iter : Expr} : PI X tg iter (tIv X.K (itE T r C tg iter)) := by
  have dflt : PI X tg iter (tIv X.K (iterC (r.E C iter))) := si_iter (sr.E X C iter k)
  unfold itE
  split
  · split
    · rename_i f p args pos h
      simp only [Bool.and_eq_true] at h
      obtain ⟨h1, h2, h3, h4⟩ := h
      have hg := gl_ok k h1
      have hm := k.fr _ h2
      unfold wkE
      split
      · rename_i z
        subst z
        split
        · rw [List.all_cons, Bool.and_eq_true] at h3
          exact si_rng1 hg hm h3.1 (sr.E X C _ k)
        · simp only [List.all_cons, Bool.and_eq_true] at h3
          exact si_rng2 hg hm h3.1 h3.2.1 (sr.E X C _ k) (sr.E X C _ k)
        · exact pi_fail
      · rename_i hz
        split
        · split
          · rename_i z
            subst z
            split
            · rw [List.all_cons, Bool.and_eq_true] at h3
              exact si_en hg hm h3.1 (sr.E X C _ k)
            · exact pi_fail
          · rename_i hz2
            have hf : f = ("zip" : Str) := by
              unfold isWk at h4
              simpa [hz, hz2] using h4
            subst hf
            split
            · simp only [List.all_cons, Bool.and_eq_true] at h3
              exact si_zp2 hg hm h3.1 h3.2.1 (sr.E X C _ k) (sr.E X C _ k)
            · simp only [List.all_cons, Bool.and_eq_true] at h3
              exact si_zp3 hg hm h3.1 h3.2.1 h3.2.2.1 (sr.E X C _ k) (sr.E X C _ k) (sr.E X C _ k)
            · exact pi_fail
        · exact pi_fail
    · exact dflt
  · exact dflt
theorem okSt_ok (k : XOk T X C) {x : Str} (h : okSt C x = true) : L2.Loc X.env.scope x ∧ (X.fn x = true ∨ X.env.scope.names.lookup x = some .local) := by
  unfold okSt at h
  unfold L2.Loc
  rw [k.sc]
  rw [Bool.or_eq_true] at h
  rcases h with h | h
  · have := of_decide_eq_true h
    exact ⟨.inl this, .inr this⟩
  · rw [Bool.and_eq_true] at h
    have := of_decide_eq_true h.1
    exact ⟨.inr this, .inl (k.fn _ h.2)⟩
theorem snd_tgt (sr : Snd T r) (k : XOk T X C) {tg : Expr} : PG X tg (tGv X.K (tgIx0 C tg) (tgtE r C tg)) := by
  unfold tgtE
  split
  · split
    · rename_i h
      obtain ⟨h1, h2⟩ := okSt_ok k h
      split
      · rename_i i hi
        unfold tgIx0
        simp only [hi]
        exact sg_name (by rw [k.N]; exact k.nd) (by rw [k.N]; exact ixOf_ok hi) h1 h2
      · exact pg_fail
    · exact pg_fail
  · split
    · rename_i h
      exact sg_sub (sr.E X C _ k) (sr.E X C _ k) h
    · exact pg_fail
  · exact pg_fail
theorem snd_tg (sr : Snd T r) (k : XOk T X C) {tg : Expr} : PG X tg (tGv X.K (tgIx C tg) (tgE r C tg)) := by
  unfold tgE
  split
  · rename_i es _ _
    split
    · rename_i h
      refine sg_tup k.calm h ?_
      unfold tgIx
      have : ∀ l : List Expr, (∀ a ∈ l, a ∈ es) → Paired (fun a f => PG X a (tGv X.K (es.flatMap (tgIx0 C)) f)) l (l.map (tgtE r C)) := by
        intro l
        induction l with
        | nil => intro _; exact .nil
        | cons a l ih => intro hl; exact .cons (tGv_wide (snd_tgt sr k) fun i hi => List.mem_flatMap.mpr ⟨a, hl a List.mem_cons_self, hi⟩) (ih fun b hb => hl b (List.mem_cons_of_mem _ hb))
      exact this es fun _ h => h
    · exact pg_fail
  · rename_i hne
    have e : tgIx C tg = tgIx0 C tg := by
      unfold tgIx
      split
      · rename_i es kk pp; exact absurd rfl (hne es kk pp)
      · rfl
    rw [e]
    exact snd_tgt sr k
theorem notSet_ok {iter : Expr} {env : Env} (h : notSet iter = true) (x : Value) : foldedSetIterable iter env x = pure x := by
  cases iter <;> first | rfl | cases h
theorem snd_ts (sr : Snd T r) (k : XOk T X C) {ifs : List Expr} : PTs X ifs (tTv X.K (tsE r C ifs)) := by
  unfold tsE
  split
  · exact ⟨fun pins s σ H Q I h => pts_nil.run pins s σ H Q I (by
      obtain ⟨pn, e, G, R, b, e', he, g, fin⟩ := h
      cases he
      exact fin G H (Ex.refl G) g)⟩
  · exact pts_one (sr.T X C _ k)
  · exact ⟨fun pins s σ H Q I h => by obtain ⟨_, _, _, _, _, _, he, _⟩ := h; cases he⟩
theorem lc_parts {elt tg iter : Expr} {ifs : List Expr} {scope : Scope} (h : (blkC C.N C.sc scope (ownOf C scope) && ((tgIx C tg).all (fun i => decide (i ∈ (ownOf C scope).map Prod.snd)) && notSet iter)) = true) (k : XOk T X C) :
    BlkOk X.N X.env.scope scope (ownOf C scope) ∧ (∀ i ∈ tgIx (blkCt C scope) tg, i ∈ (ownOf C scope).map Prod.snd) ∧ notSet iter = true := by
  rw [Bool.and_eq_true, Bool.and_eq_true] at h
  refine ⟨by rw [k.N, k.sc]; exact blkOk_by h.1, fun i hi => ?_, h.2.2⟩
  have hi' : i ∈ tgIx C tg := hi
  exact of_decide_eq_true (List.all_eq_true.mp h.2.1 i hi')
theorem blkE (sr : Snd T r) (k : XOk T X C) {elt : Expr} {scope : Scope} (s : Shared) (H : Hp) (A : Addr) (cl : List (Str × Addr)) (fp : List Addr) : PE (X.blk s H scope (compEnvC scope cl A X.env) fp) elt (tEv X.K (r.E (blkCt C scope) elt)) := sr.E _ _ _ (k.blk s H A cl fp)
theorem blkG (sr : Snd T r) (k : XOk T X C) {tg : Expr} {scope : Scope} (s : Shared) (H : Hp) (A : Addr) (cl : List (Str × Addr)) (fp : List Addr) : PG (X.blk s H scope (compEnvC scope cl A X.env) fp) tg (tGv X.K (tgIx (blkCt C scope) tg) (tgE r (blkCt C scope) tg)) := snd_tg sr (k.blk s H A cl fp)
theorem blkT (sr : Snd T r) (k : XOk T X C) {ifs : List Expr} {scope : Scope} (s : Shared) (H : Hp) (A : Addr) (cl : List (Str × Addr)) (fp : List Addr) : PTs (X.blk s H scope (compEnvC scope cl A X.env) fp) ifs (tTv X.K (tsE r (blkCt C scope) ifs)) := snd_ts sr (k.blk s H A cl fp)
theorem snd_lc (sr : Snd T r) (k : XOk T X C) {elt tg iter : Expr} {ifs : List Expr} {scope : Scope} {pos : Pos} : PE X (.ListComp elt [⟨tg, iter, ifs, 0⟩] scope pos) (tEv X.K (lcE T r C elt tg iter ifs scope)) := by
  unfold lcE
  split
  · rename_i h
    obtain ⟨h1, h2, h3⟩ := lc_parts (elt := elt) (ifs := ifs) h k
    exact PE_mono (pe_lc k.calm (by rw [k.N]; exact k.nd) (snd_it sr k) h1 (blkG sr k) (blkT sr k) (blkE sr k) (notSet_ok h3)) (tlc h2)
  · exact pe_fail
theorem ss_setLc (sr : Snd T r) (k : XOk T X C) {y : Str} {i : Nat} {py : Pos} {elt tg iter : Expr} {ifs : List Expr} {scope : Scope} {pos spos : Pos} (hy : C.N[i]? = some y) (hl : isLoc C y = true)
    (hk : C.sc.kind = .function) (hp : (py.line == pos.line) = true) (ha : (scope.names.any fun (n, k) => n == y && (k == .local || k == .cell)) = false) :
    PS X (.Assign [.Name y py] (.ListComp elt [⟨tg, iter, ifs, 0⟩] scope pos) spos) (tSv X.K (asS (lcE T r C elt tg iter ifs scope) (asgN i))) := by
  unfold lcE
  split
  · rename_i h
    obtain ⟨h1, h2, h3⟩ := lc_parts (elt := elt) (ifs := ifs) h k
    have hyl : X.env.scope.names.lookup y = some .local := by rw [k.sc]; exact of_decide_eq_true hl
    refine PS_mono (ps_setLc k.calm (by rw [k.N]; exact k.nd) (by rw [k.N]; exact hy) hyl (sw_true (by rw [k.sc]; exact hk) hyl hp ha) (snd_it sr k) h1 (blkG sr k) (blkT sr k) (blkE sr k) (notSet_ok h3)) fun D σ H q => ?_
    obtain ⟨pn, e, G, R, fl, e', he, g, fin⟩ := q
    obtain ⟨v, e1, q1, k1⟩ := bnd_ok he
    obtain ⟨_, e2, q2, k2⟩ := bnd_ok k1
    cases k2
    refine tlc h2 _ _ _ ⟨pn, e, G, R, v, e1, q1, g, fun x G1 H1 x1 g1 r1 => ?_⟩
    obtain ⟨G2, x2, g2⟩ := asgN_ok g1 r1 q2
    exact fin _ G2 H1 (x1.trans x2) (by simp) g2
  · refine PS_mono ps_fail fun D σ H q => ?_
    obtain ⟨pn, e, G, R, fl, e', he, g, fin⟩ := q
    obtain ⟨v, e1, q1, k1⟩ := bnd_ok he
    cases q1
theorem snd_pt (sr : Snd T r) (k : XOk T X C) {o : Option Expr} : PO X o (tOv X.K (ptE r C o)) := by
  cases o with
  | none => exact so_no
  | some a => exact so_part (sr.E X C a k)
end
theorem bin_fail {X : Cx} {e : Expr} {fa fb : M Val} {g : D → D → Option Val} (h : ∀ a b, g a b = none) : PE X e (tEv X.K (binC g fa fb)) := PE_mono pe_fail fun σ H Q q => by
  obtain ⟨pn, e, G, R, val, e', he, _⟩ := q
  obtain ⟨va, e1, h1, k1⟩ := bnd_ok he
  obtain ⟨vb, e2, h2, k2⟩ := bnd_ok k1
  obtain ⟨da, e3, h3, k3⟩ := bnd_ok k2
  obtain ⟨db, e4, h4, k4⟩ := bnd_ok k3
  obtain ⟨q5, _⟩ := opt_ok k4
  rw [h] at q5
  cases q5
theorem snd_bin {X : Cx} {op : Operator} {a b : Expr} {pos : Pos} {fa fb : M Val} (ha : PE X a (tEv X.K fa)) (hb : PE X b (tEv X.K fb)) : PE X (.BinOp a op b pos) (tEv X.K (binC (binOf op) fa fb)) := by
  cases op with
  | Add => exact se_bin op_addA ok_add ha hb
  | Sub => exact se_bin op_sub ok_sub ha hb
  | Mult => exact se_bin op_mulA ok_mul ha hb
  | FloorDiv => exact se_bin op_fdivW ok_fdiv ha hb
  | Mod => exact se_bin op_mod ok_mod ha hb
  | Pow => exact se_bin op_powW ok_pow ha hb
  | _ => exact bin_fail fun _ _ => rfl
theorem cmp_ops {X : Cx} (hu : X.A.units + 200 < cLine) (op : CmpOp) : ∃ r, OpR X (compareOp op) r ∧ ROK X.K r (cmpOf op) := by
  cases op with
  | Eq => exact ⟨_, op_eq.or (op_eqD (by omega)), ok_eq⟩
  | NotEq => exact ⟨_, op_ne.or (op_neD (by omega)), ok_ne⟩
  | Lt => exact ⟨_, op_ltA, ok_lt⟩
  | LtE => exact ⟨_, op_leA, ok_le⟩
  | Gt => exact ⟨_, op_gtA, ok_gt⟩
  | GtE => exact ⟨_, op_geA, ok_ge⟩
  | In => exact ⟨_, op_inA, ok_in false⟩
  | NotIn => exact ⟨_, op_ninA, ok_in true⟩
  | Is => exact ⟨_, op_isA, ok_is false⟩
  | IsNot => exact ⟨_, op_nisA, ok_is true⟩
theorem snd_step {T : Tb} {r : EvX} (sr : Snd T r) : Snd T ⟨stepE T r, stepT T r⟩ where
  E := fun X C e k => by
    show PE X e (tEv X.K (stepE T r C e))
    unfold stepE
    split
    · exact se_int
    · exact se_bl
    · exact se_non
    · exact se_str
    · exact snd_name k
    · exact snd_bin (sr.E X C _ k) (sr.E X C _ k)
    · exact se_not (sr.E X C _ k)
    · exact se_neg (sr.E X C _ k)
    · split
      · exact pe_fail
      · rename_i h
        obtain ⟨q, h1, h2⟩ := cmp_ops (X := X) k.un ‹CmpOp›
        exact se_cmp h1 h2 (sr.E X C _ k) (sr.E X C _ k) (by simpa using h)
    · split
      · exact pe_fail
      · rename_i op op' b c _ h
        obtain ⟨q, h1, h2⟩ := cmp_ops (X := X) k.un op
        obtain ⟨q', h1', h2'⟩ := cmp_ops (X := X) k.un op'
        exact se_chn h1 h1' h2 h2' (sr.E X C _ k) (sr.E X C _ k) (sr.E X C _ k) (by simpa using h)
    · exact se_bop _ _ _ (sndEs sr k _)
    · exact se_if (sr.T X C _ k) (sr.E X C _ k) (sr.E X C _ k)
    · split
      · rename_i h; exact se_tup h (sndEs sr k _)
      · exact pe_fail
    · split
      · rename_i h; exact se_lst h (sndEs sr k _)
      · exact pe_fail
    · exact se_sli (sr.E X C _ k) (snd_pt sr k) (snd_pt sr k)
    · split
      · rename_i h; exact se_ix (sr.E X C _ k) (sr.E X C _ k) h
      · exact pe_fail
    · exact snd_call sr k
    · split
      · rename_i z
        subst z
        split
        · rename_i h
          simp only [Bool.and_eq_true] at h
          exact se_app (sr.E X C _ k) (sr.E X C _ k) h.1 h.2.1 h.2.2
        · exact pe_fail
      · exact pe_fail
    · exact snd_lc sr k
    · exact pe_fail
  T := fun X C e k => by
    show PT X e (tTv X.K (stepT T r C e))
    unfold stepT
    split
    · exact st_not (sr.T X C _ k)
    · exact (st_bop _ _ _ (sndTs sr k _)).pt
    · split
      · exact pt_fail
      · rename_i h
        obtain ⟨q, h1, h2⟩ := cmp_ops (X := X) k.un ‹CmpOp›
        exact st_cmp h1 h2 (sr.E X C _ k) (sr.E X C _ k) (by simpa using h)
    · split
      · exact pt_fail
      · rename_i op op' b c _ h
        obtain ⟨q, h1, h2⟩ := cmp_ops (X := X) k.un op
        obtain ⟨q', h1', h2'⟩ := cmp_ops (X := X) k.un op'
        exact st_chn h1 h1' h2 h2' (sr.E X C _ k) (sr.E X C _ k) (sr.E X C _ k) (by simpa using h)
    · split
      · rename_i h
        exact st_tru (sr.E X C e k) fun whole => plain_is h X.env whole
      · exact pt_fail
theorem snd_evN (T : Tb) : ∀ n, Snd T (evN T n)
  | 0 => ⟨fun _ _ _ _ => pe_fail, fun _ _ _ _ => pt_fail⟩
  | n + 1 => snd_step (snd_evN T n)
end Pv
namespace Pv
open PySem L2 PySem.Spec PyProof.Rows
open Evl (Ex)

/-! ### statements of the text -/
def isComp : Expr → Bool
  | .ListComp .. => true | .SetComp .. => true | .DictComp .. => true
  | _ => false
def noSwap : Expr → Expr → Bool
  | .Tuple .., .Tuple .. => false
  | .List .., _ => false
  | _, _ => true
def isStar : Expr → Bool
  | .Starred .. => true
  | _ => false
def parOk (C : Ct) (x y : Str) (px py : Pos) (a b : Expr) : Bool := decide (C.sc.kind = .function) && (isLoc C x && (isLoc C y && (decide (py.line = px.line) && (decide (x ≠ y) && (notStar a && (notStar b && (!([a, b].all (foldedForSure 8)) && !([a, b].all (constantsAlone 8)))))))))
def parNo (C : Ct) (x y : Str) (a b : Expr) : Bool := (!isLoc C x || !isLoc C y) && (okSt C x && (okSt C y && (notStar a && notStar b)))
def lcOk (C : Ct) (y : Str) (py lp : Pos) (scope : Scope) : Bool := isLoc C y && (decide (C.sc.kind = .function) && ((py.line == lp.line) && !(scope.names.any fun (n, k) => n == y && (k == .local || k == .cell))))
def stepS (T : Tb) (r : EvX) (wf : Nat) (B : Ct → List Stmt → M Fl) (C : Ct) : Stmt → M Fl
  | .Pass _ => nxS
  | .Break _ => bkS
  | .Continue _ => ctS
  | .Return none _ => rtN
  | .Return (some e) _ => rtS (r.E C e)
  | .Expr (.Constant (.str _) _ _) _ => nxS
  | .Expr e _ => if isComp e then fail else drS (r.E C e)
  | .If c a b _ => ifS (r.T C c) (B C a) (B C b)
  | .For tg iter body [] _ => if notSet iter then forS (itE T r C tg iter) (tgE r C tg) (B C body) else fail
  | .While c body [] _ => whS (r.T C c) (B C body) wf
  | .Assign [.Name y py] (.ListComp elt [⟨tg, iter, ifs, 0⟩] scope lp) _ => if lcOk C y py lp scope then (match ixOf C.N y with
    | some i => asS (lcE T r C elt tg iter ifs scope) (asgN i)
    | none => fail) else fail
  | .Assign [.Tuple [.Name x px, .Name y py] _ _] (.Tuple [a, b] _ _) _ => if parOk C x y px py a b then (match ixOf C.N x, ixOf C.N y with
    | some i, some j => if i = j then fail else par2 i j (r.E C a) (r.E C b)
    | _, _ => fail) else if parNo C x y a b then (match ixOf C.N x, ixOf C.N y with
    | some i, some j => if i = j then fail else par2 i j (r.E C a) (r.E C b)
    | _, _ => fail) else fail
  | .Assign [tg] e _ => if isComp e then fail else if noSwap tg e && notStar tg then asS (r.E C e) (tgE r C tg) else fail
  | _ => fail
def evB (T : Tb) (r : EvX) (wf : Nat) : Nat → Ct → List Stmt → M Fl
  | 0, _, _ => fail
  | n + 1, C, sts => seqS (sts.map (stepS T r wf (evB T r wf n) C))
theorem comp_sw {e : Expr} {t : Option Expr} {l : Nat} {env : Env} (h : isComp e = false) : swapsWith e t l env = pure false := by
  cases e <;> first | rfl | cases h
theorem noSwap_ok {tg e : Expr} {env : Env} (h : noSwap tg e = true) : swappedStores [tg] e env = pure none := by
  cases tg <;> first | rfl | (cases e <;> first | rfl | cases h)
theorem par_sw {C : Ct} {env : Env} {x y : Str} {px py pt pt2 : Pos} {kt k2 : Nat} {a b : Expr} (hs : env.scope = C.sc) (h : parOk C x y px py a b = true) : swappedStores [.Tuple [.Name x px, .Name y py] kt pt] (.Tuple [a, b] k2 pt2) env = pure (some [x, y]) := by
  unfold parOk at h
  simp only [Bool.and_eq_true, decide_eq_true_eq, isLoc, Bool.not_eq_true'] at h
  obtain ⟨h1, h2, h3, h4, h5, h6, h7, h8, h9⟩ := h
  have k1 : env.kindOf x = some .local := by unfold Env.kindOf; rw [hs]; exact h2
  have k2 : env.kindOf y = some .local := by unfold Env.kindOf; rw [hs]; exact h3
  have kb : env.blockKind = .function := by unfold Env.blockKind; rw [hs, h1]; rfl
  have nst : ([a, b].any fun e => match e with | .Starred .. => true | _ => false) = false := by
    have one : ∀ e : Expr, notStar e = true → (match e with | .Starred .. => true | _ => false) = false := fun e h => by cases e <;> first | rfl | cases h
    simp only [List.any_cons, List.any_nil, one a h6, one b h7]
    rfl
  have l1 : (Expr.Name x px).pos.line = px.line := rfl
  have hne : (y == x) = false := by simpa using Ne.symm h5
  have hne2 : (x == y) = false := by simpa using h5
  unfold swappedStores
  simp only [kb, nst, k1, k2, h4, h8, h9, List.filterMap_cons, List.filterMap_nil, List.head?_cons, Option.map_some, Option.getD_some, l1]
  simp [List.eraseDups, List.eraseDupsBy, List.eraseDupsBy.loop, hne, hne2]
  intro z
  rcases z with z | z
  · cases a <;> first | exact absurd (show false = true from z) Bool.false_ne_true | exact absurd (show false = true from h6) Bool.false_ne_true
  · cases b <;> first | exact absurd (show false = true from z) Bool.false_ne_true | exact absurd (show false = true from h7) Bool.false_ne_true
theorem no_sw {C : Ct} {env : Env} {x y : Str} {px py pt pt2 : Pos} {kt k2 : Nat} {a b : Expr} (hs : env.scope = C.sc) (h : parNo C x y a b = true) : swappedStores [.Tuple [.Name x px, .Name y py] kt pt] (.Tuple [a, b] k2 pt2) env = pure none := by
  unfold parNo at h
  simp only [Bool.and_eq_true, Bool.or_eq_true, Bool.not_eq_true', isLoc, decide_eq_false_iff_not] at h
  obtain ⟨h1, h2, h3, h6, h7⟩ := h
  have key : ∀ z : Str, ¬ C.sc.names.lookup z = some .local → (env.kindOf z == some .local) = false := fun z hz => by
    unfold Env.kindOf
    rw [hs]
    cases e : C.sc.names.lookup z with
    | none => rfl
    | some q => cases q <;> first | rfl | exact absurd e hz
  unfold swappedStores
  rcases h1 with h1 | h1
  · have k1 := key x h1
    simp only [k1, List.filterMap_cons, List.filterMap_nil, Bool.false_and]
    split
    · rfl
    · split
      · rfl
      · split <;> simp_all <;> (intro hlen; exfalso; revert hlen; split <;> simp)
  · have k1 := key y h1
    simp only [k1, List.filterMap_cons, List.filterMap_nil, Bool.false_and]
    split
    · rfl
    · split
      · rfl
      · split <;> simp_all <;> (intro hlen; exfalso; revert hlen; split <;> simp)
section
variable {T : Tb} {r : EvX} {X : Cx} {C : Ct} {wf : Nat} {B : Ct → List Stmt → M Fl}
theorem snd_S (sr : Snd T r) (hB : ∀ sts, PSs X sts (tSv X.K (B C sts))) (k : XOk T X C) (st : Stmt) : PS X st (tSv X.K (stepS T r wf B C st)) := by
  have hp : PassesOwn (model X.prog X.w) X.A X.env X.xe := by rw [k.nox]; exact PassesOwn.never
  have nd : X.N.Nodup := by rw [k.N]; exact k.nd
  unfold stepS
  split
  · exact ss_pass
  · exact ss_break
  · exact ss_cont
  · exact ss_retN
  · exact ss_ret (sr.E X C _ k)
  · exact ss_nx (t := tNext) ps_doc
  · split
    · exact ps_fail
    · rename_i h
      exact ss_expr (sr.E X C _ k) (comp_sw (by simpa using h))
  · exact ss_if (sr.T X C _ k) (hB _) (hB _)
  · split
    · rename_i h
      exact ss_for hp k.calm (snd_it sr k) (snd_tg sr k) (hB _) (notSet_ok h)
    · exact ps_fail
  · exact ss_while hp (sr.T X C _ k) (hB _)
  · split
    · rename_i h
      unfold lcOk at h
      simp only [Bool.and_eq_true, decide_eq_true_eq, Bool.not_eq_true'] at h
      split
      · rename_i i hi
        exact ss_setLc sr k (ixOf_ok hi) h.1 h.2.1 h.2.2.1 h.2.2.2
      · exact ps_fail
    · exact ps_fail
  · split
    · rename_i x px y py _ _ a b _ _ _ h
      have h' := h
      unfold parOk at h'
      simp only [Bool.and_eq_true, decide_eq_true_eq, isLoc, Bool.not_eq_true'] at h'
      split
      · rename_i i j hi hj
        split
        · exact ps_fail
        · rename_i hij
          exact ss_par2 k.calm nd (by rw [k.N]; exact ixOf_ok hi) (by rw [k.N]; exact ixOf_ok hj) hij (by rw [k.sc]; exact h'.2.1) (by rw [k.sc]; exact h'.2.2.1) (sr.E X C _ k) (sr.E X C _ k) h'.2.2.2.2.2.1 h'.2.2.2.2.2.2.1 (par_sw k.sc h)
      · exact ps_fail
    · split
      · rename_i x px y py _ _ a b _ _ _ _ h
        have h' := h
        unfold parNo at h'
        simp only [Bool.and_eq_true] at h'
        obtain ⟨p1, p2⟩ := okSt_ok k h'.2.1
        obtain ⟨p3, p4⟩ := okSt_ok k h'.2.2.1
        split
        · rename_i i j hi hj
          split
          · exact ps_fail
          · exact ss_par2T k.calm nd (by rw [k.N]; exact ixOf_ok hi) (by rw [k.N]; exact ixOf_ok hj) p1 p2 p3 p4 (sr.E X C _ k) (sr.E X C _ k) h'.2.2.2.1 h'.2.2.2.2 (no_sw k.sc h)
        · exact ps_fail
      · exact ps_fail
  · split
    · exact ps_fail
    · rename_i h
      split
      · rename_i h2
        rw [Bool.and_eq_true] at h2
        exact ss_asg (sr.E X C _ k) (snd_tg sr k) (comp_sw (by simpa using h)) (noSwap_ok h2.1) h2.2
      · exact ps_fail
  · exact ps_fail
end
theorem snd_B {T : Tb} {r : EvX} (sr : Snd T r) {wf : Nat} : ∀ (n : Nat) {X : Cx} {C : Ct}, XOk T X C → ∀ sts, PSs X sts (tSv X.K (evB T r wf n C sts))
  | 0, X, C, k, sts => pss_fail
  | n + 1, X, C, k, sts => by
    show PSs X sts (tSv X.K (seqS (sts.map (stepS T r wf (evB T r wf n) C))))
    refine sss sts _ ?_
    have ih := fun sts => snd_B sr (wf := wf) n k sts
    have go : ∀ l : List Stmt, Paired (fun s f => PS X s (tSv X.K f)) l (l.map (stepS T r wf (evB T r wf n) C)) := by
      intro l
      induction l with
      | nil => exact .nil
      | cons a l ihl => exact .cons (snd_S sr ih k a) ihl
    exact go sts
/-! ### the text's functions -/
structure DefI where
  N : List Str
  ps : List Str
  sc : Scope
  body : List Stmt
  by_ : List Bool
  args : Arguments
structure Prg where
  gl : List (Str × D)
  fr : List Str
  defs : List (Str × DefI)
  wf : Nat
def Prg.ctx (d : DefI) : Ct := { N := d.N, sc := d.sc, fn := fun _ => true }
def tb (P : Prg) : Nat → Tb
  | 0 => { gl := fun x => P.gl.lookup x, fr := fun x => P.fr.contains x, fns := fun _ => none }
  | n + 1 => { gl := fun x => P.gl.lookup x, fr := fun x => P.fr.contains x, fns := fun x => (P.defs.lookup x).map fun d => (d.by_, evF d.N.length d.ps.length (evB (tb P n) (evN (tb P n) 40) P.wf 40 (Prg.ctx d) d.body)) }
def evD (P : Prg) (n : Nat) (d : DefI) : Ev := evF d.N.length d.ps.length (evB (tb P n) (evN (tb P n) 40) P.wf 40 (Prg.ctx d) d.body)
structure DefW (K : PySem.W.Frag) (mg : Str → Option Value) (x : Str) (d : DefI) (f : Addr) (fd : FuncData) : Prop where
  mgx : mg x = some (.ref f)
  keep : PySem.W.keepIn K (.ref f) = true
  bind : Binds K fd d.ps []
  sco : FnScope d.N d.ps d.sc
  run : ∃ (nm qual : Str) (prm : Arguments) (dV kV doc pm cdv ct oc : Value) (an od : Option Addr) (osl : Array (Option Value)), fd = PySem.W.fnOf nm qual prm d.body d.sc dV kV doc pm an cdv ct ∧ K.lookup f = some ⟨oc, od, .func fd, osl⟩ ∧ PySem.W.codeIn K cdv qual = true
structure PrgOk (P : Prg) (K : PySem.W.Frag) (mg : Str → Option Value) : Prop where
  gl : ∀ x d, P.gl.lookup x = some d → ∃ u v, mg x = some u ∧ RelV v u ∧ ∀ G, Rep K G v d
  fr : ∀ x, P.fr.contains x = true → mg x = none
  defs : ∀ x d, P.defs.lookup x = some d → ∃ f fd, DefW K mg x d f fd
theorem fns_ok {P : Prg} {prog : Program} {w : World} {K : PySem.W.Frag} {mg : Str → Option Value} {base : Heap} (ok : PrgOk P K mg) : ∀ (n : Nat) (x : Str) (d : DefI) (f : Addr) (fd : FuncData), DefW K mg x d f fd → FnG prog w K mg base (n + 1) f fd d.ps (evD P n d)
  | n, x, d, f, fd, W => by
    obtain ⟨nm, qual, prm, dV, kV, doc, pm, cdv, ct, oc, an, od, osl, rfl, lk, hcd⟩ := W.run
    refine fnG_of lk hcd W.sco fun A out s H hr hgu => ?_
    refine snd_B (snd_evN _ 40) 40 (C := Prg.ctx d) ⟨rfl, rfl, rfl, W.sco.nd, rfl, fun _ _ => rfl, hgu, ?_, ?_, ?_, ?_⟩ d.body
    · have := hr.un
      show (A.deeper _).units + 200 < cLine
      omega
    · cases n <;> exact ok.gl
    · cases n <;> exact ok.fr
    · cases n with
      | zero => intro x bs ev h; cases h
      | succ n =>
        intro y bs ev h
        obtain ⟨d', h1, h2⟩ := Option.map_eq_some_iff.mp h
        cases h2
        obtain ⟨f', fd', W'⟩ := ok.defs y d' h1
        exact ⟨n + 1, f', fd', d'.ps, fns_ok ok n y d' f' fd' W', hr, W'.mgx, W'.keep, W'.bind, fun ss q hq => evF_len hq⟩
end Pv
namespace Pv
open PySem L2 PySem.Spec PyProof.Rows
open Evl (Ex)

/-! ### from the head's facts -/
def glFa : Str × D → He.Fa
  | (x, .int i) => .int x i
  | (x, .str z) => .str x z
  | (x, _) => .glo x
def glD : D → Bool
  | .int _ => true
  | .str _ => true
  | _ => false
def faP (P : Prg) : List He.Fa := P.defs.map (fun q => He.Fa.glo q.1) ++ (P.fr.map He.Fa.free ++ P.gl.map glFa)
def fnP (P : Prg) : List He.DefD := P.defs.map fun q => ⟨(q.1, none), q.1, q.1, q.2.args, q.2.body, q.2.sc, [], []⟩
def BindsP (x : Str) (d : DefI) : Prop := ∀ (kV doc pm : Value) (an : Option Addr) (cdv ct : Value) (us : List Value), us.length = d.ps.length → bindArgs (PySem.W.fnOf x x d.args d.body d.sc .none kV doc pm an cdv ct) ⟨us, []⟩ = pure (d.ps.zip us)
def DefsOk : List (Str × DefI) → Prop
  | [] => True
  | (x, d) :: r => (BindsP x d ∧ FnScope d.N d.ps d.sc) ∧ DefsOk r
theorem DefsOk.at : ∀ {l : List (Str × DefI)} {x : Str} {d : DefI}, DefsOk l → l.lookup x = some d → ∃ i : Nat, l[i]? = some (x, d) ∧ BindsP x d ∧ FnScope d.N d.ps d.sc
  | [], _, _, _, h => by cases h
  | (y, d') :: r, x, d, ok, h => by
    rw [List.lookup_cons] at h
    split at h
    · rename_i e
      have e' : x = y := beq_iff_eq.mp e
      subst e'
      cases h
      exact ⟨0, rfl, ok.1⟩
    · obtain ⟨i, a, b⟩ := DefsOk.at ok.2 h
      exact ⟨i + 1, by simpa using a, b⟩
theorem look_mem {α : Type} : ∀ {l : List (Str × α)} {x : Str} {d : α}, l.lookup x = some d → (x, d) ∈ l
  | [], _, _, h => by cases h
  | (y, d') :: r, x, d, h => by
    rw [List.lookup_cons] at h
    split at h
    · rename_i e
      have e' : x = y := beq_iff_eq.mp e
      subst e'
      cases h
      exact List.mem_cons_self
    · exact List.mem_cons_of_mem _ (look_mem h)
section
variable {P : Prg} {K : PySem.W.Frag} {h : Heap} {mg : Str → Option Value}
theorem fact_of (c : He.SaysD (faP P) (fnP P) K) {f : He.Fa} (m : f ∈ faP P) : f.ok K = true := by
  obtain ⟨i, hi⟩ := List.getElem?_of_mem m
  exact c.fact i hi
theorem def_of (hok : DefsOk P.defs) (c : He.SaysD (faP P) (fnP P) K) {x : Str} {d : DefI} (hl : P.defs.lookup x = some d) : BindsP x d ∧ FnScope d.N d.ps d.sc ∧ ∃ fd, FunD K x x d.args d.body d.sc [] [] (He.ga K x) fd := by
  obtain ⟨i, h1, h2, h3⟩ := hok.at hl
  have e : (fnP P)[i]? = some ⟨(x, none), x, x, d.args, d.body, d.sc, [], []⟩ := by
    unfold fnP
    rw [List.getElem?_map, h1]
    rfl
  obtain ⟨fd, F⟩ := c.def_ i e
  exact ⟨h2, h3, fd, F⟩
theorem prg_ok (X : K.In h) (G : h.Ns mainGlobals mg) (hg : P.gl.all (fun q => glD q.2) = true) (hok : DefsOk P.defs) (c : He.SaysD (faP P) (fnP P) K) : PrgOk P K mg where
  gl := fun x d hl => by
    have m := look_mem hl
    have mf : glFa (x, d) ∈ faP P := List.mem_append_right _ (List.mem_append_right _ (List.mem_map.mpr ⟨(x, d), m, rfl⟩))
    have hd := List.all_eq_true.mp hg _ m
    cases d with
    | int i =>
      obtain ⟨t, e⟩ := He.int_ok X G (x := x) (i := i) (fact_of c mf)
      exact ⟨_, .int i, e, ⟨t, rfl⟩, fun _ => .int i⟩
    | str z =>
      obtain ⟨t, e⟩ := He.str_ok X G (x := x) (z := z) (fact_of c mf)
      exact ⟨_, .str z, e, ⟨t, rfl⟩, fun _ => .str z⟩
    | _ => cases hd
  fr := fun x hx => by
    have m : x ∈ P.fr := by simpa using hx
    exact He.free_ok X G (x := x) (fact_of c (List.mem_append_right _ (List.mem_append_left _ (List.mem_map.mpr ⟨x, m, rfl⟩))))
  defs := fun x d hl => by
    obtain ⟨hb, hs, fd, F⟩ := def_of hok c hl
    have gx : mg x = some (.ref (He.ga K x)) := He.glo_ok X G (x := x) (fact_of c (List.mem_append_left _ (List.mem_map.mpr ⟨(x, d), look_mem hl, rfl⟩)))
    obtain ⟨oc, od, dV, kV, doc, pm, an, cdv, ct, osl, e1, e2, e3, _, _⟩ := F.ex
    exact ⟨He.ga K x, fd, gx, F.kp, F.bindsN hb, hs, x, x, d.args, dV, kV, doc, pm, cdv, ct, oc, an, od, osl, e1, e2, e3⟩
theorem law_facts {prog : Program} {w : World} {f : Addr} {x p : Str} {d : DefI} (X : K.In h) (G : h.Ns mainGlobals mg) (hg : P.gl.all (fun q => glD q.2) = true) (hok : DefsOk P.defs) (hl : P.defs.lookup x = some d) (hp : d.ps = [p]) (hmg : mg x = some (.ref f))
    (c : He.SaysD (faP P) (fnP P) K) (n : Nat) : ∃ fd : FuncData, (∀ (s : Shared) (u : Value), BindsTo s fd ⟨[u], []⟩ [(p, u)]) ∧ ∀ base : Heap, K.In base → base.Ns mainGlobals mg → FnG prog w K mg base (n + 1) f fd [p] (evD P n d) := by
  have ok := prg_ok X G hg hok c
  obtain ⟨hb, hs, fd, F⟩ := def_of hok c hl
  have gx : mg x = some (.ref (He.ga K x)) := He.glo_ok X G (x := x) (fact_of c (List.mem_append_left _ (List.mem_map.mpr ⟨(x, d), look_mem hl, rfl⟩)))
  have e := hmg.symm.trans gx
  cases e
  refine ⟨fd, fun s u => ?_, fun base _ _ => ?_⟩
  · have b := F.bindsA (ps := d.ps) hb s [u] (by rw [hp]; rfl)
    rw [hp] at b
    exact b
  · obtain ⟨oc, od, dV, kV, doc, pm, an, cdv, ct, osl, e1, e2, e3, _, _⟩ := F.ex
    have W : DefW K mg x d (He.ga K x) fd := ⟨gx, F.kp, F.bindsN hb, hs, x, x, d.args, dV, kV, doc, pm, cdv, ct, oc, an, od, osl, e1, e2, e3⟩
    have q := fns_ok (prog := prog) (w := w) (base := base) ok n x d _ fd W
    rw [hp] at q
    exact q
end
end Pv
namespace Pv
open PySem L2

/-! ### running it -/
section
variable {α β : Type} {e e' : En}
def obn {γ δ : Type} : Out (γ × En) → (γ → En → Out δ) → Out δ
  | .ok (a, e), k => k a e
  | .err, _ => .err
@[simp] theorem obn_ok {γ δ : Type} (a : γ) (e : En) (k : γ → En → Out δ) : obn (.ok (a, e)) k = k a e := Eq.trans rfl rfl
@[simp] theorem obn_err {γ δ : Type} (k : γ → En → Out δ) : obn .err k = .err := Eq.trans rfl rfl
@[simp] theorem bnd_app (m : M α) (f : α → M β) (e : En) : bnd m f e = obn (m e) f := by
  unfold bnd obn
  cases m e with
  | err => rfl
  | ok p => rfl
@[simp] theorem ret_app (a : α) (e : En) : ret a e = .ok (a, e) := Eq.trans rfl rfl
@[simp] theorem fail_app (e : En) : (fail : M α) e = .err := Eq.trans rfl rfl
@[simp] theorem opt_some (a : α) (e : En) : opt (some a) e = .ok (a, e) := Eq.trans rfl rfl
@[simp] theorem der_sh (d : D) (e : En) : der (.sh d) e = .ok (d, e) := Eq.trans rfl rfl
@[simp] theorem der_fr (d : D) (e : En) : der (.fr d) e = .ok (d, e) := Eq.trans rfl rfl
@[simp] theorem shr_sh (d : D) (e : En) : shr (.sh d) e = .ok (d, e) := Eq.trans rfl rfl
@[simp] theorem shr_fr (d : D) (e : En) : shr (.fr d) e = .ok (d, e) := Eq.trans rfl rfl
@[simp] theorem opd_sh (d : D) : opd (.sh d) = .sh d := Eq.trans rfl rfl
@[simp] theorem opd_fr (d : D) : opd (.fr d) = .sh d := Eq.trans rfl rfl
@[simp] theorem opd_ow (i : Nat) : opd (.ow i) = .ow i := Eq.trans rfl rfl
@[simp] theorem conC_app (d : D) (e : En) : conC d e = .ok (.sh d, e) := Eq.trans rfl rfl
@[simp] theorem argsC_nil (e : En) : argsC [] e = .ok ([], e) := Eq.trans rfl rfl
@[simp] theorem argsC_cons (f : M Val) (r : List (M Val)) (e : En) : argsC (f :: r) e = bnd f (fun v => bnd (argsC r) fun vs => ret (opd v :: vs)) e := Eq.trans rfl rfl
@[simp] theorem derAll_nil (e : En) : derAll [] e = .ok ([], e) := Eq.trans rfl rfl
@[simp] theorem derAll_cons (v : Val) (r : List Val) (e : En) : derAll (v :: r) e = bnd (der v) (fun d => bnd (derAll r) fun ds => ret (d :: ds)) e := Eq.trans rfl rfl
@[simp] theorem shrAll_nil (e : En) : shrAll [] e = .ok ([], e) := Eq.trans rfl rfl
@[simp] theorem shrAll_cons (v : Val) (r : List Val) (e : En) : shrAll (v :: r) e = bnd (shr v) (fun d => bnd (shrAll r) fun ds => ret (d :: ds)) e := Eq.trans rfl rfl
@[simp] theorem seqS_nil (e : En) : seqS [] e = .ok (.nx, e) := Eq.trans rfl rfl
def seqK (r : List (M Fl)) : Fl → M Fl
  | .nx => seqS r
  | .bk => ret .bk
  | .ct => ret .ct
  | .rt v => ret (.rt v)
@[simp] theorem seqK_nx (r : List (M Fl)) (e : En) : seqK r .nx e = seqS r e := Eq.trans rfl rfl
@[simp] theorem seqK_bk (r : List (M Fl)) (e : En) : seqK r .bk e = .ok (.bk, e) := Eq.trans rfl rfl
@[simp] theorem seqK_ct (r : List (M Fl)) (e : En) : seqK r .ct e = .ok (.ct, e) := Eq.trans rfl rfl
@[simp] theorem seqK_rt (r : List (M Fl)) (v : Val) (e : En) : seqK r (.rt v) e = .ok (.rt v, e) := Eq.trans rfl rfl
@[simp] theorem seqS_cons (f : M Fl) (r : List (M Fl)) (e : En) : seqS (f :: r) e = obn (f e) (seqK r) := by
  show bnd f _ e = _
  unfold bnd obn
  cases f e with
  | err => rfl
  | ok p => obtain ⟨fl, e'⟩ := p; cases fl <;> rfl
@[simp] theorem name_app (i : Nat) (e : En) : nameC i e = (match e[i]? with
  | some (.sh d) => .ok (.sh d, e)
  | some (.ow _ _) => .ok (.ow i, e)
  | _ => .err) := Eq.trans rfl rfl
@[simp] theorem der_ow (i : Nat) (e : En) : der (.ow i) e = (match (match e[i]? with
  | some (.ow _ d) => some d
  | _ => none) with
  | some d => .ok (d, e)
  | none => .err) := Eq.trans rfl rfl
@[simp] theorem shr_ow (i : Nat) (e : En) : shr (.ow i) e = (match e[i]? with
    | some (.ow false d) => .ok (d, e.set i (.sh d))
    | _ => .err) := Eq.trans rfl rfl
/-- may be written; may be forgotten -/
def wOk : Slot → Bool
  | .ow true _ => false
  | _ => true
def nOw : Slot → Bool
  | .ow _ _ => false
  | _ => true
/-- free -/
def op : Option D → Slot
  | none => .em
  | some d => .sh d
@[simp] theorem op_some (d : D) : op (some d) = .sh d := Eq.trans rfl rfl
@[simp] theorem op_none : op none = .em := Eq.trans rfl rfl
@[simp] theorem wOk_em : wOk .em = true := Eq.trans rfl rfl
@[simp] theorem wOk_sh (d : D) : wOk (.sh d) = true := Eq.trans rfl rfl
@[simp] theorem wOk_fr (d : D) : wOk (.ow false d) = true := Eq.trans rfl rfl
@[simp] theorem wOk_op (o : Option D) : wOk (op o) = true := by cases o <;> rfl
@[simp] theorem nOw_em : nOw .em = true := Eq.trans rfl rfl
@[simp] theorem nOw_sh (d : D) : nOw (.sh d) = true := Eq.trans rfl rfl
@[simp] theorem nOw_op (o : Option D) : nOw (op o) = true := by cases o <;> rfl
@[simp] theorem setN_app (i : Nat) (s : Slot) (e : En) : setN i s e = (match e[i]? with
  | some t => if wOk t = true then .ok ((), e.set i s) else .err
  | none => .err) := by
  unfold setN
  cases e[i]? with
  | none => rfl
  | some t => cases t with
    | em => rfl
    | sh d => rfl
    | ow b d => cases b <;> rfl
@[simp] theorem wipE_nil (e : En) : wipE [] e = .ok ((), e) := Eq.trans rfl rfl
def wipK (i : Nat) (_ : Unit) (e1 : En) : Out (Unit × En) := match e1[i]? with
  | some t => if nOw t = true then .ok ((), e1.set i .em) else .err
  | none => .err
@[simp] theorem wipK_app (i : Nat) (u : Unit) (e1 : En) : wipK i u e1 = (match e1[i]? with
  | some t => if nOw t = true then .ok ((), e1.set i .em) else .err
  | none => .err) := Eq.trans rfl rfl
@[simp] theorem wipE_cons (i : Nat) (r : List Nat) (e : En) : wipE (i :: r) e = obn (wipE r e) (wipK i) := by
  show bnd (wipE r) _ e = _
  rw [bnd_app]
  cases wipE r e with
  | err => rfl
  | ok p =>
    obtain ⟨u, e1⟩ := p
    simp only [obn_ok, wipK]
    cases q : e1[i]? with
    | none => rfl
    | some t => cases t <;> rfl
theorem lim_big : 1000 < lenLim := by decide
@[simp] theorem le_lim {n : Nat} (h : n ≤ 1000) : n ≤ lenLim := Nat.le_trans h (Nat.le_of_lt lim_big)
@[simp] theorem lt_lim {n : Nat} (h : n < 1000) : n < lenLim := Nat.lt_trans h lim_big
@[simp] theorem putE_nil (e0 e : En) : putE [] e0 e = e := Eq.trans rfl rfl
@[simp] theorem putE_cons (i : Nat) (r : List Nat) (e0 e : En) : putE (i :: r) e0 e = (match e0[i]? with
    | some s => (putE r e0 e).set i s
    | none => putE r e0 e) := Eq.trans rfl rfl
@[simp] theorem asgN_sh (i : Nat) (d : D) : asgN i (.sh d) = setN i (.sh d) := Eq.trans rfl rfl
@[simp] theorem asgN_fr (i : Nat) (d : D) : asgN i (.fr d) = setN i (.ow false d) := Eq.trans rfl rfl
@[simp] theorem asgN_ow (i j : Nat) (e : En) : asgN i (.ow j) e = bnd (shr (.ow j)) (fun d => setN i (.sh d)) e := Eq.trans rfl rfl
@[simp] theorem add_int (i j : Int) : addD (.int i) (.int j) = some (.sh (.int (i + j))) := Eq.trans rfl rfl
@[simp] theorem sub_int (i j : Int) : subD (.int i) (.int j) = some (.sh (.int (i - j))) := Eq.trans rfl rfl
@[simp] theorem lt_int (i j : Int) : ltD (.int i) (.int j) = some (.sh (.bl (decide (i < j)))) := Eq.trans rfl rfl
@[simp] theorem le_int (i j : Int) : leD (.int i) (.int j) = some (.sh (.bl (decide (i ≤ j)))) := Eq.trans rfl rfl
@[simp] theorem gt_int (i j : Int) : gtD (.int i) (.int j) = some (.sh (.bl (decide (j < i)))) := Eq.trans rfl rfl
@[simp] theorem ge_int (i j : Int) : geD (.int i) (.int j) = some (.sh (.bl (decide (j ≤ i)))) := Eq.trans rfl rfl
@[simp] theorem lt_str (a b : Str) : ltD (.str a) (.str b) = some (.sh (.bl (decide (a.cps.toList < b.cps.toList)))) := Eq.trans rfl rfl
@[simp] theorem eq_str (a b : Str) : eqD (.str a) (.str b) = some (.sh (.bl (decide (a = b)))) := Eq.trans rfl rfl
@[simp] theorem ne_str (a b : Str) : neD (.str a) (.str b) = some (.sh (.bl (!decide (a = b)))) := Eq.trans rfl rfl
@[simp] theorem asBl_bl (b : Bool) : asBl (.sh (.bl b)) = ret b := Eq.trans rfl rfl
@[simp] theorem tru_bl (b : Bool) : truD (.bl b) = some b := Eq.trans rfl rfl
@[simp] theorem tru_int (i : Int) : truD (.int i) = some (i != 0) := Eq.trans rfl rfl
@[simp] theorem tru_lst (l : List D) : truD (.lst l) = some (!l.isEmpty) := Eq.trans rfl rfl
@[simp] theorem tru_tup (l : List D) : truD (.tup l) = some (!l.isEmpty) := Eq.trans rfl rfl
@[simp] theorem len_lst (l : List D) : lenB [.lst l] = some (.sh (.int l.length)) := Eq.trans rfl rfl
@[simp] theorem len_tup (l : List D) : lenB [.tup l] = some (.sh (.int l.length)) := Eq.trans rfl rfl
@[simp] theorem len_scr (l : List Int) : lenB [.scr l] = some (.sh (.int l.length)) := Eq.trans rfl rfl
@[simp] theorem abs_int (i : Int) : absB [.int i] = some (.sh (.int (if i < 0 then -i else i))) := Eq.trans rfl rfl
@[simp] theorem max_int (i j : Int) : maxB [.int i, .int j] = some (.sh (.int (if j > i then j else i))) := Eq.trans rfl rfl
@[simp] theorem min_int (i j : Int) : minB [.int i, .int j] = some (.sh (.int (if j < i then j else i))) := Eq.trans rfl rfl
@[simp] theorem int_int (i : Int) : intB [.int i] = some (.sh (.int i)) := Eq.trans rfl rfl
@[simp] theorem int_bl (b : Bool) : intB [.bl b] = some (.sh (.int (if b then 1 else 0))) := Eq.trans rfl rfl
@[simp] theorem list_lst (l : List D) : listB [.lst l] = some (.fr (.lst l)) := Eq.trans rfl rfl
@[simp] theorem list_tup (l : List D) : listB [.tup l] = some (.fr (.lst l)) := Eq.trans rfl rfl
@[simp] theorem tuple_lst (l : List D) : tupleB [.lst l] = some (.sh (.tup l)) := Eq.trans rfl rfl
@[simp] theorem tuple_tup (l : List D) : tupleB [.tup l] = some (.sh (.tup l)) := Eq.trans rfl rfl
@[simp] theorem items_lst (l : List D) : itemsD (.lst l) = some l := Eq.trans rfl rfl
@[simp] theorem items_tup (l : List D) : itemsD (.tup l) = some l := Eq.trans rfl rfl
@[simp] theorem items_str (z : Str) : itemsD (.str z) = some (z.cps.toList.map fun c => .str ⟨#[c]⟩) := Eq.trans rfl rfl
@[simp] theorem seq_lst (l : List D) : seqD (.lst l) = some l := Eq.trans rfl rfl
@[simp] theorem seq_tup (l : List D) : seqD (.tup l) = some l := Eq.trans rfl rfl
@[simp] theorem binC_app (g : D → D → Option Val) (fa fb : M Val) (e : En) : binC g fa fb e = bnd fa (fun va => bnd fb fun vb => bnd (der (opd va)) fun da => bnd (der vb) fun db => opt (g da db)) e := Eq.trans rfl rfl
@[simp] theorem chnC_app (g g' : D → D → Option Val) (fa fb fc : M Val) (e : En) : chnC g g' fa fb fc e = bnd fa (fun va => bnd fb fun vb => bnd (der (opd va)) fun da => bnd (der (opd vb)) fun db => bnd (opt (g da db)) fun z => bnd (asBl z) fun k =>
    if k = true then bnd fc fun vc => bnd (der (opd vb)) fun db' => bnd (der vc) fun dc => opt (g' db' dc) else ret (.sh (.bl false))) e := Eq.trans rfl rfl
@[simp] theorem cmpT_app (f : M Val) (e : En) : cmpT f e = bnd f asBl e := Eq.trans rfl rfl
@[simp] theorem truC_app (f : M Val) (e : En) : truC f e = bnd f (fun v => bnd (der v) fun d => opt (truD d)) e := Eq.trans rfl rfl
@[simp] theorem notT_app (f : M Bool) (e : En) : notT f e = bnd f (fun b => ret (!b)) e := Eq.trans rfl rfl
@[simp] theorem notC_app (f : M Bool) (e : En) : notC f e = bnd f (fun b => ret (.sh (.bl (!b)))) e := Eq.trans rfl rfl
@[simp] theorem bopT_one (w : Bool) (a : M Bool) (e : En) : bopT w [a] e = a e := Eq.trans rfl rfl
@[simp] theorem bopT_two (w : Bool) (a b : M Bool) (r : List (M Bool)) (e : En) : bopT w (a :: b :: r) e = bnd a (fun c => if c = w then ret w else bopT w (b :: r)) e := Eq.trans rfl rfl
@[simp] theorem bopC_one (w : Bool) (a : M Val) (e : En) : bopC w [a] e = a e := Eq.trans rfl rfl
@[simp] theorem bopC_two (w : Bool) (a b : M Val) (r : List (M Val)) (e : En) : bopC w (a :: b :: r) e = bnd a (fun v => bnd (bnd (der v) fun d => opt (truD d)) fun c => if c = w then ret v else bopC w (b :: r)) e := Eq.trans rfl rfl
@[simp] theorem ifC_app (t : M Bool) (a b : M Val) (e : En) : ifC t a b e = bnd t (fun c => if c = true then a else b) e := Eq.trans rfl rfl
@[simp] theorem ifS_app (t : M Bool) (a b : M Fl) (e : En) : ifS t a b e = bnd t (fun c => if c = true then a else b) e := Eq.trans rfl rfl
@[simp] theorem rtS_app (f : M Val) (e : En) : rtS f e = bnd f (fun v => ret (.rt v)) e := Eq.trans rfl rfl
@[simp] theorem drS_app (f : M Val) (e : En) : drS f e = bnd f (fun _ => ret .nx) e := Eq.trans rfl rfl
@[simp] theorem asS_app (f : M Val) (g : Val → M Unit) (e : En) : asS f g e = bnd f (fun v => bnd (g v) fun _ => ret .nx) e := Eq.trans rfl rfl
@[simp] theorem nxS_app (e : En) : nxS e = .ok (.nx, e) := Eq.trans rfl rfl
@[simp] theorem callC_app (g : List D → Option Val) (fs : List (M Val)) (e : En) : callC g fs e = bnd (argsC fs) (fun vs => bnd (derAll vs) fun ds => opt (g ds)) e := Eq.trans rfl rfl
@[simp] theorem callV_app (bs : List Bool) (ev : Ev) (fs : List (M Val)) (e : En) : callV bs ev fs e = bnd (argsC fs) (fun vals => bnd (frzL bs vals) fun vals1 => goV ev vals1) e := Eq.trans rfl rfl
@[simp] theorem frzL_nil (bs : List Bool) (e : En) : frzL bs [] e = .ok ([], e) := by cases bs with
  | nil => rfl
  | cons b _ => cases b <;> rfl
@[simp] theorem frzL_t (bs : List Bool) (v : Val) (vs : List Val) (e : En) : frzL (true :: bs) (v :: vs) e = bnd (frzL bs vs) (fun r => ret (v :: r)) e := Eq.trans rfl rfl
@[simp] theorem frzL_f (bs : List Bool) (v : Val) (vs : List Val) (e : En) : frzL (false :: bs) (v :: vs) e = bnd (shr v) (fun d => bnd (frzL bs vs) fun r => ret (.sh d :: r)) e := Eq.trans rfl rfl
def goK (vals : List Val) (e : En) (val : Val) (e' : En) : Out (Val × En) := match backE (pairs 0 vals) e' e, retV e' val with
  | some e2, some val' => .ok (val', e2)
  | _, _ => .err
@[simp] theorem goK_sh (vals : List Val) (e : En) (d : D) (e' : En) : goK vals e (.sh d) e' = (match backE (pairs 0 vals) e' e with
  | some e2 => .ok (.sh d, e2)
  | none => .err) := by
  unfold goK
  show (match backE (pairs 0 vals) e' e, some (Val.sh d) with
    | some e2, some val' => Out.ok (val', e2)
    | _, _ => .err) = _
  cases backE (pairs 0 vals) e' e <;> rfl
@[simp] theorem goK_fr (vals : List Val) (e : En) (d : D) (e' : En) : goK vals e (.fr d) e' = (match backE (pairs 0 vals) e' e with
  | some e2 => .ok (.fr d, e2)
  | none => .err) := by
  unfold goK
  show (match backE (pairs 0 vals) e' e, some (Val.fr d) with
    | some e2, some val' => Out.ok (val', e2)
    | _, _ => .err) = _
  cases backE (pairs 0 vals) e' e <;> rfl
theorem goK_ow (vals : List Val) (e : En) (k : Nat) (d : D) (e' : En) (h : e'[k]? = some (.ow false d)) : goK vals e (.ow k) e' = (match backE (pairs 0 vals) e' e with
  | some e2 => .ok (.fr d, e2)
  | none => .err) := by
  unfold goK
  have hr : retV e' (.ow k) = some (.fr d) := by
    show (match e'[k]? with
      | some (.ow false d) => some (Val.fr d)
      | _ => none) = _
    rw [h]
  rw [hr]
  cases backE (pairs 0 vals) e' e <;> rfl
def goS (ev : Ev) (vals : List Val) (e : En) : Option (List Slot) → Out (Val × En)
  | none => .err
  | some ss => if ((pairs 0 vals).map Prod.snd).Nodup then obn (ev ss) (goK vals e) else .err
@[simp] theorem goS_some (ev : Ev) (vals : List Val) (e : En) (ss : List Slot) : goS ev vals e (some ss) = (if ((pairs 0 vals).map Prod.snd).Nodup then obn (ev ss) (goK vals e) else .err) := Eq.trans rfl rfl
@[simp] theorem goV_app (ev : Ev) (vals : List Val) (e : En) : goV ev vals e = goS ev vals e (slotsOf e vals) := by
  unfold goV goS
  cases slotsOf e vals with
  | none => rfl
  | some ss =>
    dsimp only
    split
    · cases ev ss with
      | err => rfl
      | ok p =>
        obtain ⟨v, e'⟩ := p
        show _ = goK vals e v e'
        unfold goK
        first
          | rfl
          | (dsimp only; split <;> simp_all)
    · rfl
@[simp] theorem slotsOf_nil (e : En) : slotsOf e [] = some [] := Eq.trans rfl rfl
@[simp] theorem slotsOf_cons (e : En) (v : Val) (vs : List Val) : slotsOf e (v :: vs) = (match slotOf e v, slotsOf e vs with
    | some s, some ss => some (s :: ss)
    | _, _ => none) := Eq.trans rfl rfl
@[simp] theorem slotOf_sh (e : En) (d : D) : slotOf e (.sh d) = some (.sh d) := Eq.trans rfl rfl
@[simp] theorem slotOf_ow' (e : En) (i : Nat) : slotOf e (.ow i) = (match e[i]? with
    | some (.ow _ d) => some (.ow true d)
    | _ => none) := Eq.trans rfl rfl
@[simp] theorem pairs_nil (k : Nat) : pairs k [] = [] := Eq.trans rfl rfl
@[simp] theorem pairs_sh (k : Nat) (d : D) (r : List Val) : pairs k (.sh d :: r) = pairs (k + 1) r := Eq.trans rfl rfl
@[simp] theorem pairs_ow (k i : Nat) (r : List Val) : pairs k (.ow i :: r) = (k, i) :: pairs (k + 1) r := Eq.trans rfl rfl
@[simp] theorem backE_nil (e' e : En) : backE [] e' e = some e := Eq.trans rfl rfl
@[simp] theorem backE_cons (k i : Nat) (r : List (Nat × Nat)) (e' e : En) : backE ((k, i) :: r) e' e = (match e[i]?, e'[k]? with
    | some (.ow io _), some (.ow true d) => backE r e' (e.set i (.ow io d))
    | _, _ => none) := Eq.trans rfl rfl
@[simp] theorem retV_sh (e : En) (d : D) : retV e (.sh d) = some (.sh d) := Eq.trans rfl rfl
@[simp] theorem retV_fr (e : En) (d : D) : retV e (.fr d) = some (.fr d) := Eq.trans rfl rfl
@[simp] theorem retV_ow (e : En) (k : Nat) : retV e (.ow k) = (match e[k]? with
    | some (.ow false d) => some (.fr d)
    | _ => none) := Eq.trans rfl rfl
def endK : Fl → En → Out (Val × En)
  | .rt v, e => .ok (v, e)
  | .nx, e => .ok (.sh .non, e)
  | _, _ => .err
@[simp] theorem endK_rt (v : Val) (e : En) : endK (.rt v) e = .ok (v, e) := Eq.trans rfl rfl
@[simp] theorem endK_nx (e : En) : endK .nx e = .ok (.sh .non, e) := Eq.trans rfl rfl
@[simp] theorem evF_app (n np : Nat) (b : M Fl) (ss : List Slot) : evF n np b ss = (if ss.length = np then obn (b (ss ++ List.replicate (n - ss.length) .em)) endK else .err) := by
  unfold evF
  split
  · cases b (ss ++ List.replicate (n - ss.length) .em) with
    | err => rfl
    | ok p => obtain ⟨fl, e⟩ := p; cases fl <;> rfl
  · rfl
@[simp] theorem isiC_app (t : String) (f : M Val) (e : En) : isiC t f e = bnd f (fun v => bnd (der (opd v)) fun d => bnd (opt (isiD t d)) fun b => ret (.sh (.bl b))) e := Eq.trans rfl rfl
@[simp] theorem iterC_app (f : M Val) (e : En) : iterC f e = bnd f (fun v => bnd (shr v) fun d => opt (itemsD d)) e := Eq.trans rfl rfl
@[simp] theorem walkC_app (g : List D → Option (List D)) (fs : List (M Val)) (e : En) : walkC g fs e = bnd (argsC fs) (fun vs => bnd (shrAll vs) fun ds => opt (g ds)) e := Eq.trans rfl rfl
@[simp] theorem rngC_app (g : List D → Option (List D)) (fs : List (M Val)) (e : En) : rngC g fs e = bnd (argsC fs) (fun vs => bnd (derAll vs) fun ds => opt (g ds)) e := Eq.trans rfl rfl
@[simp] theorem sliC_app (fa : M Val) (lo hi : M (Option Int)) (e : En) : sliC fa lo hi e = bnd fa (fun v => bnd lo fun l => bnd hi fun u => bnd (der (opd v)) fun d => opt (slD d l u)) e := Eq.trans rfl rfl
@[simp] theorem noC_app (e : En) : noC e = .ok (none, e) := Eq.trans rfl rfl
@[simp] theorem partC_app (f : M Val) (e : En) : partC f e = bnd f (fun v => bnd (der v) fun d => match d with
  | .int i => ret (some i)
  | _ => fail) e := Eq.trans rfl rfl
@[simp] theorem tupC_app (fs : List (M Val)) (e : En) : tupC fs e = bnd (argsC fs) (fun vs => bnd (shrAll vs) fun ds => if ds.length ≤ lenLim then ret (.sh (.tup ds)) else fail) e := Eq.trans rfl rfl
@[simp] theorem lstC_app (fs : List (M Val)) (e : En) : lstC fs e = bnd (argsC fs) (fun vs => bnd (shrAll vs) fun ds => if ds.length ≤ lenLim then ret (.fr (.lst ds)) else fail) e := Eq.trans rfl rfl
@[simp] theorem ixC_app (fa fb : M Val) (e : En) : ixC fa fb e = binC (fun a b => (ixD a b).map Val.sh) fa fb e := Eq.trans rfl rfl
@[simp] theorem asgT_app (fs : List (Val → M Unit)) (v : Val) (e : En) : asgT fs v e = bnd (shr v) (fun d => match d with
  | .tup ds => asgL fs ds
  | _ => fail) e := Eq.trans rfl rfl
@[simp] theorem asgL_nil (e : En) : asgL [] [] e = .ok ((), e) := Eq.trans rfl rfl
@[simp] theorem asgL_cons (f : Val → M Unit) (fs : List (Val → M Unit)) (d : D) (ds : List D) (e : En) : asgL (f :: fs) (d :: ds) e = bnd (f (.sh d)) (fun _ => asgL fs ds) e := Eq.trans rfl rfl
@[simp] theorem updL_app (j : Nat) (f : List D → Option (List D)) (e : En) : updL j f e = (match e[j]? with
  | some (.ow b (.lst l)) => match f l with
    | some l' => .ok ((), e.set j (.ow b (.lst l')))
    | none => .err
  | _ => .err) := Eq.trans rfl rfl
@[simp] theorem owJ_ow (j : Nat) (e : En) : owJ (.ow j) e = .ok (j, e) := Eq.trans rfl rfl
@[simp] theorem owL_ow (j : Nat) (e : En) : owL (.ow j) e = (match e[j]? with
    | some (.ow _ (.lst _)) => .ok (j, e)
    | _ => .err) := Eq.trans rfl rfl
@[simp] theorem asInt_int (i : Int) (e : En) : asInt (.int i) e = .ok (i, e) := Eq.trans rfl rfl
@[simp] theorem asgI_app (fo fi : M Val) (v : Val) (e : En) : asgI fo fi v e = bnd (shr v) (fun d => bnd fo fun vo => bnd (owJ vo) fun j => bnd fi fun vi => bnd (der vi) fun di => bnd (asInt di) fun k => updL j fun l => (ixN l.length k).map fun n => l.set n d) e := Eq.trans rfl rfl
@[simp] theorem negC_app (f : M Val) (e : En) : negC f e = bnd f (fun v => bnd (der v) fun d => bnd (asInt d) fun i => ret (.sh (.int (-i)))) e := Eq.trans rfl rfl
@[simp] theorem appC_app (fo fa : M Val) (e : En) : appC fo fa e = bnd fo (fun vo => bnd (owL vo) fun j => bnd fa fun va => bnd (shr va) fun d => bnd (updL j fun l => if l.length < lenLim then some (l ++ [d]) else none) fun _ => ret (.sh .non)) e := Eq.trans rfl rfl
@[simp] theorem sol_sh (d : D) (e : En) : sol (.sh d) e = .ok (.sh d, e) := Eq.trans rfl rfl
@[simp] theorem sol_fr (d : D) (e : En) : sol (.fr d) e = .ok (.fr d, e) := Eq.trans rfl rfl
@[simp] theorem sol_ow (i : Nat) (e : En) : sol (.ow i) e = bnd (shr (.ow i)) (fun d => ret (.sh d)) e := Eq.trans rfl rfl
@[simp] theorem par2_app (i j : Nat) (fa fb : M Val) (e : En) : par2 i j fa fb e = bnd fa (fun va => bnd (sol va) fun wa => bnd fb fun vb => bnd (sol vb) fun wb => bnd (asgN i wa) fun _ => bnd (asgN j wb) fun _ => ret .nx) e := Eq.trans rfl rfl
@[simp] theorem forS_app (it : M (List D)) (g : Val → M Unit) (b : M Fl) (e : En) : forS it g b e = bnd it (fun ds => forL g b ds) e := Eq.trans rfl rfl
@[simp] theorem zp_two (a b : D) {l m : List D} (h : seqD a = some l) (h2 : seqD b = some m) : zpB [a, b] = some (z2L l m) := by unfold zpB; simp [h, h2]
@[simp] theorem zp_tt (l m : List D) : zpB [.tup l, .tup m] = some (z2L l m) := Eq.trans rfl rfl
@[simp] theorem en_t (l : List D) : enB [.tup l] = some (enL l) := Eq.trans rfl rfl
@[simp] theorem en_l (l : List D) : enB [.lst l] = some (enL l) := Eq.trans rfl rfl
theorem mod_int {i j : Int} (h : 0 < j) : modD (.int i) (.int j) = some (.sh (.int (i % j))) := by unfold modD; simp [h]
theorem fdiv_int {i j : Int} (h : 0 < j) (h2 : j.natAbs.log2 < 9000) : fdivD (.int i) (.int j) = some (.sh (.int (i / j))) := by unfold fdivD; simp [h, h2]
theorem log2_lt {n k : Nat} (h : n < 2 ^ k) (hk : 0 < k) : n.log2 < k := by
  by_cases z : n = 0
  · subst z; simpa using hk
  · exact (Nat.log2_lt z).mpr h
theorem mul_int {i j : Int} (h : i.natAbs < 2 ^ 400) (h2 : j.natAbs < 2 ^ 400) : mulD (.int i) (.int j) = some (.sh (.int (i * j))) := by
  have a := log2_lt h (by decide)
  have b := log2_lt h2 (by decide)
  show (if i.natAbs.log2 + j.natAbs.log2 < 1000000 then _ else _) = _
  rw [if_pos (by omega)]
theorem pow_int' {i j : Int} (h : 0 ≤ j) (h2 : (Builtin.Int.intBits i : Int) * j ≤ 2 ^ 27) : powD (.int i) (.int j) = some (.sh (.int (i ^ j.toNat))) := by
  show (if 0 ≤ j ∧ (Builtin.Int.intBits i : Int) * j ≤ 2 ^ 27 then _ else _) = _
  rw [if_pos ⟨h, h2⟩]
end
def forK (g : Val → M Unit) (b : M Fl) (r : List D) : Fl → M Fl
  | .nx => forL g b r
  | .ct => forL g b r
  | .bk => ret .nx
  | .rt v => ret (.rt v)
theorem forL_cons (g : Val → M Unit) (b : M Fl) (d : D) (r : List D) (e : En) : forL g b (d :: r) e = obn (g (.sh d) e) fun _ e1 => obn (b e1) (forK g b r) := by
  show bnd (g (.sh d)) _ e = _
  unfold bnd obn
  cases g (.sh d) e with
  | err => rfl
  | ok p =>
    obtain ⟨u, e1⟩ := p
    show bnd b _ e1 = obn (b e1) _
    unfold bnd obn
    cases b e1 with
    | err => rfl
    | ok p => obtain ⟨fl, e'⟩ := p; cases fl <;> rfl
/-! ### loops -/
theorem forL_rule {g : Val → M Unit} {b : M Fl} {ds : List D} (J : List D → En → Prop)
    (step : ∀ done d rest e, done ++ d :: rest = ds → J done e → ∃ e1 fl e2, g (.sh d) e = .ok ((), e1) ∧ b e1 = .ok (fl, e2) ∧ (fl = .nx ∨ fl = .ct) ∧ J (done ++ [d]) e2) {e : En} (h : J [] e) : ∃ e', forL g b ds e = .ok (.nx, e') ∧ J ds e' := by
  have go : ∀ (rest done : List D) (e : En), done ++ rest = ds → J done e → ∃ e', forL g b rest e = .ok (.nx, e') ∧ J ds e' := by
    intro rest
    induction rest with
    | nil =>
      intro done e hd hj
      rw [List.append_nil] at hd
      subst hd
      exact ⟨e, rfl, hj⟩
    | cons d r ih =>
      intro done e hd hj
      obtain ⟨e1, fl, e2, h1, h2, h3, h4⟩ := step done d r e hd hj
      obtain ⟨e', h5, h6⟩ := ih (done ++ [d]) e2 (by simpa using hd) h4
      refine ⟨e', ?_, h6⟩
      simp only [forL_cons, obn_ok, h1, h2]
      rcases h3 with rfl | rfl <;> exact h5
  exact go ds [] e rfl h
/-- one turn of a list comprehension: what is left out or taken, and the slots behind it -/
def Turn1 (own : List Nat) (g : Val → M Unit) (t : M Bool) (f : M Val) (d : D) (e : En) (o : Option D) (e' : En) : Prop :=
  ∃ w e2 b e3, wipE own e = .ok ((), w) ∧ g (.sh d) w = .ok ((), e2) ∧ t e2 = .ok (b, e3) ∧ match o with
    | none => b = false ∧ e' = e3
    | some x => b = true ∧ ∃ v e4, f e3 = .ok (v, e4) ∧ shr v e4 = .ok (x, e')
theorem lcL_rule {own : List Nat} {g : Val → M Unit} {t : M Bool} {f : M Val} {ds : List D} (J : List D → List D → En → Prop)
    (step : ∀ done d rest acc e, done ++ d :: rest = ds → J done acc e → ∃ o e', Turn1 own g t f d e o e' ∧ J (done ++ [d]) (acc ++ o.toList) e') {e : En} (h : J [] [] e) (hw : ∀ acc e, J ds acc e → ∃ w, wipE own e = .ok ((), w)) :
    ∃ xs e1 w, J ds xs e1 ∧ wipE own e1 = .ok ((), w) ∧ lcL own g t f ds e = .ok (xs, w) := by
  have go : ∀ (rest done acc : List D) (e : En), done ++ rest = ds → J done acc e → ∃ ys e1 w, J ds (acc ++ ys) e1 ∧ wipE own e1 = .ok ((), w) ∧ lcL own g t f rest e = .ok (ys, w) := by
    intro rest
    induction rest with
    | nil =>
      intro done acc e hd hj
      rw [List.append_nil] at hd
      subst hd
      obtain ⟨w, hw⟩ := hw _ _ hj
      refine ⟨[], e, w, by rw [List.append_nil]; exact hj, hw, ?_⟩
      simp only [lcL, bnd_app, obn_ok, hw, ret_app]
    | cons d r ih =>
      intro done acc e hd hj
      obtain ⟨o, e', ⟨w, e2, b, e3, h1, h2, h3, h4⟩, h5⟩ := step done d r acc e hd hj
      obtain ⟨ys, e1, w1, q1, q2, q3⟩ := ih (done ++ [d]) (acc ++ o.toList) e' (by simpa using hd) h5
      cases o with
      | none =>
        obtain ⟨rfl, rfl⟩ := h4
        refine ⟨ys, e1, w1, by simpa using q1, q2, ?_⟩
        simp only [lcL, bnd_app, obn_ok, h1, h2, h3]
        exact q3
      | some x =>
        obtain ⟨rfl, v, e4, h6, h7⟩ := h4
        refine ⟨x :: ys, e1, w1, by simpa using q1, q2, ?_⟩
        simp only [lcL, bnd_app, obn_ok, h1, h2, h3, if_true, h6, h7, q3, ret_app]
  obtain ⟨ys, e1, w, a, b, c⟩ := go ds [] [] e rfl h
  exact ⟨ys, e1, w, a, b, c⟩
theorem lcC_rule {own : List Nat} {it : M (List D)} {g : Val → M Unit} {t : M Bool} {f : M Val} {ds : List D} {e e0 : En} (hit : it e = .ok (ds, e0)) (J : List D → List D → En → Prop)
    (step : ∀ done d rest acc e, done ++ d :: rest = ds → J done acc e → ∃ o e', Turn1 own g t f d e o e' ∧ J (done ++ [d]) (acc ++ o.toList) e') (h : J [] [] e0) (hw : ∀ acc e, J ds acc e → (∃ w, wipE own e = .ok ((), w)) ∧ acc.length ≤ lenLim) :
    ∃ xs e1 w, J ds xs e1 ∧ wipE own e1 = .ok ((), w) ∧ lcC own it g t f e = .ok (.fr (.lst xs), putE own e0 w) := by
  obtain ⟨xs, e1, w, a, b, c⟩ := lcL_rule J step h fun acc e hj => (hw acc e hj).1
  refine ⟨xs, e1, w, a, b, ?_⟩
  unfold lcC
  simp only [bnd_app, obn_ok, hit, c]
  rw [if_pos (hw _ _ a).2]
theorem lc_pure {own : List Nat} {it : M (List D)} {g : Val → M Unit} {t : M Bool} {f : M Val} {ds : List D} {e e0 w : En} (F : D → Option D) (hit : it e = .ok (ds, e0)) (hw : wipE own e0 = .ok ((), w)) (hl : ds.length ≤ lenLim)
    (step : ∀ d, d ∈ ds → ∃ e', Turn1 own g t f d w (F d) e' ∧ wipE own e' = .ok ((), w)) (hww : wipE own w = .ok ((), w)) : lcC own it g t f e = .ok (.fr (.lst (ds.filterMap F)), putE own e0 w) := by
  obtain ⟨xs, e1, w1, ⟨rfl, b⟩, c, d⟩ := lcC_rule (own := own) (g := g) (t := t) (f := f) hit (fun done acc e => acc = done.filterMap F ∧ wipE own e = .ok ((), w)) (fun done d rest acc e hd ⟨ha, he⟩ => by
    obtain ⟨e', ⟨w', e2, b, e3, h1, h2, h3, h4⟩, h5⟩ := step d (by rw [← hd]; simp)
    rw [hww] at h1
    cases h1
    refine ⟨F d, e', ⟨w, e2, b, e3, he, h2, h3, h4⟩, ?_, h5⟩
    rw [ha, List.filterMap_append]
    cases q : F d <;> simp [q]) ⟨rfl, hw⟩ fun acc e ⟨ha, he⟩ => ⟨⟨w, he⟩, by rw [ha]; exact Nat.le_trans (List.length_filterMap_le _ _) hl⟩
  rw [b] at c
  cases c
  exact d
end Pv
namespace Pv
open PySem L2

/-! ### data that can be compared and shown: dep deep, w signs -/
structure NC (dep w : Nat) (d : D) : Prop where
  pl : d.pl = true
  lay : d.py.canLay0 = true
  sh : d.py.showable = true
  len : d.py.shown.length ≤ w
  dep : d.py.depth ≤ dep
theorem NC.mono {a b w v : Nat} {d : D} (h : NC a w d) (h1 : a ≤ b) (h2 : w ≤ v) : NC b v d := ⟨h.pl, h.lay, h.sh, Nat.le_trans h.len h2, Nat.le_trans h.dep h1⟩
theorem NC.repr {a w : Nat} {d : D} (h : NC a w d) (h1 : a ≤ 64) (h2 : w ≤ lenLim) : reprD d = some d.py.shown := by
  unfold reprD
  have h3 := Nat.le_trans h.len h2
  have h4 := Nat.le_trans h.dep h1
  rw [if_pos (by simp [h.pl, h.lay, h.sh, h3, h4])]
theorem NC.reprB {a w : Nat} {d : D} (h : NC a w d) (h1 : a ≤ 64) (h2 : w ≤ lenLim) : reprB [d] = some (.sh (.str d.py.shown)) := by
  show (reprD d).map _ = _
  rw [h.repr h1 h2]
  rfl
theorem NC.ok {a w : Nat} {d : D} (h : NC a w d) (h1 : a ≤ 64) : eqOk d = true := by
  unfold eqOk
  have h4 := Nat.le_trans h.dep h1
  have : SeqAt.shaped d.py = true := by
    show (d.py.canLay0 && decide (d.py.depth ≤ 64)) = true
    simp [h.lay, h4]
  simp [h.pl, this]
theorem NC.eq {a w b v : Nat} {x y : D} (h : NC a w x) (h' : NC b v y) (h1 : a ≤ 64) (h2 : b ≤ 64) : eqD x y = some (.sh (.bl (PyData.eqv x.py y.py))) := by
  unfold eqD
  split
  · rename_i a b
    show _ = some (Val.sh (.bl (a == b)))
    by_cases z : a = b <;> simp [z]
  · rw [h.ok h1, h'.ok h2]
    rfl
theorem NC.ne {a w b v : Nat} {x y : D} (h : NC a w x) (h' : NC b v y) (h1 : a ≤ 64) (h2 : b ≤ 64) : neD x y = some (.sh (.bl (!PyData.eqv x.py y.py))) := by
  unfold neD
  split
  · rename_i a b
    show _ = some (Val.sh (.bl (!(a == b))))
    by_cases z : a = b <;> simp [z]
  · rw [h.ok h1, h'.ok h2]
    rfl
theorem NC.refl {a w : Nat} {d : D} (h : NC a w d) : PyData.eqv d.py d.py = true := SeqAt.eqv_refl d.py h.lay
theorem nc_int {i : Int} {k : Nat} (h : i.natAbs < 10 ^ k) (hk : 0 < k) (hk2 : k ≤ 500) : NC 0 (k + 1) (.int i) := by
  refine ⟨rfl, rfl, ?_, ?_, Nat.le_refl 0⟩
  · show decide (i.natAbs.log2 < 1920) = true
    refine decide_eq_true (log2_lt (Nat.lt_of_lt_of_le h ?_) (by decide))
    calc 10 ^ k ≤ 10 ^ 500 := Nat.pow_le_pow_right (by decide) hk2
      _ ≤ 2 ^ 1920 := by decide +kernel
  · show (Str.ofString (toString i)).length ≤ k + 1
    have := int_text_length_le10 hk h
    rw [ofString_length]; exact this
theorem nc_str {s : Str} {k : Nat} (h : s.length ≤ k) (hc : ∀ c ∈ s.cps.toList, c < 0x110000) : NC 0 (10 * k + 2) (.str s) := by
  refine ⟨rfl, ?_, rfl, ?_, Nat.le_refl 0⟩
  · show s.cps.all (· < 0x110000) = true
    rw [← Array.all_toList]
    exact List.all_eq_true.mpr fun c h => decide_eq_true (hc c h)
  · have := StrLaws.reprText_len s fun c h => Nat.lt_of_lt_of_le (hc c h) (by decide)
    show (reprText s).length ≤ _
    omega
theorem nc_bl (b : Bool) : NC 0 5 (.bl b) := ⟨rfl, rfl, rfl, by cases b <;> decide +kernel, Nat.le_refl 0⟩
theorem nc_non : NC 0 4 .non := ⟨rfl, rfl, rfl, by decide +kernel, Nat.le_refl 0⟩
theorem shAll_eq : ∀ l : List D, PyData.shownAll (pyL l) = l.map fun d => d.py.shown
  | [] => rfl
  | d :: l => by rw [pyL, PyData.shownAll, shAll_eq l]; rfl
theorem nc_all {a w : Nat} : ∀ {l : List D}, (∀ d ∈ l, NC a w d) → plL l = true ∧ PyData.canLayAll0 (pyL l) = true ∧ PyData.showableAll (pyL l) = true ∧ PyData.depthAll (pyL l) ≤ a ∧ piled (PyData.shownAll (pyL l)) ≤ l.length * (w + 2)
  | [], _ => ⟨rfl, rfl, rfl, Nat.zero_le _, Nat.zero_le _⟩
  | d :: l, h => by
    obtain ⟨h1, h2, h3, h4, h5⟩ := nc_all fun x hx => h x (List.mem_cons_of_mem _ hx)
    have q := h d List.mem_cons_self
    refine ⟨by simp [plL, q.pl, h1], by simp [pyL, PyData.canLayAll0, q.lay, h2], by simp [pyL, PyData.showableAll, q.sh, h3], ?_, ?_⟩
    · rw [pyL, PyData.depthAll]
      exact Nat.max_le.mpr ⟨q.dep, h4⟩
    · rw [pyL, PyData.shownAll, piled_cons, List.length_cons]
      have := q.len
      rw [Nat.add_mul]
      omega
theorem nc_tup {a w : Nat} {l : List D} (h : ∀ d ∈ l, NC a w d) : NC (a + 1) (l.length * (w + 2) + 4) (.tup l) := by
  obtain ⟨h1, h2, h3, h4, h5⟩ := nc_all h
  refine ⟨h1, h2, h3, ?_, Nat.succ_le_succ h4⟩
  show (tupleText (PyData.shownAll (pyL l))).length ≤ _
  unfold tupleText
  rw [strLen_append, strLen_append]
  by_cases z : PyData.shownAll (pyL l) = []
  · rw [z]
    show 1 + 0 + 1 ≤ _
    omega
  · have j := join_length_add _ z
    have e1 : (("(" : String) : Str).length = 1 := rfl
    have e2 : ((if (PyData.shownAll (pyL l)).length == 1 then ",)" else ")" : String) : Str).length ≤ 2 := by split <;> decide +kernel
    omega
theorem nc_lst {a w : Nat} {l : List D} (h : ∀ d ∈ l, NC a w d) : NC (a + 1) (l.length * (w + 2) + 4) (.lst l) := by
  obtain ⟨h1, h2, h3, h4, h5⟩ := nc_all h
  refine ⟨h1, h2, h3, ?_, Nat.succ_le_succ h4⟩
  show (textFrom 0 "[" (PyData.shownAll (pyL l)) ++ (("]" : String) : Str)).length ≤ _
  rw [strLen_append]
  have e1 : (("]" : String) : Str).length = 1 := rfl
  have e0 : (("[" : String) : Str).length = 1 := rfl
  cases q : PyData.shownAll (pyL l) with
  | nil =>
    show (("[" : String) : Str).length + _ ≤ _
    omega
  | cons t r =>
    show (textFrom 1 ((("[" : String) : Str) ++ (("" : String) : Str) ++ t) r).length + _ ≤ _
    rw [textFrom_length_pos _ _ _ (by decide), strLen_append, strLen_append]
    have e3 : (("" : String) : Str).length = 0 := rfl
    rw [q, piled_cons] at h5
    omega
end Pv
namespace Pv
open PySem L2
def B_is_integer : M Fl := seqS [rtS (bopC false [isiC "int" (nameC 0), notC (truC (isiC "bool" (nameC 0)))])]
def B_is_name : M Fl := seqS [ifS (bopT true [notT (truC (isiC "str" (nameC 0))), notT (cmpT (chnC (leD) (leD) (conC (.int 1)) (callC lenB [nameC 0]) (conC (.int 8))))]) (seqS [rtS (conC (.bl false))]) (seqS []), rtS (callC allB [lcC [1] (iterC (nameC 0)) (asgN 1) (ret true) (binC (inD false) (nameC 1) (conC (.str "abcdefghijklmnopqrstuvwxyz")))])]
def B_are_columns (g_is_name : Ev) : M Fl := seqS [ifS (bopT true [notT (truC (isiC "tuple" (nameC 0))), cmpT (binC (gtD) (callC lenB [nameC 0]) (conC (.int 8))), notT (truC (callC allB [lcC [1] (iterC (nameC 0)) (asgN 1) (ret true) (callV [false] g_is_name [nameC 1])]))]) (seqS [rtS (conC (.bl false))]) (seqS []), rtS (callC allB [lcC [2, 3] (walkC zpB [nameC 0, sliC (nameC 0) (partC (conC (.int 1))) (noC)]) (asgT [asgN 2, asgN 3]) (ret true) (binC (ltD) (nameC 2) (nameC 3))])]
def B_require_columns (g_are_columns : Ev) : M Fl := seqS [ifS (notT (truC (callV [false] g_are_columns [nameC 0]))) (seqS [fail]) (seqS [])]
def B_require_some (g_are_columns : Ev) : M Fl := seqS [ifS (bopT true [notT (truC (callV [false] g_are_columns [nameC 1])), notT (truC (callC allB [lcC [2] (iterC (nameC 1)) (asgN 2) (ret true) (binC (inD false) (nameC 2) (nameC 0))]))]) (seqS [fail]) (seqS [])]
def B_is_row_in (g_is_integer : Ev) : M Fl := seqS [rtS (bopC false [isiC "tuple" (nameC 1), binC (eqD) (callC lenB [nameC 1]) (nameC 0), callC allB [lcC [2] (iterC (nameC 1)) (asgN 2) (ret true) (callV [true] g_is_integer [nameC 2])]])]
def B_require_row (g_is_row_in : Ev) : M Fl := seqS [ifS (notT (truC (callV [true, false] g_is_row_in [callC lenB [nameC 0], nameC 1]))) (seqS [fail]) (seqS [])]
def B_places_in : M Fl := seqS [rtS (callC tupleB [lcC [2, 3] (walkC enB [nameC 0]) (asgT [asgN 2, asgN 3]) (cmpT (binC (inD false) (nameC 3) (nameC 1))) (nameC 2)])]
def B_values_in : M Fl := seqS [rtS (callC tupleB [lcC [2] (iterC (nameC 1)) (asgN 2) (ret true) (ixC (nameC 0) (nameC 2))])]
def B_values_at (g_require_columns g_require_row g_require_some g_values_in g_places_in : Ev) : M Fl := seqS [drS (callV [false] g_require_columns [nameC 0]), drS (callV [true, false] g_require_row [nameC 0, nameC 1]), drS (callV [true, false] g_require_some [nameC 0, nameC 2]), rtS (callV [true, false] g_values_in [nameC 1, callV [false, true] g_places_in [nameC 0, nameC 2]])]
def B_agreement_in : M Fl := seqS [rtS (callC tupleB [lcC [3, 4, 5] (walkC zpB [nameC 0, nameC 1, nameC 2]) (asgT [asgN 3, asgN 4, asgN 5]) (cmpT (binC (eqD) (nameC 4) (nameC 5))) (nameC 3)])]
def B_agreement (g_require_columns g_require_row g_agreement_in : Ev) : M Fl := seqS [drS (callV [false] g_require_columns [nameC 0]), drS (callV [true, false] g_require_row [nameC 0, nameC 1]), drS (callV [true, false] g_require_row [nameC 0, nameC 2]), rtS (callV [false, false, false] g_agreement_in [nameC 0, nameC 1, nameC 2])]
def B__law_dice : M Fl := seqS [asS (binC addD (binC mulD (conC (.int 13)) (nameC 1)) (conC (.int 6))) (asgN 2), ifS (cmpT (binC (ltD) (nameC 1) (callC lenB [nameC 0]))) (seqS [asS (ixC (nameC 0) (nameC 1)) (asgN 2)]) (seqS []), asS (binC modD (callC intB [callC absB [nameC 2]]) (binC powD (binC powD (conC (.int 10)) (conC (.int 60))) (conC (.int 12)))) (asgN 3), asS (binC addD (binC addD (binC addD (binC mulD (binC modD (callC intB [nameC 3]) (conC (.int 2147483497))) (conC (.int 40014))) (binC mulD (conC (.int 1009)) (nameC 1))) (binC mulD (conC (.int 5)) (callC intB [binC (ltD) (nameC 2) (conC (.int 0))]))) (conC (.int 29))) (asgN 4), rtS (lstC [callC maxB [conC (.int 0), binC subD (nameC 3) (binC powD (conC (.int 10)) (conC (.int 18)))], binC modD (callC intB [nameC 4]) (conC (.int 2147483489)), conC (.int 0)])]
def B__law_pull : M Fl := seqS [ifS (cmpT (binC (gtD) (ixC (nameC 0) (conC (.int 0))) (conC (.int 0)))) (seqS [asS (binC modD (callC intB [ixC (nameC 0) (conC (.int 0))]) (nameC 1)) (asgN 2), asS (binC fdivD (ixC (nameC 0) (conC (.int 0))) (nameC 1)) (asgI (nameC 0) (conC (.int 0))), rtS (nameC 2)]) (seqS []), asS (binC addD (ixC (nameC 0) (conC (.int 2))) (conC (.int 1))) (asgI (nameC 0) (conC (.int 2))), asS (binC modD (callC intB [binC addD (ixC (nameC 0) (conC (.int 1))) (binC mulD (conC (.int 1000133)) (ixC (nameC 0) (conC (.int 2))))]) (conC (.int 2305843009213693951))) (asgN 3), asS (binC mulD (binC modD (callC intB [binC mulD (nameC 3) (nameC 3)]) (conC (.int 2305843009213693921))) (nameC 3)) (asgN 4), rtS (binC modD (callC intB [binC fdivD (binC modD (callC intB [binC addD (nameC 4) (binC mulD (conC (.int 7577)) (ixC (nameC 0) (conC (.int 2))))]) (conC (.int 2305843009213693907))) (conC (.int 8192))]) (nameC 1))]
def B__law_pick (g__law_pull : Ev) : M Fl := seqS [rtS (ixC (nameC 1) (callV [true, true] g__law_pull [nameC 0, callC lenB [nameC 1]]))]
def B__law_columns (g__law_pull : Ev) : M Fl := seqS [par2 2 3 (conC (.str "abcdefghijklmnopqrstuvwxyz")) (lstC []), forS (rngC rng1B [nameC 1]) (asgN 4) (seqS [asS (ixC (nameC 2) (binC addD (binC mulD (conC (.int 2)) (nameC 4)) (callV [true, true] g__law_pull [nameC 0, conC (.int 2)]))) (asgN 5), forS (rngC rng1B [ixC (lstC [conC (.int 0), conC (.int 0), conC (.int 1), conC (.int 2)]) (callV [true, true] g__law_pull [nameC 0, conC (.int 4)])]) (asgN 6) (seqS [asS (binC addD (nameC 5) (ixC (nameC 2) (callV [true, true] g__law_pull [nameC 0, conC (.int 26)]))) (asgN 5)]), drS (appC (nameC 3) (nameC 5))]), rtS (callC tupleB [nameC 3])]
def B__law_some (g__law_pull : Ev) : M Fl := seqS [rtS (callC tupleB [lcC [3] (iterC (nameC 1)) (asgN 3) (cmpT (binC (eqD) (callV [true, true] g__law_pull [nameC 0, nameC 2]) (conC (.int 0)))) (nameC 3)])]
def B__law_rows (g__law_pick g__law_pull : Ev) : M Fl := seqS [asS (lstC [lstC [conC (.int 0), conC (.int 1), conC (.int 2)], lstC [conC (.int 2), conC (.int 10), conC (.int 0)], lstC [negC (conC (.int 2)), negC (conC (.int 1)), conC (.int 1)], lstC [conC (.int 9), binC powD (conC (.int 10)) (conC (.int 39)), conC (.int 0)], lstC [binC subD (conC (.int 1)) (binC powD (conC (.int 10)) (conC (.int 39))), negC (conC (.int 7)), conC (.int 0)]]) (asgN 3), par2 4 5 (callV [true, true] g__law_pick [nameC 0, nameC 3]) (lstC []), forS (rngC rng1B [nameC 2]) (asgN 6) (seqS [asS (lcC [8] (iterC (nameC 1)) (asgN 8) (ret true) (callV [true, true] g__law_pick [nameC 0, nameC 4])) (asgN 7), ifS (bopT false [cmpT (binC (neD) (nameC 5) (lstC [])), cmpT (binC (gtD) (callV [true, true] g__law_pull [nameC 0, conC (.int 3)]) (conC (.int 0)))]) (seqS [asS (callC listB [callV [true, true] g__law_pick [nameC 0, nameC 5]]) (asgN 7), forS (rngC rng1B [callV [true, true] g__law_pull [nameC 0, conC (.int 3)]]) (asgN 9) (seqS [asS (callV [true, true] g__law_pick [nameC 0, nameC 4]) (asgI (nameC 7) (callV [true, true] g__law_pull [nameC 0, callC lenB [nameC 1]]))])]) (seqS []), drS (appC (nameC 5) (callC tupleB [nameC 7]))]), rtS (nameC 5)]
def B__law_values : M Fl := seqS [asS (lstC []) (asgN 3), forS (iterC (nameC 2)) (asgN 4) (seqS [forS (walkC zpB [nameC 0, nameC 1]) (asgT [asgN 5, asgN 6]) (seqS [ifS (cmpT (binC (eqD) (nameC 5) (nameC 4))) (seqS [drS (appC (nameC 3) (nameC 6))]) (seqS [])])]), rtS (callC tupleB [nameC 3])]
def B__law_pair_right (g_agreement : Ev) : M Fl := seqS [asS (lstC []) (asgN 3), forS (rngC rng1B [callC lenB [nameC 0]]) (asgN 4) (seqS [ifS (cmpT (binC (eqD) (ixC (nameC 1) (nameC 4)) (ixC (nameC 2) (nameC 4)))) (seqS [drS (appC (nameC 3) (ixC (nameC 0) (nameC 4)))]) (seqS [])]), asS (lstC [callV [false, false, false] g_agreement [nameC 0, nameC 1, nameC 2], callV [false, false, false] g_agreement [nameC 0, nameC 2, nameC 1]]) (asgN 5), rtS (bopC false [binC (eqD) (callC reprB [nameC 5]) (callC reprB [lstC [callC tupleB [nameC 3], callC tupleB [nameC 3]]]), binC (eqD) (callV [false, false, false] g_agreement [nameC 0, nameC 1, nameC 1]) (nameC 0)])]
def B__law_right (g__law_columns g__law_pull g__law_rows g__law_some g_values_at g__law_values g__law_pair_right g_agreement : Ev) : M Fl := seqS [asS (callV [true, false] g__law_columns [nameC 0, callV [true, true] g__law_pull [nameC 0, conC (.int 9)]]) (asgN 1), asS (ifC (cmpT (binC (neD) (nameC 1) (tupC []))) (callV [true, false, false] g__law_rows [nameC 0, nameC 1, conC (.int 4)]) (lstC [tupC [], tupC []])) (asgN 2), asS (callC reprB [lstC [nameC 1, nameC 2]]) (asgN 3), forS (iterC (nameC 2)) (asgN 4) (seqS [asS (callV [true, false, true] g__law_some [nameC 0, nameC 1, conC (.int 2)]) (asgN 5), ifS (cmpT (binC (neD) (callC reprB [callV [false, false, false] g_values_at [nameC 1, nameC 4, nameC 5]]) (callC reprB [callV [false, false, false] g__law_values [nameC 1, nameC 4, nameC 5]]))) (seqS [rtS (conC (.bl false))]) (seqS []), ifS (bopT true [cmpT (binC (neD) (callV [false, false, false] g_values_at [nameC 1, nameC 4, nameC 1]) (nameC 4)), cmpT (binC (neD) (callV [false, false, false] g_values_at [nameC 1, nameC 4, tupC []]) (tupC []))]) (seqS [rtS (conC (.bl false))]) (seqS []), forS (iterC (nameC 2)) (asgN 6) (seqS [ifS (notT (truC (callV [false, false, false] g__law_pair_right [nameC 1, nameC 4, nameC 6]))) (seqS [rtS (conC (.bl false))]) (seqS []), asS (callV [false, false, false] g_agreement [nameC 1, nameC 4, nameC 6]) (asgN 7), ifS (cmpT (binC (neD) (callV [false, false, false] g_values_at [nameC 1, nameC 4, nameC 7]) (callV [false, false, false] g_values_at [nameC 1, nameC 6, nameC 7]))) (seqS [rtS (conC (.bl false))]) (seqS [])])]), rtS (binC (eqD) (callC reprB [lstC [nameC 1, nameC 2]]) (nameC 3))]
def B_law (g__law_dice g__law_right g_values_at g_agreement : Ev) : M Fl := seqS [forS (rngC rng1B [callC maxB [conC (.int 1), callC minB [conC (.int 10), callC lenB [nameC 0]]]]) (asgN 1) (seqS [asS (callV [true, false] g__law_dice [nameC 0, nameC 1]) (asgN 2), forS (rngC rng1B [conC (.int 3)]) (asgN 3) (seqS [ifS (notT (truC (callV [true] g__law_right [nameC 2]))) (seqS [rtS (conC (.bl false))]) (seqS [])])]), asS (tupC [conC (.str "hour"), conC (.str "room"), conC (.str "talk")]) (asgN 4), asS (lstC [callV [false, false, false] g_values_at [nameC 4, tupC [conC (.int 1), conC (.int 2), conC (.int 6)], tupC [conC (.str "hour"), conC (.str "talk")]], callV [false, false, false] g_agreement [nameC 4, tupC [conC (.int 1), conC (.int 1), conC (.int 6)], tupC [conC (.int 1), conC (.int 2), conC (.int 6)]]]) (asgN 5), asS (binC addD (nameC 5) (lstC [callV [false, false, false] g_agreement [nameC 4, tupC [conC (.int 0), negC (conC (.int 1)), binC powD (conC (.int 10)) (conC (.int 39))], tupC [conC (.int 0), conC (.int 1), binC powD (conC (.int 10)) (conC (.int 39))]], callV [false, false, false] g_agreement [tupC [], tupC [], tupC []]])) (asgN 5), rtS (binC (eqD) (nameC 5) (lstC [tupC [conC (.int 1), conC (.int 6)], tupC [conC (.str "hour"), conC (.str "talk")], tupC [conC (.str "hour"), conC (.str "talk")], tupC []]))]
end Pv
namespace Pv
open PySem L2

/-! ### names, columns, rows -/
def Nm (s : Str) : Prop := 1 ≤ s.length ∧ s.length ≤ 8 ∧ ∀ c ∈ s.cps.toList, 97 ≤ c ∧ c ≤ 122
def sL (cs : List Str) : List D := cs.map D.str
def iL (r : List Int) : List D := r.map D.int
def Asc (cs : List Str) : Prop := cs.Pairwise fun a b => a.cps.toList < b.cps.toList
structure Cols (cs : List Str) : Prop where
  len : cs.length ≤ 8
  nm : ∀ s ∈ cs, Nm s
  asc : Asc cs
theorem signs_mem {c : Nat} (h1 : 97 ≤ c) (h2 : c ≤ 122) : c ∈ (("abcdefghijklmnopqrstuvwxyz" : String) : Str).cps.toList := by
  have e : (("abcdefghijklmnopqrstuvwxyz" : String) : Str).cps.toList = List.range' 97 26 := by decide +kernel
  rw [e, List.mem_range']
  exact ⟨c - 97, by omega, by omega⟩
@[simp] theorem kit_ss : kitB "str" "str" = some true := by decide +kernel
@[simp] theorem kit_tt : kitB "tuple" "tuple" = some true := by decide +kernel
@[simp] theorem kit_ii : kitB "int" "int" = some true := by decide +kernel
@[simp] theorem kit_ib : kitB "int" "bool" = some false := by decide +kernel
theorem all_map (p : D → Bool) : ∀ l : List D, bls (l.map fun d => .bl (p d)) = some (l.map p)
  | [] => rfl
  | d :: l => by
    show (bls (l.map fun d => .bl (p d))).map (p d :: ·) = _
    rw [all_map p l]
    rfl
theorem allB_map (p : D → Bool) (l : List D) : allB [.lst (l.map fun d => .bl (p d))] = some (.sh (.bl (l.all p))) := by
  show (bls _).map _ = _
  rw [all_map]
  simp [List.all_map, Function.comp_def]
theorem allB_true {l : List D} (h : ∀ d ∈ l, d = .bl true) : allB [.lst l] = some (.sh (.bl true)) := by
  have e : l = l.map fun d => .bl true := by
    conv => lhs; rw [← List.map_id l]
    exact List.map_congr_left h
  rw [e, allB_map (fun _ => true)]
  simp
theorem fm_some {α β : Type} (f : α → β) (l : List α) : l.filterMap (fun x => some (f x)) = l.map f := by simp
@[simp] theorem in_sign (c : Nat) (z : Str) : inD false (.str ⟨#[c]⟩) (.str z) = some (.sh (.bl (decide (c ∈ z.cps.toList)))) := rfl
/-- all of them hold -/
theorem lc_all {own : List Nat} {it : M (List D)} {g : Val → M Unit} {f : M Val} {ds : List D} {e e0 w : En} (hit : it e = .ok (ds, e0)) (hw : wipE own e0 = .ok ((), w)) (hl : ds.length ≤ lenLim)
    (step : ∀ d, d ∈ ds → ∃ e2 e', g (.sh d) w = .ok ((), e2) ∧ f e2 = .ok (.sh (.bl true), e') ∧ wipE own e' = .ok ((), w)) (hww : wipE own w = .ok ((), w)) : ∃ l, lcC own it g (ret true) f e = .ok (.fr (.lst l), putE own e0 w) ∧ allB [.lst l] = some (.sh (.bl true)) := by
  refine ⟨_, lc_pure (fun _ => some (.bl true)) hit hw hl (fun d hd => ?_) hww, allB_true fun d hd => ?_⟩
  · obtain ⟨e2, e', h1, h2, h3⟩ := step d hd
    exact ⟨e', ⟨w, e2, true, e2, hww, h1, rfl, rfl, _, _, h2, rfl⟩, h3⟩
  · obtain ⟨_, _, h⟩ := List.mem_filterMap.mp hd
    exact (Option.some.inj h).symm
def OkName (ev : Ev) : Prop := ∀ s, Nm s → ∃ e', ev [.sh (.str s)] = .ok (.sh (.bl true), e')
theorem ok_name : OkName (evF 2 1 B_is_name) := by
  intro s hs
  have hl : s.length ≤ lenLim := Nat.le_trans hs.2.1 (by decide)
  have hl2 : s.cps.size ≤ lenLim := hl
  obtain ⟨l, lc, al⟩ := lc_all (own := [1]) (it := iterC (nameC 0)) (g := asgN 1) (f := binC (inD false) (nameC 1) (conC (.str "abcdefghijklmnopqrstuvwxyz"))) (e := [.sh (.str s), .em]) (e0 := [.sh (.str s), .em]) (w := [.sh (.str s), .em]) (ds := s.cps.toList.map fun c => D.str ⟨#[c]⟩)
    (by simp) (by simp) (by simpa using hl2) (fun d hd => by
      obtain ⟨c, hc, rfl⟩ := List.mem_map.mp hd
      have := signs_mem (hs.2.2 c hc).1 (hs.2.2 c hc).2
      exact ⟨[.sh (.str s), .sh (.str ⟨#[c]⟩)], [.sh (.str s), .sh (.str ⟨#[c]⟩)], by simp, by simp [this], by simp⟩) (by simp)
  have l1 : lenB [.str s] = some (.sh (.int s.length)) := by show (if s.length ≤ lenLim then _ else _) = _; rw [if_pos hl]
  have h1 : (1 : Int) ≤ (s.length : Int) := by have := hs.1; omega
  have h8 : (s.length : Int) ≤ 8 := by have := hs.2.1; omega
  refine ⟨[.sh (.str s), .em], ?_⟩
  simp [B_is_name, isiD, tyD, l1, h1, h8, lc, al, putE]
def OkCols (ev : Ev) : Prop := ∀ cs, Cols cs → ∃ e', ev [.sh (.tup (sL cs))] = .ok (.sh (.bl true), e')
theorem cut1 (l : List D) : cutD l (some 1) none = l.drop 1 := by
  unfold cutD
  show (l.drop (min 1 l.length)).take (l.length - min 1 l.length) = _
  cases l with
  | nil => rfl
  | cons a r => simp
theorem zip_next {cs : List Str} (h : Asc cs) : ∀ d ∈ z2L (sL cs) ((sL cs).drop 1), ∃ a b : Str, d = .tup [.str a, .str b] ∧ a.cps.toList < b.cps.toList := by
  intro d hd
  unfold z2L sL at hd
  rw [List.mem_iff_getElem?] at hd
  obtain ⟨i, hi⟩ := hd
  rw [List.getElem?_zipWith, List.getElem?_drop, List.getElem?_map, List.getElem?_map] at hi
  cases q : cs[i]? with
  | none => rw [q] at hi; cases hi
  | some a =>
    cases q2 : cs[1 + i]? with
    | none => rw [q, q2] at hi; cases hi
    | some b =>
      rw [q, q2] at hi
      cases hi
      obtain ⟨l1, rfl⟩ := List.getElem?_eq_some_iff.mp q
      obtain ⟨l2, rfl⟩ := List.getElem?_eq_some_iff.mp q2
      exact ⟨_, _, rfl, List.pairwise_iff_getElem.mp h i (1 + i) l1 l2 (by omega)⟩
theorem ok_cols {g : Ev} (hn : OkName g) : OkCols (evF 4 1 (B_are_columns g)) := by
  intro cs hc
  have hl : (sL cs).length ≤ 8 := by simpa [sL] using hc.len
  obtain ⟨l1, lc1, al1⟩ := lc_all (own := [1]) (it := iterC (nameC 0)) (g := asgN 1) (f := callV [false] g [nameC 1]) (e := [.sh (.tup (sL cs)), .em, .em, .em]) (e0 := [.sh (.tup (sL cs)), .em, .em, .em]) (w := [.sh (.tup (sL cs)), .em, .em, .em]) (ds := sL cs)
    (by simp) (by simp) (Nat.le_trans hl (by decide)) (fun d hd => by
      obtain ⟨s, hs, rfl⟩ := List.mem_map.mp hd
      obtain ⟨e', he⟩ := hn s (hc.nm s hs)
      exact ⟨[.sh (.tup (sL cs)), .sh (.str s), .em, .em], [.sh (.tup (sL cs)), .sh (.str s), .em, .em], by simp, by simp [he], by simp⟩) (by simp)
  obtain ⟨l2, lc2, al2⟩ := lc_all (own := [2, 3]) (it := walkC zpB [nameC 0, sliC (nameC 0) (partC (conC (.int 1))) noC]) (g := asgT [asgN 2, asgN 3]) (f := binC ltD (nameC 2) (nameC 3)) (e := [.sh (.tup (sL cs)), .em, .em, .em]) (e0 := [.sh (.tup (sL cs)), .em, .em, .em]) (w := [.sh (.tup (sL cs)), .em, .em, .em]) (ds := z2L (sL cs) ((sL cs).drop 1))
    (by simp [slD, cut1]) (by simp) (Nat.le_trans (by unfold z2L; rw [List.length_zipWith]; omega) (Nat.le_trans hl (by decide))) (fun d hd => by
      obtain ⟨a, b, rfl, hlt⟩ := zip_next hc.asc d hd
      exact ⟨[.sh (.tup (sL cs)), .em, .sh (.str a), .sh (.str b)], [.sh (.tup (sL cs)), .em, .sh (.str a), .sh (.str b)], by simp, by simp [hlt], by simp⟩) (by simp)
  have h8 : ¬ (8 : Int) < ((sL cs).length : Int) := by omega
  refine ⟨[.sh (.tup (sL cs)), .em, .em, .em], ?_⟩
  simp [B_are_columns, isiD, tyD, h8, lc1, al1, lc2, al2, putE]
end Pv
namespace Pv
open PySem L2

/-- a comprehension whose turns leave the slots as they are -/
theorem lc_ty {α : Type} (l : List α) (c : α → D) (b : α → Bool) (x : α → D) {own : List Nat} {it : M (List D)} {g : Val → M Unit} {t : M Bool} {f : M Val} {e e0 w : En} (hit : it e = .ok (l.map c, e0)) (hw : wipE own e0 = .ok ((), w)) (hl : l.length ≤ lenLim) (hww : wipE own w = .ok ((), w))
    (step : ∀ a ∈ l, ∃ e2, g (.sh (c a)) w = .ok ((), e2) ∧ t e2 = .ok (b a, e2) ∧ wipE own e2 = .ok ((), w) ∧ (b a = true → ∃ v, f e2 = .ok (v, e2) ∧ shr v e2 = .ok (x a, e2))) : lcC own it g t f e = .ok (.fr (.lst ((l.filter b).map x)), putE own e0 w) := by
  have go : ∀ (l' : List α) (e : En), (∀ a ∈ l', a ∈ l) → wipE own e = .ok ((), w) → lcL own g t f (l'.map c) e = .ok ((l'.filter b).map x, w) := by
    intro l'
    induction l' with
    | nil => intro e _ he; simp [lcL, he]
    | cons a r ih =>
      intro e hm he
      obtain ⟨e2, h1, h2, h3, h4⟩ := step a (hm a List.mem_cons_self)
      have ih' := ih e2 (fun a ha => hm a (List.mem_cons_of_mem _ ha)) h3
      rw [List.map_cons, List.filter_cons]
      simp only [lcL, bnd_app, obn_ok, he, h1, h2]
      cases q : b a with
      | false => simpa using ih'
      | true =>
        obtain ⟨v, h5, h6⟩ := h4 q
        simp only [if_true, bnd_app, obn_ok, h5, h6, ih', ret_app, List.map_cons]
  have hlen : ((l.filter b).map x).length ≤ lenLim := by
    rw [List.length_map]
    exact Nat.le_trans (List.length_filter_le _ _) hl
  unfold lcC
  simp only [bnd_app, obn_ok, hit, go l e0 (fun _ h => h) hw]
  rw [if_pos hlen]
@[simp] theorem eq_int (i j : Int) : eqD (.int i) (.int j) = some (.sh (.bl (decide (i = j)))) := by
  have : (i == j) = decide (i = j) := by by_cases h : i = j <;> simp [h]
  show some (Val.sh (D.bl (i == j))) = _
  rw [this]
@[simp] theorem ne_int (i j : Int) : neD (.int i) (.int j) = some (.sh (.bl (decide (i ≠ j)))) := by
  have : (!(i == j)) = decide (i ≠ j) := by by_cases h : i = j <;> simp [h]
  show some (Val.sh (D.bl (!(i == j)))) = _
  rw [this]
theorem flat_sL : ∀ cs : List Str, flatL (sL cs) = some (cs.map V.str)
  | [] => rfl
  | s :: cs => by
    show flatL (D.str s :: sL cs) = _
    unfold flatL
    rw [flat_sL cs]
    rfl
theorem inV_str (s : Str) (cs : List Str) : inV (V.str s) (cs.map V.str) = decide (s ∈ cs) := by
  unfold inV
  induction cs with
  | nil => rfl
  | cons c r ih =>
    rw [List.map_cons, List.any_cons, ih]
    show ((c == s) || _) = _
    by_cases h : s = c
    · subst h; simp
    · have h2 : (c == s) = false := by simpa using fun z => h z.symm
      rw [h2]
      simp [h]
@[simp] theorem in_sL (s : Str) (cs : List Str) : inD false (.str s) (.tup (sL cs)) = some (.sh (.bl (decide (s ∈ cs)))) := by
  show (match flatD (.str s), flatL (sL cs) with
    | some v, some vs => some (Val.sh (.bl (if false then !inV v vs else inV v vs)))
    | _, _ => none) = _
  rw [flat_sL]
  show some (Val.sh (.bl (inV (V.str s) (cs.map V.str)))) = _
  rw [inV_str]
@[simp] theorem len_sL (cs : List Str) : (sL cs).length = cs.length := by simp [sL]
@[simp] theorem len_iL (cs : List Int) : (iL cs).length = cs.length := by simp [iL]

def OkReqCols (ev : Ev) : Prop := ∀ cs, Cols cs → ∃ e', ev [.sh (.tup (sL cs))] = .ok (.sh .non, e')
theorem ok_reqcols {g : Ev} (h : OkCols g) : OkReqCols (evF 1 1 (B_require_columns g)) := by
  intro cs hc
  obtain ⟨e', he⟩ := h cs hc
  exact ⟨_, by simp [B_require_columns, he]; rfl⟩
def OkReqSome (ev : Ev) : Prop := ∀ cs so, Cols so → (∀ s ∈ so, s ∈ cs) → ∃ e', ev [.sh (.tup (sL cs)), .sh (.tup (sL so))] = .ok (.sh .non, e')
theorem ok_reqsome {g : Ev} (h : OkCols g) : OkReqSome (evF 3 2 (B_require_some g)) := by
  intro cs so hs hm
  obtain ⟨e', he⟩ := h so hs
  obtain ⟨l, lc, al⟩ := lc_all (own := [2]) (it := iterC (nameC 1)) (g := asgN 2) (f := binC (inD false) (nameC 2) (nameC 0)) (e := [.sh (.tup (sL cs)), .sh (.tup (sL so)), .em]) (e0 := [.sh (.tup (sL cs)), .sh (.tup (sL so)), .em]) (w := [.sh (.tup (sL cs)), .sh (.tup (sL so)), .em]) (ds := sL so)
    (by simp) (by simp) (Nat.le_trans (by simpa [sL] using hs.len) (by decide)) (fun d hd => by
      obtain ⟨s, hs, rfl⟩ := List.mem_map.mp hd
      have := hm s hs
      exact ⟨[.sh (.tup (sL cs)), .sh (.tup (sL so)), .sh (.str s)], [.sh (.tup (sL cs)), .sh (.tup (sL so)), .sh (.str s)], by simp, by simp [this], by simp⟩) (by simp)
  exact ⟨[.sh (.tup (sL cs)), .sh (.tup (sL so)), .em], by simp [B_require_some, he, lc, al, putE]⟩
def OkInt (ev : Ev) : Prop := ∀ i, ∃ e', ev [.sh (.int i)] = .ok (.sh (.bl true), e')
theorem ok_int_ : OkInt (evF 1 1 B_is_integer) := fun i => ⟨_, by simp [B_is_integer, isiD, tyD]; rfl⟩
def OkRowIn (ev : Ev) : Prop := ∀ r : List Int, r.length ≤ 1000 → ∃ e', ev [.sh (.int r.length), .sh (.tup (iL r))] = .ok (.sh (.bl true), e')
theorem ok_rowin {g : Ev} (h : OkInt g) : OkRowIn (evF 3 2 (B_is_row_in g)) := by
  intro r hr
  obtain ⟨l, lc, al⟩ := lc_all (own := [2]) (it := iterC (nameC 1)) (g := asgN 2) (f := callV [true] g [nameC 2]) (e := [.sh (.int r.length), .sh (.tup (iL r)), .em]) (e0 := [.sh (.int r.length), .sh (.tup (iL r)), .em]) (w := [.sh (.int r.length), .sh (.tup (iL r)), .em]) (ds := iL r)
    (by simp) (by simp) (Nat.le_trans (by simpa [iL] using hr) (by decide)) (fun d hd => by
      obtain ⟨i, hi, rfl⟩ := List.mem_map.mp hd
      obtain ⟨e', he⟩ := h i
      exact ⟨[.sh (.int r.length), .sh (.tup (iL r)), .sh (.int i)], [.sh (.int r.length), .sh (.tup (iL r)), .sh (.int i)], by simp, by simp [he], by simp⟩) (by simp)
  exact ⟨[.sh (.int r.length), .sh (.tup (iL r)), .em], by simp [B_is_row_in, isiD, tyD, lc, al, putE]⟩
def OkReqRow (ev : Ev) : Prop := ∀ (cs : List Str) (r : List Int), r.length = cs.length → r.length ≤ 1000 → ∃ e', ev [.sh (.tup (sL cs)), .sh (.tup (iL r))] = .ok (.sh .non, e')
theorem ok_reqrow {g : Ev} (h : OkRowIn g) : OkReqRow (evF 2 2 (B_require_row g)) := by
  intro cs r hl hr
  obtain ⟨e', he⟩ := h r hr
  rw [hl] at he
  exact ⟨_, by simp [B_require_row, he]; rfl⟩
/-! ### places, values, agreements -/
def plcs (cs so : List Str) : List Nat := (cs.zipIdx.filter fun p => decide (p.1 ∈ so)).map (·.2)
def nL (l : List Nat) : List D := l.map fun n => .int (n : Nat)
def OkPlaces (ev : Ev) : Prop := ∀ cs so : List Str, cs.length ≤ 1000 → ∃ e', ev [.sh (.tup (sL cs)), .sh (.tup (sL so))] = .ok (.sh (.tup (nL (plcs cs so))), e')
theorem en_sL (cs : List Str) : enL (sL cs) = cs.zipIdx.map fun p => .tup [.int (p.2 : Nat), .str p.1] := by
  unfold enL sL
  rw [List.zipIdx_map, List.map_map]
  rfl
theorem ok_places : OkPlaces (evF 4 2 B_places_in) := by
  intro cs so hl
  have lc := lc_ty cs.zipIdx (fun p => .tup [.int (p.2 : Nat), .str p.1]) (fun p => decide (p.1 ∈ so)) (fun p => .int (p.2 : Nat)) (own := [2, 3]) (it := walkC enB [nameC 0]) (g := asgT [asgN 2, asgN 3]) (t := cmpT (binC (inD false) (nameC 3) (nameC 1))) (f := nameC 2)
    (e := [.sh (.tup (sL cs)), .sh (.tup (sL so)), .em, .em]) (e0 := [.sh (.tup (sL cs)), .sh (.tup (sL so)), .em, .em]) (w := [.sh (.tup (sL cs)), .sh (.tup (sL so)), .em, .em]) (by simp [en_sL]) (by simp) (Nat.le_trans (by simpa using hl) (by decide)) (by simp)
    (fun p hp => ⟨[.sh (.tup (sL cs)), .sh (.tup (sL so)), .sh (.int (p.2 : Nat)), .sh (.str p.1)], by simp, by simp, by simp, fun _ => ⟨.sh (.int (p.2 : Nat)), by simp, by simp⟩⟩)
  refine ⟨[.sh (.tup (sL cs)), .sh (.tup (sL so)), .em, .em], ?_⟩
  simp [B_places_in, lc, nL, plcs]
def OkValuesIn (ev : Ev) : Prop := ∀ (r : List Int) (ps : List Nat), ps.length ≤ 1000 → (∀ i ∈ ps, i < r.length) → ∃ e', ev [.sh (.tup (iL r)), .sh (.tup (nL ps))] = .ok (.sh (.tup (iL (ps.map fun i => r.getD i 0))), e')
theorem ix_nat {r : List Int} {i : Nat} (h : i < r.length) : ixD (.tup (iL r)) (.int (i : Nat)) = some (.int (r.getD i 0)) := by
  show atI (iL r) (i : Int) = _
  have : ixN (iL r).length (i : Int) = some i := by
    unfold ixN
    rw [len_iL]
    simp [h]
  unfold atI
  rw [this]
  show (iL r)[i]? = _
  unfold iL
  rw [List.getElem?_map]
  simp [h]
theorem ok_valuesin : OkValuesIn (evF 3 2 B_values_in) := by
  intro r ps hl hp
  have lc := lc_ty ps (fun n => .int (n : Nat)) (fun _ => true) (fun i => .int (r.getD i 0)) (own := [2]) (it := iterC (nameC 1)) (g := asgN 2) (t := ret true) (f := ixC (nameC 0) (nameC 2))
    (e := [.sh (.tup (iL r)), .sh (.tup (nL ps)), .em]) (e0 := [.sh (.tup (iL r)), .sh (.tup (nL ps)), .em]) (w := [.sh (.tup (iL r)), .sh (.tup (nL ps)), .em]) (by simp [nL]) (by simp) (Nat.le_trans hl (by decide)) (by simp)
    (fun i hi => ⟨[.sh (.tup (iL r)), .sh (.tup (nL ps)), .sh (.int (i : Nat))], by simp, by simp, by simp, fun _ => ⟨.sh (.int (r.getD i 0)), by simp [ix_nat (hp i hi)], by simp⟩⟩)
  have e1 : iL (ps.map fun i => r.getD i 0) = ps.map fun i => D.int (r.getD i 0) := by simp [iL]
  refine ⟨[.sh (.tup (iL r)), .sh (.tup (nL ps)), .em], ?_⟩
  rw [e1]
  have e2 : ps.filter (fun _ => true) = ps := List.filter_eq_self.mpr fun _ _ => rfl
  rw [e2] at lc
  simp [B_values_in, lc, putE]

def vals (cs : List Str) (r : List Int) (so : List Str) : List Int := (plcs cs so).map fun i => r.getD i 0
theorem plcs_lt {cs so : List Str} {i : Nat} (h : i ∈ plcs cs so) : i < cs.length := by
  obtain ⟨p, hp, rfl⟩ := List.mem_map.mp h
  have := (List.mem_filter.mp hp).1
  have := List.mem_zipIdx this
  omega
theorem plcs_len (cs so : List Str) : (plcs cs so).length ≤ cs.length := by
  unfold plcs
  rw [List.length_map]
  exact Nat.le_trans (List.length_filter_le _ _) (by simp)
def OkValuesAt (ev : Ev) : Prop := ∀ (cs : List Str) (r : List Int) (so : List Str), Cols cs → r.length = cs.length → Cols so → (∀ s ∈ so, s ∈ cs) → ∃ e', ev [.sh (.tup (sL cs)), .sh (.tup (iL r)), .sh (.tup (sL so))] = .ok (.sh (.tup (iL (vals cs r so))), e')
theorem ok_valuesat {g1 g2 g3 g4 g5 : Ev} (h1 : OkReqCols g1) (h2 : OkReqRow g2) (h3 : OkReqSome g3) (h4 : OkValuesIn g4) (h5 : OkPlaces g5) : OkValuesAt (evF 3 3 (B_values_at g1 g2 g3 g4 g5)) := by
  intro cs r so hc hr hs hm
  have hc8 := hc.len
  obtain ⟨e1, he1⟩ := h1 cs hc
  obtain ⟨e2, he2⟩ := h2 cs r hr (by omega)
  obtain ⟨e3, he3⟩ := h3 cs so hs hm
  obtain ⟨e4, he4⟩ := h4 r (plcs cs so) (Nat.le_trans (plcs_len _ _) (by omega)) fun i hi => by rw [hr]; exact plcs_lt hi
  obtain ⟨e5, he5⟩ := h5 cs so (by omega)
  exact ⟨[.sh (.tup (sL cs)), .sh (.tup (iL r)), .sh (.tup (sL so))], by simp [B_values_at, he1, he2, he3, he4, he5, vals]⟩
def agr (cs : List Str) (r o : List Int) : List Str := ((cs.zip (r.zip o)).filter fun p => decide (p.2.1 = p.2.2)).map (·.1)
theorem z3_eq : ∀ (cs : List Str) (r o : List Int), z3L (sL cs) (iL r) (iL o) = (cs.zip (r.zip o)).map fun p => .tup [.str p.1, .int p.2.1, .int p.2.2]
  | [], r, o => rfl
  | c :: cs, [], o => rfl
  | c :: cs, a :: r, [] => rfl
  | c :: cs, a :: r, b :: o => congrArg (D.tup [.str c, .int a, .int b] :: ·) (z3_eq cs r o)
def OkAgrIn (ev : Ev) : Prop := ∀ (cs : List Str) (r o : List Int), cs.length ≤ 1000 → ∃ e', ev [.sh (.tup (sL cs)), .sh (.tup (iL r)), .sh (.tup (iL o))] = .ok (.sh (.tup (sL (agr cs r o))), e')
@[simp] theorem zp_ttt (l m n : List D) : zpB [.tup l, .tup m, .tup n] = some (z3L l m n) := rfl
theorem ok_agrin : OkAgrIn (evF 6 3 B_agreement_in) := by
  intro cs r o hl
  have lc := lc_ty (cs.zip (r.zip o)) (fun p => .tup [.str p.1, .int p.2.1, .int p.2.2]) (fun p => decide (p.2.1 = p.2.2)) (fun p => .str p.1) (own := [3, 4, 5]) (it := walkC zpB [nameC 0, nameC 1, nameC 2]) (g := asgT [asgN 3, asgN 4, asgN 5]) (t := cmpT (binC eqD (nameC 4) (nameC 5))) (f := nameC 3)
    (e := [.sh (.tup (sL cs)), .sh (.tup (iL r)), .sh (.tup (iL o)), .em, .em, .em]) (e0 := [.sh (.tup (sL cs)), .sh (.tup (iL r)), .sh (.tup (iL o)), .em, .em, .em]) (w := [.sh (.tup (sL cs)), .sh (.tup (iL r)), .sh (.tup (iL o)), .em, .em, .em]) (by simp [z3_eq]) (by simp)
    (Nat.le_trans (by rw [List.length_zip]; exact Nat.le_trans (Nat.min_le_left _ _) hl) (by decide)) (by simp)
    (fun p hp => ⟨[.sh (.tup (sL cs)), .sh (.tup (iL r)), .sh (.tup (iL o)), .sh (.str p.1), .sh (.int p.2.1), .sh (.int p.2.2)], by simp, by simp, by simp, fun _ => ⟨.sh (.str p.1), by simp, by simp⟩⟩)
  have e1 : sL (agr cs r o) = ((cs.zip (r.zip o)).filter fun p => decide (p.2.1 = p.2.2)).map fun p => D.str p.1 := by simp [sL, agr]
  refine ⟨[.sh (.tup (sL cs)), .sh (.tup (iL r)), .sh (.tup (iL o)), .em, .em, .em], ?_⟩
  rw [e1]
  simp [B_agreement_in, lc, putE]
def OkAgr (ev : Ev) : Prop := ∀ (cs : List Str) (r o : List Int), Cols cs → r.length = cs.length → o.length = cs.length → ∃ e', ev [.sh (.tup (sL cs)), .sh (.tup (iL r)), .sh (.tup (iL o))] = .ok (.sh (.tup (sL (agr cs r o))), e')
theorem ok_agr {g1 g2 g3 : Ev} (h1 : OkReqCols g1) (h2 : OkReqRow g2) (h3 : OkAgrIn g3) : OkAgr (evF 3 3 (B_agreement g1 g2 g3)) := by
  intro cs r o hc hr ho
  have hc8 := hc.len
  obtain ⟨e1, he1⟩ := h1 cs hc
  obtain ⟨e2, he2⟩ := h2 cs r hr (by omega)
  obtain ⟨e4, he4⟩ := h2 cs o ho (by omega)
  obtain ⟨e3, he3⟩ := h3 cs r o (by omega)
  exact ⟨[.sh (.tup (sL cs)), .sh (.tup (iL r)), .sh (.tup (iL o))], by simp [B_agreement, he1, he2, he3, he4]⟩

/-! ### the dice -/
def dic (a b c : Int) : D := .lst [.int a, .int b, .int c]
/-- at most N pulls so far -/
def Di (N : Nat) (d : D) : Prop := ∃ a b c : Int, d = dic a b c ∧ 0 ≤ a ∧ 0 ≤ b ∧ b < 2147483489 ∧ 0 ≤ c ∧ c ≤ N
theorem Di.mono {N M : Nat} {d : D} (h : Di N d) (l : N ≤ M) : Di M d := by
  obtain ⟨a, b, c, h0, h1, h2, h3, h4, h5⟩ := h
  exact ⟨a, b, c, h0, h1, h2, h3, h4, by omega⟩
def OkPull (ev : Ev) : Prop := ∀ (N : Nat) (d : D) (t : Int), Di N d → N < 2 ^ 60 → 0 < t → t < 2 ^ 60 → ∃ e' r d', ev [.ow true d, .sh (.int t)] = .ok (.sh (.int r), e') ∧ e'[0]? = some (.ow true d') ∧ Di (N + 1) d' ∧ 0 ≤ r ∧ r < t
theorem ix0 (a b c : Int) : ixD (dic a b c) (.int 0) = some (.int a) := rfl
theorem ix1 (a b c : Int) : ixD (dic a b c) (.int 1) = some (.int b) := rfl
theorem ix2 (a b c : Int) : ixD (dic a b c) (.int 2) = some (.int c) := rfl
theorem nat_lt400 {i : Int} {k : Nat} (h : i.natAbs < k) (hk : k ≤ 2 ^ 400) : i.natAbs < 2 ^ 400 := Nat.lt_of_lt_of_le h hk
theorem ok_pull : OkPull (evF 5 2 B__law_pull) := by
  intro N d t hd hN ht ht2
  obtain ⟨a, b, c, rfl, ha, hb, hb2, hc, hc2⟩ := hd
  have tl : t.natAbs.log2 < 9000 := log2_lt (k := 9000) (Nat.lt_of_lt_of_le (show t.natAbs < 2 ^ 60 by omega) (Nat.pow_le_pow_right (by decide) (by decide))) (by decide)
  by_cases h : 0 < a
  · refine ⟨[.ow true (dic (a / t) b c), .sh (.int t), .sh (.int (a % t)), .em, .em], a % t, dic (a / t) b c, ?_, rfl, ⟨_, _, _, rfl, Int.ediv_nonneg ha (by omega), hb, hb2, hc, by omega⟩, Int.emod_nonneg _ (by omega), Int.emod_lt_of_pos _ ht⟩
    have ix := ix0 a b c
    have ix' := ix0 (a / t) b c
    unfold dic at ix ix' ⊢
    simp [B__law_pull, ix, h, mod_int ht, fdiv_int ht tl, ixN]
  · have m1 : mulD (.int 1000133) (.int (c + 1)) = some (.sh (.int (1000133 * (c + 1)))) := mul_int (by decide) (nat_lt400 (k := 2 ^ 62) (by omega) (by decide))
    have p1 : (0 : Int) < 2305843009213693951 := by decide
    have p2 : (0 : Int) < 2305843009213693921 := by decide
    have p3 : (0 : Int) < 2305843009213693907 := by decide
    generalize hone : (b + 1000133 * (c + 1)) % 2305843009213693951 = one
    have one0 : 0 ≤ one ∧ one < 2305843009213693951 := by rw [← hone]; exact ⟨Int.emod_nonneg _ (by decide), Int.emod_lt_of_pos _ p1⟩
    have m2 : mulD (.int one) (.int one) = some (.sh (.int (one * one))) := mul_int (nat_lt400 (k := 2 ^ 62) (by omega) (by decide)) (nat_lt400 (k := 2 ^ 62) (by omega) (by decide))
    generalize htw : (one * one) % 2305843009213693921 = two
    have two0 : 0 ≤ two ∧ two < 2305843009213693921 := by rw [← htw]; exact ⟨Int.emod_nonneg _ (by decide), Int.emod_lt_of_pos _ p2⟩
    have m3 : mulD (.int two) (.int one) = some (.sh (.int (two * one))) := mul_int (nat_lt400 (k := 2 ^ 62) (by omega) (by decide)) (nat_lt400 (k := 2 ^ 62) (by omega) (by decide))
    have m4 : mulD (.int 7577) (.int (c + 1)) = some (.sh (.int (7577 * (c + 1)))) := mul_int (by decide) (nat_lt400 (k := 2 ^ 62) (by omega) (by decide))
    have d8 := fdiv_int (i := (two * one + 7577 * (c + 1)) % 2305843009213693907) (j := 8192) (by decide) (by decide +kernel)
    have mm1 := mod_int (i := b + 1000133 * (c + 1)) p1
    have mm2 := mod_int (i := one * one) p2
    have mm3 := mod_int (i := two * one + 7577 * (c + 1)) p3
    have mm4 := mod_int (i := (two * one + 7577 * (c + 1)) % 2305843009213693907 / 8192) ht
    rw [hone] at mm1
    rw [htw] at mm2
    refine ⟨[.ow true (dic a b (c + 1)), .sh (.int t), .em, .sh (.int one), .sh (.int (two * one))], ((two * one + 7577 * (c + 1)) % 2305843009213693907 / 8192) % t, dic a b (c + 1), ?_, rfl, ⟨_, _, _, rfl, ha, hb, hb2, by omega, by omega⟩, Int.emod_nonneg _ (by omega), Int.emod_lt_of_pos _ ht⟩
    have i0 := ix0 a b c
    have i2 := ix2 a b c
    have i2' := ix2 a b (c + 1)
    have i1' := ix1 a b (c + 1)
    unfold dic at i0 i2 i1' i2' ⊢
    simp [B__law_pull, i0, i2, i1', i2', h, m1, m2, m3, m4, d8, mm1, mm2, mm3, mm4, ixN]
end Pv
namespace Pv
open PySem L2

theorem set_self {i : Nat} {e : En} {s : Slot} (h : e[i]? = some s) : e.set i s = e := by
  apply List.ext_getElem?
  intro k
  by_cases hk : k = i
  · subst hk
    rw [getElem?_setB (List.getElem?_eq_some_iff.mp h).1, h]
  · rw [set_ne hk]
theorem pull_at {ev : Ev} (h : OkPull ev) {N k : Nat} {e : En} {b : Bool} {d : D} {t : Int} {ft : M Val} (hk : e[k]? = some (.ow b d)) (hd : Di N d) (hN : N < 2 ^ 60) (hft : ft e = .ok (.sh (.int t), e)) (ht : 0 < t) (ht2 : t < 2 ^ 60) :
    ∃ r d', callV [true, true] ev [nameC k, ft] e = .ok (.sh (.int r), e.set k (.ow b d')) ∧ Di (N + 1) d' ∧ 0 ≤ r ∧ r < t := by
  obtain ⟨e', r, d', h1, h2, h3, h4, h5⟩ := h N d t hd hN ht ht2
  exact ⟨r, d', by simp [hk, hft, h1, h2], h3, h4, h5⟩
theorem atI_mem {l : List D} {r : Int} (h0 : 0 ≤ r) (h1 : r < l.length) : ∃ x, atI l r = some x ∧ x ∈ l ∧ l[r.toNat]? = some x := by
  have hr : r.toNat < l.length := by omega
  have e : ixN l.length r = some r.toNat := by
    unfold ixN
    simp [h0, hr]
    try omega
  refine ⟨l[r.toNat], ?_, List.getElem_mem hr, by simp [hr]⟩
  unfold atI
  rw [e]
  simp [hr]
def OkPick (ev : Ev) : Prop := ∀ (N : Nat) (d : D) (l : List D), Di N d → N < 2 ^ 60 → 0 < l.length → l.length < 2 ^ 60 → ∀ s : Slot, (s = .ow true (.lst l) ∨ s = .sh (.lst l)) → ∃ e' x d', ev [.ow true d, s] = .ok (.sh x, e') ∧ e'[0]? = some (.ow true d') ∧ e'[1]? = some s ∧ Di (N + 1) d' ∧ x ∈ l
theorem ok_pick {g : Ev} (h : OkPull g) : OkPick (evF 2 2 (B__law_pick g)) := by
  intro N d l hd hN h0 hl s hs
  rcases hs with rfl | rfl
  · obtain ⟨r, d', h1, h2, h3, h4⟩ := pull_at h (k := 0) (e := [.ow true d, .ow true (.lst l)]) (ft := callC lenB [nameC 1]) (t := l.length) rfl hd hN (by simp) (by omega) (by omega)
    obtain ⟨x, h5, h6, _⟩ := atI_mem h3 h4
    have h7 : ixD (.lst l) (.int r) = some x := h5
    exact ⟨[.ow true d', .ow true (.lst l)], x, d', by simp [B__law_pick, h1, h7, -callV_app], rfl, rfl, h2, h6⟩
  · obtain ⟨r, d', h1, h2, h3, h4⟩ := pull_at h (k := 0) (e := [.ow true d, .sh (.lst l)]) (ft := callC lenB [nameC 1]) (t := l.length) rfl hd hN (by simp) (by omega) (by omega)
    obtain ⟨x, h5, h6, _⟩ := atI_mem h3 h4
    have h7 : ixD (.lst l) (.int r) = some x := h5
    exact ⟨[.ow true d', .sh (.lst l)], x, d', by simp [B__law_pick, h1, h7, -callV_app], rfl, rfl, h2, h6⟩

/-! ### columns made -/
def wd (l : List Nat) : Str := ⟨l.toArray⟩
@[simp] theorem wd_len (l : List Nat) : (wd l).length = l.length := by simp [wd, Str.length]
@[simp] theorem wd_list (l : List Nat) : (wd l).cps.toList = l := rfl
@[simp] theorem wd_cat (l m : List Nat) : wd l ++ wd m = wd (l ++ m) := by
  show (⟨l.toArray ++ m.toArray⟩ : Str) = _
  simp [wd]
theorem add_wd {l m : List Nat} (h : l.length + m.length ≤ lenLim) : addD (.str (wd l)) (.str (wd m)) = some (.sh (.str (wd (l ++ m)))) := by
  show (if (wd l).length + (wd m).length ≤ lenLim then _ else _) = _
  rw [if_pos (by simpa using h), wd_cat]
theorem sign_at {i : Int} (h0 : 0 ≤ i) (h1 : i < 26) : ixD (.str "abcdefghijklmnopqrstuvwxyz") (.int i) = some (.str (wd [97 + i.toNat])) := by
  have e : (("abcdefghijklmnopqrstuvwxyz" : String) : Str).cps.toList = List.range' 97 26 := by decide +kernel
  have el : (("abcdefghijklmnopqrstuvwxyz" : String) : Str).length ≤ lenLim := by decide +kernel
  show (if (("abcdefghijklmnopqrstuvwxyz" : String) : Str).length ≤ lenLim then (atI (("abcdefghijklmnopqrstuvwxyz" : String) : Str).cps.toList i).map (fun c => D.str ⟨#[c]⟩) else none) = _
  rw [if_pos el, e]
  have : ixN (List.range' 97 26).length i = some i.toNat := by
    unfold ixN
    simp [h0]
    omega
  unfold atI
  rw [this]
  have hr : i.toNat < 26 := by omega
  show ((List.range' 97 26)[i.toNat]?).map _ = _
  rw [List.getElem?_range' hr]
  simp [wd]
theorem few_ix {r : Int} (h0 : 0 ≤ r) (h1 : r < 4) : ∃ k : Nat, k ≤ 2 ∧ ixD (.lst [.int 0, .int 0, .int 1, .int 2]) (.int r) = some (.int (k : Nat)) := by
  have : r = 0 ∨ r = 1 ∨ r = 2 ∨ r = 3 := by omega
  rcases this with rfl | rfl | rfl | rfl
  · exact ⟨0, by omega, rfl⟩
  · exact ⟨0, by omega, rfl⟩
  · exact ⟨1, by omega, rfl⟩
  · exact ⟨2, by omega, rfl⟩
theorem rng1_nat (n : Nat) (h : n < 2 ^ 60) : rng1B [.int (n : Nat)] = some (rngD 0 n) := by
  simp only [rng1B]
  rw [if_pos (by omega), Int.toNat_natCast]
theorem rngD_at {n : Nat} {done rest : List D} {d : D} (h : done ++ d :: rest = rngD 0 n) : d = .int (done.length : Nat) ∧ done.length < n := by
  have hl : (rngD 0 n).length = n := by simp [rngD]
  have e : (rngD 0 n)[done.length]? = some d := by rw [← h]; simp
  have hlt : done.length < n := by
    have := congrArg List.length h
    rw [hl] at this
    simp at this
    omega
  refine ⟨?_, hlt⟩
  unfold rngD at e
  rw [List.getElem?_map, List.getElem?_range hlt] at e
  cases e
  simp
def Low (l : List Nat) : Prop := ∀ c ∈ l, 97 ≤ c ∧ c ≤ 122
def OkMk (ev : Ev) : Prop := ∀ (N : Nat) (d : D) (n : Nat), Di N d → N < 2 ^ 59 → n ≤ 8 → ∃ e' cs d', ev [.ow true d, .sh (.int (n : Nat))] = .ok (.sh (.tup (sL cs)), e') ∧ e'[0]? = some (.ow true d') ∧ Di (N + 40) d' ∧ Cols cs ∧ cs.length = n
theorem ok_mk {g : Ev} (h : OkPull g) : OkMk (evF 7 2 (B__law_columns g)) := by
  intro N d n hd hN hn
  have sgat : ∀ i : Int, 0 ≤ i → i < 26 → ixD (.str "abcdefghijklmnopqrstuvwxyz") (.int i) = some (.str (wd [97 + i.toNat])) := fun i => sign_at
  unfold B__law_columns
  generalize (D.str "abcdefghijklmnopqrstuvwxyz") = sg at sgat ⊢
  have outer : ∃ e', forL (asgN 4) (seqS [asS (ixC (nameC 2) (binC addD (binC mulD (conC (.int 2)) (nameC 4)) (callV [true, true] g [nameC 0, conC (.int 2)]))) (asgN 5), forS (rngC rng1B [ixC (lstC [conC (.int 0), conC (.int 0), conC (.int 1), conC (.int 2)]) (callV [true, true] g [nameC 0, conC (.int 4)])]) (asgN 6) (seqS [asS (binC addD (nameC 5) (ixC (nameC 2) (callV [true, true] g [nameC 0, conC (.int 26)]))) (asgN 5)]), drS (appC (nameC 3) (nameC 5))])
      (rngD 0 n) [.ow true d, .sh (.int (n : Nat)), .sh sg, .ow false (.lst []), .em, .em, .em] = .ok (.nx, e') ∧ ∃ (d' : D) (cs : List Str) (o4 o5 o6 : Option D), Di (N + 4 * (rngD 0 n).length) d' ∧ e' = [.ow true d', .sh (.int (n : Nat)), .sh sg, .ow false (.lst (sL cs)), op o4, op o5, op o6] ∧ cs.length = (rngD 0 n).length ∧ (∀ s ∈ cs, Nm s) ∧ Asc cs ∧ ∀ s ∈ cs, ∃ c r, s = wd (c :: r) ∧ c < 97 + 2 * (rngD 0 n).length := by
    refine forL_rule (fun done e => ∃ (d' : D) (cs : List Str) (o4 o5 o6 : Option D), Di (N + 4 * done.length) d' ∧ e = [.ow true d', .sh (.int (n : Nat)), .sh sg, .ow false (.lst (sL cs)), op o4, op o5, op o6] ∧ cs.length = done.length ∧ (∀ s ∈ cs, Nm s) ∧ Asc cs ∧ ∀ s ∈ cs, ∃ c r, s = wd (c :: r) ∧ c < 97 + 2 * done.length) ?_ ⟨d, [], none, none, none, hd, rfl, rfl, (fun s hs => by cases hs), .nil, fun s hs => by cases hs⟩
    rintro done x rest e hx ⟨d1, cs, o4, o5, o6, hd1, rfl, hlen, hnm, hasc, hfst⟩
    obtain ⟨rfl, hlt⟩ := rngD_at hx
    generalize hk : done.length = k at *
    -- the first sign
    obtain ⟨r1, d2, p1, hd2, r10, r11⟩ := pull_at h (k := 0) (e := [.ow true d1, .sh (.int (n : Nat)), .sh sg, .ow false (.lst (sL cs)), .sh (.int (k : Nat)), op o5, op o6]) (ft := conC (.int 2)) (t := 2) rfl hd1 (by omega) rfl (by omega) (by omega)
    have m1 : mulD (.int 2) (.int (k : Nat)) = some (.sh (.int (2 * (k : Nat)))) := mul_int (by decide) (nat_lt400 (k := 100) (by omega) (by decide))
    have s1 := sgat (2 * (k : Nat) + r1) (by omega) (by omega)
    generalize hc : 97 + (2 * (k : Int) + r1).toNat = c at *
    have hc1 : 97 + 2 * k ≤ c ∧ c < 97 + 2 * (k + 1) := by omega
    -- how many more
    obtain ⟨r2, d3, p2, hd3, r20, r21⟩ := pull_at h (k := 0) (e := [.ow true d2, .sh (.int (n : Nat)), .sh sg, .ow false (.lst (sL cs)), .sh (.int (k : Nat)), .sh (.str (wd [c])), op o6]) (ft := conC (.int 4)) (t := 4) rfl hd2 (by omega) rfl (by omega) (by omega)
    obtain ⟨m, hm, ix⟩ := few_ix r20 r21
    obtain ⟨e6, q1, d4, l, o6', hd4, rfl, hl1, hl2, hl3⟩ : ∃ e6, forL (asgN 6) (seqS [asS (binC addD (nameC 5) (ixC (nameC 2) (callV [true, true] g [nameC 0, conC (.int 26)]))) (asgN 5)]) (rngD 0 m) [.ow true d3, .sh (.int (n : Nat)), .sh sg, .ow false (.lst (sL cs)), .sh (.int (k : Nat)), .sh (.str (wd [c])), op o6] = .ok (.nx, e6) ∧
        ∃ (d4 : D) (l : List Nat) (o6' : Option D), Di (N + 4 * k + 2 + (rngD 0 m).length) d4 ∧ e6 = [.ow true d4, .sh (.int (n : Nat)), .sh sg, .ow false (.lst (sL cs)), .sh (.int (k : Nat)), .sh (.str (wd (c :: l))), op o6'] ∧ l.length = (rngD 0 m).length ∧ Low l ∧ True := by
      refine forL_rule (fun done2 e => ∃ (d4 : D) (l : List Nat) (o6' : Option D), Di (N + 4 * k + 2 + done2.length) d4 ∧ e = [.ow true d4, .sh (.int (n : Nat)), .sh sg, .ow false (.lst (sL cs)), .sh (.int (k : Nat)), .sh (.str (wd (c :: l))), op o6'] ∧ l.length = done2.length ∧ Low l ∧ True) ?_ ⟨d3, [], o6, hd3, rfl, rfl, (fun c hc => by cases hc), trivial⟩
      rintro done2 y rest2 e hy ⟨d4, l, o6', hd4, rfl, hl1, hl2, _⟩
      obtain ⟨rfl, hlt2⟩ := rngD_at hy
      obtain ⟨r3, d5, p3, hd5, r30, r31⟩ := pull_at h (k := 0) (e := [.ow true d4, .sh (.int (n : Nat)), .sh sg, .ow false (.lst (sL cs)), .sh (.int (k : Nat)), .sh (.str (wd (c :: l))), .sh (.int (done2.length : Nat))]) (ft := conC (.int 26)) (t := 26) rfl hd4 (by omega) rfl (by omega) (by omega)
      have s3 := sgat r3 r30 r31
      have a3 := add_wd (l := c :: l) (m := [97 + r3.toNat]) (le_lim (by simp [hl1]; omega))
      refine ⟨[.ow true d4, .sh (.int (n : Nat)), .sh sg, .ow false (.lst (sL cs)), .sh (.int (k : Nat)), .sh (.str (wd (c :: l))), .sh (.int (done2.length : Nat))], .nx, [.ow true d5, .sh (.int (n : Nat)), .sh sg, .ow false (.lst (sL cs)), .sh (.int (k : Nat)), .sh (.str (wd (c :: l ++ [97 + r3.toNat]))), .sh (.int (done2.length : Nat))], by simp, ?_, .inl rfl, d5, l ++ [97 + r3.toNat], some (.int (done2.length : Nat)), ?_, rfl, by simp [hl1], ?_, trivial⟩
      · simp [p3, s3, a3, -callV_app]
      · simpa [Nat.add_assoc] using hd5
      · intro z hz
        rcases List.mem_append.mp hz with hz | hz
        · exact hl2 z hz
        · have : z = 97 + r3.toNat := by simpa using hz
          omega
    have hlm : l.length ≤ 2 := by rw [hl1]; simpa [rngD] using hm
    have nm : Nm (wd (c :: l)) := by
      refine ⟨by simp, by simp; omega, fun z hz => ?_⟩
      rcases List.mem_cons.mp (show z ∈ c :: l from hz) with rfl | hz
      · omega
      · exact hl2 z hz
    refine ⟨[.ow true d1, .sh (.int (n : Nat)), .sh sg, .ow false (.lst (sL cs)), .sh (.int (k : Nat)), op o5, op o6], .nx, [.ow true d4, .sh (.int (n : Nat)), .sh sg, .ow false (.lst (sL (cs ++ [wd (c :: l)]))), .sh (.int (k : Nat)), .sh (.str (wd (c :: l))), op o6'], by simp, ?_, .inl rfl, d4, cs ++ [wd (c :: l)], some (.int (k : Nat)), some (.str (wd (c :: l))), o6', ?_, rfl, by simp [hlen, hk], ?_, ?_, ?_⟩
    · have ll : cs.length < 1000 := by omega
      have e7 : sL cs ++ [D.str (wd (c :: l))] = sL (cs ++ [wd (c :: l)]) := by simp [sL]
      simp [p1, m1, s1, p2, ix, rng1_nat m (by omega), q1, ll, e7, -callV_app]
    · exact hd4.mono (by simp [rngD, hk]; omega)
    · intro s hs
      rcases List.mem_append.mp hs with hs | hs
      · exact hnm s hs
      · have : s = wd (c :: l) := by simpa using hs
        rw [this]; exact nm
    · refine List.pairwise_append.mpr ⟨hasc, List.pairwise_singleton .., fun a ha b hb => ?_⟩
      have : b = wd (c :: l) := by simpa using hb
      subst this
      obtain ⟨c', r', rfl, hlt'⟩ := hfst a ha
      exact List.Lex.rel (by omega)
    · intro s hs
      rcases List.mem_append.mp hs with hs | hs
      · obtain ⟨c', r', h1, h2⟩ := hfst s hs
        exact ⟨c', r', h1, by simp [hk]; omega⟩
      · have : s = wd (c :: l) := by simpa using hs
        exact ⟨c, l, this, by simp [hk]; omega⟩
  obtain ⟨e', q, d', cs, o4, o5, o6, hd', rfl, hl, hnm, hasc, _⟩ := outer
  have hrl : (rngD 0 n).length = n := by simp [rngD]
  rw [hrl] at hl hd'
  refine ⟨[.ow true d', .sh (.int (n : Nat)), .sh sg, .ow false (.lst (sL cs)), op o4, op o5, op o6], cs, d', ?_, rfl, hd'.mono (by omega), ⟨by omega, hnm, hasc⟩, hl⟩
  have e0 : sL [] = [] := rfl
  simp [rng1_nat n (by omega), q, -callV_app]
end Pv
namespace Pv
open PySem L2

def OkDice (ev : Ev) : Prop := ∀ (ns : List Int) (k : Nat), k < 10 → ∃ e' d, ev [.sh (.scr ns), .sh (.int (k : Nat))] = .ok (.fr d, e') ∧ Di 0 d
theorem ix_scr {ns : List Int} {k : Nat} (h : k < ns.length) : ixD (.scr ns) (.int (k : Nat)) = some (.int ns[k]) := by
  have e : ixN ns.length (k : Int) = some k := by unfold ixN; simp [h]
  show (atI ns (k : Int)).map D.int = _
  unfold atI
  rw [e]
  show (ns[k]?).map D.int = _
  simp [h]
theorem ok_dice : OkDice (evF 5 2 B__law_dice) := by
  intro ns k hk
  obtain ⟨q1, hq1, q2, hq2, q0⟩ : ∃ q1 : Int, powD (.int 10) (.int 60) = some (.sh (.int q1)) ∧ ∃ q2 : Int, powD (.int q1) (.int 12) = some (.sh (.int q2)) ∧ 0 < q2 := ⟨10 ^ 60, by kernel_rfl, 10 ^ 720, by kernel_rfl, by decide +kernel⟩
  have hq3 : powD (.int 10) (.int 18) = some (.sh (.int 1000000000000000000)) := by kernel_rfl
  have m1 : mulD (.int 13) (.int (k : Nat)) = some (.sh (.int (13 * (k : Nat)))) := mul_int (by decide) (nat_lt400 (k := 100) (by omega) (by decide))
  have m3 : mulD (.int 1009) (.int (k : Nat)) = some (.sh (.int (1009 * (k : Nat)))) := mul_int (by decide) (nat_lt400 (k := 100) (by omega) (by decide))
  have fin : ∀ c : Int, ∃ e' d, seqS [asS (binC modD (callC intB [callC absB [nameC 2]]) (binC powD (binC powD (conC (.int 10)) (conC (.int 60))) (conC (.int 12)))) (asgN 3), asS (binC addD (binC addD (binC addD (binC mulD (binC modD (callC intB [nameC 3]) (conC (.int 2147483497))) (conC (.int 40014))) (binC mulD (conC (.int 1009)) (nameC 1))) (binC mulD (conC (.int 5)) (callC intB [binC ltD (nameC 2) (conC (.int 0))]))) (conC (.int 29))) (asgN 4), rtS (lstC [callC maxB [conC (.int 0), binC subD (nameC 3) (binC powD (conC (.int 10)) (conC (.int 18)))], binC modD (callC intB [nameC 4]) (conC (.int 2147483489)), conC (.int 0)])]
      [.sh (.scr ns), .sh (.int (k : Nat)), .sh (.int c), .em, .em] = .ok (.rt (.fr d), e') ∧ Di 0 d := by
    intro c
    generalize hg : (if c < 0 then -c else c) % q2 = gr
    have g0 : 0 ≤ gr := by rw [← hg]; exact Int.emod_nonneg _ (by omega)
    generalize hm : gr % 2147483497 = mx
    have mx0 : 0 ≤ mx ∧ mx < 2147483497 := by rw [← hm]; exact ⟨Int.emod_nonneg _ (by decide), Int.emod_lt_of_pos _ (by decide)⟩
    have a1 := mod_int (i := if c < 0 then -c else c) q0
    rw [hg] at a1
    have a2 := mod_int (i := gr) (j := 2147483497) (by decide)
    rw [hm] at a2
    have m2 : mulD (.int mx) (.int 40014) = some (.sh (.int (mx * 40014))) := mul_int (nat_lt400 (k := 2 ^ 62) (by omega) (by decide)) (by decide)
    generalize hb : (if decide (c < 0) = true then (1 : Int) else 0) = bb
    have bb0 : 0 ≤ bb ∧ bb ≤ 1 := by rw [← hb]; split <;> omega
    have m4 : mulD (.int 5) (.int bb) = some (.sh (.int (5 * bb))) := mul_int (by decide) (nat_lt400 (k := 100) (by omega) (by decide))
    have a3 := mod_int (i := mx * 40014 + 1009 * (k : Nat) + 5 * bb + 29) (j := 2147483489) (by decide)
    have ib : intB [.bl (decide (c < 0))] = some (.sh (.int bb)) := by rw [int_bl, hb]
    have mxx : maxB [.int 0, .int (gr - 1000000000000000000)] = some (.sh (.int (if gr - 1000000000000000000 > 0 then gr - 1000000000000000000 else 0))) := rfl
    refine ⟨[.sh (.scr ns), .sh (.int (k : Nat)), .sh (.int c), .sh (.int gr), .sh (.int (mx * 40014 + 1009 * (k : Nat) + 5 * bb + 29))], dic (if gr - 1000000000000000000 > 0 then gr - 1000000000000000000 else 0) ((mx * 40014 + 1009 * (k : Nat) + 5 * bb + 29) % 2147483489) 0, ?_, ⟨_, _, _, rfl, by split <;> omega, Int.emod_nonneg _ (by decide), Int.emod_lt_of_pos _ (by decide), Int.le_refl 0, Int.le_refl 0⟩⟩
    unfold dic
    simp [hq1, hq2, hq3, a1, a2, m2, m3, m4, a3, ib, mxx, -int_bl, -max_int]
  by_cases h : k < ns.length
  · obtain ⟨e', d, hf, hd⟩ := fin ns[k]
    have hi : (k : Int) < (ns.length : Int) := by omega
    refine ⟨e', d, ?_, hd⟩
    rw [evF_app]
    simp only [B__law_dice]
    rw [List.length_cons, List.length_cons, List.length_nil, if_pos rfl, seqS_cons]
    have s1 : asS (binC addD (binC mulD (conC (.int 13)) (nameC 1)) (conC (.int 6))) (asgN 2) ([.sh (.scr ns), .sh (.int (k : Nat))] ++ List.replicate (5 - (0 + 1 + 1)) .em) = .ok (.nx, [.sh (.scr ns), .sh (.int (k : Nat)), .sh (.int (13 * (k : Nat) + 6)), .em, .em]) := by simp [m1]
    have s2 : ifS (cmpT (binC ltD (nameC 1) (callC lenB [nameC 0]))) (seqS [asS (ixC (nameC 0) (nameC 1)) (asgN 2)]) (seqS []) [.sh (.scr ns), .sh (.int (k : Nat)), .sh (.int (13 * (k : Nat) + 6)), .em, .em] = .ok (.nx, [.sh (.scr ns), .sh (.int (k : Nat)), .sh (.int ns[k]), .em, .em]) := by simp [hi, ix_scr h]
    rw [s1, obn_ok, seqK_nx, seqS_cons, s2, obn_ok, seqK_nx, hf]
    simp
  · obtain ⟨e', d, hf, hd⟩ := fin (13 * (k : Nat) + 6)
    have hi : ¬ (k : Int) < (ns.length : Int) := by omega
    refine ⟨e', d, ?_, hd⟩
    rw [evF_app]
    simp only [B__law_dice]
    rw [List.length_cons, List.length_cons, List.length_nil, if_pos rfl, seqS_cons]
    have s1 : asS (binC addD (binC mulD (conC (.int 13)) (nameC 1)) (conC (.int 6))) (asgN 2) ([.sh (.scr ns), .sh (.int (k : Nat))] ++ List.replicate (5 - (0 + 1 + 1)) .em) = .ok (.nx, [.sh (.scr ns), .sh (.int (k : Nat)), .sh (.int (13 * (k : Nat) + 6)), .em, .em]) := by simp [m1]
    have s2 : ifS (cmpT (binC ltD (nameC 1) (callC lenB [nameC 0]))) (seqS [asS (ixC (nameC 0) (nameC 1)) (asgN 2)]) (seqS []) [.sh (.scr ns), .sh (.int (k : Nat)), .sh (.int (13 * (k : Nat) + 6)), .em, .em] = .ok (.nx, [.sh (.scr ns), .sh (.int (k : Nat)), .sh (.int (13 * (k : Nat) + 6)), .em, .em]) := by simp [hi]
    rw [s1, obn_ok, seqK_nx, seqS_cons, s2, obn_ok, seqK_nx, hf]
    simp
/-! ### some of the columns -/
theorem sL_cut {cs : List Str} {done rest : List D} {d : D} {pre post : List Str} (h : done ++ d :: rest = sL cs) (h1 : cs = pre ++ post) (h2 : done = sL pre) : ∃ s post', post = s :: post' ∧ d = .str s ∧ rest = sL post' := by
  subst h1 h2
  have e : sL (pre ++ post) = sL pre ++ sL post := by simp [sL]
  rw [e] at h
  have := List.append_cancel_left h
  cases post with
  | nil => cases this
  | cons s p => cases this; exact ⟨s, p, rfl, rfl, rfl⟩
def OkSome (ev : Ev) : Prop := ∀ (N : Nat) (d : D) (cs : List Str) (t : Int), Di N d → N < 2 ^ 59 → cs.length ≤ 8 → 0 < t → t < 100 → ∃ e' so d', ev [.ow true d, .sh (.tup (sL cs)), .sh (.int t)] = .ok (.sh (.tup (sL so)), e') ∧ e'[0]? = some (.ow true d') ∧ Di (N + 8) d' ∧ so.Sublist cs
theorem ok_some {g : Ev} (h : OkPull g) : OkSome (evF 4 3 (B__law_some g)) := by
  intro N d cs t hd hN hl ht ht2
  let J : List D → List D → En → Prop := fun (done acc : List D) (e : En) => ∃ (pre post so : List Str) (d' : D) (o : Option D), cs = pre ++ post ∧ done = sL pre ∧ acc = sL so ∧ so.Sublist pre ∧ Di (N + pre.length) d' ∧ e = [.ow true d', .sh (.tup (sL cs)), .sh (.int t), op o]
  have step : ∀ done x rest acc e, done ++ x :: rest = sL cs → J done acc e → ∃ o e', Turn1 [3] (asgN 3) (cmpT (binC eqD (callV [true, true] g [nameC 0, nameC 2]) (conC (.int 0)))) (nameC 3) x e o e' ∧ J (done ++ [x]) (acc ++ o.toList) e' := by
    rintro done x rest acc e hx ⟨pre, post, so, d1, o, hc, hdn, rfl, hsub, hd1, rfl⟩
    obtain ⟨s, post', rfl, rfl, _⟩ := sL_cut hx hc hdn
    have hp : pre.length ≤ 8 := by rw [hc] at hl; simp at hl; omega
    obtain ⟨r, d2, p1, hd2, r0, r1⟩ := pull_at h (k := 0) (e := [.ow true d1, .sh (.tup (sL cs)), .sh (.int t), .sh (.str s)]) (ft := nameC 2) (t := t) rfl hd1 (by omega) (by simp) ht (by omega)
    by_cases hr : r = 0
    · refine ⟨some (.str s), [.ow true d2, .sh (.tup (sL cs)), .sh (.int t), .sh (.str s)], ⟨[.ow true d1, .sh (.tup (sL cs)), .sh (.int t), .em], [.ow true d1, .sh (.tup (sL cs)), .sh (.int t), .sh (.str s)], true, [.ow true d2, .sh (.tup (sL cs)), .sh (.int t), .sh (.str s)], by simp, by simp, by simp [p1, hr, -callV_app], rfl, .sh (.str s), [.ow true d2, .sh (.tup (sL cs)), .sh (.int t), .sh (.str s)], by simp, by simp⟩,
        pre ++ [s], post', so ++ [s], d2, some (.str s), by simp [hc], by simp [hdn, sL], by simp [sL], hsub.append (List.Sublist.refl _), by simpa [Nat.add_assoc] using hd2, rfl⟩
    · refine ⟨none, [.ow true d2, .sh (.tup (sL cs)), .sh (.int t), .sh (.str s)], ⟨[.ow true d1, .sh (.tup (sL cs)), .sh (.int t), .em], [.ow true d1, .sh (.tup (sL cs)), .sh (.int t), .sh (.str s)], false, [.ow true d2, .sh (.tup (sL cs)), .sh (.int t), .sh (.str s)], by simp, by simp, by simp [p1, hr, -callV_app], rfl, rfl⟩,
        pre ++ [s], post', so, d2, some (.str s), by simp [hc], by simp [hdn, sL], by simp, hsub.trans (List.sublist_append_left _ _), by simpa [Nat.add_assoc] using hd2, rfl⟩
  have last : ∀ acc e, J (sL cs) acc e → (∃ w, wipE [3] e = .ok ((), w)) ∧ acc.length ≤ lenLim := by
    rintro acc e ⟨pre, post, so, d1, o, hc, hdn, rfl, hsub, hd1, rfl⟩
    refine ⟨⟨[.ow true d1, .sh (.tup (sL cs)), .sh (.int t), .em], by simp⟩, ?_⟩
    have := hsub.length_le
    have hp : pre.length ≤ 8 := by rw [hc] at hl; simp at hl; omega
    exact le_lim (by simp; omega)
  obtain ⟨xs, e1, w, ⟨pre, post, so, d', o, hc, hx, rfl, hsub, hd', rfl⟩, hw, lc⟩ := lcC_rule (own := [3]) (it := iterC (nameC 1)) (g := asgN 3) (t := cmpT (binC eqD (callV [true, true] g [nameC 0, nameC 2]) (conC (.int 0)))) (f := nameC 3) (ds := sL cs) (e := [.ow true d, .sh (.tup (sL cs)), .sh (.int t), .em]) (e0 := [.ow true d, .sh (.tup (sL cs)), .sh (.int t), .em])
    (by simp) J step ⟨[], cs, [], d, none, rfl, rfl, rfl, List.Sublist.refl _, hd, rfl⟩ last
  have hp : pre.length ≤ 8 := by rw [hc] at hl; simp at hl; omega
  have hpost : post = [] := by
    have := congrArg List.length hx
    rw [hc] at this
    simp [sL] at this
    exact this
  subst hpost
  rw [List.append_nil] at hc
  subst hc
  have hw' : w = [.ow true d', .sh (.tup (sL cs)), .sh (.int t), .em] := by simp at hw; exact hw.symm
  subst hw'
  refine ⟨[.ow true d', .sh (.tup (sL cs)), .sh (.int t), .em], so, d', ?_, rfl, hd'.mono (by omega), hsub⟩
  simp [B__law_some, lc, -callV_app]
end Pv
namespace Pv
open PySem L2

theorem pick_at {ev : Ev} (h : OkPick ev) {N k : Nat} {e : En} {b : Bool} {d : D} {l : List D} {s : Slot} (h0 : e[0]? = some (.ow b d)) (hk : e[k + 1]? = some s) (hs : s = .sh (.lst l) ∨ s = .ow false (.lst l)) (hd : Di N d) (hN : N < 2 ^ 60) (hl : 0 < l.length) (hl2 : l.length < 2 ^ 60) :
    ∃ x d', callV [true, true] ev [nameC 0, nameC (k + 1)] e = .ok (.sh x, e.set 0 (.ow b d')) ∧ Di (N + 1) d' ∧ x ∈ l := by
  rcases hs with rfl | rfl
  · obtain ⟨e', x, d', h1, h2, _, h4, h5⟩ := h N d l hd hN hl hl2 (.sh (.lst l)) (.inr rfl)
    exact ⟨x, d', by simp [h0, hk, h1, h2], h4, h5⟩
  · obtain ⟨e', x, d', h1, h2, h3, h4, h5⟩ := h N d l hd hN hl hl2 (.ow true (.lst l)) (.inl rfl)
    refine ⟨x, d', ?_, h4, h5⟩
    have q : (e.set 0 (.ow b d'))[k + 1]? = some (.ow false (.lst l)) := by rw [set_ne (by omega)]; exact hk
    have q2 := set_self q
    simp [h0, hk, h1, h2, h3, q2]
def Bd (i : Int) : Prop := i.natAbs < 10 ^ 40
def RowOk (n : Nat) (r : List Int) : Prop := r.length = n ∧ ∀ i ∈ r, Bd i
def rL (rows : List (List Int)) : List D := rows.map fun r => D.tup (iL r)
theorem nc_row {n : Nat} {r : List Int} (h : RowOk n r) (hn : n ≤ 8) : NC 1 350 (.tup (iL r)) := by
  refine (nc_tup (a := 0) (w := 41) (l := iL r) fun d hd => ?_).mono (Nat.le_refl 1) ?_
  · obtain ⟨i, hi, rfl⟩ := List.mem_map.mp hd
    exact nc_int (h.2 i hi) (by decide) (by decide)
  · rw [len_iL, h.1]; omega
theorem nc_rows {n : Nat} {rows : List (List Int)} (h : ∀ r ∈ rows, RowOk n r) (hn : n ≤ 8) (hl : rows.length ≤ 10) : NC 2 3600 (.lst (rL rows)) := by
  refine (nc_lst (a := 1) (w := 350) (l := rL rows) fun d hd => ?_).mono (Nat.le_refl 2) ?_
  · obtain ⟨r, hr, rfl⟩ := List.mem_map.mp hd
    exact nc_row (h r hr) hn
  · simp [rL]; omega
theorem ne_rows {n : Nat} {rows : List (List Int)} (h : ∀ r ∈ rows, RowOk n r) (hn : n ≤ 8) (hl : rows.length ≤ 10) : neD (.lst (rL rows)) (.lst []) = some (.sh (.bl (!rows.isEmpty))) := by
  rw [NC.ne (nc_rows h hn hl) (nc_lst (a := 0) (w := 0) (l := []) fun d hd => by cases hd) (by decide) (by decide)]
  cases rows <;> rfl
abbrev RE (d : D) (cs : List Str) (tot : Int) (P : D) (p : List Int) (fo : List (List Int)) (s6 s7 : Slot) (o8 : Option D) (s9 : Slot) : En :=
  [.ow true d, .sh (.tup (sL cs)), .sh (.int tot), .ow false P, .sh (.lst (iL p)), .ow false (.lst (rL fo)), s6, s7, op o8, s9]
theorem row_mk {g : Ev} (h : OkPick g) {N : Nat} {d : D} {cs : List Str} {tot : Int} {P : D} {p : List Int} {fo : List (List Int)} {s6 s7 : Slot} {o8 : Option D} {s9 : Slot} (hd : Di N d) (hN : N < 2 ^ 59) (hl : cs.length ≤ 8) (hp : 0 < p.length) (hp2 : p.length ≤ 8) (hb : ∀ i ∈ p, Bd i) :
    ∃ r d', lcC [8] (iterC (nameC 1)) (asgN 8) (ret true) (callV [true, true] g [nameC 0, nameC 4]) (RE d cs tot P p fo s6 s7 o8 s9) = .ok (.fr (.lst (iL r)), RE d' cs tot P p fo s6 s7 o8 s9) ∧ RowOk cs.length r ∧ Di (N + 8) d' := by
  let J : List D → List D → En → Prop := fun done acc e => ∃ (pre post : List Str) (r : List Int) (d' : D) (o : Option D), cs = pre ++ post ∧ done = sL pre ∧ acc = iL r ∧ RowOk pre.length r ∧ Di (N + pre.length) d' ∧ e = RE d' cs tot P p fo s6 s7 o s9
  have step : ∀ done x rest acc e, done ++ x :: rest = sL cs → J done acc e → ∃ o e', Turn1 [8] (asgN 8) (ret true) (callV [true, true] g [nameC 0, nameC 4]) x e o e' ∧ J (done ++ [x]) (acc ++ o.toList) e' := by
    rintro done x rest acc e hx ⟨pre, post, r, d1, o, hc, hdn, rfl, hr, hd1, rfl⟩
    obtain ⟨s, post', rfl, rfl, _⟩ := sL_cut hx hc hdn
    have hp8 : pre.length ≤ 8 := by rw [hc] at hl; simp at hl; omega
    obtain ⟨y, d2, p1, hd2, hy⟩ := pick_at h (k := 3) (e := RE d1 cs tot P p fo s6 s7 (some (.str s)) s9) (l := iL p) (s := .sh (.lst (iL p))) rfl rfl (.inl rfl) hd1 (by omega) (by simpa using hp) (by simp; omega)
    obtain ⟨i, hi, rfl⟩ := List.mem_map.mp hy
    refine ⟨some (.int i), RE d2 cs tot P p fo s6 s7 (some (.str s)) s9, ⟨RE d1 cs tot P p fo s6 s7 none s9, RE d1 cs tot P p fo s6 s7 (some (.str s)) s9, true, RE d1 cs tot P p fo s6 s7 (some (.str s)) s9, by simp, by simp, by simp, rfl, .sh (.int i), RE d2 cs tot P p fo s6 s7 (some (.str s)) s9, p1, by simp⟩,
      pre ++ [s], post', r ++ [i], d2, some (.str s), by simp [hc], by simp [hdn, sL], by simp [iL], ⟨by simp [hr.1], fun j hj => ?_⟩, by simpa [Nat.add_assoc] using hd2, rfl⟩
    rcases List.mem_append.mp hj with hj | hj
    · exact hr.2 j hj
    · have : j = i := by simpa using hj
      rw [this]; exact hb i hi
  have last : ∀ acc e, J (sL cs) acc e → (∃ w, wipE [8] e = .ok ((), w)) ∧ acc.length ≤ lenLim := by
    rintro acc e ⟨pre, post, r, d1, o, hc, hdn, rfl, hr, hd1, rfl⟩
    refine ⟨⟨RE d1 cs tot P p fo s6 s7 none s9, by simp⟩, ?_⟩
    have hp8 : pre.length ≤ 8 := by rw [hc] at hl; simp at hl; omega
    have := hr.1
    exact le_lim (by simp; omega)
  obtain ⟨xs, e1, w, ⟨pre, post, r, d', o, hc, hx, rfl, hr, hd', rfl⟩, hw, lc⟩ := lcC_rule (own := [8]) (it := iterC (nameC 1)) (g := asgN 8) (t := ret true) (f := callV [true, true] g [nameC 0, nameC 4]) (ds := sL cs) (e := RE d cs tot P p fo s6 s7 o8 s9) (e0 := RE d cs tot P p fo s6 s7 o8 s9)
    (by simp) J step ⟨[], cs, [], d, o8, rfl, rfl, rfl, ⟨rfl, fun _ h => by cases h⟩, hd, rfl⟩ last
  have hp8 : pre.length ≤ 8 := by rw [hc] at hl; simp at hl; omega
  have hpost : post = [] := by
    have := congrArg List.length hx
    rw [hc] at this
    simp [sL] at this
    exact this
  subst hpost
  rw [List.append_nil] at hc
  subst hc
  have hw' : w = RE d' cs tot P p fo s6 s7 none s9 := by simp at hw; rw [← hw]; rfl
  subst hw'
  exact ⟨r, d', by rw [lc]; simp, hr, hd'.mono (by omega)⟩
/-- a few of a row's numbers are drawn anew -/
theorem row_chg {g1 g2 : Ev} (h1 : OkPick g1) (h2 : OkPull g2) {N m : Nat} {d : D} {cs : List Str} {tot : Int} {P : D} {p : List Int} {fo : List (List Int)} {s6 : Slot} {r : List Int} {o8 o9 : Option D} (hd : Di N d) (hN : N < 2 ^ 59) (hm : m ≤ 2) (hl : cs.length ≤ 8) (hl0 : 0 < cs.length) (hp : 0 < p.length) (hp2 : p.length ≤ 8) (hb : ∀ i ∈ p, Bd i) (hr : RowOk cs.length r) :
    ∃ r' d' o, forL (asgN 9) (seqS [asS (callV [true, true] g1 [nameC 0, nameC 4]) (asgI (nameC 7) (callV [true, true] g2 [nameC 0, callC lenB [nameC 1]]))]) (rngD 0 m) (RE d cs tot P p fo s6 (.ow false (.lst (iL r))) o8 (op o9)) = .ok (.nx, RE d' cs tot P p fo s6 (.ow false (.lst (iL r'))) o8 (op o)) ∧ RowOk cs.length r' ∧ Di (N + 4) d' := by
  obtain ⟨e', q, r', d', o, hr', hd', rfl⟩ := forL_rule (g := asgN 9) (b := seqS [asS (callV [true, true] g1 [nameC 0, nameC 4]) (asgI (nameC 7) (callV [true, true] g2 [nameC 0, callC lenB [nameC 1]]))]) (ds := rngD 0 m)
    (fun done e => ∃ (r' : List Int) (d' : D) (o : Option D), RowOk cs.length r' ∧ Di (N + 2 * done.length) d' ∧ e = RE d' cs tot P p fo s6 (.ow false (.lst (iL r'))) o8 (op o)) (fun done x rest e hx => by
      rintro ⟨r1, d1, o, hr1, hd1, rfl⟩
      obtain ⟨rfl, hlt⟩ := rngD_at hx
      obtain ⟨y, d2, p1, hd2, hy⟩ := pick_at h1 (k := 3) (e := RE d1 cs tot P p fo s6 (.ow false (.lst (iL r1))) o8 (.sh (.int (done.length : Nat)))) (l := iL p) (s := .sh (.lst (iL p))) rfl rfl (.inl rfl) hd1 (by omega) (by simpa using hp) (by simp; omega)
      obtain ⟨i, hi, rfl⟩ := List.mem_map.mp hy
      obtain ⟨k, d3, p2, hd3, k0, k1⟩ := pull_at h2 (k := 0) (e := RE d2 cs tot P p fo s6 (.ow false (.lst (iL r1))) o8 (.sh (.int (done.length : Nat)))) (ft := callC lenB [nameC 1]) (t := (sL cs).length) rfl hd2 (by omega) (by simp) (by simp; omega) (by simp; omega)
      have kn : k.toNat < r1.length := by rw [hr1.1]; simp at k1; omega
      have ix : ixN (iL r1).length k = some k.toNat := by
        unfold ixN
        simp at k1
        simp [k0]
        omega
      have st : (iL r1).set k.toNat (.int i) = iL (r1.set k.toNat i) := by simp [iL]
      simp only [len_iL] at ix
      refine ⟨RE d1 cs tot P p fo s6 (.ow false (.lst (iL r1))) o8 (.sh (.int (done.length : Nat))), .nx, RE d3 cs tot P p fo s6 (.ow false (.lst (iL (r1.set k.toNat i)))) o8 (.sh (.int (done.length : Nat))), by simp, ?_, .inl rfl, r1.set k.toNat i, d3, some (.int (done.length : Nat)), ⟨by simp [hr1.1], fun j hj => ?_⟩, hd3.mono (by simp; omega), rfl⟩
      · simp only [seqS_cons, seqS_nil, asS_app, bnd_app, p1, obn_ok, List.set_cons_zero, asgI_app, shr_sh, name_app, List.getElem?_cons_succ, List.getElem?_cons_zero, owJ_ow, p2, der_sh, asInt_int, updL_app, len_iL, ix, Option.map_some, st, List.set_cons_succ, ret_app, seqK_nx]
      · rcases List.mem_or_eq_of_mem_set hj with hj | hj
        · exact hr1.2 j hj
        · rw [hj]; exact hb i hi) ⟨r, d, o9, hr, hd, rfl⟩
  have hrl : (rngD 0 m).length = m := by simp [rngD]
  rw [hrl] at hd'
  exact ⟨r', d', o, q, hr', hd'.mono (by omega)⟩
end Pv
namespace Pv
open PySem L2

def pools : List (List Int) := [[0, 1, 2], [2, 10, 0], [-2, -1, 1], [9, 10 ^ 39, 0], [1 - 10 ^ 39, -7, 0]]
theorem pools_ok : ∀ p ∈ pools, p.length = 3 ∧ ∀ i ∈ p, Bd i := by
  unfold Bd
  decide +kernel
def OkRows (ev : Ev) : Prop := ∀ (N : Nat) (d : D) (cs : List Str) (n : Nat), Di N d → N < 2 ^ 57 → 0 < cs.length → cs.length ≤ 8 → n ≤ 4 → ∃ e' rows d', ev [.ow true d, .sh (.tup (sL cs)), .sh (.int (n : Nat))] = .ok (.ow 5, e') ∧ e'[0]? = some (.ow true d') ∧ e'[5]? = some (.ow false (.lst (rL rows))) ∧ Di (N + 100) d' ∧ rows.length = n ∧ ∀ r ∈ rows, RowOk cs.length r
theorem rL_app (rows : List (List Int)) (r : List Int) : rL rows ++ [.tup (iL r)] = rL (rows ++ [r]) := by simp [rL]
abbrev RW1 (g1 g2 : Ev) : M Fl := ifS (bopT false [cmpT (binC (neD) (nameC 5) (lstC [])), cmpT (binC (gtD) (callV [true, true] g2 [nameC 0, conC (.int 3)]) (conC (.int 0)))]) (seqS [asS (callC listB [callV [true, true] g1 [nameC 0, nameC 5]]) (asgN 7), forS (rngC rng1B [callV [true, true] g2 [nameC 0, conC (.int 3)]]) (asgN 9) (seqS [asS (callV [true, true] g1 [nameC 0, nameC 4]) (asgI (nameC 7) (callV [true, true] g2 [nameC 0, callC lenB [nameC 1]]))])]) (seqS [])
/-- the row may be an earlier one, changed -/
theorem row_old {g1 g2 : Ev} (h1 : OkPick g1) (h2 : OkPull g2) {N : Nat} {d : D} {cs : List Str} {tot : Int} {P : D} {p : List Int} {fo : List (List Int)} {s6 : Slot} {r : List Int} {o8 o9 : Option D} (hd : Di N d) (hN : N < 2 ^ 58) (hl : cs.length ≤ 8) (hl0 : 0 < cs.length) (hp : 0 < p.length) (hp2 : p.length ≤ 8) (hb : ∀ i ∈ p, Bd i) (hr : RowOk cs.length r)
    (hfo : fo.length ≤ 4) (hfr : ∀ r ∈ fo, RowOk cs.length r) : ∃ r' d' o, RW1 g1 g2 (RE d cs tot P p fo s6 (.ow false (.lst (iL r))) o8 (op o9)) = .ok (.nx, RE d' cs tot P p fo s6 (.ow false (.lst (iL r'))) o8 (op o)) ∧ RowOk cs.length r' ∧ Di (N + 10) d' := by
  have hne := ne_rows hfr hl (by omega)
  cases hfo2 : fo with
  | nil =>
    subst hfo2
    refine ⟨r, d, o9, ?_, hr, hd.mono (by omega)⟩
    have hne' : neD (.lst (rL [])) (.lst []) = some (.sh (.bl false)) := by simpa using hne
    simp [RW1, hne']
  | cons r0 fo' =>
    rw [← hfo2]
    have hne' : neD (.lst (rL fo)) (.lst []) = some (.sh (.bl true)) := by rw [hne, hfo2]; rfl
    obtain ⟨k, d2, p1, hd2, k0, k1⟩ := pull_at h2 (k := 0) (e := RE d cs tot P p fo s6 (.ow false (.lst (iL r))) o8 (op o9)) (ft := conC (.int 3)) (t := 3) rfl hd (by omega) rfl (by omega) (by omega)
    by_cases hk : 0 < k
    · obtain ⟨y, d3, p2, hd3, hy⟩ := pick_at h1 (k := 4) (e := RE d2 cs tot P p fo s6 (.ow false (.lst (iL r))) o8 (op o9)) (l := rL fo) (s := .ow false (.lst (rL fo))) rfl rfl (.inr rfl) hd2 (by omega) (by simp [rL, hfo2]) (by simp [rL]; omega)
      obtain ⟨r1, hr1, rfl⟩ := List.mem_map.mp hy
      obtain ⟨m, d4, p3, hd4, m0, m1⟩ := pull_at h2 (k := 0) (e := RE d3 cs tot P p fo s6 (.ow false (.lst (iL r1))) o8 (op o9)) (ft := conC (.int 3)) (t := 3) rfl hd3 (by omega) rfl (by omega) (by omega)
      obtain ⟨mn, rfl⟩ : ∃ mn : Nat, m = (mn : Int) := ⟨m.toNat, by omega⟩
      obtain ⟨r', d5, o, q, hr', hd5⟩ := row_chg h1 h2 (m := mn) (s6 := s6) (o8 := o8) (o9 := o9) (tot := tot) (P := P) (fo := fo) hd4 (by omega) (by omega) hl hl0 hp hp2 hb (hfr r1 hr1)
      refine ⟨r', d5, o, ?_, hr', hd5.mono (by omega)⟩
      simp [RW1, hne', p1, hk, p2, p3, rng1_nat mn (by omega), q, -callV_app]
    · refine ⟨r, d2, o9, ?_, hr, hd2.mono (by omega)⟩
      simp [RW1, hne', p1, hk, -callV_app]
theorem ok_rows {g1 g2 : Ev} (h1 : OkPick g1) (h2 : OkPull g2) : OkRows (evF 10 3 (B__law_rows g1 g2)) := by
  intro N d cs n hd hN hl0 hl hn
  obtain ⟨q39, hq39, e39⟩ : ∃ q : Int, powD (.int 10) (.int 39) = some (.sh (.int q)) ∧ q = 10 ^ 39 := ⟨10 ^ 39, by kernel_rfl, rfl⟩
  generalize hP : D.lst [.lst [.int 0, .int 1, .int 2], .lst [.int 2, .int 10, .int 0], .lst [.int (-2), .int (-1), .int 1], .lst [.int 9, .int q39, .int 0], .lst [.int (1 - q39), .int (-7), .int 0]] = P
  have hP2 : P = .lst (pools.map fun p => D.lst (iL p)) := by rw [← hP, e39]; rfl
  have s1 : asS (lstC [lstC [conC (.int 0), conC (.int 1), conC (.int 2)], lstC [conC (.int 2), conC (.int 10), conC (.int 0)], lstC [negC (conC (.int 2)), negC (conC (.int 1)), conC (.int 1)], lstC [conC (.int 9), binC powD (conC (.int 10)) (conC (.int 39)), conC (.int 0)], lstC [binC subD (conC (.int 1)) (binC powD (conC (.int 10)) (conC (.int 39))), negC (conC (.int 7)), conC (.int 0)]]) (asgN 3)
      [.ow true d, .sh (.tup (sL cs)), .sh (.int (n : Nat)), .em, .em, .em, .em, .em, .em, .em] = .ok (.nx, [.ow true d, .sh (.tup (sL cs)), .sh (.int (n : Nat)), .ow false P, .em, .em, .em, .em, .em, .em]) := by
    rw [← hP]
    simp [hq39]
  obtain ⟨y, d1, p1, hd1, hy⟩ := pick_at h1 (k := 2) (e := [.ow true d, .sh (.tup (sL cs)), .sh (.int (n : Nat)), .ow false P, .em, .em, .em, .em, .em, .em]) (l := pools.map fun p => D.lst (iL p)) (s := .ow false P) rfl rfl (.inr (by rw [hP2])) hd (by omega) (by decide) (by decide)
  obtain ⟨p, hp, rfl⟩ := List.mem_map.mp hy
  obtain ⟨hp3, hb⟩ := pools_ok p hp
  obtain ⟨e', q, d', fo, s6, s7, o8, o9, w6, w7, hlen, hfr, hd', rfl⟩ := forL_rule (g := asgN 6) (ds := rngD 0 n) (e := RE d1 cs n P p [] .em .em none (op none))
    (b := seqS [asS (lcC [8] (iterC (nameC 1)) (asgN 8) (ret true) (callV [true, true] g1 [nameC 0, nameC 4])) (asgN 7), RW1 g1 g2, drS (appC (nameC 5) (callC tupleB [nameC 7]))])
    (fun done e => ∃ (d' : D) (fo : List (List Int)) (s6 s7 : Slot) (o8 o9 : Option D), wOk s6 = true ∧ wOk s7 = true ∧ fo.length = done.length ∧ (∀ r ∈ fo, RowOk cs.length r) ∧ Di (N + 1 + 20 * done.length) d' ∧ e = RE d' cs n P p fo s6 s7 o8 (op o9)) (fun done x rest e hx => by
      rintro ⟨d2, fo, s6, s7, o8, o9, w6, w7, hlen, hfr, hd2, rfl⟩
      obtain ⟨rfl, hlt⟩ := rngD_at hx
      obtain ⟨r, d3, c1, hr, hd3⟩ := row_mk h1 (cs := cs) (tot := n) (P := P) (p := p) (fo := fo) (s6 := .sh (.int (done.length : Nat))) (s7 := s7) (o8 := o8) (s9 := op o9) hd2 (by omega) hl (by omega) (by omega) hb
      obtain ⟨r', d4, o9', c2, hr', hd4⟩ := row_old h1 h2 (tot := n) (P := P) (s6 := .sh (.int (done.length : Nat))) (o8 := o8) (o9 := o9) hd3 (by omega) hl hl0 (by omega) (by omega) hb hr (by omega) hfr
      have lf : (rL fo).length < 1000 := by simp [rL]; omega
      refine ⟨RE d2 cs n P p fo (.sh (.int (done.length : Nat))) s7 o8 (op o9), .nx, RE d4 cs n P p (fo ++ [r']) (.sh (.int (done.length : Nat))) (.ow false (.lst (iL r'))) o8 (op o9'), by simp [w6], ?_, .inl rfl, d4, fo ++ [r'], _, _, o8, o9', rfl, rfl, by simp [hlen], fun z hz => ?_, hd4.mono (by simp; omega), rfl⟩
      · have a1 : asS (lcC [8] (iterC (nameC 1)) (asgN 8) (ret true) (callV [true, true] g1 [nameC 0, nameC 4])) (asgN 7) (RE d2 cs n P p fo (.sh (.int (done.length : Nat))) s7 o8 (op o9)) = .ok (.nx, RE d3 cs n P p fo (.sh (.int (done.length : Nat))) (.ow false (.lst (iL r))) o8 (op o9)) := by
          simp only [asS_app, bnd_app, c1, obn_ok]
          simp [w7]
        have a3 : drS (appC (nameC 5) (callC tupleB [nameC 7])) (RE d4 cs n P p fo (.sh (.int (done.length : Nat))) (.ow false (.lst (iL r'))) o8 (op o9')) = .ok (.nx, RE d4 cs n P p (fo ++ [r']) (.sh (.int (done.length : Nat))) (.ow false (.lst (iL r'))) o8 (op o9')) := by
          simp [lf, rL_app]
        rw [seqS_cons, a1, obn_ok, seqK_nx, seqS_cons, c2, obn_ok, seqK_nx, seqS_cons, a3, obn_ok, seqK_nx, seqS_nil]
      · rcases List.mem_append.mp hz with hz | hz
        · exact hfr z hz
        · have : z = r' := by simpa using hz
          rw [this]; exact hr') ⟨d1, [], .em, .em, none, none, rfl, rfl, rfl, (fun _ h => by cases h), hd1, rfl⟩
  have hrl : (rngD 0 n).length = n := by simp [rngD]
  rw [hrl] at hlen hd'
  refine ⟨RE d' cs n P p fo s6 s7 o8 (op o9), fo, d', ?_, rfl, rfl, hd'.mono (by omega), hlen, hfr⟩
  have s2 : par2 4 5 (callV [true, true] g1 [nameC 0, nameC 3]) (lstC []) [.ow true d, .sh (.tup (sL cs)), .sh (.int (n : Nat)), .ow false P, .em, .em, .em, .em, .em, .em] = .ok (.nx, RE d1 cs n P p [] .em .em none (op none)) := by
    simp only [par2_app, bnd_app, p1, obn_ok]
    simp [op, rL]
  have s3 : forS (rngC rng1B [nameC 2]) (asgN 6) (seqS [asS (lcC [8] (iterC (nameC 1)) (asgN 8) (ret true) (callV [true, true] g1 [nameC 0, nameC 4])) (asgN 7), RW1 g1 g2, drS (appC (nameC 5) (callC tupleB [nameC 7]))]) (RE d1 cs n P p [] .em .em none (op none)) = .ok (.nx, RE d' cs n P p fo s6 s7 o8 (op o9)) := by
    rw [forS_app, bnd_app]
    have : rngC rng1B [nameC 2] (RE d1 cs n P p [] .em .em none (op none)) = .ok (rngD 0 n, RE d1 cs n P p [] .em .em none (op none)) := by simp [rng1_nat n (by omega)]
    rw [this, obn_ok, q]
  rw [evF_app]
  show (if [Slot.ow true d, Slot.sh (.tup (sL cs)), Slot.sh (.int (n : Nat))].length = 3 then obn (B__law_rows g1 g2 [.ow true d, .sh (.tup (sL cs)), .sh (.int (n : Nat)), .em, .em, .em, .em, .em, .em, .em]) endK else .err) = _
  refine (if_pos rfl).trans ?_
  unfold B__law_rows
  rw [seqS_cons, s1, obn_ok, seqK_nx, seqS_cons, s2, obn_ok, seqK_nx, seqS_cons, s3, obn_ok, seqK_nx]
  simp
end Pv
namespace Pv
open PySem L2

/-! ### plain laws of values and agreements -/
theorem asc_nodup {cs : List Str} (h : Asc cs) : cs.Nodup := List.Pairwise.imp (fun {a b} hab z => by subst z; exact absurd hab (List.lt_irrefl _)) h
theorem asc_sub {cs so : List Str} (h : Asc cs) (hs : so.Sublist cs) : Asc so := List.Pairwise.sublist hs h
theorem cols_sub {cs so : List Str} (h : Cols cs) (hs : so.Sublist cs) : Cols so := ⟨Nat.le_trans hs.length_le h.len, fun s z => h.nm s (hs.subset z), asc_sub h.asc hs⟩
theorem fm_congr {α β : Type} {f g : α → List β} : ∀ {l : List α}, (∀ a ∈ l, f a = g a) → l.flatMap f = l.flatMap g
  | [], _ => rfl
  | a :: l, h => by rw [List.flatMap_cons, List.flatMap_cons, h a List.mem_cons_self, fm_congr fun b hb => h b (List.mem_cons_of_mem _ hb)]
theorem nodup_ix {cs : List Str} (nd : cs.Nodup) {i j : Nat} {c : Str} (h1 : cs[i]? = some c) (h2 : cs[j]? = some c) : i = j := by
  obtain ⟨a1, a2⟩ := List.getElem?_eq_some_iff.mp h1
  obtain ⟨b1, b2⟩ := List.getElem?_eq_some_iff.mp h2
  rcases Nat.lt_trichotomy i j with h | h | h
  · exact absurd (a2.trans b2.symm) (List.pairwise_iff_getElem.mp nd i j a1 b1 h)
  · exact h
  · exact absurd (b2.trans a2.symm) (List.pairwise_iff_getElem.mp nd j i b1 a1 h)
theorem vals_pre (q : Str → Bool) : ∀ (cs : List Str) (r pre : List Int), r.length = cs.length → ((cs.zipIdx pre.length).filter fun p => q p.1).map (fun p => (pre ++ r).getD p.2 0) = ((cs.zip r).filter fun p => q p.1).map (·.2)
  | [], r, pre, _ => rfl
  | c :: cs, [], pre, h => by cases h
  | c :: cs, x :: r, pre, h => by
    have ih := vals_pre q cs r (pre ++ [x]) (by simpa using h)
    rw [List.append_assoc, List.singleton_append, List.length_append, List.length_singleton] at ih
    rw [List.zipIdx_cons, List.zip_cons_cons, List.filter_cons, List.filter_cons]
    have e : (pre ++ x :: r).getD pre.length 0 = x := by simp
    cases hq : q c with
    | true => simp only [hq, if_true, List.map_cons, ih, e]
    | false => simp only [hq, Bool.false_eq_true, if_false, ih]
theorem vals_eq {cs so : List Str} {r : List Int} (h : r.length = cs.length) : vals cs r so = ((cs.zip r).filter fun p => decide (p.1 ∈ so)).map (·.2) := by
  have := vals_pre (fun s => decide (s ∈ so)) cs r [] h
  simp only [List.length_nil, List.nil_append] at this
  unfold vals plcs
  rw [List.map_map]
  exact this
def lawVals (cs : List Str) (r : List Int) (so : List Str) : List Int := so.flatMap fun nm => ((cs.zip r).filter fun p => decide (p.1 = nm)).map (·.2)
theorem zip_no {cs : List Str} {a : Str} (h : a ∉ cs) (r : List Int) : ((cs.zip r).filter fun p => decide (p.1 = a)) = [] := by
  rw [List.filter_eq_nil_iff]
  intro p hp
  have := (List.of_mem_zip (show (p.1, p.2) ∈ cs.zip r from hp)).1
  simp only [decide_eq_true_eq]
  intro z
  exact h (by rw [← z]; exact this)
theorem law_vals : ∀ {so cs : List Str} {r : List Int}, so.Sublist cs → cs.Nodup → r.length = cs.length → lawVals cs r so = ((cs.zip r).filter fun p => decide (p.1 ∈ so)).map (·.2) := by
  intro so cs r hs
  induction hs generalizing r with
  | slnil => intro _ _; rfl
  | @cons so cs a hs ih =>
    intro nd hr
    rw [List.nodup_cons] at nd
    cases r with
    | nil => cases hr
    | cons x r =>
      have ih' := ih (r := r) nd.2 (by simpa using hr)
      have ha : a ∉ so := fun z => nd.1 (hs.subset z)
      rw [List.zip_cons_cons, List.filter_cons]
      simp only [ha, decide_false, Bool.false_eq_true, if_false]
      rw [← ih']
      unfold lawVals
      apply fm_congr
      intro nm hn
      have hne : a ≠ nm := fun z => ha (by rw [z]; exact hn)
      rw [List.zip_cons_cons, List.filter_cons]
      simp [hne]
  | @cons_cons so cs a hs ih =>
    intro nd hr
    rw [List.nodup_cons] at nd
    cases r with
    | nil => cases hr
    | cons x r =>
      have ih' := ih (r := r) nd.2 (by simpa using hr)
      have ha : a ∉ so := fun z => nd.1 (hs.subset z)
      have e1 : ((cs.zip r).filter fun p => decide (p.1 ∈ a :: so)) = ((cs.zip r).filter fun p => decide (p.1 ∈ so)) := by
        apply List.filter_congr
        intro p hp
        have hm := (List.of_mem_zip (show (p.1, p.2) ∈ cs.zip r from hp)).1
        have hne : p.1 ≠ a := fun z => nd.1 (by rw [← z]; exact hm)
        simp [hne]
      have e2 : so.flatMap (fun nm => (((a :: cs).zip (x :: r)).filter fun p => decide (p.1 = nm)).map (·.2)) = lawVals cs r so := by
        unfold lawVals
        apply fm_congr
        intro nm hn
        have hne : a ≠ nm := fun z => ha (by rw [z]; exact hn)
        rw [List.zip_cons_cons, List.filter_cons]
        simp [hne]
      unfold lawVals
      rw [List.flatMap_cons, e2, ih', List.zip_cons_cons, List.filter_cons, List.filter_cons, e1, zip_no nd.1]
      simp
theorem vals_all {cs : List Str} {r : List Int} (h : r.length = cs.length) : vals cs r cs = r := by
  rw [vals_eq h]
  have : ((cs.zip r).filter fun p => decide (p.1 ∈ cs)) = cs.zip r := List.filter_eq_self.mpr fun p hp => by
    have := (List.of_mem_zip (show (p.1, p.2) ∈ cs.zip r from hp)).1
    simpa using this
  rw [this]
  exact List.map_snd_zip (by omega)
theorem vals_no (cs : List Str) (r : List Int) : vals cs r [] = [] := by
  unfold vals plcs
  simp
theorem agr_sym : ∀ (cs : List Str) (r o : List Int), agr cs r o = agr cs o r
  | [], _, _ => rfl
  | c :: cs, [], [] => rfl
  | c :: cs, [], y :: o => rfl
  | c :: cs, x :: r, [] => rfl
  | c :: cs, x :: r, y :: o => by
    have ih := agr_sym cs r o
    unfold agr at ih ⊢
    rw [List.zip_cons_cons, List.zip_cons_cons, List.zip_cons_cons, List.zip_cons_cons, List.filter_cons, List.filter_cons]
    by_cases h : x = y
    · subst h; simp [ih]
    · have h2 : ¬ y = x := fun z => h z.symm
      simp only [h, h2, decide_false, Bool.false_eq_true, if_false, ih]
theorem agr_self : ∀ (cs : List Str) (r : List Int), r.length = cs.length → agr cs r r = cs
  | [], _, _ => rfl
  | c :: cs, [], h => by cases h
  | c :: cs, x :: r, h => by
    have ih := agr_self cs r (by simpa using h)
    unfold agr at ih ⊢
    rw [List.zip_cons_cons, List.zip_cons_cons, List.filter_cons]
    simp [ih]
theorem agr_sub : ∀ (cs : List Str) (r o : List Int), (agr cs r o).Sublist cs
  | [], _, _ => List.Sublist.refl _
  | c :: cs, [], _ => List.nil_sublist _
  | c :: cs, _ :: _, [] => List.nil_sublist _
  | c :: cs, x :: r, y :: o => by
    have ih := agr_sub cs r o
    unfold agr at ih ⊢
    rw [List.zip_cons_cons, List.zip_cons_cons, List.filter_cons]
    by_cases h : x = y
    · simp only [h, decide_true, if_true, List.map_cons]; exact ih.cons₂ c
    · simp only [h, decide_false, Bool.false_eq_true, if_false]; exact ih.cons c
/-- where they agree, they have the same values -/
theorem vals_agr {cs : List Str} (nd : cs.Nodup) : ∀ {r o : List Int}, r.length = cs.length → o.length = cs.length → vals cs r (agr cs r o) = vals cs o (agr cs r o) := by
  intro r o hr ho
  rw [vals_eq hr, vals_eq ho]
  have key : ∀ (cs : List Str) (r o : List Int) (S : List Str), r.length = cs.length → o.length = cs.length → (∀ (i : Nat) (c : Str) (x y : Int), cs[i]? = some c → r[i]? = some x → o[i]? = some y → c ∈ S → x = y) →
      ((cs.zip r).filter fun p => decide (p.1 ∈ S)).map (·.2) = ((cs.zip o).filter fun p => decide (p.1 ∈ S)).map (·.2) := by
    intro cs
    induction cs with
    | nil => intro r o S _ _ _; rfl
    | cons c cs ih =>
      intro r o S hr ho h
      cases r with
      | nil => cases hr
      | cons x r =>
        cases o with
        | nil => cases ho
        | cons y o =>
          have ih' := ih r o S (by simpa using hr) (by simpa using ho) fun i c' x' y' h1 h2 h3 => h (i + 1) c' x' y' (by simpa using h1) (by simpa using h2) (by simpa using h3)
          rw [List.zip_cons_cons, List.zip_cons_cons, List.filter_cons, List.filter_cons]
          by_cases hc : c ∈ S
          · have := h 0 c x y rfl rfl rfl hc
            subst this
            simp [hc, ih']
          · simp [hc, ih']
  refine key cs r o _ hr ho fun i c x y h1 h2 h3 hm => ?_
  unfold agr at hm
  obtain ⟨⟨c', x', y'⟩, hp, rfl⟩ := List.mem_map.mp hm
  obtain ⟨hz, he⟩ := List.mem_filter.mp hp
  obtain ⟨j, hj⟩ := List.getElem?_of_mem hz
  have hj' : cs[j]? = some c' ∧ r[j]? = some x' ∧ o[j]? = some y' := by
    rw [List.getElem?_zip_eq_some, List.getElem?_zip_eq_some] at hj
    exact hj
  have hij : i = j := nodup_ix nd h1 hj'.1
  subst hij
  rw [h2] at hj'
  rw [h3] at hj'
  have ex : x = x' := Option.some.inj hj'.2.1
  have ey : y = y' := Option.some.inj hj'.2.2
  rw [ex, ey]
  simpa using he
end Pv
namespace Pv
open PySem L2

theorem forL_ty {α : Type} {g : Val → M Unit} {b : M Fl} (c : α → D) (l : List α) (J : List α → En → Prop)
    (step : ∀ pre a post e, l = pre ++ a :: post → J pre e → ∃ e1 fl e2, g (.sh (c a)) e = .ok ((), e1) ∧ b e1 = .ok (fl, e2) ∧ (fl = .nx ∨ fl = .ct) ∧ J (pre ++ [a]) e2) {e : En} (h : J [] e) : ∃ e', forL g b (l.map c) e = .ok (.nx, e') ∧ J l e' := by
  have go : ∀ (post pre : List α) (e : En), l = pre ++ post → J pre e → ∃ e', forL g b (post.map c) e = .ok (.nx, e') ∧ J l e' := by
    intro post
    induction post with
    | nil =>
      intro pre e hl hj
      rw [List.append_nil] at hl
      subst hl
      exact ⟨e, rfl, hj⟩
    | cons a r ih =>
      intro pre e hl hj
      obtain ⟨e1, fl, e2, h1, h2, h3, h4⟩ := step pre a r e hl hj
      obtain ⟨e', h5, h6⟩ := ih (pre ++ [a]) e2 (by simpa using hl) h4
      refine ⟨e', ?_, h6⟩
      rw [List.map_cons, forL_cons, h1, obn_ok, h2, obn_ok]
      rcases h3 with rfl | rfl <;> exact h5
  exact go l [] e rfl h
theorem nc_name {s : Str} (h : Nm s) : NC 0 82 (.str s) := nc_str h.2.1 fun c hc => by have := h.2.2 c hc; omega
theorem nc_cols {cs : List Str} (h : Cols cs) : NC 1 700 (.tup (sL cs)) := by
  refine (nc_tup (a := 0) (w := 82) (l := sL cs) fun d hd => ?_).mono (Nat.le_refl 1) ?_
  · obtain ⟨s, hs, rfl⟩ := List.mem_map.mp hd
    exact nc_name (h.nm s hs)
  · have := h.len
    rw [len_sL]; omega
/-! ### the law's own way to the values -/
def OkLawVals (ev : Ev) : Prop := ∀ (cs : List Str) (r : List Int) (so : List Str), cs.length ≤ 8 → so.length ≤ 8 → ∃ e', ev [.sh (.tup (sL cs)), .sh (.tup (iL r)), .sh (.tup (sL so))] = .ok (.sh (.tup (iL (lawVals cs r so))), e')
theorem z2_si : ∀ (cs : List Str) (r : List Int), z2L (sL cs) (iL r) = (cs.zip r).map fun p => .tup [.str p.1, .int p.2]
  | [], r => rfl
  | c :: cs, [] => rfl
  | c :: cs, a :: r => congrArg (D.tup [.str c, .int a] :: ·) (z2_si cs r)
theorem iL_app (A : List Int) (x : Int) : iL A ++ [.int x] = iL (A ++ [x]) := by simp [iL]
theorem ok_lawvals : OkLawVals (evF 7 3 B__law_values) := by
  intro cs r so hc hs
  let E : List Int → Option D → Option D → Option D → En := fun A o4 o5 o6 => [.sh (.tup (sL cs)), .sh (.tup (iL r)), .sh (.tup (sL so)), .ow false (.lst (iL A)), op o4, op o5, op o6]
  obtain ⟨e', q, A, o4, o5, o6, hA, hl, rfl⟩ := forL_ty (g := asgN 4) (b := seqS [forS (walkC zpB [nameC 0, nameC 1]) (asgT [asgN 5, asgN 6]) (seqS [ifS (cmpT (binC (eqD) (nameC 5) (nameC 4))) (seqS [drS (appC (nameC 3) (nameC 6))]) (seqS [])])]) D.str so
    (fun pre e => ∃ A o4 o5 o6, A = lawVals cs r pre ∧ A.length ≤ 8 * pre.length ∧ e = E A o4 o5 o6) (fun pre nm post e hx => by
      rintro ⟨A, o4, o5, o6, hA, hl, rfl⟩
      have hpre : pre.length ≤ 8 := by rw [hx] at hs; simp at hs; omega
      obtain ⟨e2, q2, B, p5, p6, hB, hl2, rfl⟩ := forL_ty (g := asgT [asgN 5, asgN 6]) (b := seqS [ifS (cmpT (binC (eqD) (nameC 5) (nameC 4))) (seqS [drS (appC (nameC 3) (nameC 6))]) (seqS [])]) (fun p : Str × Int => D.tup [.str p.1, .int p.2]) (cs.zip r)
        (fun pre2 e => ∃ B p5 p6, B = A ++ (pre2.filter fun p => decide (p.1 = nm)).map (·.2) ∧ B.length ≤ A.length + pre2.length ∧ e = E B (some (.str nm)) p5 p6) (fun pre2 p post2 e hy => by
          rintro ⟨B, p5, p6, hB, hl2, rfl⟩
          have hp2 : pre2.length ≤ 8 := by
            have := congrArg List.length hy
            rw [List.length_zip, List.length_append, List.length_cons] at this
            omega
          have hBl : B.length < 1000 := by omega
          by_cases h : p.1 = nm
          · refine ⟨E B (some (.str nm)) (some (.str p.1)) (some (.int p.2)), .nx, E (B ++ [p.2]) (some (.str nm)) (some (.str p.1)) (some (.int p.2)), by simp [E], by simp [E, h, hBl, iL_app], .inl rfl, B ++ [p.2], _, _, by rw [hB, List.filter_append]; simp [h], by simp; omega, rfl⟩
          · refine ⟨E B (some (.str nm)) (some (.str p.1)) (some (.int p.2)), .nx, E B (some (.str nm)) (some (.str p.1)) (some (.int p.2)), by simp [E], by simp [E, h], .inl rfl, B, _, _, by rw [hB, List.filter_append]; simp [h], by simp; omega, rfl⟩)
        (e := E A (some (.str nm)) o5 o6) ⟨A, o5, o6, by simp, by simp, rfl⟩
      have hz : (cs.zip r).length ≤ 8 := by rw [List.length_zip]; omega
      refine ⟨E A (some (.str nm)) o5 o6, .nx, E B (some (.str nm)) p5 p6, by simp [E], ?_, .inl rfl, B, _, p5, p6, by rw [hB, hA]; simp [lawVals], by simp; omega, rfl⟩
      have w : walkC zpB [nameC 0, nameC 1] (E A (some (.str nm)) o5 o6) = .ok ((cs.zip r).map fun p : Str × Int => D.tup [.str p.1, .int p.2], E A (some (.str nm)) o5 o6) := by simp [E, z2_si]
      rw [seqS_cons, forS_app, bnd_app, w, obn_ok, q2, obn_ok, seqK_nx, seqS_nil]) (e := E [] none none none) ⟨[], none, none, none, rfl, Nat.zero_le _, rfl⟩
  refine ⟨E A o4 o5 o6, ?_⟩
  rw [evF_app]
  refine (if_pos rfl).trans ?_
  show obn (B__law_values [.sh (.tup (sL cs)), .sh (.tup (iL r)), .sh (.tup (sL so)), .em, .em, .em, .em]) endK = _
  have s1 : asS (lstC []) (asgN 3) [.sh (.tup (sL cs)), .sh (.tup (iL r)), .sh (.tup (sL so)), .em, .em, .em, .em] = .ok (.nx, E [] none none none) := by simp [E, iL]
  have w : iterC (nameC 2) (E [] none none none) = .ok (so.map D.str, E [] none none none) := by simp [E, sL]
  unfold B__law_values
  rw [seqS_cons, s1, obn_ok, seqK_nx, seqS_cons, forS_app, bnd_app, w, obn_ok, q, obn_ok, seqK_nx, ← hA]
  simp [E]
end Pv
namespace Pv
open PySem L2



theorem ix_str {cs : List Str} {i : Nat} (h : i < cs.length) : ixD (.tup (sL cs)) (.int (i : Nat)) = some (.str cs[i]) := by
  show atI (sL cs) (i : Int) = _
  have : ixN (sL cs).length (i : Int) = some i := by
    unfold ixN
    rw [len_sL]
    simp [h]
  unfold atI
  rw [this]
  show (sL cs)[i]? = _
  unfold sL
  rw [List.getElem?_map]
  simp [h]
theorem ix_int {r : List Int} {i : Nat} (h : i < r.length) : ixD (.tup (iL r)) (.int (i : Nat)) = some (.int r[i]) := by
  rw [ix_nat h]
  simp [h]
theorem sL_app (A : List Str) (x : Str) : sL A ++ [.str x] = sL (A ++ [x]) := by simp [sL]
def OkPair (ev : Ev) : Prop := ∀ (cs : List Str) (r o : List Int), Cols cs → RowOk cs.length r → RowOk cs.length o → ∃ e', ev [.sh (.tup (sL cs)), .sh (.tup (iL r)), .sh (.tup (iL o))] = .ok (.sh (.bl true), e')
theorem ok_pair {g : Ev} (h : OkAgr g) : OkPair (evF 6 3 (B__law_pair_right g)) := by
  intro cs r o hc hr ho
  have hl := hc.len
  let Z := cs.zip (r.zip o)
  have hZ : Z.length = cs.length := by simp only [Z, List.length_zip, hr.1, ho.1]; omega
  let A : Nat → List Str := fun k => ((Z.take k).filter fun p => decide (p.2.1 = p.2.2)).map (·.1)
  let E : List Str → Option D → En := fun A o4 => [.sh (.tup (sL cs)), .sh (.tup (iL r)), .sh (.tup (iL o)), .ow false (.lst (sL A)), op o4, .em]
  obtain ⟨e', q, o4, rfl⟩ := forL_rule (g := asgN 4) (b := seqS [ifS (cmpT (binC (eqD) (ixC (nameC 1) (nameC 4)) (ixC (nameC 2) (nameC 4)))) (seqS [drS (appC (nameC 3) (ixC (nameC 0) (nameC 4)))]) (seqS [])]) (ds := rngD 0 cs.length)
    (fun done e => ∃ o4, e = E (A done.length) o4) (fun done x rest e hx => by
      rintro ⟨o4, rfl⟩
      obtain ⟨rfl, hlt⟩ := rngD_at hx
      generalize hdl : done.length = k at hlt ⊢
      have h1 : k < r.length := by rw [hr.1]; exact hlt
      have h2 : k < o.length := by rw [ho.1]; exact hlt
      have hk : k < Z.length := by rw [hZ]; exact hlt
      have hz : Z[k] = (cs[k], r[k], o[k]) := by simp [Z]
      have hA : A (k + 1) = A k ++ (if r[k] = o[k] then [cs[k]] else []) := by
        simp only [A]
        rw [List.take_add_one, List.getElem?_eq_getElem hk, hz, List.filter_append, List.map_append]
        by_cases e : r[k] = o[k] <;> simp [e]
      have hAl : (A k).length < 1000 := by
        simp only [A]
        rw [List.length_map]
        have := List.length_filter_le (fun p : Str × Int × Int => decide (p.2.1 = p.2.2)) (Z.take k)
        have h3 : (Z.take k).length ≤ k := by rw [List.length_take]; omega
        omega
      refine ⟨E (A k) (some (.int (k : Nat))), .nx, E (A (k + 1)) (some (.int (k : Nat))), by simp [E], ?_, .inl rfl, some (.int (k : Nat)), by simp [hdl]⟩
      rw [hA]
      by_cases e : r[k] = o[k]
      · simp [E, ix_int h1, ix_int h2, e, ix_str hlt, hAl, sL_app]
      · simp [E, ix_int h1, ix_int h2, e]) (e := E [] none) ⟨none, rfl⟩
  have hrl : (rngD 0 cs.length).length = cs.length := by simp [rngD]
  rw [hrl] at q
  have hAe : A cs.length = agr cs r o := by
    simp only [A, agr]
    rw [List.take_of_length_le (by rw [hZ]; exact Nat.le_refl _)]
  rw [hAe] at q
  have hsub := agr_sub cs r o
  have hca : Cols (agr cs r o) := cols_sub hc hsub
  obtain ⟨e1, he1⟩ := h cs r o hc hr.1 ho.1
  obtain ⟨e2, he2⟩ := h cs o r hc ho.1 hr.1
  obtain ⟨e3, he3⟩ := h cs r r hc hr.1 hr.1
  rw [agr_sym cs o r] at he2
  rw [agr_self cs r hr.1] at he3
  have nc : NC 2 2000 (.lst [.tup (sL (agr cs r o)), .tup (sL (agr cs r o))]) := (nc_lst (a := 1) (w := 700) fun d hd => by
    have : d = .tup (sL (agr cs r o)) := by simpa using hd
    rw [this]; exact nc_cols hca).mono (Nat.le_refl 2) (by simp)
  have rp := nc.reprB (by decide) (by decide)
  have eqc := NC.eq (nc_cols hc) (nc_cols hc) (by decide) (by decide)
  rw [(nc_cols hc).refl] at eqc
  refine ⟨[.sh (.tup (sL cs)), .sh (.tup (iL r)), .sh (.tup (iL o)), .ow false (.lst (sL (agr cs r o))), op o4, .ow false (.lst [.tup (sL (agr cs r o)), .tup (sL (agr cs r o))])], ?_⟩
  have s1 : asS (lstC []) (asgN 3) [.sh (.tup (sL cs)), .sh (.tup (iL r)), .sh (.tup (iL o)), .em, .em, .em] = .ok (.nx, E [] none) := by simp [E, sL]
  have w : rngC rng1B [callC lenB [nameC 0]] (E [] none) = .ok (rngD 0 cs.length, E [] none) := by simp [E, rng1_nat cs.length (by omega)]
  have s3 : asS (lstC [callV [false, false, false] g [nameC 0, nameC 1, nameC 2], callV [false, false, false] g [nameC 0, nameC 2, nameC 1]]) (asgN 5) (E (agr cs r o) o4) = .ok (.nx, [.sh (.tup (sL cs)), .sh (.tup (iL r)), .sh (.tup (iL o)), .ow false (.lst (sL (agr cs r o))), op o4, .ow false (.lst [.tup (sL (agr cs r o)), .tup (sL (agr cs r o))])]) := by simp [E, he1, he2]
  rw [evF_app]
  refine (if_pos rfl).trans ?_
  show obn (B__law_pair_right g [.sh (.tup (sL cs)), .sh (.tup (iL r)), .sh (.tup (iL o)), .em, .em, .em]) endK = _
  unfold B__law_pair_right
  rw [seqS_cons, s1, obn_ok, seqK_nx, seqS_cons, forS_app, bnd_app, w, obn_ok, q, obn_ok, seqK_nx, seqS_cons, s3, obn_ok, seqK_nx]
  simp [rp, he3, eqc]
end Pv
namespace Pv
open PySem L2

theorem mk_at {ev : Ev} (h : OkMk ev) {N k n : Nat} {e e1 : En} {b : Bool} {d0 d : D} {ft : M Val} (hk0 : e[k]? = some (.ow b d0)) (hk : e1[k]? = some (.ow b d)) (hd : Di N d) (hN : N < 2 ^ 59) (hft : ft e = .ok (.sh (.int (n : Nat)), e1)) (hn : n ≤ 8) :
    ∃ cs d', callV [true, false] ev [nameC k, ft] e = .ok (.sh (.tup (sL cs)), e1.set k (.ow b d')) ∧ Di (N + 40) d' ∧ Cols cs ∧ cs.length = n := by
  obtain ⟨e', cs, d', h1, h2, h3, h4, h5⟩ := h N d n hd hN hn
  exact ⟨cs, d', by simp [hk0, hft, hk, h1, h2], h3, h4, h5⟩
theorem nc_vals {r : List Int} {n : Nat} (hl : r.length ≤ 8) (hb : ∀ i ∈ r, Bd i) : NC 1 350 (.tup (iL r)) := nc_row ⟨rfl, hb⟩ hl
theorem vals_mem {cs : List Str} {r : List Int} {so : List Str} (h : r.length = cs.length) : (vals cs r so).length ≤ cs.length ∧ ∀ i ∈ vals cs r so, i ∈ r := by
  rw [vals_eq h]
  refine ⟨?_, fun i hi => ?_⟩
  · rw [List.length_map]
    refine Nat.le_trans (List.length_filter_le _ _) ?_
    rw [List.length_zip]; omega
  · obtain ⟨p, hp, rfl⟩ := List.mem_map.mp hi
    have := (List.mem_filter.mp hp).1
    exact (List.of_mem_zip (show (p.1, p.2) ∈ cs.zip r from this)).2
def OkRight (ev : Ev) : Prop := ∀ (N : Nat) (d : D), Di N d → N < 2 ^ 56 → ∃ e' d', ev [.ow true d] = .ok (.sh (.bl true), e') ∧ e'[0]? = some (.ow true d') ∧ Di (N + 1000) d'
theorem ok_right {g1 g2 g3 g4 g5 g6 g7 g8 : Ev} (h1 : OkMk g1) (h2 : OkPull g2) (h3 : OkRows g3) (h4 : OkSome g4) (h5 : OkValuesAt g5) (h6 : OkLawVals g6) (h7 : OkPair g7) (h8 : OkAgr g8) : OkRight (evF 8 1 (B__law_right g1 g2 g3 g4 g5 g6 g7 g8)) := by
  intro N d hd hN
  -- the columns
  obtain ⟨r9, d1, p1, hd1, r0, r1⟩ := pull_at h2 (k := 0) (e := [.ow true d, .em, .em, .em, .em, .em, .em, .em]) (ft := conC (.int 9)) (t := 9) rfl hd (by omega) rfl (by omega) (by omega)
  obtain ⟨n, rfl⟩ : ∃ n : Nat, r9 = (n : Int) := ⟨r9.toNat, by omega⟩
  obtain ⟨cs, d2, p2, hd2, hc, hcn⟩ := mk_at h1 (k := 0) (n := n) (e := [.ow true d, .em, .em, .em, .em, .em, .em, .em]) (e1 := [.ow true d1, .em, .em, .em, .em, .em, .em, .em]) (b := true) rfl rfl hd1 (by omega) p1 (by omega)
  have s1 : asS (callV [true, false] g1 [nameC 0, callV [true, true] g2 [nameC 0, conC (.int 9)]]) (asgN 1) [.ow true d, .em, .em, .em, .em, .em, .em, .em] = .ok (.nx, [.ow true d2, .sh (.tup (sL cs)), .em, .em, .em, .em, .em, .em]) := by
    simp only [asS_app, bnd_app, p2, obn_ok]
    simp
  have hl := hc.len
  have ncc := nc_cols hc
  have nce := NC.ne ncc (nc_tup (a := 0) (w := 0) (l := []) fun d hd => by cases hd) (by decide) (by decide)
  -- the lines
  obtain ⟨rows, d3, s2, hd3, hfr, hfl⟩ : ∃ rows d3, asS (ifC (cmpT (binC (neD) (nameC 1) (tupC []))) (callV [true, false, false] g3 [nameC 0, nameC 1, conC (.int 4)]) (lstC [tupC [], tupC []])) (asgN 2) [.ow true d2, .sh (.tup (sL cs)), .em, .em, .em, .em, .em, .em] = .ok (.nx, [.ow true d3, .sh (.tup (sL cs)), .ow false (.lst (rL rows)), .em, .em, .em, .em, .em]) ∧ Di (N + 200) d3 ∧ (∀ r ∈ rows, RowOk cs.length r) ∧ rows.length ≤ 4 := by
    cases hcs : cs with
    | nil =>
      have nce' : neD (.tup (sL [])) (.tup []) = some (.sh (.bl false)) := by rw [hcs] at nce; exact nce
      refine ⟨[[], []], d2, by simp [nce', rL, iL], hd2.mono (by omega), fun r hr => ?_, by decide⟩
      have : r = [] := by simpa using hr
      rw [this]
      exact ⟨rfl, fun i hi => by cases hi⟩
    | cons c cs' =>
      rw [← hcs]
      have nce' : neD (.tup (sL cs)) (.tup []) = some (.sh (.bl true)) := by rw [nce, hcs]; rfl
      obtain ⟨e', rows, d3, q1, q2, q3, q4, q5, q6⟩ := h3 (N + 1 + 40) d2 cs 4 hd2 (by omega) (by rw [hcs]; simp) hl (by omega)
      have q1' : g3 [.ow true d2, .sh (.tup (sL cs)), .sh (.int 4)] = .ok (.ow 5, e') := q1
      refine ⟨rows, d3, ?_, q4.mono (by omega), q6, by omega⟩
      simp [nce', q1', q2, goK_ow _ _ _ _ _ q3]
  have ncr := nc_rows hfr hl (by omega)
  have ncl : NC 3 10000 (.lst [.tup (sL cs), .lst (rL rows)]) := (nc_lst (a := 2) (w := 3600) fun d hd => by
    have : d = .tup (sL cs) ∨ d = .lst (rL rows) := by simpa using hd
    rcases this with rfl | rfl
    · exact ncc.mono (by decide) (by decide)
    · exact ncr).mono (Nat.le_refl 3) (by simp)
  have rpl := ncl.reprB (by decide) (by decide)
  generalize hkp : (D.lst [.tup (sL cs), .lst (rL rows)]).py.shown = kp at rpl
  have s3 : asS (callC reprB [lstC [nameC 1, nameC 2]]) (asgN 3) [.ow true d3, .sh (.tup (sL cs)), .ow false (.lst (rL rows)), .em, .em, .em, .em, .em] = .ok (.nx, [.ow true d3, .sh (.tup (sL cs)), .sh (.lst (rL rows)), .sh (.str kp), .em, .em, .em, .em]) := by simp [rpl]
  let E : D → Option D → Option D → Option D → Option D → En := fun d o4 o5 o6 o7 => [.ow true d, .sh (.tup (sL cs)), .sh (.lst (rL rows)), .sh (.str kp), op o4, op o5, op o6, op o7]
  have nd := asc_nodup hc.asc
  -- the rows, one by one
  obtain ⟨e', q, d', o4, o5, o6, o7, hd', rfl⟩ := forL_ty (g := asgN 4) (b := seqS [asS (callV [true, false, true] g4 [nameC 0, nameC 1, conC (.int 2)]) (asgN 5), ifS (cmpT (binC (neD) (callC reprB [callV [false, false, false] g5 [nameC 1, nameC 4, nameC 5]]) (callC reprB [callV [false, false, false] g6 [nameC 1, nameC 4, nameC 5]]))) (seqS [rtS (conC (.bl false))]) (seqS []), ifS (bopT true [cmpT (binC (neD) (callV [false, false, false] g5 [nameC 1, nameC 4, nameC 1]) (nameC 4)), cmpT (binC (neD) (callV [false, false, false] g5 [nameC 1, nameC 4, tupC []]) (tupC []))]) (seqS [rtS (conC (.bl false))]) (seqS []), forS (iterC (nameC 2)) (asgN 6) (seqS [ifS (notT (truC (callV [false, false, false] g7 [nameC 1, nameC 4, nameC 6]))) (seqS [rtS (conC (.bl false))]) (seqS []), asS (callV [false, false, false] g8 [nameC 1, nameC 4, nameC 6]) (asgN 7), ifS (cmpT (binC (neD) (callV [false, false, false] g5 [nameC 1, nameC 4, nameC 7]) (callV [false, false, false] g5 [nameC 1, nameC 6, nameC 7]))) (seqS [rtS (conC (.bl false))]) (seqS [])])])
    (fun r : List Int => D.tup (iL r)) rows (fun pre e => ∃ d' o4 o5 o6 o7, Di (N + 200 + 8 * pre.length) d' ∧ e = E d' o4 o5 o6 o7) (fun pre r post e hx => by
      rintro ⟨da, o4, o5, o6, o7, hda, rfl⟩
      have hpre : pre.length ≤ 4 := by have := congrArg List.length hx; simp at this; omega
      have hr : RowOk cs.length r := hfr r (by rw [hx]; simp)
      obtain ⟨e4, so, db, z1, z2, z3, z4⟩ := h4 (N + 200 + 8 * pre.length) da cs 2 hda (by omega) hl (by omega) (by omega)
      have hso := cols_sub hc z4
      have t1 : asS (callV [true, false, true] g4 [nameC 0, nameC 1, conC (.int 2)]) (asgN 5) (E da (some (.tup (iL r))) o5 o6 o7) = .ok (.nx, E db (some (.tup (iL r))) (some (.tup (sL so))) o6 o7) := by simp [E, z1, z2]
      obtain ⟨f1, hf1⟩ := h5 cs r so hc hr.1 hso fun s hs => z4.subset hs
      obtain ⟨f2, hf2⟩ := h6 cs r so hl hso.len
      rw [law_vals z4 nd hr.1, ← vals_eq hr.1] at hf2
      obtain ⟨v1, v2⟩ := vals_mem (so := so) hr.1
      have ncv : NC 1 350 (.tup (iL (vals cs r so))) := nc_row ⟨rfl, fun i hi => hr.2 i (v2 i hi)⟩ (by omega)
      have rpv := ncv.reprB (by decide) (by decide)
      have t2 : ifS (cmpT (binC (neD) (callC reprB [callV [false, false, false] g5 [nameC 1, nameC 4, nameC 5]]) (callC reprB [callV [false, false, false] g6 [nameC 1, nameC 4, nameC 5]]))) (seqS [rtS (conC (.bl false))]) (seqS []) (E db (some (.tup (iL r))) (some (.tup (sL so))) o6 o7) = .ok (.nx, E db (some (.tup (iL r))) (some (.tup (sL so))) o6 o7) := by simp [E, hf1, hf2, rpv]
      obtain ⟨f3, hf3⟩ := h5 cs r cs hc hr.1 hc fun s hs => hs
      rw [vals_all hr.1] at hf3
      obtain ⟨f4, hf4⟩ := h5 cs r [] hc hr.1 ⟨by simp, (fun s hs => by cases hs), .nil⟩ fun s hs => by cases hs
      rw [vals_no] at hf4
      have hf4' : g5 [.sh (.tup (sL cs)), .sh (.tup (iL r)), .sh (.tup [])] = .ok (.sh (.tup []), f4) := hf4
      have ncw := nc_row hr hl
      have neq := NC.ne ncw ncw (by decide) (by decide)
      rw [ncw.refl] at neq
      have neq0 : neD (.tup []) (.tup []) = some (.sh (.bl false)) := rfl
      have t3 : ifS (bopT true [cmpT (binC (neD) (callV [false, false, false] g5 [nameC 1, nameC 4, nameC 1]) (nameC 4)), cmpT (binC (neD) (callV [false, false, false] g5 [nameC 1, nameC 4, tupC []]) (tupC []))]) (seqS [rtS (conC (.bl false))]) (seqS []) (E db (some (.tup (iL r))) (some (.tup (sL so))) o6 o7) = .ok (.nx, E db (some (.tup (iL r))) (some (.tup (sL so))) o6 o7) := by simp [E, hf3, neq, hf4', neq0]
      obtain ⟨e6, q6, p6, p7, rfl⟩ := forL_ty (g := asgN 6) (b := seqS [ifS (notT (truC (callV [false, false, false] g7 [nameC 1, nameC 4, nameC 6]))) (seqS [rtS (conC (.bl false))]) (seqS []), asS (callV [false, false, false] g8 [nameC 1, nameC 4, nameC 6]) (asgN 7), ifS (cmpT (binC (neD) (callV [false, false, false] g5 [nameC 1, nameC 4, nameC 7]) (callV [false, false, false] g5 [nameC 1, nameC 6, nameC 7]))) (seqS [rtS (conC (.bl false))]) (seqS [])])
        (fun r : List Int => D.tup (iL r)) rows (fun pre2 e => ∃ p6 p7, e = E db (some (.tup (iL r))) (some (.tup (sL so))) p6 p7) (fun pre2 o post2 e hy => by
          rintro ⟨p6, p7, rfl⟩
          have ho : RowOk cs.length o := hfr o (by rw [hy]; simp)
          obtain ⟨k1, hk1⟩ := h7 cs r o hc hr ho
          obtain ⟨k2, hk2⟩ := h8 cs r o hc hr.1 ho.1
          have hsub := agr_sub cs r o
          have hca := cols_sub hc hsub
          obtain ⟨k3, hk3⟩ := h5 cs r (agr cs r o) hc hr.1 hca fun s hs => hsub.subset hs
          obtain ⟨k4, hk4⟩ := h5 cs o (agr cs r o) hc ho.1 hca fun s hs => hsub.subset hs
          rw [← vals_agr nd hr.1 ho.1] at hk4
          obtain ⟨w1, w2⟩ := vals_mem (so := agr cs r o) hr.1
          have nca : NC 1 350 (.tup (iL (vals cs r (agr cs r o)))) := nc_row ⟨rfl, fun i hi => hr.2 i (w2 i hi)⟩ (by omega)
          have nea := NC.ne nca nca (by decide) (by decide)
          rw [nca.refl] at nea
          exact ⟨E db (some (.tup (iL r))) (some (.tup (sL so))) (some (.tup (iL o))) p7, .nx, E db (some (.tup (iL r))) (some (.tup (sL so))) (some (.tup (iL o))) (some (.tup (sL (agr cs r o)))), by simp [E], by simp [E, hk1, hk2, hk3, hk4, nea], .inl rfl, _, _, rfl⟩)
        (e := E db (some (.tup (iL r))) (some (.tup (sL so))) o6 o7) ⟨o6, o7, rfl⟩
      have w : iterC (nameC 2) (E db (some (.tup (iL r))) (some (.tup (sL so))) o6 o7) = .ok (rows.map fun r : List Int => D.tup (iL r), E db (some (.tup (iL r))) (some (.tup (sL so))) o6 o7) := by simp [E, rL]
      refine ⟨E da (some (.tup (iL r))) o5 o6 o7, .nx, E db (some (.tup (iL r))) (some (.tup (sL so))) p6 p7, by simp [E], ?_, .inl rfl, db, _, _, p6, p7, z3.mono (by simp; omega), rfl⟩
      rw [seqS_cons, t1, obn_ok, seqK_nx, seqS_cons, t2, obn_ok, seqK_nx, seqS_cons, t3, obn_ok, seqK_nx, seqS_cons, forS_app, bnd_app, w, obn_ok, q6, obn_ok, seqK_nx, seqS_nil]) (e := E d3 none none none none) ⟨d3, none, none, none, none, hd3, rfl⟩
  have w : iterC (nameC 2) (E d3 none none none none) = .ok (rows.map fun r : List Int => D.tup (iL r), E d3 none none none none) := by simp [E, rL]
  refine ⟨E d' o4 o5 o6 o7, d', ?_, rfl, hd'.mono (by omega)⟩
  rw [evF_app]
  refine (if_pos rfl).trans ?_
  show obn (B__law_right g1 g2 g3 g4 g5 g6 g7 g8 [.ow true d, .em, .em, .em, .em, .em, .em, .em]) endK = _
  have e0 : ([Slot.ow true d3, .sh (.tup (sL cs)), .sh (.lst (rL rows)), .sh (.str kp), .em, .em, .em, .em] : En) = E d3 none none none none := by simp [E]
  unfold B__law_right
  rw [seqS_cons, s1, obn_ok, seqK_nx, seqS_cons, s2, obn_ok, seqK_nx, seqS_cons, s3, obn_ok, seqK_nx, e0, seqS_cons, forS_app, bnd_app, w, obn_ok, q, obn_ok, seqK_nx]
  simp [E, rpl]
end Pv
namespace Pv
open PySem L2

def hrt : List Str := ["hour", "room", "talk"]
def ht : List Str := ["hour", "talk"]
instance (s : Str) : Decidable (Nm s) := inferInstanceAs (Decidable (1 ≤ s.length ∧ s.length ≤ 8 ∧ ∀ c ∈ s.cps.toList, 97 ≤ c ∧ c ≤ 122))
theorem cols_hrt : Cols hrt := ⟨by decide, by decide +kernel, by unfold Asc; decide +kernel⟩
theorem cols_ht : Cols ht := ⟨by decide, by decide +kernel, by unfold Asc; decide +kernel⟩
theorem ok_law02 {g1 g2 g3 g4 : Ev} (h1 : OkDice g1) (h2 : OkRight g2) (h3 : OkValuesAt g3) (h4 : OkAgr g4) (ns : List Int) (hn : ns.length ≤ 63) : ∃ e', evF 6 1 (B_law g1 g2 g3 g4) [.sh (.scr ns)] = .ok (.sh (.bl true), e') := by
  let S := Slot.sh (.scr ns)
  -- the rounds
  obtain ⟨n, hn10, w⟩ : ∃ n : Nat, n ≤ 10 ∧ rngC rng1B [callC maxB [conC (.int 1), callC minB [conC (.int 10), callC lenB [nameC 0]]]] [S, .em, .em, .em, .em, .em] = .ok (rngD 0 n, [S, .em, .em, .em, .em, .em]) := by
    generalize hm : (if (ns.length : Int) < 10 then (ns.length : Int) else 10) = m
    have m0 : 0 ≤ m ∧ m ≤ 10 := by rw [← hm]; split <;> omega
    generalize hx : (if m > 1 then m else 1) = x
    have x0 : 1 ≤ x ∧ x ≤ 10 := by rw [← hx]; split <;> omega
    obtain ⟨n, rfl⟩ : ∃ n : Nat, x = (n : Int) := ⟨x.toNat, by omega⟩
    have e1 : minB [.int 10, .int (ns.length : Nat)] = some (.sh (.int m)) := by rw [min_int, hm]
    have e2 : maxB [.int 1, .int m] = some (.sh (.int (n : Nat))) := by rw [max_int, hx]
    exact ⟨n, by omega, by simp [S, e1, e2, rng1_nat n (by omega), -min_int, -max_int]⟩
  obtain ⟨e', q, o1, s2, o3, w2, rfl⟩ := forL_rule (g := asgN 1) (b := seqS [asS (callV [true, false] g1 [nameC 0, nameC 1]) (asgN 2), forS (rngC rng1B [conC (.int 3)]) (asgN 3) (seqS [ifS (notT (truC (callV [true] g2 [nameC 2]))) (seqS [rtS (conC (.bl false))]) (seqS [])])]) (ds := rngD 0 n)
    (fun done e => ∃ (o1 : Option D) (s2 : Slot) (o3 : Option D), wOk s2 = true ∧ e = [S, op o1, s2, op o3, .em, .em]) (fun done x rest e hx => by
      rintro ⟨o1, s2, o3, w2, rfl⟩
      obtain ⟨rfl, hlt⟩ := rngD_at hx
      generalize done.length = k at hlt
      obtain ⟨e1, d, z1, hd⟩ := h1 ns k (by omega)
      obtain ⟨e3, q3, d', o3', hd', rfl⟩ := forL_rule (g := asgN 3) (b := seqS [ifS (notT (truC (callV [true] g2 [nameC 2]))) (seqS [rtS (conC (.bl false))]) (seqS [])]) (ds := rngD 0 3)
        (fun done2 e => ∃ (d' : D) (o3 : Option D), Di (1000 * done2.length) d' ∧ e = [S, .sh (.int (k : Nat)), .ow false d', op o3, .em, .em]) (fun done2 x2 rest2 e hx2 => by
          rintro ⟨d', o3, hd', rfl⟩
          obtain ⟨rfl, hlt2⟩ := rngD_at hx2
          obtain ⟨e5, d5, y1, y2, y3⟩ := h2 _ d' hd' (by omega)
          exact ⟨[S, .sh (.int (k : Nat)), .ow false d', .sh (.int (done2.length : Nat)), .em, .em], .nx, [S, .sh (.int (k : Nat)), .ow false d5, .sh (.int (done2.length : Nat)), .em, .em], by simp, by simp [y1, y2], .inl rfl, d5, some (.int (done2.length : Nat)), by simpa [Nat.mul_add] using y3, rfl⟩)
        (e := [S, .sh (.int (k : Nat)), .ow false d, op o3, .em, .em]) ⟨d, o3, by simpa using hd, rfl⟩
      refine ⟨[S, .sh (.int (k : Nat)), s2, op o3, .em, .em], .nx, [S, .sh (.int (k : Nat)), .ow false d', op o3', .em, .em], by simp, ?_, .inl rfl, some (.int (k : Nat)), _, o3', rfl, rfl⟩
      have t1 : asS (callV [true, false] g1 [nameC 0, nameC 1]) (asgN 2) [S, .sh (.int (k : Nat)), s2, op o3, .em, .em] = .ok (.nx, [S, .sh (.int (k : Nat)), .ow false d, op o3, .em, .em]) := by simp [S, z1, w2]
      have r3 : rngC rng1B [conC (.int 3)] [S, .sh (.int (k : Nat)), .ow false d, op o3, .em, .em] = .ok (rngD 0 3, [S, .sh (.int (k : Nat)), .ow false d, op o3, .em, .em]) := by
        have := rng1_nat 3 (by decide)
        have this' : rng1B [.int 3] = some (rngD 0 3) := this
        simp [this']
      rw [seqS_cons, t1, obn_ok, seqK_nx, seqS_cons, forS_app, bnd_app, r3, obn_ok, q3, obn_ok, seqK_nx, seqS_nil]) (e := [S, .em, .em, .em, .em, .em]) ⟨none, .em, none, rfl, by simp⟩
  -- the told ones
  obtain ⟨q39, hq39, e39⟩ : ∃ q : Int, powD (.int 10) (.int 39) = some (.sh (.int q)) ∧ q = 10 ^ 39 := ⟨10 ^ 39, by kernel_rfl, rfl⟩
  obtain ⟨a1, ha1⟩ := h3 hrt [1, 2, 6] ht cols_hrt rfl cols_ht (by decide +kernel)
  obtain ⟨a2, ha2⟩ := h4 hrt [1, 1, 6] [1, 2, 6] cols_hrt rfl rfl
  obtain ⟨a3, ha3⟩ := h4 hrt [0, -1, q39] [0, 1, q39] cols_hrt rfl rfl
  obtain ⟨a4, ha4⟩ := h4 [] [] [] ⟨by decide, (fun s hs => by cases hs), .nil⟩ rfl rfl
  have b1 : vals hrt [1, 2, 6] ht = [1, 6] := by decide +kernel
  have b2 : agr hrt [1, 1, 6] [1, 2, 6] = ht := by decide +kernel
  have b3 : agr hrt [0, -1, q39] [0, 1, q39] = ht := by rw [e39]; decide +kernel
  have b4 : agr [] [] [] = [] := rfl
  rw [b1] at ha1
  rw [b2] at ha2
  rw [b3] at ha3
  rw [b4] at ha4
  have f1 : g3 [.sh (.tup [.str "hour", .str "room", .str "talk"]), .sh (.tup [.int 1, .int 2, .int 6]), .sh (.tup [.str "hour", .str "talk"])] = .ok (.sh (.tup [.int 1, .int 6]), a1) := ha1
  have f2 : g4 [.sh (.tup [.str "hour", .str "room", .str "talk"]), .sh (.tup [.int 1, .int 1, .int 6]), .sh (.tup [.int 1, .int 2, .int 6])] = .ok (.sh (.tup [.str "hour", .str "talk"]), a2) := ha2
  have f3 : g4 [.sh (.tup [.str "hour", .str "room", .str "talk"]), .sh (.tup [.int 0, .int (-1), .int q39]), .sh (.tup [.int 0, .int 1, .int q39])] = .ok (.sh (.tup [.str "hour", .str "talk"]), a3) := ha3
  have f4 : g4 [.sh (.tup []), .sh (.tup []), .sh (.tup [])] = .ok (.sh (.tup []), a4) := ha4
  have hc : addD (.lst [.tup [.int 1, .int 6], .tup [.str "hour", .str "talk"]]) (.lst [.tup [.str "hour", .str "talk"], .tup []]) = some (.fr (.lst [.tup [.int 1, .int 6], .tup [.str "hour", .str "talk"], .tup [.str "hour", .str "talk"], .tup []])) := by kernel_rfl
  have he : eqD (.lst [.tup [.int 1, .int 6], .tup [.str "hour", .str "talk"], .tup [.str "hour", .str "talk"], .tup []]) (.lst [.tup [.int 1, .int 6], .tup [.str "hour", .str "talk"], .tup [.str "hour", .str "talk"], .tup []]) = some (.sh (.bl true)) := by kernel_rfl
  refine ⟨[S, op o1, s2, op o3, .sh (.tup [.str "hour", .str "room", .str "talk"]), .ow false (.lst [.tup [.int 1, .int 6], .tup [.str "hour", .str "talk"], .tup [.str "hour", .str "talk"], .tup []])], ?_⟩
  rw [evF_app]
  refine (if_pos rfl).trans ?_
  show obn (B_law g1 g2 g3 g4 [S, .em, .em, .em, .em, .em]) endK = _
  unfold B_law
  rw [seqS_cons, forS_app, bnd_app, w, obn_ok, q, obn_ok, seqK_nx]
  simp [f1, f2, f3, f4, hq39, hc, he]
end Pv
/-! ### the law's functions (by gen.py) -/
namespace Kmostkept_k02_values_and_agreements
open PySem L2 Pv
def top (i : Nat) : Stmt := PySem.Challenge.pw_mostkept_k02_values_and_agreements.main.body.getD i (.Pass ⟨0, 0, 0, 0⟩)
def d_is_integer : DefI := ⟨["value"], ["value"], defScope (top 8), defBody (top 8), [true], defArgs (top 8)⟩
def d_is_name : DefI := ⟨["value", "sign"], ["value"], defScope (top 9), defBody (top 9), [false], defArgs (top 9)⟩
def d_are_columns : DefI := ⟨["value", "name", "one", "other"], ["value"], defScope (top 10), defBody (top 10), [false], defArgs (top 10)⟩
def d_require_columns : DefI := ⟨["columns"], ["columns"], defScope (top 11), defBody (top 11), [false], defArgs (top 11)⟩
def d_require_some : DefI := ⟨["columns", "some", "name"], ["columns", "some"], defScope (top 12), defBody (top 12), [true, false], defArgs (top 12)⟩
def d_is_row_in : DefI := ⟨["size", "value", "one"], ["size", "value"], defScope (top 13), defBody (top 13), [true, false], defArgs (top 13)⟩
def d_require_row : DefI := ⟨["columns", "row"], ["columns", "row"], defScope (top 14), defBody (top 14), [true, false], defArgs (top 14)⟩
def d_places_in : DefI := ⟨["columns", "some", "at", "name"], ["columns", "some"], defScope (top 15), defBody (top 15), [false, true], defArgs (top 15)⟩
def d_values_in : DefI := ⟨["row", "places", "at"], ["row", "places"], defScope (top 16), defBody (top 16), [true, false], defArgs (top 16)⟩
def d_values_at : DefI := ⟨["columns", "row", "some"], ["columns", "row", "some"], defScope (top 17), defBody (top 17), [false, false, false], defArgs (top 17)⟩
def d_agreement_in : DefI := ⟨["columns", "row", "other", "name", "one", "two"], ["columns", "row", "other"], defScope (top 18), defBody (top 18), [false, false, false], defArgs (top 18)⟩
def d_agreement : DefI := ⟨["columns", "row", "other"], ["columns", "row", "other"], defScope (top 19), defBody (top 19), [false, false, false], defArgs (top 19)⟩
def d__law_dice : DefI := ⟨["_law_script", "_law_at", "_law_cell", "_law_great", "_law_mixed"], ["_law_script", "_law_at"], defScope (top 21), defBody (top 21), [true, false], defArgs (top 21)⟩
def d__law_pull : DefI := ⟨["_law_dice_here", "_law_total", "_law_found", "_law_one", "_law_two"], ["_law_dice_here", "_law_total"], defScope (top 22), defBody (top 22), [true, true], defArgs (top 22)⟩
def d__law_pick : DefI := ⟨["_law_dice_here", "_law_items"], ["_law_dice_here", "_law_items"], defScope (top 23), defBody (top 23), [true, true], defArgs (top 23)⟩
def d__law_columns : DefI := ⟨["_law_dice_here", "_law_total", "_law_signs", "_law_found", "_law_at", "_law_word", "_law_turn"], ["_law_dice_here", "_law_total"], defScope (top 24), defBody (top 24), [true, false], defArgs (top 24)⟩
def d__law_some : DefI := ⟨["_law_dice_here", "_law_columns_here", "_law_share", "_law_name"], ["_law_dice_here", "_law_columns_here", "_law_share"], defScope (top 25), defBody (top 25), [true, false, true], defArgs (top 25)⟩
def d__law_rows : DefI := ⟨["_law_dice_here", "_law_columns_here", "_law_total", "_law_pools", "_law_pool", "_law_found", "_law_turn", "_law_row", "_law_name", "_law_change"], ["_law_dice_here", "_law_columns_here", "_law_total"], defScope (top 26), defBody (top 26), [true, false, false], defArgs (top 26)⟩
def d__law_values : DefI := ⟨["_law_columns_here", "_law_row", "_law_chosen", "_law_found", "_law_name", "_law_other", "_law_number"], ["_law_columns_here", "_law_row", "_law_chosen"], defScope (top 27), defBody (top 27), [false, false, false], defArgs (top 27)⟩
def d__law_pair_right : DefI := ⟨["_law_columns_here", "_law_row", "_law_other", "_law_due", "_law_at", "_law_told"], ["_law_columns_here", "_law_row", "_law_other"], defScope (top 28), defBody (top 28), [false, false, false], defArgs (top 28)⟩
def d__law_right : DefI := ⟨["_law_dice_here", "_law_columns_here", "_law_lines", "_law_kept", "_law_row", "_law_chosen", "_law_other", "_law_same"], ["_law_dice_here"], defScope (top 29), defBody (top 29), [true], defArgs (top 29)⟩
def d_law : DefI := ⟨["_law_script", "_law_at", "_law_dice_here", "_law_turn", "_law_names", "_law_told"], ["_law_script"], defScope (top 30), defBody (top 30), [true], defArgs (top 30)⟩
def P : Prg := ⟨[("MOST_COLUMNS", .int (8)), ("MOST_SIGNS", .int (8)), ("SIGNS", .str "abcdefghijklmnopqrstuvwxyz")], ["abs", "all", "bool", "enumerate", "int", "isinstance", "len", "list", "max", "min", "range", "repr", "str", "tuple", "zip"], [("is_integer", d_is_integer), ("is_name", d_is_name), ("are_columns", d_are_columns), ("require_columns", d_require_columns), ("require_some", d_require_some), ("is_row_in", d_is_row_in), ("require_row", d_require_row), ("places_in", d_places_in), ("values_in", d_values_in), ("values_at", d_values_at), ("agreement_in", d_agreement_in), ("agreement", d_agreement), ("_law_dice", d__law_dice), ("_law_pull", d__law_pull), ("_law_pick", d__law_pick), ("_law_columns", d__law_columns), ("_law_some", d__law_some), ("_law_rows", d__law_rows), ("_law_values", d__law_values), ("_law_pair_right", d__law_pair_right), ("_law_right", d__law_right), ("law", d_law)], 100000⟩
theorem b_is_integer : BindsP "is_integer" d_is_integer := fun _ _ _ _ _ _ us hl => match us, hl with | [_], _ => rfl
theorem s_is_integer : FnScope d_is_integer.N d_is_integer.ps d_is_integer.sc := ⟨rfl, rfl, rfl, by decide +kernel, rfl, by decide +kernel, by decide +kernel⟩
theorem b_is_name : BindsP "is_name" d_is_name := fun _ _ _ _ _ _ us hl => match us, hl with | [_], _ => rfl
theorem s_is_name : FnScope d_is_name.N d_is_name.ps d_is_name.sc := ⟨rfl, rfl, rfl, by decide +kernel, rfl, by decide +kernel, by decide +kernel⟩
theorem b_are_columns : BindsP "are_columns" d_are_columns := fun _ _ _ _ _ _ us hl => match us, hl with | [_], _ => rfl
theorem s_are_columns : FnScope d_are_columns.N d_are_columns.ps d_are_columns.sc := ⟨rfl, rfl, rfl, by decide +kernel, rfl, by decide +kernel, by decide +kernel⟩
theorem b_require_columns : BindsP "require_columns" d_require_columns := fun _ _ _ _ _ _ us hl => match us, hl with | [_], _ => rfl
theorem s_require_columns : FnScope d_require_columns.N d_require_columns.ps d_require_columns.sc := ⟨rfl, rfl, rfl, by decide +kernel, rfl, by decide +kernel, by decide +kernel⟩
theorem b_require_some : BindsP "require_some" d_require_some := fun _ _ _ _ _ _ us hl => match us, hl with | [_, _], _ => rfl
theorem s_require_some : FnScope d_require_some.N d_require_some.ps d_require_some.sc := ⟨rfl, rfl, rfl, by decide +kernel, rfl, by decide +kernel, by decide +kernel⟩
theorem b_is_row_in : BindsP "is_row_in" d_is_row_in := fun _ _ _ _ _ _ us hl => match us, hl with | [_, _], _ => rfl
theorem s_is_row_in : FnScope d_is_row_in.N d_is_row_in.ps d_is_row_in.sc := ⟨rfl, rfl, rfl, by decide +kernel, rfl, by decide +kernel, by decide +kernel⟩
theorem b_require_row : BindsP "require_row" d_require_row := fun _ _ _ _ _ _ us hl => match us, hl with | [_, _], _ => rfl
theorem s_require_row : FnScope d_require_row.N d_require_row.ps d_require_row.sc := ⟨rfl, rfl, rfl, by decide +kernel, rfl, by decide +kernel, by decide +kernel⟩
theorem b_places_in : BindsP "places_in" d_places_in := fun _ _ _ _ _ _ us hl => match us, hl with | [_, _], _ => rfl
theorem s_places_in : FnScope d_places_in.N d_places_in.ps d_places_in.sc := ⟨rfl, rfl, rfl, by decide +kernel, rfl, by decide +kernel, by decide +kernel⟩
theorem b_values_in : BindsP "values_in" d_values_in := fun _ _ _ _ _ _ us hl => match us, hl with | [_, _], _ => rfl
theorem s_values_in : FnScope d_values_in.N d_values_in.ps d_values_in.sc := ⟨rfl, rfl, rfl, by decide +kernel, rfl, by decide +kernel, by decide +kernel⟩
theorem b_values_at : BindsP "values_at" d_values_at := fun _ _ _ _ _ _ us hl => match us, hl with | [_, _, _], _ => rfl
theorem s_values_at : FnScope d_values_at.N d_values_at.ps d_values_at.sc := ⟨rfl, rfl, rfl, by decide +kernel, rfl, by decide +kernel, by decide +kernel⟩
theorem b_agreement_in : BindsP "agreement_in" d_agreement_in := fun _ _ _ _ _ _ us hl => match us, hl with | [_, _, _], _ => rfl
theorem s_agreement_in : FnScope d_agreement_in.N d_agreement_in.ps d_agreement_in.sc := ⟨rfl, rfl, rfl, by decide +kernel, rfl, by decide +kernel, by decide +kernel⟩
theorem b_agreement : BindsP "agreement" d_agreement := fun _ _ _ _ _ _ us hl => match us, hl with | [_, _, _], _ => rfl
theorem s_agreement : FnScope d_agreement.N d_agreement.ps d_agreement.sc := ⟨rfl, rfl, rfl, by decide +kernel, rfl, by decide +kernel, by decide +kernel⟩
theorem b__law_dice : BindsP "_law_dice" d__law_dice := fun _ _ _ _ _ _ us hl => match us, hl with | [_, _], _ => rfl
theorem s__law_dice : FnScope d__law_dice.N d__law_dice.ps d__law_dice.sc := ⟨rfl, rfl, rfl, by decide +kernel, rfl, by decide +kernel, by decide +kernel⟩
theorem b__law_pull : BindsP "_law_pull" d__law_pull := fun _ _ _ _ _ _ us hl => match us, hl with | [_, _], _ => rfl
theorem s__law_pull : FnScope d__law_pull.N d__law_pull.ps d__law_pull.sc := ⟨rfl, rfl, rfl, by decide +kernel, rfl, by decide +kernel, by decide +kernel⟩
theorem b__law_pick : BindsP "_law_pick" d__law_pick := fun _ _ _ _ _ _ us hl => match us, hl with | [_, _], _ => rfl
theorem s__law_pick : FnScope d__law_pick.N d__law_pick.ps d__law_pick.sc := ⟨rfl, rfl, rfl, by decide +kernel, rfl, by decide +kernel, by decide +kernel⟩
theorem b__law_columns : BindsP "_law_columns" d__law_columns := fun _ _ _ _ _ _ us hl => match us, hl with | [_, _], _ => rfl
theorem s__law_columns : FnScope d__law_columns.N d__law_columns.ps d__law_columns.sc := ⟨rfl, rfl, rfl, by decide +kernel, rfl, by decide +kernel, by decide +kernel⟩
theorem b__law_some : BindsP "_law_some" d__law_some := fun _ _ _ _ _ _ us hl => match us, hl with | [_, _, _], _ => rfl
theorem s__law_some : FnScope d__law_some.N d__law_some.ps d__law_some.sc := ⟨rfl, rfl, rfl, by decide +kernel, rfl, by decide +kernel, by decide +kernel⟩
theorem b__law_rows : BindsP "_law_rows" d__law_rows := fun _ _ _ _ _ _ us hl => match us, hl with | [_, _, _], _ => rfl
theorem s__law_rows : FnScope d__law_rows.N d__law_rows.ps d__law_rows.sc := ⟨rfl, rfl, rfl, by decide +kernel, rfl, by decide +kernel, by decide +kernel⟩
theorem b__law_values : BindsP "_law_values" d__law_values := fun _ _ _ _ _ _ us hl => match us, hl with | [_, _, _], _ => rfl
theorem s__law_values : FnScope d__law_values.N d__law_values.ps d__law_values.sc := ⟨rfl, rfl, rfl, by decide +kernel, rfl, by decide +kernel, by decide +kernel⟩
theorem b__law_pair_right : BindsP "_law_pair_right" d__law_pair_right := fun _ _ _ _ _ _ us hl => match us, hl with | [_, _, _], _ => rfl
theorem s__law_pair_right : FnScope d__law_pair_right.N d__law_pair_right.ps d__law_pair_right.sc := ⟨rfl, rfl, rfl, by decide +kernel, rfl, by decide +kernel, by decide +kernel⟩
theorem b__law_right : BindsP "_law_right" d__law_right := fun _ _ _ _ _ _ us hl => match us, hl with | [_], _ => rfl
theorem s__law_right : FnScope d__law_right.N d__law_right.ps d__law_right.sc := ⟨rfl, rfl, rfl, by decide +kernel, rfl, by decide +kernel, by decide +kernel⟩
theorem b_law : BindsP "law" d_law := fun _ _ _ _ _ _ us hl => match us, hl with | [_], _ => rfl
theorem s_law : FnScope d_law.N d_law.ps d_law.sc := ⟨rfl, rfl, rfl, by decide +kernel, rfl, by decide +kernel, by decide +kernel⟩
theorem defs_ok : DefsOk P.defs := ⟨⟨b_is_integer, s_is_integer⟩, ⟨b_is_name, s_is_name⟩, ⟨b_are_columns, s_are_columns⟩, ⟨b_require_columns, s_require_columns⟩, ⟨b_require_some, s_require_some⟩, ⟨b_is_row_in, s_is_row_in⟩, ⟨b_require_row, s_require_row⟩, ⟨b_places_in, s_places_in⟩, ⟨b_values_in, s_values_in⟩, ⟨b_values_at, s_values_at⟩, ⟨b_agreement_in, s_agreement_in⟩, ⟨b_agreement, s_agreement⟩, ⟨b__law_dice, s__law_dice⟩, ⟨b__law_pull, s__law_pull⟩, ⟨b__law_pick, s__law_pick⟩, ⟨b__law_columns, s__law_columns⟩, ⟨b__law_some, s__law_some⟩, ⟨b__law_rows, s__law_rows⟩, ⟨b__law_values, s__law_values⟩, ⟨b__law_pair_right, s__law_pair_right⟩, ⟨b__law_right, s__law_right⟩, ⟨b_law, s_law⟩, trivial⟩
theorem e_is_integer (n : Nat) : evD P (n + 1) d_is_integer = evF 1 1 (Pv.B_is_integer) := by kernel_rfl
theorem e_is_name (n : Nat) : evD P (n + 1) d_is_name = evF 2 1 (Pv.B_is_name) := by kernel_rfl
theorem e_are_columns (n : Nat) : evD P (n + 1) d_are_columns = evF 4 1 (Pv.B_are_columns (evD P n d_is_name)) := by kernel_rfl
theorem e_require_columns (n : Nat) : evD P (n + 1) d_require_columns = evF 1 1 (Pv.B_require_columns (evD P n d_are_columns)) := by kernel_rfl
theorem e_require_some (n : Nat) : evD P (n + 1) d_require_some = evF 3 2 (Pv.B_require_some (evD P n d_are_columns)) := by kernel_rfl
theorem e_is_row_in (n : Nat) : evD P (n + 1) d_is_row_in = evF 3 2 (Pv.B_is_row_in (evD P n d_is_integer)) := by kernel_rfl
theorem e_require_row (n : Nat) : evD P (n + 1) d_require_row = evF 2 2 (Pv.B_require_row (evD P n d_is_row_in)) := by kernel_rfl
theorem e_places_in (n : Nat) : evD P (n + 1) d_places_in = evF 4 2 (Pv.B_places_in) := by kernel_rfl
theorem e_values_in (n : Nat) : evD P (n + 1) d_values_in = evF 3 2 (Pv.B_values_in) := by kernel_rfl
theorem e_values_at (n : Nat) : evD P (n + 1) d_values_at = evF 3 3 (Pv.B_values_at (evD P n d_require_columns) (evD P n d_require_row) (evD P n d_require_some) (evD P n d_values_in) (evD P n d_places_in)) := by kernel_rfl
theorem e_agreement_in (n : Nat) : evD P (n + 1) d_agreement_in = evF 6 3 (Pv.B_agreement_in) := by kernel_rfl
theorem e_agreement (n : Nat) : evD P (n + 1) d_agreement = evF 3 3 (Pv.B_agreement (evD P n d_require_columns) (evD P n d_require_row) (evD P n d_agreement_in)) := by kernel_rfl
theorem e__law_dice (n : Nat) : evD P (n + 1) d__law_dice = evF 5 2 (Pv.B__law_dice) := by kernel_rfl
theorem e__law_pull (n : Nat) : evD P (n + 1) d__law_pull = evF 5 2 (Pv.B__law_pull) := by kernel_rfl
theorem e__law_pick (n : Nat) : evD P (n + 1) d__law_pick = evF 2 2 (Pv.B__law_pick (evD P n d__law_pull)) := by kernel_rfl
theorem e__law_columns (n : Nat) : evD P (n + 1) d__law_columns = evF 7 2 (Pv.B__law_columns (evD P n d__law_pull)) := by kernel_rfl
theorem e__law_some (n : Nat) : evD P (n + 1) d__law_some = evF 4 3 (Pv.B__law_some (evD P n d__law_pull)) := by kernel_rfl
theorem e__law_rows (n : Nat) : evD P (n + 1) d__law_rows = evF 10 3 (Pv.B__law_rows (evD P n d__law_pick) (evD P n d__law_pull)) := by kernel_rfl
theorem e__law_values (n : Nat) : evD P (n + 1) d__law_values = evF 7 3 (Pv.B__law_values) := by kernel_rfl
theorem e__law_pair_right (n : Nat) : evD P (n + 1) d__law_pair_right = evF 6 3 (Pv.B__law_pair_right (evD P n d_agreement)) := by kernel_rfl
theorem e__law_right (n : Nat) : evD P (n + 1) d__law_right = evF 8 1 (Pv.B__law_right (evD P n d__law_columns) (evD P n d__law_pull) (evD P n d__law_rows) (evD P n d__law_some) (evD P n d_values_at) (evD P n d__law_values) (evD P n d__law_pair_right) (evD P n d_agreement)) := by kernel_rfl
theorem e_law (n : Nat) : evD P (n + 1) d_law = evF 6 1 (Pv.B_law (evD P n d__law_dice) (evD P n d__law_right) (evD P n d_values_at) (evD P n d_agreement)) := by kernel_rfl
end Kmostkept_k02_values_and_agreements
namespace Kmostkept_k02_values_and_agreements
open PySem L2 Pv
theorem oName (n : Nat) : OkName (evD P (n + 1) d_is_name) := by rw [e_is_name]; exact ok_name
theorem oCols (n : Nat) : OkCols (evD P (n + 2) d_are_columns) := by rw [e_are_columns]; exact ok_cols (oName n)
theorem oReqCols (n : Nat) : OkReqCols (evD P (n + 3) d_require_columns) := by rw [e_require_columns]; exact ok_reqcols (oCols n)
theorem oReqSome (n : Nat) : OkReqSome (evD P (n + 3) d_require_some) := by rw [e_require_some]; exact ok_reqsome (oCols n)
theorem oInt (n : Nat) : OkInt (evD P (n + 1) d_is_integer) := by rw [e_is_integer]; exact ok_int_
theorem oRowIn (n : Nat) : OkRowIn (evD P (n + 2) d_is_row_in) := by rw [e_is_row_in]; exact ok_rowin (oInt n)
theorem oReqRow (n : Nat) : OkReqRow (evD P (n + 3) d_require_row) := by rw [e_require_row]; exact ok_reqrow (oRowIn n)
theorem oPlaces (n : Nat) : OkPlaces (evD P (n + 1) d_places_in) := by rw [e_places_in]; exact ok_places
theorem oValuesIn (n : Nat) : OkValuesIn (evD P (n + 1) d_values_in) := by rw [e_values_in]; exact ok_valuesin
theorem oValuesAt (n : Nat) : OkValuesAt (evD P (n + 4) d_values_at) := by rw [e_values_at]; exact ok_valuesat (oReqCols n) (oReqRow n) (oReqSome n) (oValuesIn (n + 2)) (oPlaces (n + 2))
theorem oAgrIn (n : Nat) : OkAgrIn (evD P (n + 1) d_agreement_in) := by rw [e_agreement_in]; exact ok_agrin
theorem oAgr (n : Nat) : OkAgr (evD P (n + 4) d_agreement) := by rw [e_agreement]; exact ok_agr (oReqCols n) (oReqRow n) (oAgrIn (n + 2))
theorem oDice (n : Nat) : OkDice (evD P (n + 1) d__law_dice) := by rw [e__law_dice]; exact ok_dice
theorem oPull (n : Nat) : OkPull (evD P (n + 1) d__law_pull) := by rw [e__law_pull]; exact ok_pull
theorem oPick (n : Nat) : OkPick (evD P (n + 2) d__law_pick) := by rw [e__law_pick]; exact ok_pick (oPull n)
theorem oMk (n : Nat) : OkMk (evD P (n + 2) d__law_columns) := by rw [e__law_columns]; exact ok_mk (oPull n)
theorem oSome (n : Nat) : OkSome (evD P (n + 2) d__law_some) := by rw [e__law_some]; exact ok_some (oPull n)
theorem oRows (n : Nat) : OkRows (evD P (n + 3) d__law_rows) := by rw [e__law_rows]; exact ok_rows (oPick n) (oPull (n + 1))
theorem oLawVals (n : Nat) : OkLawVals (evD P (n + 1) d__law_values) := by rw [e__law_values]; exact ok_lawvals
theorem oPair (n : Nat) : OkPair (evD P (n + 5) d__law_pair_right) := by rw [e__law_pair_right]; exact ok_pair (oAgr n)
theorem oRight (n : Nat) : OkRight (evD P (n + 6) d__law_right) := by rw [e__law_right]; exact ok_right (oMk (n + 3)) (oPull (n + 4)) (oRows (n + 2)) (oSome (n + 3)) (oValuesAt (n + 1)) (oLawVals (n + 4)) (oPair n) (oAgr (n + 1))
theorem hev (ns : List Int) (h : ns.length ≤ 63) : ∃ e', evD P 12 d_law [.sh (.scr ns)] = .ok (.sh (.bl true), e') := by
  rw [e_law]
  exact ok_law02 (oDice 10) (oRight 5) (oValuesAt 7) (oAgr 7) ns h
abbrev R : PySem.W.OpenRow := PySem.W.OpenLaw.row PySem.Challenge.rw_mostkept_k02_values_and_agreements
abbrev hk : PySem.W.Hook := He.hookD 4 (faP P) (fnP P)
def ob (s : PySem.W.SharedT) : He.AlD := He.obsDG 4 (faP P) (fnP P) (HandSHeadRun.getT s)
theorem ob_eq (s : PySem.W.SharedT) : ob s = hk.obs s.abs := He.obsDG_eq (HandSHeadRun.getT_eq s)
def loose : List Str := ["TableError", "InvalidColumns", "InvalidTable", "SIGNS", "MOST_SIGNS", "MOST_COLUMNS", "is_integer", "is_name", "are_columns", "require_columns", "require_some", "is_row_in", "require_row", "places_in", "values_in", "values_at", "agreement_in", "agreement", "_law_dice", "_law_pull", "_law_pick", "_law_columns", "_law_some", "_law_rows", "_law_values", "_law_pair_right", "_law_right"]
theorem run (w : World) : HandSHeadRun.RunEq R (PySem.W.view R.prog [30]) hk ob 4000 loose w := by
  intro os
  kernel_rfl
end Kmostkept_k02_values_and_agreements
open PySem PySem.W PySem.Calls PyProof.Rows
theorem PySem.Challenge.cw_mostkept_k02_values_and_agreements_holds : PySem.Challenge.rw_mostkept_k02_values_and_agreements.Holds := by
  w_on; o_law
  refine HandSHeadRun.head_any (r := OpenLaw.row PySem.Challenge.rw_mostkept_k02_values_and_agreements) (q := view (OpenLaw.row PySem.Challenge.rw_mostkept_k02_values_and_agreements).prog [30]) (H := Kmostkept_k02_values_and_agreements.hk) (ob := Kmostkept_k02_values_and_agreements.ob) (M := 4000) (loose := Kmostkept_k02_values_and_agreements.loose) (d := HandSHeadRun.topDef (OpenLaw.row PySem.Challenge.rw_mostkept_k02_values_and_agreements).prog 30) (kwd := []) Kmostkept_k02_values_and_agreements.ob_eq
    (by kernel_rfl) (fun s => by kernel_rfl) Kmostkept_k02_values_and_agreements.run (by kernel_rfl) (by kernel_rfl) (by kernel_rfl) (by rfl) (by first | assumption | decide +kernel) (by decide +kernel) ⟨rfl, rfl, rfl, rfl, rfl, by decide +kernel⟩ ?hw ?hc
  case hw => w_witness2
  case hc =>
    refine Pv.walk_ofG (l := PySem.Challenge.rw_mostkept_k02_values_and_agreements) (n := 63) (k := 13) (x := "_law_script") (ev := Pv.evD Kmostkept_k02_values_and_agreements.P 12 Kmostkept_k02_values_and_agreements.d_law) rfl (by decide) (by kernel_rfl) ⟨rfl, by decide, by decide⟩ ?F Kmostkept_k02_values_and_agreements.hev
    intro w mg fa h Y G hmg0
    obtain ⟨K, KX, c⟩ := Y
    have hmg : mg ("law" : PySem.Str) = some (.ref fa) := by
      have e : (HandSHeadRun.topDef (OpenLaw.row PySem.Challenge.rw_mostkept_k02_values_and_agreements).prog 30).name = ("law" : PySem.Str) := by kernel_rfl
      rw [← e]
      exact hmg0
    obtain ⟨fd, hb, hF⟩ := Pv.law_facts (P := Kmostkept_k02_values_and_agreements.P) (prog := (PySem.Challenge.rw_mostkept_k02_values_and_agreements).prog) (w := w) (p := "_law_script") (d := Kmostkept_k02_values_and_agreements.d_law) KX G (by decide +kernel) Kmostkept_k02_values_and_agreements.defs_ok (by kernel_rfl) (by kernel_rfl) hmg c 12
    exact ⟨K, fd, KX, hb, hF⟩
