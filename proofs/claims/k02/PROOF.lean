import PyProof.Rows.All
import Wide.All
import OpenK.AllK
import Wide.FinOn
import HandS.ForMost
import HandS.Exc
import HandS.TupAny
import HandS.Deep
import HandS.Wide
import HandS.Zip
import HandS.Conv
import HandS.SortInts
import HandS.SetKeys
import HandS.SetBool
import KE.GoesEnum
import KE.KExcSuper
import HandS.ExcField
import HandS.TryMany
import HandS.IsInst
import HandS.TupMul
import HandS.Flow
import KE.KTupSum
import HandS.Style
import HandS.Words
import HandS.EndBits
import HandS.WordsDict
import HandS.Codes
import PyProof.StrLawsRepr
import PyProof.FitsInt
import PySem.Challenge.RW_twoclocks_k02_codes_refused
set_option Elab.async false
set_option linter.all false
set_option maxRecDepth 100000
/-! Two clocks, the small language: a syntax of our own that is read back into the model's, and what it computes on plain data. -/
namespace TC
open PySem

/-! ### data -/
/-- a value that stays: plain data, or the drawing object of a law -/
inductive Wd where
  | d (x : PyData)
  | rng
  /-- a law's script, so long -/
  | scr (n : Nat)
/-- a slot: not known, a value that stays, a list that only this slot holds -/
inductive Sl where
  | un
  | fz (w : Wd)
  | ow (xs : List PyData)
abbrev En := List Sl
/-- what a function hands back: a value that stays, a new list -/
inductive FR where
  | fz (w : Wd)
  | ow (xs : List PyData)
/-! ### a computation that draws, and may raise -/
/-- an error: which class, what it is made of -/
structure Exn where
  c : Nat
  v : PyData
inductive Comp (α : Type) where
  | ret (a : α)
  | raise (x : Exn)
  | draw (n : Int) (k : Int → Comp α)
  | stuck
namespace Comp
variable {α β : Type}
def bind : Comp α → (α → Comp β) → Comp β
  | .ret a, f => f a
  | .raise x, _ => .raise x
  | .draw n k, f => .draw n fun r => (k r).bind f
  | .stuck, _ => .stuck
/-- what is raised is caught -/
def tie : Comp α → (Exn → Comp β) → (α → Comp β) → Comp β
  | .ret a, _, f => f a
  | .raise x, g, _ => g x
  | .draw n k, g, f => .draw n fun r => (k r).tie g f
  | .stuck, _, _ => .stuck
/-- with at most b draws every way ends; Q holds of the draws left and the end, E of those and what is raised -/
def wp : Comp α → Nat → (Nat → α → Prop) → (Nat → Exn → Prop) → Prop
  | .ret a, b, Q, _ => Q b a
  | .raise x, b, _, E => E b x
  | .draw n k, b, Q, E => ∃ c, b = c + 1 ∧ 0 < n ∧ n < 1073741824 ∧ ∀ r, 0 ≤ r → r < n → (k r).wp c Q E
  | .stuck, _, _, _ => False
theorem wp_bind : ∀ {c : Comp α} {f : α → Comp β} {b : Nat} {Q : Nat → β → Prop} {E : Nat → Exn → Prop}, (c.bind f).wp b Q E ↔ c.wp b (fun b' a => (f a).wp b' Q E) E
  | .ret _, _, _, _, _ => Iff.rfl
  | .raise _, _, _, _, _ => Iff.rfl
  | .stuck, _, _, _, _ => Iff.rfl
  | .draw n k, f, b, Q, E => by
    constructor
    · rintro ⟨c, e, h1, h2, h3⟩
      exact ⟨c, e, h1, h2, fun r r1 r2 => wp_bind.mp (h3 r r1 r2)⟩
    · rintro ⟨c, e, h1, h2, h3⟩
      exact ⟨c, e, h1, h2, fun r r1 r2 => wp_bind.mpr (h3 r r1 r2)⟩
theorem wp_tie : ∀ {c : Comp α} {g : Exn → Comp β} {f : α → Comp β} {b : Nat} {Q : Nat → β → Prop} {E : Nat → Exn → Prop}, (c.tie g f).wp b Q E ↔ c.wp b (fun b' a => (f a).wp b' Q E) (fun b' x => (g x).wp b' Q E)
  | .ret _, _, _, _, _, _ => Iff.rfl
  | .raise _, _, _, _, _, _ => Iff.rfl
  | .stuck, _, _, _, _, _ => Iff.rfl
  | .draw n k, g, f, b, Q, E => by
    constructor
    · rintro ⟨c, e, h1, h2, h3⟩
      exact ⟨c, e, h1, h2, fun r r1 r2 => wp_tie.mp (h3 r r1 r2)⟩
    · rintro ⟨c, e, h1, h2, h3⟩
      exact ⟨c, e, h1, h2, fun r r1 r2 => wp_tie.mpr (h3 r r1 r2)⟩
theorem wp_mono : ∀ {c : Comp α} {b : Nat} {Q Q' : Nat → α → Prop} {E E' : Nat → Exn → Prop}, c.wp b Q E → (∀ b' a, Q b' a → Q' b' a) → (∀ b' x, E b' x → E' b' x) → c.wp b Q' E'
  | .ret _, _, _, _, _, _, h, m, _ => m _ _ h
  | .raise _, _, _, _, _, _, h, _, m => m _ _ h
  | .stuck, _, _, _, _, _, h, _, _ => h
  | .draw n k, b, _, _, _, _, h, m, m2 => by
    obtain ⟨c, e, h1, h2, h3⟩ := h
    exact ⟨c, e, h1, h2, fun r r1 r2 => wp_mono (h3 r r1 r2) m m2⟩
/-- what holds of every end -/
def All : Comp α → (α → Prop) → Prop
  | .ret a, P => P a
  | .raise _, _ => True
  | .draw _ k, P => ∀ r, (k r).All P
  | .stuck, _ => True
theorem all_true : ∀ c : Comp α, c.All fun _ => True
  | .ret _ => trivial
  | .raise _ => trivial
  | .draw _ k => fun r => all_true (k r)
  | .stuck => trivial
theorem all_bind : ∀ {c : Comp α} {f : α → Comp β} {P : α → Prop} {P' : β → Prop}, c.All P → (∀ a, P a → (f a).All P') → (c.bind f).All P'
  | .ret a, _, _, _, h, m => m a h
  | .raise _, _, _, _, _, _ => trivial
  | .draw _ k, _, _, _, h, m => fun r => all_bind (h r) m
  | .stuck, _, _, _, _, _ => trivial
theorem wp_all : ∀ {c : Comp α} {b : Nat} {Q : Nat → α → Prop} {E : Nat → Exn → Prop} {P : α → Prop}, c.wp b Q E → c.All P → c.wp b (fun b' a => P a ∧ Q b' a) E
  | .ret _, _, _, _, _, h, a => ⟨a, h⟩
  | .raise _, _, _, _, _, h, _ => h
  | .stuck, _, _, _, _, h, _ => h
  | .draw n k, _, _, _, _, h, a => by
    obtain ⟨c, e, h1, h2, h3⟩ := h
    exact ⟨c, e, h1, h2, fun r r1 r2 => wp_all (h3 r r1 r2) (a r)⟩
end Comp

inductive Ou where
  | nx (e : En)
  | br (e : En)
  | ct (e : En)
  | rt (r : FR)
  | ex (x : Exn) (e : En)

/-! ### the syntax -/
inductive BO where | add | sub | mul | div | mod | pow
inductive CO where | eq | ne | lt | le | gt | ge | inn | nin
inductive F1 where | len | int | str | all | sum | tuple | repr | max
inductive F2 where | min | max
inductive M1 where | join | find | count | startswith
inductive Ty where | int | str | bool | tuple | list
def BO.op : BO → Operator
  | .add => .Add | .sub => .Sub | .mul => .Mult | .div => .FloorDiv | .mod => .Mod | .pow => .Pow
def CO.op : CO → CmpOp
  | .eq => .Eq | .ne => .NotEq | .lt => .Lt | .le => .LtE | .gt => .Gt | .ge => .GtE | .inn => .In | .nin => .NotIn
def F1.nm : F1 → Str
  | .len => "len" | .int => "int" | .str => "str" | .all => "all" | .sum => "sum" | .tuple => "tuple" | .repr => "repr" | .max => "max"
def F2.nm : F2 → Str
  | .min => "min" | .max => "max"
def M1.nm : M1 → Str
  | .join => "join" | .find => "find" | .count => "count" | .startswith => "startswith"
def Ty.nm : Ty → Str
  | .int => "int" | .str => "str" | .bool => "bool" | .tuple => "tuple" | .list => "list"

/-- a constant of the text's top -/
inductive Cst where
  | int (i : Int)
  | str (s : Str)
  | strs (ss : List Str)
  deriving DecidableEq
def Cst.val : Cst → PyData
  | .int i => .int i
  | .str s => .str s
  | .strs ss => .tuple (ss.map .str)
mutual
/-- an expression whose value stays -/
inductive Ee where
  | var (i : Nat) (x : Str) (p : Pos)
  | con (x : Str) (v : Cst) (p : Pos)
  | non (k : Nat) (p : Pos)
  | bl (b : Bool) (k : Nat) (p : Pos)
  | int (i : Int) (k : Nat) (p : Pos)
  | str (s : Str) (k : Nat) (p : Pos)
  | tup (es : Es) (k : Nat) (p : Pos)
  | bin (o : BO) (a b : Ee) (p : Pos)
  | neg (a : Ee) (p : Pos)
  | nt (a : Ee) (p : Pos)
  | andd (es : Es) (p : Pos)
  | orr (es : Es) (p : Pos)
  | cmp (o : CO) (a b : Eb) (p : Pos)
  | chn (o1 o2 : CO) (a b c : Ee) (p : Pos)
  | isn (neg : Bool) (a : Ee) (k : Nat) (pn p : Pos)
  | ife (c a b : Ee) (p : Pos)
  | idx (a : Eb) (i : Ee) (p : Pos)
  | slc (a : Eb) (lo hi : Eo) (ps p : Pos)
  | f1 (f : F1) (pf : Pos) (a : Eb) (p : Pos)
  | f2 (f : F2) (pf : Pos) (a b : Ee) (p : Pos)
  | isi (pf : Pos) (a : Ee) (t : Ty) (pt p : Pos)
  | m1 (m : M1) (o : Ee) (pa : Pos) (a : Eb) (p : Pos)
  | call (f : Nat) (x : Str) (pf : Pos) (es : Es) (p : Pos)
  | drw (x : Str) (pf : Pos) (m e : Ee) (p : Pos)
  | frz (f : Ef)
  | lns (i : Nat) (x : Str) (px pf p : Pos)
  /-- len({x for x in a}), a a tuple of texts -/
  | lsc (pf : Pos) (a : Ee) (i : Nat) (x : Str) (px pe : Pos) (sc : Scope) (ps p : Pos)
inductive Es where
  | nil
  | cons (e : Ee) (es : Es)
inductive Eo where
  | no
  | so (e : Ee)
/-- an operand that is only looked at: an expression, or an owned slot -/
inductive Eb where
  | ex (e : Ee)
  | ov (i : Nat) (x : Str) (p : Pos)
/-- an expression that makes a new list -/
inductive Ef where
  | lst (es : Es) (p : Pos)
  | lc (e : Ee) (t : Tt) (it : Ei) (c : Eo) (own : List (Str × Nat)) (sc : Scope) (p : Pos)
  | lcs (e : Ee) (t : Tt) (it : Ei) (c : Eo) (vs : List Nat) (cs : Ecs) (own : List (Str × Nat)) (sc : Scope) (p : Pos)
  | cat (a b : Eb) (p : Pos)
  | rep (a : Eb) (n : Ee) (p : Pos)
  | lof (pf : Pos) (a : Eb) (p : Pos)
  | lofr (pf : Pos) (pr : Pos) (e : Ee) (pq : Pos) (p : Pos)
  | slc (a : Eb) (lo hi : Eo) (ps p : Pos)
  | split (o : Ee) (pa : Pos) (a : Ee) (p : Pos)
  | call (f : Nat) (x : Str) (pf : Pos) (es : Es) (p : Pos)
/-- more clauses -/
inductive Ecs where
  | nil
  | cons (t : Tt) (it : Ei) (c : Eo) (vs : List Nat) (cs : Ecs)
/-- what is walked -/
inductive Ei where
  | seq (e : Ee)
  | rg1 (pf : Pos) (e : Ee) (p : Pos)
  | rg2 (pf : Pos) (a b : Ee) (p : Pos)
  | rg3 (pf : Pos) (a b c : Ee) (p : Pos)
  | enu (pf : Pos) (e : Ee) (p : Pos)
  | zip (pf : Pos) (a b : Ee) (p : Pos)
/-- a target -/
inductive Tt where
  | nm (i : Nat) (x : Str) (p : Pos)
  | tp (ts : Ts) (k : Nat) (p : Pos)
inductive Ts where
  | nil
  | cons (i : Nat) (x : Str) (p : Pos) (ts : Ts)
end
/-- what an except clause does: y = 'text' | as n: y = n.f -/
inductive Hd where
  | put (j : Nat) (y : Str) (py : Pos) (s : Str) (k : Nat) (pv p : Pos)
  | fld (i : Nat) (n : Str) (j : Nat) (y : Str) (py : Pos) (f : Str) (pn pa p : Pos)
/-- except clauses: the class's number, its name -/
inductive Hds where
  | nil
  | cons (c : Nat) (x : Str) (px : Pos) (h : Hd) (p : Pos) (hs : Hds)
mutual
inductive Sm where
  | asg (i : Nat) (x : Str) (px : Pos) (e : Ee) (p : Pos)
  | asgF (i : Nat) (x : Str) (px : Pos) (f : Ef) (p : Pos)
  | unp (t : Tt) (e : Ee) (p : Pos)
  | par (i : Nat) (x : Str) (px : Pos) (j : Nat) (y : Str) (py : Pos) (a b : Ea) (k1 : Nat) (p1 : Pos) (k2 : Nat) (p2 : Pos) (p : Pos)
  | par3 (i : Nat) (x : Str) (px : Pos) (j : Nat) (y : Str) (py : Pos) (l : Nat) (z : Str) (pz : Pos) (a b c : Ee) (k1 : Nat) (p1 : Pos) (k2 : Nat) (p2 : Pos) (p : Pos)
  | put (i : Nat) (x : Str) (px : Pos) (ix : Ee) (e : Ee) (pt p : Pos)
  | aug (i : Nat) (x : Str) (px : Pos) (o : BO) (e : Ee) (p : Pos)
  | app (i : Nat) (x : Str) (px pa : Pos) (e : Ee) (pc p : Pos)
  /-- x.append(y.pop(e)) -/
  | apo (i : Nat) (x : Str) (px pa : Pos) (j : Nat) (y : Str) (py pb : Pos) (e : Ee) (pq pc p : Pos)
  | iff (c : Ee) (a b : Sms) (p : Pos)
  | forr (t : Tt) (it : Ei) (b : Sms) (p : Pos)
  | whl (c : Ee) (b : Sms) (p : Pos)
  | ret (e : Ee) (p : Pos)
  | retF (f : Ef) (p : Pos)
  | retO (i : Nat) (x : Str) (px p : Pos)
  | expr (e : Ee) (p : Pos)
  | brk (p : Pos)
  | cnt (p : Pos)
  | pass (p : Pos)
  | never (st : Stmt)
  /-- raise X(a), X the class numbered c -/
  | rai (c : Nat) (x : Str) (px : Pos) (a : Ee) (pc p : Pos)
  | tr (b : Sms) (hs : Hds) (p : Pos)
inductive Sms where
  | nil
  | cons (s : Sm) (ss : Sms)
  /-- no statement: from here on slot i stays as it is -/
  | frz (i : Nat) (ss : Sms)
  /-- no statement: what the slots is held is not looked at any more -/
  | fgt (is : List Nat) (ss : Sms)
inductive Ea where
  | ex (e : Ee)
  | nw (f : Ef)
end

/-! ### read back into the model's syntax -/
mutual
def Ee.em : Ee → Expr
  | .var _ x p => .Name x p
  | .con x _ p => .Name x p
  | .non k p => .Constant .none k p
  | .bl b k p => .Constant (.bool b) k p
  | .int i k p => .Constant (.int i) k p
  | .str s k p => .Constant (.str s) k p
  | .tup es k p => .Tuple es.em k p
  | .bin o a b p => .BinOp a.em o.op b.em p
  | .neg a p => .UnaryOp .USub a.em p
  | .nt a p => .UnaryOp .Not a.em p
  | .andd es p => .BoolOp .And es.em p
  | .orr es p => .BoolOp .Or es.em p
  | .cmp o a b p => .Compare a.em [o.op] [b.em] p
  | .chn o1 o2 a b c p => .Compare a.em [o1.op, o2.op] [b.em, c.em] p
  | .isn n a k pn p => .Compare a.em [if n then .IsNot else .Is] [.Constant .none k pn] p
  | .ife c a b p => .IfExp c.em a.em b.em p
  | .idx a i p => .Subscript a.em i.em p
  | .slc a lo hi ps p => .Subscript a.em (.Slice lo.em hi.em none ps) p
  | .f1 f pf a p => .Call (.Name f.nm pf) [a.em] [] p
  | .f2 f pf a b p => .Call (.Name f.nm pf) [a.em, b.em] [] p
  | .isi pf a t pt p => .Call (.Name "isinstance" pf) [a.em, .Name t.nm pt] [] p
  | .m1 m o pa a p => .Call (.Attribute o.em m.nm pa) [a.em] [] p
  | .call _ x pf es p => .Call (.Name x pf) es.em [] p
  | .drw x pf m e p => .Call (.Name x pf) [m.em, e.em] [] p
  | .frz f => f.em
  | .lns _ x px pf p => .Call (.Name "len" pf) [.Name x px] [] p
  | .lsc pf a _ x px pe sc ps p => .Call (.Name "len" pf) [.SetComp (.Name x pe) [⟨.Name x px, a.em, [], 0⟩] sc ps] [] p
def Es.em : Es → List Expr
  | .nil => []
  | .cons e es => e.em :: es.em
def Eo.em : Eo → Option Expr
  | .no => none
  | .so e => some e.em
def Eb.em : Eb → Expr
  | .ex e => e.em
  | .ov _ x p => .Name x p
def Ef.em : Ef → Expr
  | .lst es p => .List es.em p
  | .lc e t it c _ sc p => .ListComp e.em [⟨t.em, it.em, c.ems, 0⟩] sc p
  | .lcs e t it c _ cs _ sc p => .ListComp e.em (⟨t.em, it.em, c.ems, 0⟩ :: cs.em) sc p
  | .cat a b p => .BinOp a.em .Add b.em p
  | .rep a n p => .BinOp a.em .Mult n.em p
  | .lof pf a p => .Call (.Name "list" pf) [a.em] [] p
  | .lofr pf pr e pq p => .Call (.Name "list" pf) [.Call (.Name "range" pr) [e.em] [] pq] [] p
  | .slc a lo hi ps p => .Subscript a.em (.Slice lo.em hi.em none ps) p
  | .split o pa a p => .Call (.Attribute o.em "split" pa) [a.em] [] p
  | .call _ x pf es p => .Call (.Name x pf) es.em [] p
def Ecs.em : Ecs → List Comprehension
  | .nil => []
  | .cons t it c _ cs => ⟨t.em, it.em, c.ems, 0⟩ :: cs.em
def Eo.ems : Eo → List Expr
  | .no => []
  | .so e => [e.em]
def Ei.em : Ei → Expr
  | .seq e => e.em
  | .rg1 pf e p => .Call (.Name "range" pf) [e.em] [] p
  | .rg2 pf a b p => .Call (.Name "range" pf) [a.em, b.em] [] p
  | .rg3 pf a b c p => .Call (.Name "range" pf) [a.em, b.em, c.em] [] p
  | .enu pf e p => .Call (.Name "enumerate" pf) [e.em] [] p
  | .zip pf a b p => .Call (.Name "zip" pf) [a.em, b.em] [] p
def Tt.em : Tt → Expr
  | .nm _ x p => .Name x p
  | .tp ts k p => .Tuple ts.em k p
def Ts.em : Ts → List Expr
  | .nil => []
  | .cons _ x p ts => .Name x p :: ts.em
end
def Ea.em : Ea → Expr
  | .ex e => e.em
  | .nw f => f.em
def Hd.nm : Hd → Option Str
  | .put .. => none
  | .fld _ n .. => some n
def Hd.em : Hd → Stmt
  | .put _ y py s k pv p => .Assign [.Name y py] (.Constant (.str s) k pv) p
  | .fld _ n _ y py f pn pa p => .Assign [.Name y py] (.Attribute (.Name n pn) f pa) p
def Hds.em : Hds → List ExceptHandler
  | .nil => []
  | .cons _ x px h p hs => .ExceptHandler (some (.Name x px)) h.nm [h.em] p :: hs.em
mutual
def Sm.em : Sm → Stmt
  | .asg _ x px e p => .Assign [.Name x px] e.em p
  | .asgF _ x px f p => .Assign [.Name x px] f.em p
  | .unp t e p => .Assign [t.em] e.em p
  | .par _ x px _ y py a b k1 p1 k2 p2 p => .Assign [.Tuple [.Name x px, .Name y py] k1 p1] (.Tuple [a.em, b.em] k2 p2) p
  | .par3 _ x px _ y py _ z pz a b c k1 p1 k2 p2 p => .Assign [.Tuple [.Name x px, .Name y py, .Name z pz] k1 p1] (.Tuple [a.em, b.em, c.em] k2 p2) p
  | .put _ x px ix e pt p => .Assign [.Subscript (.Name x px) ix.em pt] e.em p
  | .aug _ x px o e p => .AugAssign (.Name x px) o.op e.em p
  | .app _ x px pa e pc p => .Expr (.Call (.Attribute (.Name x px) "append" pa) [e.em] [] pc) p
  | .apo _ x px pa _ y py pb e pq pc p => .Expr (.Call (.Attribute (.Name x px) "append" pa) [.Call (.Attribute (.Name y py) "pop" pb) [e.em] [] pq] [] pc) p
  | .iff c a b p => .If c.em a.em b.em p
  | .forr t it b p => .For t.em it.em b.em [] p
  | .whl c b p => .While c.em b.em [] p
  | .ret e p => .Return (some e.em) p
  | .retF f p => .Return (some f.em) p
  | .retO _ x px p => .Return (some (.Name x px)) p
  | .expr e p => .Expr e.em p
  | .brk p => .Break p
  | .cnt p => .Continue p
  | .pass p => .Pass p
  | .never st => st
  | .rai _ x px a pc p => .Raise (some (.Call (.Name x px) [a.em] [] pc)) none p
  | .tr b hs p => .Try b.em hs.em [] [] p
def Sms.em : Sms → List Stmt
  | .nil => []
  | .cons s ss => s.em :: ss.em
  | .frz _ ss => ss.em
  | .fgt _ ss => ss.em
end
end TC

set_option Elab.async false
set_option linter.all false
set_option maxRecDepth 100000
set_option maxHeartbeats 2000000
namespace TS
/-- how many unlike ones -/
def cntR : List PySem.Str → Nat
  | [] => 0
  | y :: r => if y ∈ r then cntR r else cntR r + 1
def cnt (ys : List PySem.Str) : Nat := cntR ys.reverse
end TS
namespace TC
open PySem

def LIM : Nat := 100000

/-! ### operations on data -/
abbrev CP := Comp PyData
@[simp] def okB (c : Bool) (d : PyData) : CP := if c then .ret d else .stuck
def smallI (i : Int) : Bool := decide (-18446744073709551616 < i) && decide (i < 18446744073709551616)
def binE : BO → PyData → PyData → CP
  | .add, .int i, .int j => .ret (.int (i + j))
  | .add, .str x, .str y => okB (decide (x.length + y.length ≤ LIM)) (.str (x ++ y))
  | .add, .tuple xs, .tuple ys => okB (decide (xs.length + ys.length ≤ LIM)) (.tuple (xs ++ ys))
  | .sub, .int i, .int j => .ret (.int (i - j))
  | .mul, .int i, .int j => okB (smallI i || smallI j) (.int (i * j))
  | .mul, .tuple xs, .int k => okB (decide (0 ≤ k) && decide (k ≤ 1000) && decide (xs.length ≤ 100)) (.tuple (List.replicate k.toNat xs).flatten)
  | .mul, .str x, .int k => okB (decide (0 ≤ k) && decide (k ≤ 1000) && decide (x.length ≤ 100)) (.str (if k < 1 then Str.empty else if (k == 1 || x.length == 0) = true then x else ⟨(List.replicate k.toNat x.cps).foldl (· ++ ·) #[]⟩))
  | .div, .int i, .int j => okB (decide (0 < j) && decide (j.natAbs.log2 < 9000)) (.int (i / j))
  | .mod, .int i, .int j => okB (decide (0 < j)) (.int (i % j))
  | .pow, .int i, .int j => okB (decide (0 ≤ j) && decide (j ≤ 1000) && decide (i.natAbs < 1024)) (.int (i ^ j.toNat))
  | _, _, _ => .stuck
def flatP : PyData → Bool
  | .none | .bool _ | .int _ | .str _ => true
  | _ => false
def eqE : PyData → PyData → Comp Bool
  | .int i, .int j => .ret (decide (i = j))
  | .str x, .str y => .ret (decide (x = y))
  | .bool x, .bool y => .ret (decide (x = y))
  | d, e => if SeqAt.shaped d && SeqAt.shaped e then .ret (PyData.eqv d e) else .stuck
def inE : PyData → PyData → Comp Bool
  | .str ⟨x⟩, .str z => match x.toList with
    | [c] => .ret (decide (c ∈ z.cps.toList))
    | _ => .ret (!(Builtin.Str.occurrences z ⟨x⟩ 0 z.length 1).isEmpty)
  | d, .list ds => if SeqAt.shaped d && SeqAt.shaped (.list ds) then .ret (ds.any fun z => PyData.eqv z d) else .stuck
  | d, .tuple ds => if SeqAt.shaped d && SeqAt.shaped (.tuple ds) then .ret (ds.any fun z => PyData.eqv z d) else .stuck
  | _, _ => .stuck
def cmpE : CO → PyData → PyData → Comp Bool
  | .eq, d, e => eqE d e
  | .ne, d, e => (eqE d e).bind fun b => .ret (!b)
  | .lt, .int i, .int j => .ret (decide (i < j))
  | .le, .int i, .int j => .ret (decide (i ≤ j))
  | .gt, .int i, .int j => .ret (decide (j < i))
  | .ge, .int i, .int j => .ret (decide (j ≤ i))
  | .lt, .str i, .str j => .ret (decide (i.cps.toList < j.cps.toList))
  | .inn, d, e => inE d e
  | .nin, d, e => (inE d e).bind fun b => .ret (!b)
  | _, _, _ => .stuck
def lenE : PyData → CP
  | .str x => okB (decide (x.length ≤ LIM)) (.int x.length)
  | .list xs => .ret (.int xs.length)
  | .tuple xs => .ret (.int xs.length)
  | _ => .stuck
def idxE : PyData → PyData → CP
  | .list xs, .int i => match L2.atI xs i with | some d => .ret d | none => .stuck
  | .tuple xs, .int i => match L2.atI xs i with | some d => .ret d | none => .stuck
  | .str x, .int i => if x.length ≤ LIM then (match L2.atI x.cps.toList i with | some c => .ret (.str ⟨#[c]⟩) | none => .stuck) else .stuck
  | _, _ => .stuck
/-- xs[lo:hi] -/
def cutP (xs : List PyData) (lo hi : Option Int) : List PyData :=
  (xs.drop (HT.sIx xs.length 0 lo)).take (HT.sIx xs.length xs.length hi - HT.sIx xs.length 0 lo)
def slcE : PyData → Option Int → Option Int → CP
  | .tuple xs, lo, hi => .ret (.tuple (cutP xs lo hi))
  | .str x, lo, hi => okB (decide (x.length ≤ LIM)) (.str (L2.cutS x lo hi))
  | _, _, _ => .stuck
def boolsP : List PyData → Option (List Bool)
  | [] => some []
  | .bool b :: ds => (boolsP ds).map (b :: ·)
  | _ => none
def intsP : List PyData → Option (List Int)
  | [] => some []
  | .int b :: ds => (intsP ds).map (b :: ·)
  | _ => none
def strsP : List PyData → Option (List Str)
  | [] => some []
  | .str b :: ds => (strsP ds).map (b :: ·)
  | _ => none
def maxI : List Int → Int
  | [] => 0
  | [n] => n
  | n :: m :: ns => if n > maxI (m :: ns) then n else maxI (m :: ns)
def lscE : PyData → CP
  | .tuple ds => match strsP ds with | some ys => (if ys.length ≤ 1000 then .ret (.int (TS.cnt ys)) else .stuck) | none => .stuck
  | _ => .stuck
def f1E : F1 → PyData → CP
  | .len, d => lenE d
  | .int, .int i => .ret (.int i)
  | .int, .bool b => .ret (.int (if b then 1 else 0))
  | .int, .str x => match intText? x with | some n => okB (decide (x.length ≤ 640)) (.int n) | none => .stuck
  | .str, .int i => okB (decide (i.natAbs.log2 < 1920)) (.str (toString i))
  | .all, .list ds => match boolsP ds with | some bs => .ret (.bool (bs.all id)) | none => .stuck
  | .sum, .list ds => match intsP ds with | some ns => .ret (.int ns.sum) | none => .stuck
  | .sum, .tuple ds => match intsP ds with | some ns => .ret (.int ns.sum) | none => .stuck
  | .tuple, .list ds => .ret (.tuple ds)
  | .tuple, .tuple ds => .ret (.tuple ds)
  | .max, .list ds => match intsP ds with | some (n :: ns) => .ret (.int (maxI (n :: ns))) | _ => .stuck
  | .repr, d => okB (d.showable && !d.hasDict && decide (d.depth ≤ 60) && decide (d.shown.length ≤ 10000000)) (.str d.shown)
  | _, _ => .stuck
def f2E : F2 → PyData → PyData → CP
  | .min, .int i, .int j => .ret (.int (if j < i then j else i))
  | .max, .int i, .int j => .ret (.int (if j > i then j else i))
  | _, _, _ => .stuck
def isiE : Ty → PyData → Bool
  | .int, .int _ => true
  | .int, .bool _ => true
  | .bool, .bool _ => true
  | .str, .str _ => true
  | .tuple, .tuple _ => true
  | .list, .list _ => true
  | _, _ => false
def joinE (a : Str) (ys : List Str) : CP := okB (decide ((ys.map (·.length)).sum + ys.length * a.length ≤ LIM)) (.str (Txt.join a ys))
def m1E : M1 → Str → PyData → CP
  | .join, a, .list ds => match strsP ds with | some ys => joinE a ys | none => .stuck
  | .join, a, .tuple ds => match strsP ds with | some ys => joinE a ys | none => .stuck
  | .find, a, .str b => .ret (.int (Txt.find a b))
  | .count, a, .str b => .ret (.int (Txt.count a b))
  | .startswith, a, .str b => .ret (.bool (Txt.startswith a b))
  | _, _, _ => .stuck
/-- items of what is walked -/
@[simp] def seqE : PyData → Comp (List PyData)
  | .list ds => .ret ds
  | .tuple ds => .ret ds
  | .str x => .ret (x.cps.toList.map fun c => .str ⟨#[c]⟩)
  | _ => .stuck
def rngP (a b : Int) : List PyData := (List.range (b - a).toNat).map fun (i : Nat) => .int (a + i)
def bigI (i : Int) : Bool := decide (-4611686018427387904 ≤ i) && decide (i < 4611686018427387904)
def rgOkB (i j k : Int) : Bool := decide (k = -1) && decide (-1000000 ≤ i) && decide (i ≤ 1000000) && decide (-1000000 ≤ j) && decide (j ≤ 1000000)
def enuP (ds : List PyData) : List PyData := (List.range ds.length).zipWith (fun (i : Nat) d => .tuple [.int i, d]) ds
def zipP (ds es : List PyData) : List PyData := ds.zipWith (fun d e => .tuple [d, e]) es
def enuE : PyData → Comp (List PyData)
  | .list ds => .ret (enuP ds)
  | .tuple ds => .ret (enuP ds)
  | _ => .stuck
def zipE : PyData → PyData → Comp (List PyData)
  | .list ds, .list es => .ret (zipP ds es)
  | .tuple ds, .tuple es => .ret (zipP ds es)
  | .list ds, .str z => .ret (zipP ds (z.cps.toList.map fun c => .str ⟨#[c]⟩))
  | _, _ => .stuck

/-! ### slots -/
def asD : Wd → CP
  | .d x => .ret x
  | _ => .stuck
@[simp] def varE (e : En) (i : Nat) : Comp Wd := match e[i]? with
  | some (.fz w) => .ret w
  | _ => .stuck
@[simp] def bindTs : Ts → List PyData → En → Comp En
  | .nil, [], e => .ret e
  | .cons i _ _ ts, d :: ds, e => bindTs ts ds (e.set i (.fz (.d d)))
  | _, _, _ => .stuck
def Ts.len : Ts → Nat
  | .nil => 0
  | .cons _ _ _ ts => ts.len + 1
@[simp] def bindT : Tt → PyData → En → Comp En
  | .nm i _ _, d, e => .ret (e.set i (.fz (.d d)))
  | .tp ts _ _, .tuple ds, e => bindTs ts ds e
  | _, _, _ => .stuck
@[simp] def wipeE (e : En) : List Nat → En
  | [] => e
  | i :: is => (wipeE e is).set i .un
def Tt.isTp : Tt → Bool
  | .tp .. => true
  | _ => false
/-- one after another -/
def consO : Option PyData → List PyData → List PyData
  | some d, rs => d :: rs
  | none, rs => rs
def mapC {α : Type} (f : α → Comp (Option PyData)) : List α → Comp (List PyData)
  | [] => .ret []
  | a :: as => (f a).bind fun r => (mapC f as).bind fun rs => .ret (consO r rs)
def flatC {α : Type} (f : α → Comp (List PyData)) : List α → Comp (List PyData)
  | [] => .ret []
  | a :: as => (f a).bind fun r => (flatC f as).bind fun rs => .ret (r ++ rs)
def Ecs.allV : Ecs → List Nat
  | .nil => []
  | .cons _ _ _ vs cs => vs ++ cs.allV
def Ecs.len : Ecs → Nat
  | .nil => 0
  | .cons _ _ _ _ cs => cs.len + 1
/-- what must not raise (a comprehension's turn) -/
def nox {α : Type} (c : Comp α) : Comp α := c.tie (fun _ => .stuck) .ret
def frC : FR → Comp Wd
  | .fz w => .ret w
  | .ow ds => .ret (.d (.list ds))

def dD (c : Comp Wd) : CP := c.bind asD
def asB : Wd → Comp Bool
  | .d (.bool b) => .ret b
  | _ => .stuck
def dB (c : Comp Wd) : Comp Bool := c.bind asB
@[simp] def asI : Wd → Comp Int
  | .d (.int b) => .ret b
  | _ => .stuck
def dI (c : Comp Wd) : Comp Int := c.bind asI
def retD (c : CP) : Comp Wd := c.bind fun z => .ret (.d z)
def retB (c : Comp Bool) : Comp Wd := c.bind fun z => .ret (.d (.bool z))
@[simp] def asS : PyData → Comp Str
  | .str x => .ret x
  | _ => .stuck
@[simp] def negE : PyData → CP
  | .int i => .ret (.int (-i))
  | _ => .stuck
@[simp] def isnE (n : Bool) : Wd → Comp Wd
  | .d .none => .ret (.d (.bool (!n)))
  | .d _ => .ret (.d (.bool n))
  | _ => .stuck
def lnsE : Wd → Comp Wd
  | .scr n => .ret (.d (.int n))
  | _ => .stuck
def drwE : Wd → PyData → Comp Wd
  | .rng, .int k => .draw k fun r => .ret (.d (.int r))
  | _, _ => .stuck
def limS (ds : List PyData) : Comp (List PyData) := if ds.length ≤ 20 then .ret ds else .stuck
def limL (ds : List PyData) : Comp (List PyData) := if ds.length ≤ LIM then .ret ds else .stuck
@[simp] def listP : PyData → Comp (List PyData)
  | .list ds => .ret ds
  | _ => .stuck
@[simp] def seqP : PyData → Comp (List PyData)
  | .list ds => .ret ds
  | .tuple ds => .ret ds
  | _ => .stuck
def repE : PyData → PyData → Comp (List PyData)
  | .list xs, .int k => if decide (0 ≤ k) && decide (k ≤ 1000) && decide (xs.length ≤ 100) then .ret (List.replicate k.toNat xs).flatten else .stuck
  | _, _ => .stuck
def splitE : Str → PyData → Comp (List PyData)
  | a, .str b => if (b.length != 0) && decide (a.length ≤ LIM) then .ret ((Txt.split a b).map .str) else .stuck
  | _, _ => .stuck
@[simp] def owC : FR → Comp (List PyData)
  | .ow ds => .ret ds
  | .fz _ => .stuck
/-- a, a - 1, .. above b -/
def rg3P (a b : Int) : List PyData := (List.range (a - b).toNat).map fun (i : Nat) => .int (a + i * -1)
def tupOf : Wd → Wd → Comp (PyData × PyData)
  | .d x, .d y => .ret (x, y)
  | _, _ => .stuck

section
variable (cl : Nat → List Wd → Comp FR)
mutual
@[simp] def Ee.ev : Ee → En → Comp Wd
  | .var i _ _, e => varE e i
  | .con _ v _, _ => .ret (.d v.val)
  | .non _ _, _ => .ret (.d .none)
  | .bl b _ _, _ => .ret (.d (.bool b))
  | .int i _ _, _ => .ret (.d (.int i))
  | .str s _ _, _ => .ret (.d (.str s))
  | .tup es _ _, e => (es.ev e).bind fun ds => .ret (.d (.tuple ds))
  | .bin o a b _, e => (dD (a.ev e)).bind fun x => (dD (b.ev e)).bind fun y => retD (binE o x y)
  | .neg a _, e => (dD (a.ev e)).bind fun x => retD (negE x)
  | .nt a _, e => (dB (a.ev e)).bind fun b => .ret (.d (.bool (!b)))
  | .andd es _, e => es.evAnd e
  | .orr es _, e => es.evOr e
  | .cmp o a b _, e => (a.ev e).bind fun x => (b.ev e).bind fun y => retB (cmpE o x y)
  | .chn o1 o2 a b c _, e => (dD (a.ev e)).bind fun x => (dD (b.ev e)).bind fun y => (cmpE o1 x y).bind fun z =>
      if z then (dD (c.ev e)).bind fun u => retB (cmpE o2 y u) else .ret (.d (.bool false))
  | .isn n a _ _ _, e => (a.ev e).bind fun x => isnE n x
  | .ife c a b _, e => (dB (c.ev e)).bind fun t => if t then a.ev e else b.ev e
  | .idx a i _, e => (a.ev e).bind fun x => (dD (i.ev e)).bind fun y => retD (idxE x y)
  | .slc a lo hi _ _, e => (a.ev e).bind fun x => (lo.ev e).bind fun l => (hi.ev e).bind fun h => retD (slcE x l h)
  | .f1 f _ a _, e => (a.ev e).bind fun x => retD (f1E f x)
  | .f2 f _ a b _, e => (dD (a.ev e)).bind fun x => (dD (b.ev e)).bind fun y => retD (f2E f x y)
  | .isi _ a t _ _, e => (dD (a.ev e)).bind fun x => .ret (.d (.bool (isiE t x)))
  | .m1 m o _ a _, e => (dD (o.ev e)).bind fun x => (asS x).bind fun z => (a.ev e).bind fun y => retD (m1E m z y)
  | .call f _ _ es _, e => (es.evW e).bind fun ws => (cl f ws).bind frC
  | .drw _ _ m x _, e => (m.ev e).bind fun w => (dD (x.ev e)).bind fun n => drwE w n
  | .frz f, e => (f.ev e).bind fun ds => .ret (.d (.list ds))
  | .lns i _ _ _ _, e => (varE e i).bind lnsE
  | .lsc _ a _ _ _ _ _ _ _, e => (dD (a.ev e)).bind fun x => retD (lscE x)
@[simp] def Es.ev : Es → En → Comp (List PyData)
  | .nil, _ => .ret []
  | .cons a es, e => (dD (a.ev e)).bind fun d => (es.ev e).bind fun ds => .ret (d :: ds)
@[simp] def Es.evW : Es → En → Comp (List Wd)
  | .nil, _ => .ret []
  | .cons a es, e => (a.ev e).bind fun d => (es.evW e).bind fun ds => .ret (d :: ds)
@[simp] def Es.evAnd : Es → En → Comp Wd
  | .nil, _ => .stuck
  | .cons a .nil, e => a.ev e
  | .cons a es, e => (dB (a.ev e)).bind fun b => if b then es.evAnd e else .ret (.d (.bool false))
@[simp] def Es.evOr : Es → En → Comp Wd
  | .nil, _ => .stuck
  | .cons a .nil, e => a.ev e
  | .cons a es, e => (dB (a.ev e)).bind fun b => if b then .ret (.d (.bool true)) else es.evOr e
@[simp] def Eo.ev : Eo → En → Comp (Option Int)
  | .no, _ => .ret none
  | .so a, e => (dI (a.ev e)).bind fun i => .ret (some i)
@[simp] def Eo.evT : Eo → En → Comp Bool
  | .no, _ => .ret true
  | .so a, e => dB (a.ev e)
@[simp] def Eb.ev : Eb → En → CP
  | .ex a, e => dD (a.ev e)
  | .ov i _ _, e => match e[i]? with
    | some (.ow ds) => .ret (.list ds)
    | _ => .stuck
@[simp] def Ef.ev : Ef → En → Comp (List PyData)
  | .lst es _, e => es.ev e
  | .lc a t it c own _ _, e => (it.ev e).bind fun ds => (limL ds).bind fun ds => nox (mapC (fun d => (bindT t d (wipeE e (own.map (·.2)))).bind fun e2 => (c.evT e2).bind fun b => if b then (dD (a.ev e2)).bind fun y => .ret (some y) else .ret none) ds)
  | .lcs a t it c vs cs _ _ _, e => (it.ev e).bind fun ds => (limS ds).bind fun ds => nox (flatC (fun d => (bindT t d (wipeE e (vs ++ cs.allV))).bind fun e2 => (c.evT e2).bind fun b => if b then cs.ev (fun e3 => a.ev e3) e2 else .ret []) ds)
  | .cat a b _, e => (a.ev e).bind fun x => (b.ev e).bind fun y => (listP x).bind fun xs => (listP y).bind fun ys => limL (xs ++ ys)
  | .rep a n _, e => (a.ev e).bind fun x => (dD (n.ev e)).bind fun y => repE x y
  | .lof _ a _, e => (a.ev e).bind fun x => seqP x
  | .lofr _ _ a _ _, e => (dI (a.ev e)).bind fun k => if decide (-100000 ≤ k) && decide (k ≤ 100000) then .ret (rngP 0 k) else .stuck
  | .slc a lo hi _ _, e => (a.ev e).bind fun x => (lo.ev e).bind fun l => (hi.ev e).bind fun h => (listP x).bind fun xs => .ret (cutP xs l h)
  | .split o _ a _, e => (dD (o.ev e)).bind fun x => (asS x).bind fun z => (dD (a.ev e)).bind fun y => splitE z y
  | .call f _ _ es _, e => (es.evW e).bind fun ws => (cl f ws).bind owC
@[simp] def Ecs.ev : Ecs → (En → Comp Wd) → En → Comp (List PyData)
  | .nil, f, e => (dD (f e)).bind fun y => .ret [y]
  | .cons t it c vs cs, f, e => (it.ev e).bind fun ds => (limS ds).bind fun ds => flatC (fun d => (bindT t d (wipeE e (vs ++ cs.allV))).bind fun e2 => (c.evT e2).bind fun b => if b then cs.ev f e2 else .ret []) ds
@[simp] def Ei.ev : Ei → En → Comp (List PyData)
  | .seq a, e => (dD (a.ev e)).bind fun x => seqE x
  | .rg1 _ a _, e => (dI (a.ev e)).bind fun k => if bigI k then .ret (rngP 0 k) else .stuck
  | .rg2 _ a b _, e => (dI (a.ev e)).bind fun i => (dI (b.ev e)).bind fun j => if bigI i && bigI j then .ret (rngP i j) else .stuck
  | .rg3 _ a b c _, e => (dI (a.ev e)).bind fun i => (dI (b.ev e)).bind fun j => (dI (c.ev e)).bind fun k =>
      if rgOkB i j k then .ret (rg3P i j) else .stuck
  | .enu _ a _, e => (dD (a.ev e)).bind fun x => enuE x
  | .zip _ a b _, e => (dD (a.ev e)).bind fun x => (dD (b.ev e)).bind fun y => zipE x y
end

/-! ### statements -/
def forC (f : PyData → En → Comp Ou) : List PyData → En → Comp Ou
  | [], e => .ret (.nx e)
  | d :: ds, e => (f d e).bind fun o => match o with
    | .nx e2 => forC f ds e2
    | .ct e2 => forC f ds e2
    | .br e2 => .ret (.nx e2)
    | .rt r => .ret (.rt r)
    | .ex x e2 => .ret (.ex x e2)
def exO {α : Type} (e : En) (c : Comp α) (f : α → Comp Ou) : Comp Ou := c.tie (fun x => .ret (.ex x e)) f
def whlC (c : En → Comp Bool) (f : En → Comp Ou) : Nat → En → Comp Ou
  | 0, _ => .stuck
  | n + 1, e => exO e (c e) fun b => if b then (f e).bind fun o => (match o with
    | .nx e2 => whlC c f n e2
    | .ct e2 => whlC c f n e2
    | .br e2 => .ret (.nx e2)
    | .rt r => .ret (.rt r)
    | .ex x e2 => .ret (.ex x e2)) else .ret (.nx e)
def frzE (e : En) (i : Nat) : En := match e[i]? with
  | some (.ow ds) => e.set i (.fz (.d (.list ds)))
  | _ => e
@[simp] def Ea.ev : Ea → En → Comp Sl
  | .ex a, e => (a.ev cl e).bind fun w => .ret (.fz w)
  | .nw f, e => (f.ev cl e).bind fun ds => .ret (.ow ds)
def putE (e : En) (i : Nat) (k : Int) (d : PyData) : Comp Ou := match e[i]? with
  | some (.ow ds) => (match L2.ixN ds.length k with | some j => .ret (.nx (e.set i (.ow (ds.set j d)))) | none => .stuck)
  | _ => .stuck
def appE (e : En) (i : Nat) (d : PyData) : Comp Ou := match e[i]? with
  | some (.ow ds) => if ds.length < LIM then .ret (.nx (e.set i (.ow (ds ++ [d])))) else .stuck
  | _ => .stuck
def popE (e : En) (i j : Nat) (d : PyData) : Comp Ou := match e[i]?, e[j]?, d with
  | some (.ow ds), some (.ow es), .int k => if decide (0 ≤ k) && decide (es.length ≤ LIM) && decide (ds.length < LIM) then (match es[k.toNat]? with | some y => .ret (.nx ((e.set j (.ow (es.eraseIdx k.toNat))).set i (.ow (ds ++ [y])))) | none => .stuck) else .stuck
  | _, _, _ => .stuck
def augB : BO → Int → Int → Comp Int
  | .add, i, j => .ret (i + j)
  | .sub, i, j => .ret (i - j)
  | .mul, i, j => if smallI i || smallI j then .ret (i * j) else .stuck
  | .div, i, j => if decide (0 < j) && decide (j.natAbs.log2 < 9000) then .ret (i / j) else .stuck
  | _, _, _ => .stuck
def augE (e : En) (i : Nat) (o : BO) (j : Int) : Comp Ou := (dI (varE e i)).bind fun x => (augB o x j).bind fun z => .ret (.nx (e.set i (.fz (.d (.int z)))))
/-- the slot's owner first -/
def isO (e : En) (i : Nat) (c : Comp Ou) : Comp Ou := match e[i]? with
  | some (.ow _) => c
  | _ => .stuck
def isF (e : En) (i : Nat) (c : Comp Ou) : Comp Ou := match e[i]? with
  | some (.fz _) => c
  | _ => .stuck
def retO (e : En) (i : Nat) : Comp Ou := match e[i]? with
  | some (.ow ds) => .ret (.rt (.ow ds))
  | _ => .stuck
@[simp] def Hd.ev : Hd → Exn → En → Comp Ou
  | .put j _ _ s _ _ _, _, e => .ret (.nx (e.set j (.fz (.d (.str s)))))
  | .fld i _ j _ _ _ _ _ _, x, e => if i < e.length then .ret (.nx (((e.set i .un).set j (.fz (.d x.v))).set i .un)) else .stuck
@[simp] def Hds.ev : Hds → Exn → En → Comp Ou
  | .nil, x, e => .ret (.ex x e)
  | .cons c _ _ h _ hs, x, e => if x.c = c then h.ev x e else hs.ev x e
def catchC (f : Exn → En → Comp Ou) : Ou → Comp Ou
  | .ex x e => f x e
  | o => .ret o
mutual
@[simp] def Sm.ev (wf : Nat) : Sm → En → Comp Ou
  | .asg i _ _ a _, e => exO e (a.ev cl e) fun w => .ret (.nx (e.set i (.fz w)))
  | .asgF i _ _ f _, e => exO e (f.ev cl e) fun ds => .ret (.nx (e.set i (.ow ds)))
  | .unp t a _, e => exO e (dD (a.ev cl e)) fun d => (bindT t d e).bind fun e2 => .ret (.nx e2)
  | .par i _ _ j _ _ a b _ _ _ _ _, e => exO e (a.ev cl e) fun x => exO e (b.ev cl e) fun y => .ret (.nx ((e.set i x).set j y))
  | .par3 i _ _ j _ _ l _ _ a b c _ _ _ _ _, e => exO e (a.ev cl e) fun u => exO e (b.ev cl e) fun v => exO e (c.ev cl e) fun w => .ret (.nx (((e.set i (.fz u)).set j (.fz v)).set l (.fz w)))
  | .put i _ _ ix a _ _, e => isO e i <| exO e (dD (a.ev cl e)) fun d => exO e (dI (ix.ev cl e)) fun k => putE e i k d
  | .aug i _ _ o a _, e => isF e i <| exO e (dI (a.ev cl e)) fun d => augE e i o d
  | .app i _ _ _ a _ _, e => isO e i <| exO e (dD (a.ev cl e)) fun d => appE e i d
  | .apo i _ _ _ j _ _ _ a _ _ _, e => isO e i <| isO e j <| exO e (dD (a.ev cl e)) fun d => popE e i j d
  | .iff c a b _, e => exO e (dB (c.ev cl e)) fun t => if t then a.ev wf e else b.ev wf e
  | .forr t it b _, e => exO e (it.ev cl e) fun ds => forC (fun d e1 => (bindT t d e1).bind fun e2 => b.ev wf e2) ds e
  | .whl c b _, e => whlC (fun e1 => dB (c.ev cl e1)) (fun e1 => b.ev wf e1) wf e
  | .ret a _, e => exO e (a.ev cl e) fun w => .ret (.rt (.fz w))
  | .retF f _, e => exO e (f.ev cl e) fun ds => .ret (.rt (.ow ds))
  | .retO i _ _ _, e => retO e i
  | .expr a _, e => exO e (a.ev cl e) fun _ => .ret (.nx e)
  | .brk _, e => .ret (.br e)
  | .cnt _, e => .ret (.ct e)
  | .pass _, e => .ret (.nx e)
  | .never _, _ => .stuck
  | .rai c _ _ a _ _, e => exO e (dD (a.ev cl e)) fun d => if flatP d then .ret (.ex ⟨c, d⟩ e) else .stuck
  | .tr b hs _, e => (b.ev wf e).bind (catchC hs.ev)
@[simp] def Sms.ev (wf : Nat) : Sms → En → Comp Ou
  | .nil, e => .ret (.nx e)
  | .cons s ss, e => (s.ev wf e).bind fun o => match o with
    | .nx e2 => ss.ev wf e2
    | o => .ret o
  | .frz i ss, e => ss.ev wf (frzE e i)
  | .fgt is ss, e => ss.ev wf (wipeE e is)
end
end

/-! ### a program -/
structure Fd where
  nm : Str
  N : List Str
  np : Nat
  body : Sms
def endC : Ou → Comp FR
  | .nx _ => .ret (.fz (.d .none))
  | .rt r => .ret r
  | .ex x _ => .raise x
  | _ => .stuck
@[simp] def startE (n : Nat) (ws : List Wd) : En := ws.map .fz ++ List.replicate (n - ws.length) .un
def Fd.run (wf : Nat) (cl : Nat → List Wd → Comp FR) (f : Fd) (ws : List Wd) : Comp FR :=
  if ws.length = f.np then (nox (f.body.ev cl wf (startE f.N.length ws))).bind endC else .stuck
/-- later functions stand ahead; a function is known by how many stand behind it -/
def callT (wf : Nat) : List Fd → Nat → List Wd → Comp FR
  | [], _, _ => .stuck
  | f :: fs, j, ws => if j = fs.length then f.run wf (callT wf fs) ws else callT wf fs j ws
end TC

set_option Elab.async false
set_option linter.all false
set_option maxRecDepth 100000
set_option maxHeartbeats 2000000
namespace TC
open PySem

/-! ### what is looked at once: names stand where the syntax says -/
structure Chk where
  fns : List Str
  cons : List (Str × Cst)
  dn : Str
  /-- the errors' classes: the name, the field -/
  exs : List (Str × Option Str) := []
def plainNm (x : Str) : Bool := !(x == ("__debug__" : Str)) && !(x == ("__classdict__" : Str)) && !(x == ("__name__" : Str))
def visB (sc : Scope) (x : Str) : Bool := plainNm x && (match sc.names.lookup x with | some .local => true | some .cell => true | some .free => true | _ => false)
def locB (sc : Scope) (x : Str) : Bool := plainNm x && (match sc.names.lookup x with | some .local => true | some .cell => true | _ => false)
def glB (sc : Scope) (x : Str) : Bool := plainNm x && (match sc.names.lookup x with | some .globalImplicit => true | _ => false)
def slotB (N : List Str) (i : Nat) (x : Str) : Bool := N[i]? == some x
def Ee.isVar : Ee → Bool
  | .var .. => true
  | _ => false
/-- a receiver of a method: no call (super() is one) -/
def Ee.recv : Ee → Bool
  | .call .. => false
  | .frz .. => false
  | .drw .. => false
  | _ => true
def Es.len : Es → Nat
  | .nil => 0
  | .cons _ es => es.len + 1
def Ei.tupB : Ei → Tt → Bool
  | .enu .., .tp .. => true
  | .zip .., .tp .. => true
  | .enu .., _ => false
  | .zip .., _ => false
  | _, _ => true
def Ts.ok (N : List Str) (sc : Scope) (vs : Option (List Nat)) : Ts → Bool
  | .nil => true
  | .cons i x _ ts => slotB N i x && locB sc x && (match vs with | none => true | some l => decide (i ∈ l)) && ts.ok N sc vs
def Tt.ok (N : List Str) (sc : Scope) (vs : Option (List Nat)) : Tt → Bool
  | .nm i x _ => slotB N i x && locB sc x && (match vs with | none => true | some l => decide (i ∈ l))
  | .tp ts _ _ => ts.ok N sc vs
def Hd.ok (N : List Str) (fld : Option Str) (sc : Scope) : Hd → Bool
  | .put j y .. => slotB N j y && locB sc y
  | .fld i n j y _ f _ _ _ => slotB N i n && decide (sc.names.lookup n = some .local) && plainNm n && visB sc n && slotB N j y && locB sc y && decide (fld = some f) && decide (i ≠ j)
def Hds.ok (c : Chk) (N : List Str) (sc : Scope) : Hds → Bool
  | .nil => true
  | .cons k x _ h _ hs => (match c.exs[k]? with | some (y, f) => decide (y = x) && h.ok N f sc | none => false) && glB sc x && hs.ok c N sc
def Hds.some : Hds → Bool
  | .nil => false
  | _ => true
section
variable (c : Chk) (N : List Str)
mutual
def Ee.ok : Ee → Scope → Bool
  | .var i x _, sc => slotB N i x && visB sc x
  | .con x v _, sc => glB sc x && decide (c.cons.lookup x = some v)
  | .non _ _, _ => true
  | .bl _ _ _, _ => true
  | .int _ _ _, _ => true
  | .str _ _ _, _ => true
  | .tup es _ _, sc => es.ok sc && decide (es.len ≤ 1000)
  | .bin _ a b _, sc => a.ok sc && b.ok sc
  | .neg a _, sc => a.ok sc
  | .nt a _, sc => a.ok sc
  | .andd es _, sc => es.ok sc
  | .orr es _, sc => es.ok sc
  | .cmp _ a b _, sc => a.ok sc && b.ok sc
  | .chn _ _ a b u _, sc => a.ok sc && b.ok sc && u.ok sc
  | .isn _ a _ _ _, sc => a.ok sc
  | .ife t a b _, sc => t.ok sc && a.ok sc && b.ok sc
  | .idx a i _, sc => a.ok sc && i.ok sc
  | .slc a lo hi _ _, sc => a.ok sc && lo.ok sc && hi.ok sc
  | .f1 f _ a _, sc => glB sc f.nm && a.ok sc
  | .f2 f _ a b _, sc => glB sc f.nm && a.ok sc && b.ok sc
  | .isi _ a t _ _, sc => glB sc "isinstance" && glB sc t.nm && a.ok sc
  | .m1 _ o pa a p, sc => o.ok sc && a.ok sc && (pa.endLine == p.line) && o.recv
  | .call f x _ es _, sc => glB sc x && decide (c.fns[f]? = some x) && es.ok sc
  | .drw x _ m e _, sc => glB sc x && decide (x = c.dn) && m.isVar && m.ok sc && e.ok sc
  | .frz f, sc => f.ok sc
  | .lns i x _ _ _, sc => slotB N i x && visB sc x && glB sc "len"
  | .lsc _ a i x _ _ sc2 _ _, sc => L2.blkC N sc sc2 [(x, i)] && (slotB N i x && locB sc2 x && visB (L2.relS sc2 sc) x) && a.ok sc && glB sc "len"
def Es.ok : Es → Scope → Bool
  | .nil, _ => true
  | .cons e es, sc => e.ok sc && es.ok sc
def Eo.ok : Eo → Scope → Bool
  | .no, _ => true
  | .so e, sc => e.ok sc
def Eb.ok : Eb → Scope → Bool
  | .ex e, sc => e.ok sc
  | .ov i x _, sc => slotB N i x && visB sc x
def Ef.ok : Ef → Scope → Bool
  | .lst es _, sc => es.ok sc && decide (es.len ≤ 1000)
  | .lc e t it o own sc2 _, sc => L2.blkC N sc sc2 own && it.ok sc && it.tupB t && t.ok N sc2 (some (own.map (·.2))) && o.ok (L2.relS sc2 sc) && e.ok (L2.relS sc2 sc)
  | .lcs e t it o vs cs own sc2 _, sc => L2.blkC N sc sc2 own && it.ok sc && it.tupB t && t.ok N sc2 (some vs) && o.ok (L2.relS sc2 sc) && e.ok (L2.relS sc2 sc) && cs.ok sc2 (L2.relS sc2 sc) && decide (own.map (·.2) = vs ++ cs.allV) && decide (cs.len ≤ 3)
  | .cat a b _, sc => a.ok sc && b.ok sc
  | .rep a n _, sc => a.ok sc && n.ok sc
  | .lof _ a _, sc => glB sc "list" && a.ok sc
  | .lofr _ _ e _ _, sc => glB sc "list" && glB sc "range" && e.ok sc
  | .slc a lo hi _ _, sc => a.ok sc && lo.ok sc && hi.ok sc
  | .split o pa a p, sc => o.ok sc && a.ok sc && (pa.endLine == p.line) && o.recv
  | .call f x _ es _, sc => glB sc x && decide (c.fns[f]? = some x) && es.ok sc
def Ecs.ok : Ecs → Scope → Scope → Bool
  | .nil, _, _ => true
  | .cons t it o vs cs, sc2, sc => it.ok sc && it.tupB t && t.ok N sc2 (some vs) && o.ok sc && cs.ok sc2 sc
def Ei.ok : Ei → Scope → Bool
  | .seq a, sc => a.ok sc
  | .rg1 _ a _, sc => glB sc "range" && a.ok sc
  | .rg2 _ a b _, sc => glB sc "range" && a.ok sc && b.ok sc
  | .rg3 _ a b d _, sc => glB sc "range" && a.ok sc && b.ok sc && d.ok sc
  | .enu _ a _, sc => glB sc "enumerate" && a.ok sc
  | .zip _ a b _, sc => glB sc "zip" && a.ok sc && b.ok sc
end
end
end TC

set_option Elab.async false
set_option linter.all false
set_option maxRecDepth 100000
set_option maxHeartbeats 2000000
namespace TC
open PySem L2

/-! ### how data stand in the heap -/
abbrev Sub (G H : Hp) : Prop := ∀ a o, G a = some o → H a = some o
theorem Sub.rd {G H : Hp} {a : Addr} {u : HO} (s : Sub G H) (h : Rd G a u) : Rd H a u := by
  rcases h with h | ⟨o, h⟩
  · exact .inl (s _ _ h)
  · exact .inr ⟨o, s _ _ h⟩
theorem Sub.sqL {K : PySem.W.Frag} {G H : Hp} {a : Addr} {xs : List V} (s : Sub G H) (h : SqL K G a xs) : SqL K H a xs := h.imp s.rd id
theorem Sub.sqT {K : PySem.W.Frag} {G H : Hp} {a : Addr} {xs : List V} (s : Sub G H) (h : SqT K G a xs) : SqT K H a xs := h.imp s.rd id
/-! how data stand; a list is an object of the run, not of the text's top -/
mutual
inductive Dq (K : PySem.W.Frag) (H : Hp) : V → PyData → Prop
  | non : Dq K H .non .none
  | bl (b : Bool) : Dq K H (.bl b) (.bool b)
  | int (i : Int) : Dq K H (.int i) (.int i)
  | str (x : Str) : Dq K H (.str x) (.str x)
  | lst {a : Addr} {xs : List V} {ds : List PyData} : Rd H a (.lst xs) → DqAll K H xs ds → Dq K H (.ref a) (.list ds)
  | tup {a : Addr} {xs : List V} {ds : List PyData} : SqT K H a xs → DqAll K H xs ds → Dq K H (.ref a) (.tuple ds)
inductive DqAll (K : PySem.W.Frag) (H : Hp) : List V → List PyData → Prop
  | nil : DqAll K H [] []
  | cons {v : V} {vs : List V} {d : PyData} {ds : List PyData} : Dq K H v d → DqAll K H vs ds → DqAll K H (v :: vs) (d :: ds)
end
mutual
theorem Dq.dp {K : PySem.W.Frag} {H : Hp} : ∀ {v : V} {d : PyData}, Dq K H v d → Dp K H v d
  | _, _, .non => .non
  | _, _, .bl b => .bl b
  | _, _, .int i => .int i
  | _, _, .str x => .str x
  | _, _, .lst q r => .lst (.inl q) (DqAll.dp r)
  | _, _, .tup q r => .tup q (DqAll.dp r)
theorem DqAll.dp {K : PySem.W.Frag} {H : Hp} : ∀ {vs : List V} {ds : List PyData}, DqAll K H vs ds → DpAll K H vs ds
  | _, _, .nil => .nil
  | _, _, .cons q r => .cons (Dq.dp q) (DqAll.dp r)
end
mutual
theorem Sub.dp {K : PySem.W.Frag} {G H : Hp} (s : Sub G H) : ∀ {v : V} {d : PyData}, Dq K G v d → Dq K H v d
  | _, _, .non => .non
  | _, _, .bl b => .bl b
  | _, _, .int i => .int i
  | _, _, .str x => .str x
  | _, _, .lst q r => .lst (s.rd q) (s.dps r)
  | _, _, .tup q r => .tup (s.sqT q) (s.dps r)
theorem Sub.dps {K : PySem.W.Frag} {G H : Hp} (s : Sub G H) : ∀ {vs : List V} {ds : List PyData}, DqAll K G vs ds → DqAll K H vs ds
  | _, _, .nil => .nil
  | _, _, .cons q r => .cons (s.dp q) (s.dps r)
end
theorem dps_length {K : PySem.W.Frag} {G : Hp} : ∀ {vs : List V} {ds : List PyData}, DqAll K G vs ds → vs.length = ds.length
  | _, _, .nil => rfl
  | _, _, .cons _ r => congrArg (· + 1) (dps_length r)
theorem dps_append {K : PySem.W.Frag} {G : Hp} : ∀ {vs us : List V} {ds es : List PyData}, DqAll K G vs ds → DqAll K G us es → DqAll K G (vs ++ us) (ds ++ es)
  | _, _, _, _, .nil, q => q
  | _, _, _, _, .cons p r, q => .cons p (dps_append r q)
theorem dps_get {K : PySem.W.Frag} {G : Hp} : ∀ {vs : List V} {ds : List PyData} {i : Nat} {d : PyData}, DqAll K G vs ds → ds[i]? = some d → ∃ v, vs[i]? = some v ∧ Dq K G v d
  | _, _, 0, _, .cons p _, e => by
    obtain rfl := Option.some.inj (by simpa using e)
    exact ⟨_, rfl, p⟩
  | _, _, i + 1, _, .cons _ r, e => by
    obtain ⟨v, h, q⟩ := dps_get (i := i) r (by simpa using e)
    exact ⟨v, by simpa using h, q⟩
theorem dps_drop {K : PySem.W.Frag} {G : Hp} : ∀ (n : Nat) {vs : List V} {ds : List PyData}, DqAll K G vs ds → DqAll K G (vs.drop n) (ds.drop n)
  | 0, _, _, h => h
  | _ + 1, _, _, .nil => .nil
  | n + 1, _, _, .cons _ r => dps_drop n r
theorem dps_take {K : PySem.W.Frag} {G : Hp} : ∀ (n : Nat) {vs : List V} {ds : List PyData}, DqAll K G vs ds → DqAll K G (vs.take n) (ds.take n)
  | 0, _, _, _ => .nil
  | _ + 1, _, _, .nil => .nil
  | n + 1, _, _, .cons p r => .cons p (dps_take n r)
theorem dps_set {K : PySem.W.Frag} {G : Hp} {v : V} {d : PyData} (p : Dq K G v d) : ∀ {vs : List V} {ds : List PyData} (i : Nat), DqAll K G vs ds → DqAll K G (vs.set i v) (ds.set i d)
  | _, _, _, .nil => .nil
  | _, _, 0, .cons _ r => .cons p r
  | _, _, i + 1, .cons q r => .cons q (dps_set p i r)
theorem dps_rep {K : PySem.W.Frag} {G : Hp} {vs : List V} {ds : List PyData} (h : DqAll K G vs ds) : ∀ n : Nat, DqAll K G (List.replicate n vs).flatten (List.replicate n ds).flatten
  | 0 => .nil
  | n + 1 => by
    rw [List.replicate_succ, List.replicate_succ, List.flatten_cons, List.flatten_cons]
    exact dps_append h (dps_rep h n)
theorem atI_dps {K : PySem.W.Frag} {G : Hp} {vs : List V} {ds : List PyData} {i : Int} {d : PyData} (h : DqAll K G vs ds) (e : atI ds i = some d) : ∃ v, atI vs i = some v ∧ Dq K G v d := by
  unfold atI at e ⊢
  rw [dps_length h]
  cases q : ixN ds.length i with
  | none =>
    rw [q] at e
    cases e
  | some j =>
    rw [q] at e
    exact dps_get h e
theorem dps_ints {K : PySem.W.Frag} {G : Hp} : ∀ {vs : List V} {ds : List PyData} {ns : List Int}, DqAll K G vs ds → intsP ds = some ns → vs = ns.map V.int
  | _, [], ns, .nil, e => by
    cases e
    rfl
  | _, d :: ds, ns, .cons p r, e => by
    cases d with
    | int i =>
      obtain ⟨ms, e1, rfl⟩ := Option.map_eq_some_iff.mp (show (intsP ds).map (i :: ·) = some ns from e)
      cases p
      rw [dps_ints r e1]
      rfl
    | _ => cases e
theorem dps_bools {K : PySem.W.Frag} {G : Hp} : ∀ {vs : List V} {ds : List PyData} {ns : List Bool}, DqAll K G vs ds → boolsP ds = some ns → vs = ns.map V.bl
  | _, [], ns, .nil, e => by
    cases e
    rfl
  | _, d :: ds, ns, .cons p r, e => by
    cases d with
    | bool i =>
      obtain ⟨ms, e1, rfl⟩ := Option.map_eq_some_iff.mp (show (boolsP ds).map (i :: ·) = some ns from e)
      cases p
      rw [dps_bools r e1]
      rfl
    | _ => cases e
theorem dps_strs {K : PySem.W.Frag} {G : Hp} : ∀ {vs : List V} {ds : List PyData} {ns : List Str}, DqAll K G vs ds → strsP ds = some ns → vs = ns.map V.str
  | _, [], ns, .nil, e => by
    cases e
    rfl
  | _, d :: ds, ns, .cons p r, e => by
    cases d with
    | str i =>
      obtain ⟨ms, e1, rfl⟩ := Option.map_eq_some_iff.mp (show (strsP ds).map (i :: ·) = some ns from e)
      cases p
      rw [dps_strs r e1]
      rfl
    | _ => cases e
theorem dps_of_ints {K : PySem.W.Frag} {G : Hp} : ∀ ns : List Int, DqAll K G (ns.map V.int) (ns.map PyData.int)
  | [] => .nil
  | n :: ns => .cons (.int n) (dps_of_ints ns)
theorem dps_of_strs {K : PySem.W.Frag} {G : Hp} : ∀ ns : List Str, DqAll K G (ns.map V.str) (ns.map PyData.str)
  | [] => .nil
  | n :: ns => .cons (.str n) (dps_of_strs ns)
theorem dps_flat {K : PySem.W.Frag} {G : Hp} : ∀ {vs : List V} {ds : List PyData}, DqAll K G vs ds → ds.all flatP = true → vs.all flatV = true
  | _, _, .nil, _ => rfl
  | _, _, .cons (v := v) (d := d) p r, e => by
    rw [List.all_cons, Bool.and_eq_true] at e
    rw [List.all_cons, Bool.and_eq_true]
    refine ⟨?_, dps_flat r e.2⟩
    cases p <;> first | rfl | (have z := e.1; cases z)
end TC

set_option Elab.async false
set_option linter.all false
set_option maxRecDepth 100000
set_option maxHeartbeats 2000000
namespace TC
open PySem L2

/-! ### a def's promise where no text is being shown (repr asks that) -/
structure FnG (P : Program) (w : World) (K : PySem.W.Frag) (mg : Str → Option Value) (base : Heap) (k : Nat) (f : Addr) (fd : FuncData) (ps : List Str) (sp : Sp) : Prop where
  len : ∀ vs H Q E, sp vs H Q E → vs.length = ps.length
  run : ∀ (A : Around) (outer : List Env) (s : Shared) (H : Hp) (args : Args) (us : List Value) (vs : List V) (Q : VK) (E : XK), A.guards = some [] → Room k A →
    Env0 P w K mg base A outer s H → BindsTo s fd args (ps.zip us) → Vals vs us → sp vs H Q E → codeAny (model P w) A (.call (.ref f) args) (CR (L2.CX P w) outer P w H s Q E) s
theorem FnG.mono {P : Program} {w : World} {K : PySem.W.Frag} {mg : Str → Option Value} {base : Heap} {j k : Nat} {f : Addr} {fd : FuncData} {ps : List Str} {sp : Sp} (F : FnG P w K mg base j f fd ps sp) (h : j ≤ k) :
    FnG P w K mg base k f fd ps sp := ⟨F.len, fun A o s H a us vs Q E g r => F.run A o s H a us vs Q E g (r.mono h)⟩
section
variable {X : Cx} {k : Nat} {f : Addr} {fd : FuncData} {ps : List Str} {sp : Sp} {W : WX} {x : Str} {p pos : Pos} {e : Expr} {es : List Expr} {t : TA}
def tCallW (sp : Sp) (W : WX) (t : TA) : TE := fun σ H Q => t σ H fun vs H1 => sp vs H1 Q fun cls d H2 => W cls d σ H2
theorem runG {pins : List (Addr × Obj)} {σ : L2.St} {H : Hp} {s : Shared} {Q : VK} {us : List Value} {vs : List V} (F : FnG X.prog X.w X.K X.mg X.base k f fd ps sp) (hg : X.A.guards = some []) (hr : Room k X.A) (hb : Binds X.K fd ps [])
    (tk : Takes X W) (I : Inv X pins σ H s) (r : Vals vs us) (h : sp vs H Q fun cls d H2 => W cls d σ H2) : wpAny (model X.prog X.w) X.A (PySem.call (.ref f) us) (EP X pins σ Q) X.xe s := by
  have hl : (us ++ ([] : List Value)).length = ps.length := by rw [List.append_nil, ← r.length]; exact F.len _ _ _ _ h
  have b := hb s us I.kIn hl
  rw [List.append_nil] at b
  refine wpAny_call (codeAny_mono (F.run X.A X.stack s H ⟨us, []⟩ us vs Q _ hg hr I.env0 b r h) fun q s' hq => ?_)
  cases q with
  | error e => exact tk e s' (XE.of_call I (fun _ _ _ z => z) hq)
  | ok fl => cases fl <;> first | exact I.after hq | exact False.elim hq
theorem pe_callG (F : FnG X.prog X.w X.K X.mg X.base k f fd ps sp) (hg : X.A.guards = some []) (hr : Room k X.A) (hx : Gl X x) (hm : X.mg x = some (.ref f)) (hk : PySem.W.keepIn X.K (.ref f) = true) (hb : Binds X.K fd ps [])
    (tk : Takes X W) (ha : PA X (e :: es) t) (hdb : (x == ("__debug__" : Str)) = false) (he : starEach (e :: es) X.env = (false, eval e X.env) :: starEach es X.env) (hpl : (backTo pos (starEach es X.env)).any (·.1) = false) :
    PE X (.Call (.Name x p) (e :: es) [] pos) (tCallW sp W t) :=
  ⟨fun pins s σ H Q I h => wpAny_Call_Name_kw (ld_glob I hx hm
    (PySem.W.callWith_K (h₀ := X.base) I.ok.mod.kin hk (thn (ha.run pos pins s σ H _ I h) fun us s1 ⟨vs, H1, I1, rv, q⟩ => ⟨I1.kIn, runG F hg hr hb tk I1 rv q⟩) he hpl) hdb)⟩
theorem pe_callG0 (F : FnG X.prog X.w X.K X.mg X.base k f fd ps sp) (hg : X.A.guards = some []) (hr : Room k X.A) (hx : Gl X x) (hm : X.mg x = some (.ref f)) (hk : PySem.W.keepIn X.K (.ref f) = true) (hb : Binds X.K fd ps [])
    (tk : Takes X W) (hdb : (x == ("__debug__" : Str)) = false) : PE X (.Call (.Name x p) [] [] pos) (tCallW sp W tNil) :=
  ⟨fun pins s σ H Q I h => wpAny_Call_Name_kw (ld_glob I hx hm (PySem.W.callWith_K0 I.kIn hk (runG (us := []) F hg hr hb tk I .nil h)) hdb)⟩
end
open PyProof.Rows in
/-- a def by its body -/
theorem fnG_of {P : Program} {w : World} {K : PySem.W.Frag} {mg : Str → Option Value} {base : Heap} {k : Nat} {f : Addr} {name qual : Str} {params : Arguments} {body : List Stmt} {scope : Scope} {dV kV doc pm cdv ct oc : Value} {an od : Option Addr}
    {osl : Array (Option Value)} {N ps : List Str} {sp : Sp} (lk : K.lookup f = some ⟨oc, od, .func (PySem.W.fnOf name qual params body scope dV kV doc pm an cdv ct), osl⟩) (hcd : PySem.W.codeIn K cdv qual = true) (S : FnScope N ps scope)
    (len : ∀ vs H Q E, sp vs H Q E → vs.length = ps.length)
    (hb : ∀ (A : Around) (outer : List Env) (s : Shared) (H : Hp) (vs : List V) (Q : VK) (E : XK), A.guards = some [] → Room k (A.deeper (envOfC qual scope s.heap.objs.size f cdv)) → sp vs H Q E →
      ∃ t, L2.PSs (cxOf (L2.CX P w) P w K mg base N qual scope f cdv A outer s H E) body t ∧ t { nx := fun _ H' => Q .non H', rt := Q } (start N vs) H) :
    FnG P w K mg base (k + 1) f (PySem.W.fnOf name qual params body scope dV kV doc pm an cdv ct) ps sp where
  len := len
  run := fun A outer s H args us vs Q E hg hr e0 hbd r hsp => by
    have KX : K.In s.heap := e0.mod.kin.keeps fun b o e => (e0.bs b o e).1
    have kinds : ∀ y ∈ ps.zip us, scope.names.lookup y.1 = some .local ∨ (scope.names.lookup y.1 = some .cell ∧ ((cellsFrom (s.heap.objs.size + 1) scope.names []).lookup y.1).isSome = true) := by
      rintro ⟨n, v⟩ hy
      have z := S.par n (List.of_mem_zip hy).1
      exact z.imp id fun q => ⟨q, PySem.W.cellsFrom_some _ _ _ (.inl q)⟩
    refine codeAny_call_function hr.depth (KX _ _ lk) rfl S.co S.gen rfl (PySem.W.codeRec_of KX hcd) (hbd _ _ _ _ (wpAny_newFunctionEnv_cells S.kind kinds ?_))
    intro env he s1 x
    subst he
    obtain ⟨t, ht, hq⟩ := hb A outer s H vs Q E hg (hr.deeper _) hsp
    have I := inv_start (CX := L2.CX P w) (E := E) S hr.hd e0 (len _ _ _ _ hsp) r x
    refine ⟨(e0.mod.nolimit.keeps fun b o e => (e0.bs b o e).1).keeps x.toInCall.keep, codeAny_func ?_⟩
    refine wpAny_mono (ht.run [] s1 _ H _ I hq) (fun fl s' hs => ?_) fun _ _ z => z
    cases fl with
    | ret u =>
      obtain ⟨v, σ', H', J, rv, q⟩ := hs
      exact ⟨v, H', J.os, J.bare, J.base, J.hok, rv, q⟩
    | next =>
      obtain ⟨σ', H', J, q⟩ := hs
      exact ⟨V.non, H', J.os, J.bare, J.base, J.hok, rfl, q⟩
    | brk => exact (show False from hs.choose_spec.choose_spec.2).elim
    | cont => exact (show False from hs.choose_spec.choose_spec.2).elim
end TC

set_option Elab.async false
set_option linter.all false
set_option maxRecDepth 100000
set_option maxHeartbeats 4000000
/-! how many texts of a tuple are unlike: len({x for x in t}) -/
namespace TS
open PySem L2 PySem.Spec
/-- met so far; how many unlike ones -/
def met (ys : List Str) (k : Key) : Bool := ys.any fun y => decide (k = .inr y)
theorem cntR_le : ∀ l : List Str, cntR l ≤ l.length
  | [] => Nat.le_refl _
  | y :: r => by
    have z := cntR_le r
    unfold cntR
    rw [List.length_cons]
    split <;> omega
theorem cnt_le (l : List Str) : cnt l ≤ l.length := by
  have z := cntR_le l.reverse
  rw [List.length_reverse] at z
  exact z
theorem met_mem {ys : List Str} {y : Str} : met ys (.inr y) = true ↔ y ∈ ys := by
  unfold met
  rw [List.any_eq_true]
  constructor
  · rintro ⟨z, hz, e⟩
    have := of_decide_eq_true e
    injection this with this
    rw [this]
    exact hz
  · intro h
    exact ⟨y, h, decide_eq_true rfl⟩
theorem met_snoc {ys : List Str} {y : Str} : met (ys ++ [y]) = fun j => met ys j || decide (j = .inr y) := by
  funext j
  unfold met
  rw [List.any_append]
  simp
theorem cntR_cons {y : Str} {r : List Str} : cntR (y :: r) = if y ∈ r then cntR r else cntR r + 1 := by rw [cntR]
theorem cnt_snoc {ys : List Str} {y : Str} : cnt (ys ++ [y]) = if met ys (.inr y) = true then cnt ys else cnt ys + 1 := by
  unfold cnt
  rw [List.reverse_append]
  show cntR (y :: ys.reverse) = _
  rw [cntR_cons]
  by_cases h : y ∈ ys
  · rw [if_pos (List.mem_reverse.mpr h), if_pos (met_mem.mpr h)]
  · rw [if_neg (fun z => h (List.mem_reverse.mp z)), if_neg (fun z => h (met_mem.mp z))]
def SO (P : Program) (w : World) (D : Addr) (ys : List Str) : HO := SetK P w D (met ys) (cnt ys)
variable {X : Cx} {pins : List (Addr × Obj)} {σ : L2.St} {H : Hp} {s : Shared}
/-- the next one comes in -/
theorem add_next {D : Addr} {ys : List Str} {y : Str} {u : Value} (I : Inv X pins σ H s) (hD : H D = some (SO X.prog X.w D ys)) (room : ys.length ≤ 1000) (r : RelV (V.str y) u) :
    wpAny (model X.prog X.w) X.A (call (.builtin "set.add") [.ref D, u]) (fun _ s' => Inv X pins σ (upd H D (SO X.prog X.w D (ys ++ [y]))) s') X.xe s := by
  have rm : cnt ys + 1 < scanBound := by
    have := cnt_le ys
    have e : (2000 : Nat) < scanBound := by decide
    omega
  refine thn (mt_saddK (X := X) pins s σ H (.ref D) [kV (.inr y)] (.ref D) [u]
    (fun v H' => H' = upd H D (SO X.prog X.w D (ys ++ [y]))) I rfl (.cons r .nil) ⟨D, .inr y, met ys, cnt ys, rfl, rfl, hD, rm, ?_⟩) fun v s' ⟨x, H', I', _, e⟩ => e ▸ I'
  unfold SO
  rw [met_snoc, cnt_snoc]
/-- an empty one -/
theorem none_yet {h : Heap} : (h.push { cls := .type "set", dict := none, data := .set #[] 0 (.fresh 0 0 (!X.w.params.followText "set-order")) }).SetOf (mixKind X.prog X.w) h.objs.size (met []) (cnt []) := by
  have e := Heap.get?_push_size (o := { cls := .type "set", dict := none, data := .set #[] 0 (.fresh 0 0 (!X.w.params.followText "set-order")) }) h rfl
  exact ⟨_, #[], 0, .fresh 0 0 (!X.w.params.followText "set-order"), e, ⟨rfl, rfl, rfl⟩, rfl, fun e he => by simp at he, fun k => by simp [met], by decide, rfl, rfl⟩
/-- len of such a set -/
theorem len_met : CallR X (.builtin "len") fun xs H Q => ∃ (D : Addr) (ys : List Str), xs = [.ref D] ∧ H D = some (SO X.prog X.w D ys) ∧ ys.length ≤ 1000 ∧ Q (.int (cnt ys)) H := by
  intro pins s σ H xs us Q I r ⟨D, ys, e, hD, hl, q⟩
  subst e
  obtain ⟨u, rfl, ru⟩ := vals1 r
  cases ru
  obtain ⟨o, es, ep, t, ho, hex, hd, _, _, _, hf, hn⟩ := setK_get I hD
  have := cnt_le ys
  exact call_len_set ho hex hd hf (by omega) ⟨.int (cnt ys), H, I.tok _, ⟨_, by rw [hn]⟩, q⟩
/-! ### the comprehension -/
abbrev tOne (X : Cx) (tl : TE) : TE := fun σ H Q => iTup X.K tl σ H fun J H1 => ∃ a ys, J = Itt X.K a ∧ SqT X.K H1 a (ys.map V.str) ∧ ys.length ≤ 1000 ∧ ∀ D, H1 D = none → Q (.ref D) (upd H1 D (SO X.prog X.w D ys))
/-- where the block's frame is gone and the iterator is spent, all is as before, but for the new set -/
abbrev Wst (X : Cx) (σ : L2.St) (D : Addr) (H : Hp) (ys : List Str) (Y : Cx) (tn : Nat → Heap → Prop) (fp : List Addr) (own : List Nat) (i : Nat) (s' : Shared) : Prop :=
  Inv Y [] (wipe σ own) (upd H D (SO X.prog X.w D (ys.take i))) s' ∧ tn i s'.heap ∧ ∀ b ∈ fp, (upd H D (SO X.prog X.w D (ys.take i))) b = none
theorem pe_scT {x : Str} {i : Nat} {iter : Expr} {scope : Scope} {px pe pos : Pos} {tl : TE} (hc : X.calm = true) (hN : X.N.Nodup) (hl : PE X iter tl) (ok : BlkOk X.N X.env.scope scope [(x, i)]) (hs : ∀ z, foldedSetIterable iter X.env z = pure z)
    (hg : ∀ (s : Shared) (H : Hp) (C : Addr) (cl : List (Str × Addr)) (fp : List Addr), PG (X.blk s H scope (compEnvC scope cl C X.env) fp) (.Name x px) (gName i))
    (he : ∀ (s : Shared) (H : Hp) (C : Addr) (cl : List (Str × Addr)) (fp : List Addr), PE (X.blk s H scope (compEnvC scope cl C X.env) fp) (.Name x pe) (tVar i)) :
    PE X (.SetComp (.Name x pe) [⟨.Name x px, iter, [], 0⟩] scope pos) (tOne X tl) := by
  refine ⟨fun pins s σ H Q I h => ?_⟩
  have has : ∀ y ∈ scope.names, y.2 = .free → ∃ c, X.env.cells.lookup y.1 = some c := fun y hy e => (ok.free y hy e).elim (fun k => I.ok.has _ (.inl k)) fun k => I.ok.has _ (.inr k)
  have ix : X.N[i]? = some x := ok.ix (x, i) (by simp)
  rw [PpSet.eval_SetComp]
  refine wpAny_comprehension_free (use := none) rfl hs (closure_ok has) ok.kind (fun y hy e => by rw [ok.uniq y hy, e]) (thn ((pi_tup hl (tg := .Name x px)).run pins s σ H _ I h) fun xv s1 hx => thn hx fun itv s2 hi => ?_)
  obtain ⟨it, fp, tn, J, H2, rfl, I2, T, st2, f2, a, ys, rfl, hq, hlen, q⟩ := hi
  refine PpSet.newSet_ok (newEnv_comp ?_)
  have hDn : H2 s2.heap.objs.size = none := I2.hok.fresh (Nat.le_refl _)
  have q := q _ hDn
  have I3 := I2.laid (a := s2.heap.objs.size) (o := SO X.prog X.w s2.heap.objs.size []) (t' := s2.toks) (fun b o e => Heap.get?_push_of_some _ e) (Nat.le_refl _) (setK_new none_yet)
  generalize hs3 : ({ s2 with heap := s2.heap.push { cls := .type "set", dict := none, data := .set #[] 0 (.fresh 0 0 (!X.w.params.followText "set-order")) } } : Shared) = s3 at I3 ⊢
  generalize hD : s2.heap.objs.size = D at hDn q I3 ⊢
  have sz3 : s3.heap.objs.size = D + 1 := by
    rw [← hs3, ← hD]
    exact Heap.size_push ..
  have old3 : ∀ b o, s2.heap.get? b = some o → s3.heap.get? b = some o := fun b o e => by
    rw [← hs3]
    exact Heap.get?_push_of_some _ e
  have low : ∀ b ∈ fp, b < D := fun b hb => by
    obtain ⟨o, e, _⟩ := T.obj _ _ st2 b hb
    rw [← hD]
    exact Heap.lt_size e
  have apart : ∀ b ∈ fp, ∀ zs, upd H2 D (SO X.prog X.w D zs) b = none := fun b hb zs => by
    rw [upd_ne (Nat.ne_of_lt (low b hb))]
    exact (f2 b hb).1
  have f3 : ∀ b ∈ fp, FpOk X pins (upd H2 D (SO X.prog X.w D [])) b ∧ b < s3.heap.objs.size := fun b hb =>
    ⟨⟨apart b hb _, (f2 b hb).2⟩, sz3 ▸ Nat.lt_succ_of_lt (low b hb)⟩
  have I4 := block_start I3 ok hN f3
  have G := hg s3 (upd H2 D (SO X.prog X.w D [])) s3.heap.objs.size (cellsFrom (s3.heap.objs.size + 1) scope.names (cloFrom X.env.cells scope.names [])) fp
  have R := he s3 (upd H2 D (SO X.prog X.w D [])) s3.heap.objs.size (cellsFrom (s3.heap.objs.size + 1) scope.names (cloFrom X.env.cells scope.names [])) fp
  show codeAny _ _ (.compStart _ 0 (.ref it) (.ref D) (compEnvC scope (cellsFrom (s3.heap.objs.size + 1) scope.names (cloFrom X.env.cells scope.names [])) s3.heap.objs.size X.env)) (compPost _ _ _ none _ _ s3.heap.objs.size) _
  generalize hce : compEnvC scope (cellsFrom (s3.heap.objs.size + 1) scope.names (cloFrom X.env.cells scope.names [])) s3.heap.objs.size X.env = ce at I4 G R ⊢
  have cL : ce.locals = s3.heap.objs.size := by
    rw [← hce]
    rfl
  generalize hs4 : ({ s3 with heap := pushCells (s3.heap.push { cls := .type "dict", data := .dict #[] }) scope.names } : Shared) = s4 at I4 ⊢
  have st4 : tn 0 s4.heap := T.keep 0 s2.heap s4.heap st2 fun b _ o e => by
    rw [← hs4]
    exact pushCells_keeps _ _ _ _ (Heap.get?_push_of_some _ (old3 b o e))
  have sub : ∀ zs, TC.Sub H2 (upd H2 D (SO X.prog X.w D zs)) := fun zs b o e => by
    have ne : b ≠ D := fun z => by
      rw [z, hDn] at e
      cases e
    rw [upd_ne ne]
    exact e
  have fpk : ∀ {τ : L2.St} {zs : List Str} {s' : Shared}, Inv (X.blk s3 (upd H2 D (SO X.prog X.w D [])) scope ce fp) [] τ (upd H2 D (SO X.prog X.w D zs)) s' → ∀ b ∈ fp, FpOk (X.blk s3 (upd H2 D (SO X.prog X.w D [])) scope ce fp) [] (upd H2 D (SO X.prog X.w D zs)) b := fun {τ zs s'} J b hb =>
    ⟨apart b hb _, (J.ok.exf b hb).1, J.ok.exfs b hb, Or.inl hb, (J.ok.exf b hb).2, fun p hp => (List.not_mem_nil hp).elim⟩
  have loop : codeAny (model X.prog X.w) X.A (.compLoop (.SetComp (.Name x pe) [⟨.Name x px, iter, [], 0⟩] scope pos) 0 (.ref it) (.ref D) ce) (compPost (model X.prog X.w) X.A X.xe none (EP X pins σ Q) (.ref D) s3.heap.objs.size) s4 := by
    refine PpSet.compLoopS_any (fun n s' => ∃ k, n = ys.length - k ∧ k ≤ ys.length ∧ Inv (X.blk s3 (upd H2 D (SO X.prog X.w D [])) scope ce fp) [] (wipe σ [i]) (upd H2 D (SO X.prog X.w D (ys.take k))) s' ∧ tn k s'.heap) ?_ ys.length ⟨0, rfl, Nat.zero_le _, I4, st4⟩
    rintro n s5 ⟨k, rfl, hk, I5, st5⟩
    have hq5 := TC.Sub.sqT (sub (ys.take k)) hq
    by_cases lt : k < ys.length
    · have go : (Itt X.K a).go k (upd H2 D (SO X.prog X.w D (ys.take k))) := ⟨_, V.str ys[k], hq5, by simp [lt]⟩
      have off := fpk I5
      refine thnF (T.item (X.blk s3 (upd H2 D (SO X.prog X.w D [])) scope ce fp) rfl rfl rfl hc k [] s5 _ _ (fun _ _ => False) I5 off st5 go) fun r s6 ⟨u, er, nx⟩ => ?_
      subst er
      refine thnF nx fun _ s7 ⟨v, H7, I7, rv, yl, st7, n7⟩ => ?_
      obtain ⟨e7, at7⟩ := yl
      subst e7
      have ev : v = V.str ys[k] := by
        have z := at7 _ hq5
        rw [List.getElem?_map, List.getElem?_eq_getElem lt] at z
        exact (Option.some.inj z).symm
      subst ev
      have P7 := I7.pinned (fpk I7) (T.obj _ _ st7)
      refine thnF (G.run _ s7 _ _ _ u (fun σ8 H8 => σ8 = (wipe σ [i]).set i (some (V.str ys[k])) ∧ H8 = upd H2 D (SO X.prog X.w D (ys.take k))) P7 rv ⟨rfl, rfl⟩) fun _ s8 ⟨σ8, H8, P8, e8, h8⟩ => ?_
      rw [List.forIn_nil]
      refine wpAny_pure ?_
      rw [if_pos rfl]
      have il : i < σ.length := by
        have := (List.getElem?_eq_some_iff.mp ix).1
        have z := I.len
        omega
      have wl : (wipe σ [i]).length = σ.length := wipe_length σ [i]
      have at8 : σ8[i]? = some (some (V.str ys[k])) := by
        rw [e8, List.getElem?_set_self (by omega)]
      refine thnF (R.run _ s8 σ8 H8 (fun v H9 => v = V.str ys[k] ∧ H9 = H8) P8 ⟨_, at8, rfl, rfl⟩) fun z s9 ⟨v, H9, P9, rz, ev, eh⟩ => ?_
      subst ev
      subst eh
      subst h8
      refine thnF (add_next (ys := ys.take k) (D := D) P9 upd_same (by rw [List.length_take]; omega) rz) fun _ s10 P10 => ?_
      have tk : ys.take (k + 1) = ys.take k ++ [ys[k]] := by
        rw [List.take_succ, List.getElem?_eq_getElem lt]
        rfl
      rw [upd_upd, ← tk] at P10
      refine ⟨ys.length - (k + 1), by omega, k + 1, rfl, lt, (P10.unpinned (pins := [])).weak (by rw [e8, List.length_set]) fun j v e => ?_, T.keep (k + 1) s7.heap s10.heap st7 fun b hb o e => (P10.pin (b, o) (List.mem_append_right _ (List.mem_append_right _ (mem_pinsAt hb e)))).1⟩
      have ne : i ≠ j := fun q => (wipe_some (vs := [i]) e).2 (by simp [q])
      rw [e8, List.getElem?_set_ne ne]
      exact e
    · have e : k = ys.length := by omega
      subst e
      rw [List.take_length] at I5 hq5
      refine thnF (T.done (X.blk s3 (upd H2 D (SO X.prog X.w D [])) scope ce fp) rfl rfl rfl hc ys.length [] s5 _ _ (fun _ _ => False) I5 (fpk I5) st5 ⟨_, hq5, by rw [List.length_map]; exact Nat.le_refl _⟩) fun r s6 ⟨er, I6⟩ => ?_
      subst er
      have I7 : Inv X pins σ (upd H2 D (SO X.prog X.w D ys)) s6 := I3.call' (ch := fp) I6.os I6.base I6.hok I6.bare fun b hb => by
        obtain ⟨_, n1, _, n3, n4, n5⟩ := (f3 b hb).1
        exact ⟨n3, n1, n4, n5⟩
      have nC : (upd H2 D (SO X.prog X.w D ys)) s3.heap.objs.size = none := by
        have z := I6.free
        rw [show (X.blk s3 (upd H2 D (SO X.prog X.w D [])) scope ce fp).env.locals = s3.heap.objs.size from cL] at z
        exact z
      obtain ⟨m, hm, _⟩ := I6.loc
      have hm : s6.heap.Ns s3.heap.objs.size m := cL ▸ hm
      obtain ⟨g0, g1, g2, g3, g4, g5⟩ := I3.fpOk (Nat.le_refl _) nC
      exact ⟨m, hm, fun h' sb => ⟨.ref D, _, I7.turned (t' := s6.toks) (fun b o hb e => (sb.2 b hb).trans e) g0 g1 g3 g4 g5, rfl, q⟩⟩
  exact PpSet.codeAny_compStart_set loop (T.self X.A 0 _ _ _ st4 loop)
end TS

set_option Elab.async false
set_option linter.all false
set_option maxRecDepth 100000
set_option maxHeartbeats 4000000
/-! zip of a list and a text -/
namespace TZ
open PySem L2 PySem.Spec
/-- an iterator over a list that has nothing more -/
theorem spent {prog : Program} {w : World} {A : Around} (hh : A.handled = none) (it l : Addr) (items : Array Value) (N : Nat) (h : items.size ≤ N) :
    Draws prog w A it [it, l] N (fun _ _ => True) (fun j g => j = N ∧ g.IsListIter it l N ∧ g.IsList l items) where
  live := fun j g st => let ⟨o, ho, _⟩ := st.2.1; ⟨o, ho⟩
  frame := fun j g g' st hk => ⟨st.1, st.2.1.at fun o e => hk it (by simp) o e, st.2.2.at fun o e => hk l (by simp) o e⟩
  item := fun j s Q E hj st hQ => absurd st.1 (Nat.ne_of_lt hj)
  done := fun s Q E st hE => wpAny_nextOf_list_end hh st.2.1 st.2.2 (by simp; omega) hE
/-- the list at a, the text z -/
def ItS (K : PySem.W.Frag) (a : Addr) (z : Str) : It where
  go := fun i H => ∃ (xs : List V) (x : V), SqL K H a xs ∧ xs[i]? = some x ∧ i < z.cps.size
  yld := fun i H v H' => ∃ T x c, v = .ref T ∧ H T = none ∧ H' = upd H T (.tup [x, .str ⟨#[c]⟩]) ∧ (∀ xs, SqL K H a xs → xs[i]? = some x) ∧ z.cps[i]? = some c
  stop := fun i H => ∃ xs : List V, SqL K H a xs ∧ (xs.length ≤ i ∨ z.cps.size ≤ i)
/-- how the five cells stand -/
def Zs (a : Addr) (z : Str) (t : Tok) (zz TI TO i1 i2 : Addr) (i : Nat) (h : Heap) : Prop :=
  IsZip h zz TI TO .none ∧ IsTupOf2 h TI (.ref i1) (.ref i2) ∧ (∃ u v, IsTupOf2 h TO u v) ∧ h.IsListIter i1 a i ∧ h.IsStrIter i2 (strIterType z) z t i ∧ i ≤ z.cps.size
variable {P : Program} {w : World} {K : PySem.W.Frag} {elts : List Expr} {kk : Nat} {tpos : Pos} {a zz TI TO i1 i2 : Addr} {z : Str} {t : Tok}
theorem turn_ls (S : ZipSep2 zz TI TO i1 i2 [i1, a] [i2]) : Turn P w K (.Tuple elts kk tpos) (ItS K a z) [zz, TI, TO, i1, i2] zz (Zs a z t zz TI TO i1 i2) where
  mem := by simp
  obj := fun i h st c hc => by
    obtain ⟨q1, q2, ⟨u, v, q3⟩, ⟨o1, e1, _, d1⟩, ⟨o2, e2, _, d2⟩, _⟩ := st
    simp only [List.mem_cons, List.not_mem_nil, or_false] at hc
    rcases hc with rfl | rfl | rfl | rfl | rfl
    · exact ⟨_, q1, nofun⟩
    · exact ⟨_, q2, nofun⟩
    · exact ⟨_, q3, nofun⟩
    · exact ⟨o1, e1, fun v q => by rw [d1] at q; cases q⟩
    · exact ⟨o2, e2, fun v q => by rw [d2] at q; cases q⟩
  keep := fun i h h' st k => by
    obtain ⟨q1, q2, ⟨u, v, q3⟩, q4, q5, q6⟩ := st
    exact ⟨k zz (by simp) _ q1, k TI (by simp) _ q2, ⟨u, v, k TO (by simp) _ q3⟩, q4.at fun o q => k i1 (by simp) o q, (let ⟨o, ho, r⟩ := q5; ⟨o, k i2 (by simp) o ho, r⟩), q6⟩
  item := by
    intro X hP hw hK hc i pins s σ H E I hf st hg
    subst hP hw hK
    obtain ⟨q1, q2, ⟨u0, v0, q3⟩, q4, q5, q6⟩ := st
    obtain ⟨xs, x, hq, hx, hz⟩ := hg
    obtain ⟨its, rv, p, _⟩ := I.list hq
    obtain ⟨u, hu, ru⟩ := rv.get hx
    have hi1 : i < its.toArray.size := by
      have := (List.getElem?_eq_some_iff.mp hu).1
      simpa using this
    have na : a ≠ i1 := fun e => by
      have e1 := (hf i1 (by simp)).1
      obtain ⟨o, ho, hcl, hd⟩ := q4
      obtain ⟨o2, ho2, hcl2, _⟩ := p.isList
      rw [e, ho] at ho2
      cases ho2
      rw [hcl] at hcl2
      injection hcl2 with q
      exact absurd q (by decide)
    have D1 := Draws.list (prog := X.prog) (w := X.w) (A := X.A.in1) (I.ok.hd hc) i1 a na its.toArray
    have D2 := Draws.text (prog := X.prog) (w := X.w) (A := X.A.in1) (I.ok.hd hc) i2 z t
    have lt : ∀ {c : Addr} {o : Obj}, s.heap.get? c = some o → c < s.heap.objs.size := fun e => Heap.lt_size e
    refine wpAny_pyNext_zipD2_item S D1 D2 q1 q2 q3 ⟨q4, p.isList⟩ q5 hi1 hz fun x1 x2 h' tk y1 y2 b1 b2 d1 d2 b5 b6 hk => ?_
    obtain ⟨c, uc, hcz, rfl⟩ := y2
    have ex : x1 = u := by
      have q : its.toArray[i]? = some x1 := y1
      have q' : its.toArray[i]? = some u := by simpa using hu
      rw [q'] at q
      exact (Option.some.inj q).symm
    subst ex
    refine ⟨_, rfl, wpAny_letOwnedTupleGo_zip (s := { s with heap := h', toks := tk }) b1 fun h'' z'' sb => ?_⟩
    have hT2 : h''.get? s.heap.objs.size = some { cls := .type "tuple", data := .seq #[x1, .str ⟨#[c]⟩ uc] } := (sb.2 _ (Nat.ne_of_gt (lt q1))).trans b5
    have rs : RelV (V.str ⟨#[c]⟩) (.str ⟨#[c]⟩ uc) := ⟨uc, rfl⟩
    have new : ObjOk X.prog X.w (upd H s.heap.objs.size (.tup [x, .str ⟨#[c]⟩])) h'' s.heap.objs.size (.tup [x, .str ⟨#[c]⟩]) := by
      refine ⟨?_, [x1, .str ⟨#[c]⟩ uc], .cons ru (.cons rs .nil), ⟨_, hT2, rfl, _, rfl⟩⟩
      show 2 ≤ sizeLine
      decide
    have I1 := I.turnedNew (t' := tk) (ch := [zz, TI, TO, i1, i2]) (T := s.heap.objs.size) (fun d o nd e => by
      simp only [List.mem_cons, List.not_mem_nil, or_false, not_or] at nd
      exact (sb.2 d nd.1).trans (hk d o nd.1 nd.2.2.1 nd.2.2.2.1 nd.2.2.2.2 e)) hf (Nat.le_refl _) new
    refine ⟨.ref s.heap.objs.size, _, I1, rfl, ⟨_, x, c, rfl, I.hok.fresh (Nat.le_refl _), rfl, fun l hl => by rw [I.list_inj hl hq]; exact hx, hcz⟩, ⟨z'', ?_, ⟨x1, .str ⟨#[c]⟩ uc, ?_⟩, ?_, ?_, hz⟩, fun d hd => ?_⟩
    · exact (sb.2 _ S.TIz).trans (hk _ _ S.TIz S.TITO S.TIi1 S.TIi2 q2)
    · exact (sb.2 _ S.TOz).trans b2
    · exact d1.1.at fun o q => (sb.2 _ (Ne.symm S.zi1)).trans q
    · obtain ⟨o, ho, r⟩ := d2
      exact ⟨o, (sb.2 _ (Ne.symm S.zi2)).trans ho, r⟩
    · have ld : d < s.heap.objs.size := by
        simp only [List.mem_cons, List.not_mem_nil, or_false] at hd
        rcases hd with rfl | rfl | rfl | rfl | rfl
        · exact lt q1
        · exact lt q2
        · exact lt q3
        · exact lt q4.choose_spec.1
        · exact lt q5.choose_spec.1
      rw [upd_ne (Nat.ne_of_lt ld)]
      exact (hf d hd).1
  done := by
    intro X hP hw hK hc i pins s σ H E I hf st hg
    subst hP hw hK
    obtain ⟨q1, q2, ⟨u0, v0, q3⟩, q4, q5, q6⟩ := st
    obtain ⟨xs, hq, he⟩ := hg
    obtain ⟨its, rv, p, _⟩ := I.list hq
    have lx : its.toArray.size = xs.length := by
      rw [List.size_toArray, ← rv.length]
    have D2 := Draws.text (prog := X.prog) (w := X.w) (A := X.A.in1) (I.ok.hd hc) i2 z t
    have fin : ∀ (h' : Heap) (tk : Nat), (∀ c o, c ≠ zz → c ≠ TO → c ≠ i1 → c ≠ i2 → s.heap.get? c = some o → h'.get? c = some o) → (none : Option Value) = none ∧ Inv X pins σ H { s with heap := h', toks := tk } := fun h' tk hk =>
      ⟨rfl, I.turnedL (ch := [zz, TI, TO, i1, i2]) (fun d o nd e => by
        simp only [List.mem_cons, List.not_mem_nil, or_false, not_or] at nd
        exact hk d o nd.1 nd.2.2.1 nd.2.2.2.1 nd.2.2.2.2 e) hf⟩
    by_cases le : xs.length ≤ i
    · have D1 := spent (prog := X.prog) (w := X.w) (A := X.A.in1) (I.ok.hd hc) i1 a its.toArray i (by omega)
      exact wpAny_pyNext_zipD2_end S D1 D2 q1 q2 q3 ⟨rfl, q4, p.isList⟩ q5 (Nat.le_refl _) q6 (.inl rfl) fun h' tk hk => fin h' tk hk
    · have ez : i = z.cps.size := by
        rcases he with e | e
        · exact absurd e le
        · omega
      have na : a ≠ i1 := fun e => by
        obtain ⟨o, ho, hcl, hd⟩ := q4
        obtain ⟨o2, ho2, hcl2, _⟩ := p.isList
        rw [e, ho] at ho2
        cases ho2
        rw [hcl] at hcl2
        injection hcl2 with q
        exact absurd q (by decide)
      have D1 := Draws.list (prog := X.prog) (w := X.w) (A := X.A.in1) (I.ok.hd hc) i1 a na its.toArray
      exact wpAny_pyNext_zipD2_end S D1 D2 q1 q2 q3 ⟨q4, p.isList⟩ q5 (by omega) q6 (.inr ez) fun h' tk hk => fin h' tk hk
  self := fun A i s Q E st h => wpAny_pyIter_zip st.1 h
/-- what zip is called with, and what is gone through then -/
inductive Two (K : PySem.W.Frag) (H : Hp) : List V → It → Prop where
  | ll {a b : Addr} {xs ys : List V} : SqL K H a xs → SqL K H b ys → Two K H [.ref a, .ref b] (Itz K a b)
  | tt {a b : Addr} {xs ys : List V} : SqT K H a xs → SqT K H b ys → Two K H [.ref a, .ref b] (RZ.ItzT K a b)
  | ls {a : Addr} {z : Str} {xs : List V} : SqL K H a xs → Two K H [.ref a, .str z] (ItS K a z)
def iTwo (K : PySem.W.Frag) (ta : TA) : L2.TI := fun σ H R => ta σ H fun vs H1 => ∃ J, Two K H1 vs J ∧ R J H1
abbrev cells (N : Nat) : List Addr := [N + 4, N + 2, N + 3, N, N + 1]
theorem cells_new {X : Cx} {pins : List (Addr × Obj)} {σ : L2.St} {H : Hp} {s : Shared} (I : Inv X pins σ H s) : ∀ c ∈ cells s.heap.objs.size, FpOk X pins H c := fun c hc => by
  have le : s.heap.objs.size ≤ c := by
    simp only [List.mem_cons, List.not_mem_nil, or_false] at hc
    rcases hc with rfl | rfl | rfl | rfl | rfl <;> simp
  exact I.fpOk le (I.hok.fresh le)
theorem pi_two {X : Cx} {e e2 : Expr} {ta : TA} {p pos : Pos} (hg : Gl X "zip") (hm : X.mg "zip" = none) (ha : PA X [e, e2] ta)
    (hs : starEach [e, e2] X.env = (false, eval e X.env) :: starEach [e2] X.env) (hpl : (backTo pos (starEach [e2] X.env)).any (·.1) = false) :
    PI X (.Tuple elts kk tpos) (.Call (.Name "zip" p) [e, e2] [] pos) (iTwo X.K ta) := by
  refine ⟨fun pins s σ H R I h => PyProof.Rows.Call_ (ld_blt I hg hm PyProof.Rows.boot_zip (PyProof.Rows.callWith_type1 (thn (ha.run pos pins s σ H _ I h) fun us s1 q0 => ?_) hs hpl))⟩
  obtain ⟨vs, H1, I1, r1, J, hJ, q⟩ := q0
  have go : ∀ {h' : Heap} {tn : Nat → Heap → Prop}, (∀ c o, s1.heap.get? c = some o → h'.get? c = some o) → Turn X.prog X.w X.K (.Tuple elts kk tpos) J (cells s1.heap.objs.size) (s1.heap.objs.size + 4) tn → tn 0 h' → PIE X pins σ (.Tuple elts kk tpos) R (.ref (s1.heap.objs.size + 4)) { s1 with heap := h' } :=
    fun {h' tn} hk T st => ⟨_, _, tn, J, H1, rfl, I1.kept (t' := s1.toks) hk, T, st, cells_new I1, q⟩
  cases hJ with
  | ll hx hy =>
    obtain ⟨u, us, rfl, ra, r2⟩ : ∃ u us', us = u :: us' ∧ RelV (.ref _) u ∧ Vals [V.ref _] us' := by
      cases r1 with
      | cons r rr => exact ⟨_, _, rfl, r, rr⟩
    obtain ⟨u2, rfl, rb⟩ := vals1 r2
    cases ra
    cases rb
    obtain ⟨xi, _, px, _⟩ := I1.list hx
    obtain ⟨yi, _, py, _⟩ := I1.list hy
    exact zip_begins2 (begins_list _ xi.toArray) (begins_list _ yi.toArray) px.isList py.isList fun h' hz hT hO h1 h2 _ hk => wpAny_pyIter_zip hz (go hk (turn_zip (PySem.W.ktu_apart _ _ _ px.lt py.lt)) ⟨hz, hT, ⟨_, _, hO⟩, ⟨_, h1, rfl, rfl⟩, ⟨_, h2, rfl, rfl⟩⟩)
  | tt hx hy =>
    obtain ⟨u, us, rfl, ra, r2⟩ : ∃ u us', us = u :: us' ∧ RelV (.ref _) u ∧ Vals [V.ref _] us' := by
      cases r1 with
      | cons r rr => exact ⟨_, _, rfl, r, rr⟩
    obtain ⟨u2, rfl, rb⟩ := vals1 r2
    cases ra
    cases rb
    obtain ⟨xi, _, px, _⟩ := I1.tuple hx
    obtain ⟨yi, _, py, _⟩ := I1.tuple hy
    have lx := Heap.lt_size px.choose_spec.1
    have ly := Heap.lt_size py.choose_spec.1
    exact zip_begins2 (begins_tuple _ xi.toArray) (begins_tuple _ yi.toArray) px py fun h' hz hT hO h1 h2 _ hk => wpAny_pyIter_zip hz (go hk (RZ.turn_zipT (PySem.W.ktu_apart _ _ _ lx ly)) ⟨hz, hT, ⟨_, _, hO⟩, ⟨_, h1, rfl, rfl⟩, ⟨_, h2, rfl, rfl⟩⟩)
  | ls hx =>
    rename_i a z xs
    obtain ⟨u, us, rfl, ra, r2⟩ : ∃ u us', us = u :: us' ∧ RelV (.ref a) u ∧ Vals [V.str z] us' := by
      cases r1 with
      | cons r rr => exact ⟨_, _, rfl, r, rr⟩
    obtain ⟨u2, rfl, t, rfl⟩ := vals1 r2
    cases ra
    obtain ⟨xi, _, px, _⟩ := I1.list hx
    have S := zip_sep2 (N := s1.heap.objs.size) (fp1 := [a]) (fp2 := []) (fun b hb => by rw [List.mem_singleton.mp hb]; exact px.lt) (fun b hb => (List.not_mem_nil hb).elim)
    exact zip_begins2 (begins_list a xi.toArray) (begins_text z t) px.isList trivial fun h' hz hT hO h1 h2 _ hk => wpAny_pyIter_zip hz (go hk (turn_ls (z := z) (t := t) S) ⟨hz, hT, ⟨_, _, hO⟩, ⟨_, h1, rfl, rfl⟩, ⟨_, h2, rfl, rfl⟩, Nat.zero_le _⟩)
end TZ

set_option Elab.async false
set_option linter.all false
set_option maxRecDepth 100000
set_option maxHeartbeats 4000000
/-! enumerate of a tuple -/
namespace TZ
open PySem L2 PySem.Spec
/-- enumerate(v) of what can be gone through -/
theorem e1 {v : Value} {o : Obj} {H : Heap → Prop} (B : Begins v o H) : Meets (Builtin.«enumerate.__new__» ⟨[.type "enumerate", v], []⟩) fun _ R s => H s.heap ∧
    R (.ok (.ret (.ref (s.heap.push o).objs.size))) { s with heap := (s.heap.push o).push { cls := .type "enumerate", data := .fields #[.none, .bool false, .ref s.heap.objs.size, rawInt 0, .none, .none] } } :=
  .of_wp fun prog w A R s ⟨h1, h⟩ => by
    obtain ⟨hp, g, d, tk, os⟩ := s
    have hsub := sub_enumerate
    have go : ∀ {A' : Around} {E : Value → Shared → Prop} {Q : Value → Shared → Prop}, Q (.ref hp.objs.size) ⟨hp.push o, g, d, tk, os⟩ → wpAny (model prog w) A' (pyIter v) Q E ⟨hp, g, d, tk, os⟩ := fun q => B.iter prog w _ _ _ _ h1 q
    wp_walk using go
    refine wpAny_stack_any fun st => wpAny_pure ?_
    split
    · rename_i c _ _ _ _ _
      cases (c == Value.type "enumerate") <;> (wp_walk using go; exact ⟨_, rfl, h⟩)
    · wp_walk using go
      exact ⟨_, rfl, h⟩
theorem call_e1 {prog : Program} {w : World} {A : Around} {E : Value → Shared → Prop} {s : Shared} {v : Value} {o : Obj} {H : Heap → Prop} {Q : Value → Shared → Prop} (B : Begins v o H) (h1 : H s.heap)
    (h : ∀ h', IsEnum h' (s.heap.objs.size + 1) s.heap.objs.size 0 .none → h'.get? s.heap.objs.size = some o → (∀ b u, s.heap.get? b = some u → h'.get? b = some u) → Q (.ref (s.heap.objs.size + 1)) { s with heap := h' }) :
    wpAny (model prog w) A (call (.type "enumerate") [v]) Q E s := by
  refine callType_new F.called_enumerate (by decide) (F.typeCall_enumerate_1 _) (F.newCall_enumerate_1 _) (fun u => F.args_object_init_2 u _) F.entry_enumerate_new (e1 B) ⟨h1, ?_⟩
  have hz : (s.heap.push o).objs.size = s.heap.objs.size + 1 := Heap.size_push ..
  show _ ∧ _
  rw [hz]
  have q := Heap.get?_push_size (s.heap.push o) (o := { cls := .type "enumerate", data := .fields #[.none, .bool false, .ref s.heap.objs.size, rawInt 0, .none, .none] }) rfl
  rw [hz] at q
  exact ⟨⟨_, q, rfl⟩, h _ q (Heap.get?_push_of_some _ (Heap.get?_push_size _ B.free)) fun b u x => Heap.get?_push_of_some _ (Heap.get?_push_of_some _ x)⟩
/-- an iterator over a tuple that has nothing more -/
theorem spentT {prog : Program} {w : World} {A : Around} (hh : A.handled = none) (it l : Addr) (items : Array Value) (N : Nat) (h : items.size ≤ N) :
    Draws prog w A it [it, l] N (fun _ _ => True) (fun j g => j = N ∧ g.IsTupleIter it l N ∧ g.IsTuple l items) where
  live := fun j g st => let ⟨o, ho, _⟩ := st.2.1; ⟨o, ho⟩
  frame := fun j g g' st hk => ⟨st.1, st.2.1.at fun o e => hk it (by simp) o e, st.2.2.at fun o e => hk l (by simp) o e⟩
  item := fun j s Q E hj st hQ => absurd st.1 (Nat.ne_of_lt hj)
  done := fun s Q E st hE => wpAny_nextOf_tuple_end hh st.2.1 st.2.2 (by simp; omega) hE
/-- the tuple at a, each item in a new pair -/
def ItE (K : PySem.W.Frag) (a : Addr) : It where
  go := fun i H => ∃ (xs : List V) (x : V), SqT K H a xs ∧ xs[i]? = some x
  yld := fun i H v H' => ∃ T x, v = .ref T ∧ H T = none ∧ H' = upd H T (.tup [.int (i : Nat), x]) ∧ ∀ xs, SqT K H a xs → xs[i]? = some x
  stop := fun i H => ∃ xs : List V, SqT K H a xs ∧ xs.length ≤ i
variable {P : Program} {w : World} {K : PySem.W.Frag} {elts : List Expr} {kk : Nat} {tpos : Pos} {a e it : Addr}
theorem turn_et (ne : e ≠ it) : Turn P w K (.Tuple elts kk tpos) (ItE K a) [e, it] e (fun i h => (∃ old, IsEnum h e it ((i : Nat) : Int) old) ∧ h.IsTupleIter it a i) where
  mem := by simp
  obj := fun i h st c hc => by
    obtain ⟨⟨old, q1⟩, ⟨o1, e1, _, d1⟩⟩ := st
    simp only [List.mem_cons, List.not_mem_nil, or_false] at hc
    rcases hc with rfl | rfl
    · exact ⟨_, q1, nofun⟩
    · exact ⟨o1, e1, fun v q => by rw [d1] at q; cases q⟩
  keep := fun i h h' st k => by
    obtain ⟨⟨old, q1⟩, q2⟩ := st
    exact ⟨⟨old, k e (by simp) _ q1⟩, q2.at fun o q => k it (by simp) o q⟩
  item := by
    intro X hP hw hK hc i pins s σ H E I hf st hg
    subst hP hw hK
    obtain ⟨⟨old, q1⟩, q2⟩ := st
    obtain ⟨xs, x, hq, hx⟩ := hg
    obtain ⟨its, rv, p, _⟩ := I.tuple hq
    obtain ⟨u, hu, ru⟩ := rv.get hx
    have hi : i < its.toArray.size := by
      have := (List.getElem?_eq_some_iff.mp hu).1
      simpa using this
    have pa : s.heap.IsTuple a its.toArray := p
    have na : a ≠ it := fun q => by
      obtain ⟨o, ho, hcl, hd⟩ := q2
      obtain ⟨o2, ho2, hcl2, _⟩ := pa
      rw [q, ho] at ho2
      cases ho2
      rw [hcl] at hcl2
      injection hcl2 with q
      exact absurd q (by decide)
    have nae : e ≠ a := fun q => by
      obtain ⟨o2, ho2, hcl2, _⟩ := pa
      rw [← q, q1] at ho2
      cases ho2
      injection hcl2 with q
      exact absurd q (by decide)
    have D := Draws.tuple (prog := X.prog) (w := X.w) (A := X.A.in1) (I.ok.hd hc) it a na its.toArray
    have le : e < s.heap.objs.size := Heap.lt_size q1
    have li : it < s.heap.objs.size := Heap.lt_size q2.choose_spec.1
    refine wpAny_pyNext_enum_itemD D q1 ⟨q2, pa⟩ hi ne (by simp [ne, nae]) fun x1 h' tk y1 b1 d1 b5 _ hk => ?_
    have ex : x1 = u := by
      have q : its.toArray[i]? = some x1 := y1
      have q' : its.toArray[i]? = some u := by simpa using hu
      rw [q'] at q
      exact (Option.some.inj q).symm
    subst ex
    refine ⟨_, rfl, wpAny_letOwnedTupleGo_enum (s := { s with heap := h', toks := tk + 1 }) b1 fun h'' z'' sb => ?_⟩
    have hT2 : h''.get? s.heap.objs.size = some { cls := .type "tuple", data := .seq #[.int i tk, x1] } := (sb.2 _ (Nat.ne_of_gt le)).trans b5
    have ri : RelV (V.int (i : Nat)) (.int i tk) := ⟨tk, rfl⟩
    have new : ObjOk X.prog X.w (upd H s.heap.objs.size (.tup [.int (i : Nat), x])) h'' s.heap.objs.size (.tup [.int (i : Nat), x]) := by
      refine ⟨?_, [.int i tk, x1], .cons ri (.cons ru .nil), ⟨_, hT2, rfl, _, rfl⟩⟩
      show 2 ≤ sizeLine
      decide
    have I1 := I.turnedNew (t' := tk + 1) (ch := [e, it]) (T := s.heap.objs.size) (fun d o nd q => by
      simp only [List.mem_cons, List.not_mem_nil, or_false, not_or] at nd
      exact (sb.2 d nd.1).trans (hk d o nd.1 nd.2 q)) hf (Nat.le_refl _) new
    refine ⟨.ref s.heap.objs.size, _, I1, rfl, ⟨_, x, rfl, I.hok.fresh (Nat.le_refl _), rfl, fun l hl => by rw [I.tuple_inj hl hq]; exact hx⟩, ⟨⟨x1, ?_⟩, ?_⟩, fun d hd => ?_⟩
    · have e1 : ((i + 1 : Nat) : Int) = (i : Int) + 1 := by omega
      rw [e1]
      exact z''
    · exact d1.1.at fun o q => (sb.2 _ (Ne.symm ne)).trans q
    · have ld : d < s.heap.objs.size := by
        simp only [List.mem_cons, List.not_mem_nil, or_false] at hd
        rcases hd with rfl | rfl
        · exact le
        · exact li
      rw [upd_ne (Nat.ne_of_lt ld)]
      exact (hf d hd).1
  done := by
    intro X hP hw hK hc i pins s σ H E I hf st hg
    subst hP hw hK
    obtain ⟨⟨old, q1⟩, q2⟩ := st
    obtain ⟨xs, hq, he⟩ := hg
    obtain ⟨its, rv, p, _⟩ := I.tuple hq
    have pa : s.heap.IsTuple a its.toArray := p
    have lx : its.toArray.size ≤ i := by
      rw [List.size_toArray, ← rv.length]
      exact he
    have D := spentT (prog := X.prog) (w := X.w) (A := X.A.in1) (I.ok.hd hc) it a its.toArray i lx
    exact wpAny_pyNext_enum_endD D q1 ⟨rfl, q2, pa⟩ fun h' hk => ⟨rfl, I.turnedL (t' := s.toks) (ch := [e, it]) (fun d o nd q => by
      simp only [List.mem_cons, List.not_mem_nil, or_false, not_or] at nd
      exact hk d o nd.2 q) hf⟩
  self := fun A i s Q E st h => let ⟨⟨_, q⟩, _⟩ := st; wpAny_pyIter_enum q h
/-- what is enumerated -/
inductive One (K : PySem.W.Frag) (H : Hp) : List V → It → Prop where
  | l {a : Addr} {xs : List V} : SqL K H a xs → One K H [.ref a] (Ite K a)
  | t {a : Addr} {xs : List V} : SqT K H a xs → One K H [.ref a] (ItE K a)
def iOne (K : PySem.W.Frag) (ta : TA) : L2.TI := fun σ H R => ta σ H fun vs H1 => ∃ J, One K H1 vs J ∧ R J H1
theorem boot_e : bootBuiltins "enumerate" = some (.type "enumerate") := by decide +kernel
theorem pi_one1 {X : Cx} {x : Expr} {ta : TA} {p pos : Pos} (hg : Gl X "enumerate") (hm : X.mg "enumerate" = none) (ha : PA X [x] ta) (hs : starEach [x] X.env = [(false, eval x X.env)]) :
    PI X (.Tuple elts kk tpos) (.Call (.Name "enumerate" p) [x] [] pos) (iOne X.K ta) := by
  refine ⟨fun pins s σ H R I h => PyProof.Rows.Call_ (ld_blt I hg hm boot_e (PyProof.Rows.callWith_type1 (thn (ha.run pos pins s σ H _ I h) fun us s1 q0 => ?_) hs rfl))⟩
  obtain ⟨vs, H1, I1, r1, J, hJ, q⟩ := q0
  have fp : ∀ c ∈ [s1.heap.objs.size + 1, s1.heap.objs.size], FpOk X pins H1 c := fun c hc => by
    have le : s1.heap.objs.size ≤ c := by
      simp only [List.mem_cons, List.not_mem_nil, or_false] at hc
      rcases hc with rfl | rfl <;> simp
    exact I1.fpOk le (I1.hok.fresh le)
  cases hJ with
  | l hx =>
    obtain ⟨u, rfl, ra⟩ := vals1 r1
    cases ra
    obtain ⟨xi, _, px, _⟩ := I1.list hx
    exact call_e1 (begins_list _ xi.toArray) px.isList fun h' he h1 hk => wpAny_pyIter_enum he ⟨_, _, _, _, H1, rfl, I1.kept (t' := s1.toks) hk, turn_enum _ _ _, ⟨⟨.none, he⟩, ⟨_, h1, rfl, rfl⟩, Nat.succ_ne_self _⟩, fp, q⟩
  | t hx =>
    obtain ⟨u, rfl, ra⟩ := vals1 r1
    cases ra
    obtain ⟨xi, _, px, _⟩ := I1.tuple hx
    exact call_e1 (begins_tuple _ xi.toArray) px fun h' he h1 hk => wpAny_pyIter_enum he ⟨_, _, _, _, H1, rfl, I1.kept (t' := s1.toks) hk, turn_et (Nat.succ_ne_self _), ⟨⟨.none, he⟩, ⟨_, h1, rfl, rfl⟩⟩, fp, q⟩
end TZ

set_option Elab.async false
set_option linter.all false
set_option maxRecDepth 100000
set_option maxHeartbeats 4000000
/-! Two clocks: the errors of the package: an own class whose __init__ says super().__init__(..), and keeps what it is made of -/
namespace TX
open PySem PySem.W PySem.Calls PyProof.Rows PySem.HandSPX
/-- __init__'s text: super().__init__(arg), and self.f = f -/
def iniB (arg : Expr) (fld : Option Str) (p0 p1 p2 p3 p4 q1 q2 q3 q4 : Pos) : List Stmt :=
  .Expr (.Call (.Attribute (.Call (.Name "super" p0) [] [] p1) "__init__" p2) [arg] [] p3) p4 :: (match fld with
    | some f => [.Assign [.Attribute (.Name "self" q1) f q2] (.Name f q3) q4]
    | none => [])
def iniA (pn : Str) (a1 a2 : Pos) : Arguments := { posonlyargs := [], args := [{ arg := "self", annotation := none, pos := a1 }, { arg := pn, annotation := none, pos := a2 }], vararg := none, kwonlyargs := [], kw_defaults := [], kwarg := none, defaults := [] }
def iniS (pn : Str) : Scope := { kind := .function, names := [("self", .local), (pn, .local), ("__class__", .free), ("super", .globalImplicit)], isGenerator := false, isCoroutine := false, more := [] }
/-- the argument is a written text, or the parameter -/
inductive ArgOk (pn : Str) : Expr → Prop
  | txt (m : Str) (k : Nat) (p : Pos) : ArgOk pn (.Constant (.str m) k p)
  | par (p : Pos) : ArgOk pn (.Name pn p)
/-- what the written part says of the class at C, of its __init__ at fI, of the cell of __class__ at cc -/
structure ExTx (P : Program) (K : Frag) (mg : Str → Option Value) (x : Str) (C : Addr) (B newId i : String) (bmB : List Value) (pn : Str) (fld : Option Str) : Prop where
  gC : mg x = some (.ref C)
  gS : mg "super" = none
  fb : ExcBaseFacts B newId i bmB
  kf : KxsFacts B i
  sf : StoreFacts B bmB "object.__setattr__" "object"
  cls : ∃ nm q N bs bm sn sub ab col dd k0 k1 k2 k3 k5, K.lookup C = some (excClassObj nm q C N bs bm true sn sub ab col dd k0 k1 k2 k3 k5 newId) ∧ bm = bmB
  sa : findIn K (.ref C) "__setattr__" = some (some (.builtin "object.__setattr__"))
  ga : findIn K (.ref C) "__getattribute__" = some (some (.builtin "BaseException.__getattribute__"))
  gg : findIn K (.ref C) "__getattr__" = some none
  noN : ∀ f, fld = some f → findIn K (.ref C) f = some none
  iC : ∃ fI, findIn K (.ref C) "__init__" = some (some (.ref fI)) ∧ typeIn K (.ref fI) = some (.type "function") ∧ ∃ (oc : Value) (od : Option Addr) (doc pm : Value) (an : Option Addr) (cda cc : Addr) (ct : Value) (osl : Array (Option Value)) (qn : Str) (arg : Expr) (a1 a2 p0 p1 p2 p3 p4 q1 q2 q3 q4 : Pos) (vs : Array Value) (file : Str) (tf : Tok) (ccl : Value) (cdd : Option Addr) (ccs : Array (Option Value)) (cl : Value) (cld : Option Addr) (csl : Array (Option Value)),
    K.lookup fI = some ⟨oc, od, .func (ksFn "__init__" qn (iniA pn a1 a2) (iniB arg fld p0 p1 p2 p3 p4 q1 q2 q3 q4) (iniS pn) .none .none doc pm an (.ref cda) ct cc), osl⟩ ∧ codeIn K (.ref cda) qn = true ∧ ArgOk pn arg ∧ (p2.endLine == p3.line) = true ∧
    K.lookup cda = some ⟨ccl, cdd, .fields vs, ccs⟩ ∧ vs[2]? = some (.str file tf) ∧ ((P.main.file : Str) == file) = true ∧ K.lookup cc = some ⟨cl, cld, .cell (some (.ref C)), csl⟩
  su : ks_superIn K C C "__init__" = some (some (.builtin i))
  op : nsIn K cStatics "thirdparty.any" = some none
  mC : mroIn K C (.ref C) = some true
  subB : subIn K (.ref C) (.type B) = some true
  kC : keepIn K (.ref C) = true
  exC : subIn K (.ref C) (.type "BaseException") = some true
  tyC : typeIn K (.ref C) = some (.type "type")
  hdC : hasDictIn K C = true
  fp : fld = none ∨ fld = some pn
  pns : pn = "part" ∨ pn = "line" ∨ pn = "most" ∨ pn = "text"
  top : (P.main.scope.names.lookup ("super" : Str)).isSome = false
theorem ExTx.pnn {P : Program} {K : Frag} {mg : Str → Option Value} {x : Str} {C : Addr} {B newId i : String} {bmB : List Value} {pn : Str} {fld : Option Str} (T : ExTx P K mg x C B newId i bmB pn fld) : pn ≠ "self" ∧ (pn == ("__debug__" : Str)) = false := by
  rcases T.pns with rfl | rfl | rfl | rfl <;> exact ⟨by decide +kernel, by decide +kernel⟩
theorem ExTx.hns1 {P : Program} {K : Frag} {mg : Str → Option Value} {x : Str} {C : Addr} {B newId i : String} {bmB : List Value} {pn : Str} {fld : Option Str} (T : ExTx P K mg x C B newId i bmB pn fld) : pn ≠ "super" ∧ pn ≠ "__class__" := by
  rcases T.pns with rfl | rfl | rfl | rfl <;> exact ⟨by decide +kernel, by decide +kernel⟩
section
open Builtin Builtin.ObjectAttr
/-- the first field of an error is stored: its own dict is made -/
theorem osa_ex {prog : Program} {w : World} {A : Around} {R : Result → Shared → Prop} {hp : Heap} {g : Array GenState} {d : Drawn} {t : Nat} {os : OsState} {K : Frag} {B : String} {bmB : List Value} {name : Str} {tk : Tok} {v : Value} {x C : Addr} {fv : Array Value} {cd : ClassData}
    (SF : StoreFacts B bmB "object.__setattr__" "object") (X : K.In hp) (ho : hp.get? x = some { cls := .ref C, data := .fields fv }) (hcd : clsIn K C = some cd) (hm : cd.mro = .ref C :: bmB) (hh : cd.hasDict = true) (hn : findIn K (.ref C) name = some none)
    (hq : ∀ h' tk' dx, (∀ b o, b ≠ x → hp.get? b = some o → h'.get? b = some o) → hp.objs.size ≤ dx → dx ≠ x → h'.get? x = some { cls := .ref C, dict := some dx, data := .fields fv } → h'.Ns1 dx (fun y => if y = name then some v else none) → R (.ok (.ret .none)) ⟨h', g, d, tk', os⟩) :
    codeAny (model prog w) A (.call (.builtin "object.__setattr__") ⟨[.ref x, .str name tk, v], []⟩) R ⟨hp, g, d, t, os⟩ := by
  have inst : InstAt hp x { cls := .ref C, data := .fields fv } C none := ⟨ho, rfl, rfl, trivial⟩
  have ns : x ≠ hp.objs.size := Nat.ne_of_lt (Heap.lt_size ho)
  have own : mroIn K C (.type "object") = some true := by
    have z : (Value.ref C :: bmB).contains (.type "object") = true := by rw [List.contains_cons, SF.hasOwner, Bool.or_true]
    unfold mroIn
    rw [hcd, Option.bind_some, hm, z]
    rfl
  have isO : Looks (model prog w) hp (isInstance (.ref x) (.type "object")) true := inst.type.andThen (looks_mroIn X own)
  have mroL : Looks (model prog w) hp (mroOf (.ref C)) cd.mro := (looks_clsIn X hcd).andThen .now
  have clsL : Looks (model prog w) hp (classData C) cd := looks_clsIn X hcd
  refine codeAny_call_builtin SF.slot.plain SF.entry (@check_slot (model prog w) _ _ ⟨hp, g, d, t, os⟩ "object.__setattr__" "object" "__setattr__" (.ref x) [.str name tk, v] [] _ SF.kind SF.split isO (SF.args (.ref x) (.str name tk) v) ?_)
  rw [osa_eq, refuse_eq]
  refine wpAny_bind (wpAny_bind (inst.type.at (wpAny_bind (mroL.at ?_))))
  rw [hm, refuseLoop_ref, SF.passes]
  have nowL : Looks (model prog w) hp (storeTaker? none) none := .now
  refine wpAny_pure (wpAny_bind (inst.type.at (wpAny_bind ((looks_findIn X hn).at (wpAny_bind (nowL.at ?_))))))
  show wpAny (model prog w) _ (storeInOwnDict (.ref x) (.ref C) (.str name tk) name v false) _ _ _
  obtain ⟨c1, c2, c3, c4, c5, c6, c7, c8, c9, c10, c11⟩ := cd
  dsimp only at hh
  subst hh
  unfold storeInOwnDict ownDictForStores
  repeat (first | with_reducible refine store_in_new ?_ ?_ | with_reducible refine wpAny_loadPart_at ho ?_ | with_reducible refine clsL.at ?_ | wp_step)
  · refine ⟨_, #[], _, (Heap.get?_update_ne _ _ _ _ ns.symm).trans (Heap.get?_push_at rfl rfl), rfl, fun e he => absurd he (by simp), fun _ => rfl⟩
  · intro h' tk' hn' hs
    have old := Heap.get?_push_of_some ({ cls := .type "dict", data := .dict #[] } : Obj) ho
    refine hq h' tk' hp.objs.size (fun b o hb q => ?_) (Nat.le_refl _) ns.symm ((hs.2 x ns).trans (Heap.get?_update_self _ old rfl)) hn'
    rw [hs.2 b (Nat.ne_of_lt (Heap.lt_size q)), Heap.get?_update_ne _ _ _ _ hb]
    exact Heap.get?_push_of_some _ q
end
/-- the method-wrapper of Exception.__init__, called -/
theorem call_mw {prog : Program} {w : World} {A : Around} {E : Value → Shared → Prop} {h : Heap} {g : Array GenState} {d : Drawn} {t : Nat} {os : OsState} {B newId i : String} {bmB : List Value} (FB : ExcBaseFacts B newId i bmB)
    {nm q : Str} {C N : Addr} {bs bm : List Value} {hdct : Bool} {sn : List Str} {sub : List Value} {ab : Bool} {col : Option Bool} {dd : Option Addr} {k0 k1 k2 k3 k5 : Option Value} {u e t0 : Addr} {rest : List Value} {Q : Value → Shared → Prop}
    (hC : h.get? C = some (excClassObj nm q C N bs bm hdct sn sub ab col dd k0 k1 k2 k3 k5 newId)) (he : h.get? e = some (excO C t0)) (hu : h.get? u = some (kxs_mw i e)) (hz : rest.length ≤ sizeLine)
    (hq : ∀ h' t1, (∀ b o, b ≠ e → h.get? b = some o → h'.get? b = some o) → h'.get? e = some (excO C t1) → Q .none ⟨h', g, d, t, os⟩) : wpAny (model prog w) A (call (.ref u) rest) Q E ⟨h, g, d, t, os⟩ := by
  refine wpAny_call (codeAny_of_tree ?_)
  show wpAny (model prog w) A.in1 (callAny (.ref u) ⟨rest, []⟩) _ _ _
  simp only [callAny]
  refine wpAny_bind (wpAny_load hu ?_)
  have hk : (Value.type "method-wrapper" == Value.type "method" || Value.type "method-wrapper" == Value.type "builtin_function_or_method" || Value.type "method-wrapper" == Value.type "method-wrapper") = true := by decide
  simp only [kxs_mw, hk, if_true]
  refine KFB.if_so (by decide) (wpAny_bind (check_bound_init FB.toExcCallFacts hC he rfl (wpAny_bind (wpAny_pure (wpAny_pure ⟨plainId_quiet FB.init.plain _, codeAny_builtin FB.initEntry ?_⟩)))))
  exact exc_init_tree (cls := .ref C) (t0 := t0) (dv := none) (c2 := .none) (c3 := .none) (b4 := .bool false) he hz fun h' k1 k2 _ => hq h' _ k1 k2
/-- what __init__ leaves of the exception at e -/
def IniEnd (fld : Option Str) (h h' : Heap) (e C : Addr) (v : Value) : Prop := (∀ b o, b ≠ e → h.get? b = some o → h'.get? b = some o) ∧ ∃ (t1 : Addr) (d : Option Addr),
  h'.get? e = some { cls := .ref C, dict := d, data := .fields #[.ref t1, .none, .none, .none, .bool false, .none] } ∧ match fld with
    | none => d = none
    | some f => ∃ dx, d = some dx ∧ h.objs.size ≤ dx ∧ dx ≠ e ∧ h'.Ns1 dx (fun y => if y = f then some v else none)
section
variable {prog : Program} {w : World} {A : Around} {R : Result → Shared → Prop} {s : Shared} {K : Frag} {mg mb : Str → Option Value} {C : Addr} {x : Str} {B newId i : String} {bmB : List Value} {pn : Str} {fld : Option Str}
theorem eval_arg {M : Model} {E : Value → Shared → Prop} {env : Env} {m : Str → Option Value} {arg : Expr} {v : Value} {Q : Value → Shared → Prop} (ok : ArgOk pn arg) (hd : (pn == ("__debug__" : Str)) = false) (hn : s.heap.Ns env.locals m) (hv : m pn = some v) (hk : env.scope.kind = .function) (hl : env.kindOf pn = some .local)
    (h : ∀ u tk, Q u { s with toks := tk }) : wpAny M A (eval arg env) Q E s := by
  cases ok with
  | txt t k p => exact Calls.Constant_str (h _ _)
  | par p =>
    refine wpAny_Name (wpAny_loadName_local hk hl hn hv ?_) hd
    exact h v s.toks
theorem kind_self (hp : pn ≠ "self") : (iniS pn).names.lookup ("self" : Str) = some NameKind.local ∧ (iniS pn).names.lookup pn = some NameKind.local := by
  refine ⟨by simp [iniS, List.lookup], ?_⟩
  have e : (pn == ("self" : Str)) = false := by simpa using hp
  simp [iniS, List.lookup, e]
theorem he_sup {o arg : Expr} {p2 p3 : Pos} {env : Env} {nm : Str} (ok : ArgOk pn arg) (hl : (p2.endLine == p3.line) = true) : eval (.Call (.Attribute o nm p2) [arg] [] p3) env = (do
      let ov ← attributeBase o nm env (eval o env)
      standAt p2.atName
      let (f, first) ← holding [ov] (getMethod ov nm (do return (← importBound o env).getD true))
      callWith p3 f first (backTo p3 (starEach [arg] env)) []) := by
  have hp : methodCallPos true o env p2 p3 = pure p3 := by
    unfold methodCallPos
    rw [hl]
    rfl
  have hm : ∀ ov, methodCall o nm p2 p3 env ov 1 (backTo p3 (starEach [arg] env)) [] = (do
      let (f, first) ← holding [ov] (getMethod ov nm (do return (← importBound o env).getD true))
      callWith p3 f first (backTo p3 (starEach [arg] env)) []) := fun ov => by
    have hf : methodCallForm 1 (backTo p3 (starEach [arg] env)) [] = true := by cases ok <;> rfl
    unfold methodCall
    rw [hf, hp]
    simp only [calleeOf, if_true, pure_bind]
  have e : eval (.Call (.Attribute o nm p2) [arg] [] p3) env = (do
      let ov ← attributeBase o nm env (eval o env)
      standAt p2.atName
      methodCall o nm p2 p3 env ov 1 (backTo p3 (starEach [arg] env)) []) := rfl
  rw [e]
  simp only [hm]
theorem init_run (T : ExTx prog K mg x C B newId i bmB pn fld) {fI : Addr} (iC : findIn K (.ref C) "__init__" = some (some (.ref fI))) (X : K.In s.heap) (G : s.heap.Ns mainGlobals mg) (Bn : s.heap.Ns builtinsNs mb) (hbb : ∀ y : Str, y ≠ "__name__" → mb y = bootBuiltins y) (hlim : s.heap.NoLimit)
    {e t0 : Addr} {v : Value} (he : s.heap.get? e = some (excO C t0)) (hroom : A.depth < recursionLimit) (hne : K.lookup e = none)
    (hq : ∀ h' tk, IniEnd fld s.heap h' e C v → R (.ok (.ret .none)) { s with heap := h', toks := tk }) : codeAny (model prog w) A (.call (.ref fI) ⟨[.ref e, v], []⟩) R s := by
  obtain ⟨fI', iC', _, oc, od, doc, pm, an, cda, cc, ct, osl, qn, arg, a1, a2, p0, p1, p2, p3, p4, q1, q2, q3, q4, vs, file, tf, ccl, cdd, ccs, cl, cld, csl, lk, hcd, aok, hline, hcda, hvs, hfile, hcell⟩ := T.iC
  rw [iC] at iC'
  obtain rfl : fI = fI' := by
    injection iC' with z
    injection z with z
    injection z
  obtain ⟨nm, q, N, bs, bm, sn, sub, ab, col, dd, k0, k1, k2, k3, k5, hC, rfl⟩ := T.cls
  have hcl : clsIn K C = some { name := nm, bases := bs, mro := .ref C :: bm, ns := N, qualname := q, hasDict := true, slotNames := sn, subclasses := sub, abstract := ab, collection := col, hasDel := false } := by
    unfold clsIn
    rw [hC] <;> rfl
  obtain ⟨ks, kp⟩ := kind_self T.pnn.1
  have hns1 := T.hns1
  refine ks_codeAny_call_defAt (fd := ksFn "__init__" qn (iniA pn a1 a2) (iniB arg fld p0 p1 p2 p3 p4 q1 q2 q3 q4) (iniS pn) .none .none doc pm an (.ref cda) ct cc) (body := iniB arg fld p0 p1 p2 p3 p4 q1 q2 q3 q4) (binds := [("self", .ref e), (pn, v)]) hroom (X _ _ lk) rfl hlim (codeRec_of X hcd) rfl ?_ ?_ ?_ (fun h₁ hns hk₁ => ?_) rfl rfl rfl
  · rcases T.pns with rfl | rfl | rfl | rfl <;> exact .of_eq rfl
  · intro y hy
    simp only [iniS, List.mem_cons, List.not_mem_nil, or_false] at hy
    rcases hy with rfl | rfl | rfl | rfl <;> exact nofun
  · intro y hy
    simp only [List.mem_cons, List.not_mem_nil, or_false] at hy
    rcases hy with rfl | rfl
    · exact ks
    · exact kp
  · have X₁ : K.In h₁ := X.keeps hk₁
    have he₁ := hk₁ _ _ he
    have G₁ := G.keeps hk₁
    have B₁ := Bn.keeps hk₁
    have vself : (fun y => ([(("self" : Str), Value.ref e), (pn, v)] : List (Str × Value)).reverse.lookup y) "self" = some (.ref e) := by
      have z : (("self" : Str) == pn) = false := by simpa using fun z : ("self" : Str) = pn => T.pnn.1 z.symm
      simp [List.lookup, z]
    have vpn : (fun y => ([(("self" : Str), Value.ref e), (pn, v)] : List (Str × Value)).reverse.lookup y) pn = some v := by simp [List.lookup]
    have step : ∀ {M : Model} {A1 : Around} {c : Code} {s1 : Shared} {env : Env} {Q1 : Value → Shared → Prop} {E1 : Value → Shared → Prop},
        _root_.PySem.wpAt M A1 c (attributeBase (.Call (.Name "super" p0) [] [] p1) "__init__" env (eval (.Call (.Name "super" p0) [] [] p1) env)) (fun ov s₁ => ∀ pl, wpAny M A1 (getMethod ov "__init__" pl) (fun fx s₂ => wpAny M A1 (callWith p3 fx.1 fx.2 (backTo p3 (starEach [arg] env)) []) Q1 E1 s₂) E1 s₁) E1 s1 →
        _root_.PySem.wpAt M A1 c (eval (.Call (.Attribute (.Call (.Name "super" p0) [] [] p1) "__init__" p2) [arg] [] p3) env) Q1 E1 s1 := fun {M A1 c s1 env Q1 E1} h => by
      cases aok with
      | txt t k p => exact ks_wpAt_MethodCall (ks_wpAt_mono h (fun ov s' z => z _) fun _ _ z => z) (he_sup (pn := pn) (.txt t k p) hline)
      | par p => exact ks_wpAt_MethodCall (ks_wpAt_mono h (fun ov s' z => z _) fun _ _ z => z) (he_sup (.par p) hline)
    have eS : (("super" : Str) == ("self" : Str)) = false := by decide +kernel
    have eS2 : (("super" : Str) == pn) = false := by simpa using fun z : ("super" : Str) = pn => hns1.1 z.symm
    have eC : (("__class__" : Str) == ("self" : Str)) = false := by decide +kernel
    have eC2 : (("__class__" : Str) == pn) = false := by simpa using fun z : ("__class__" : Str) = pn => hns1.2 z.symm
    have eC3 : (("super" : Str) == ("__class__" : Str)) = false := by decide +kernel
    have kS : (iniS pn).names.lookup ("super" : Str) = some NameKind.globalImplicit := by simp [iniS, List.lookup, eS, eS2, eC3]
    have kC : (iniS pn).names.lookup ("__class__" : Str) = some NameKind.free := by simp [iniS, List.lookup, eC, eC2]
    have hC1 : h₁.get? C = some (excClassObj nm q C N bs bm true sn sub ab col dd k0 k1 k2 k3 k5 newId) := X₁ _ _ hC
    have I1 : InstAt h₁ e (excO C t0) C none := ⟨he₁, rfl, rfl, trivial⟩
    refine ks_wpAt_execs_cons (ks_wpAt_Expr_any (step ?_) rfl ?_)
    · refine ks_wpAt_super_base (f := fI) (cc := cda) kS kC (by decide +kernel) rfl (X₁ _ _ lk) rfl rfl rfl (X₁ _ _ hcda) rfl hvs hfile T.top ?_
      refine ks_loadName_global rfl kS (loadGlobal_builtin G₁ T.gS B₁ ((hbb _ (by decide +kernel)).trans (show bootBuiltins "super" = some (.type "super") by decide +kernel)) ⟨rfl, ?_⟩)
      refine wpAny_loadName_free rfl kC rfl ⟨_, X₁ _ _ hcell, rfl⟩ ?_
      refine wpAny_loadName_local rfl ks hns vself ?_
      refine ks_wpAny_isType_cls hC1 rfl ⟨rfl, ?_⟩
      refine ks_wpAny_call_super hC1 rfl he₁ rfl (fun c => nofun) (looks_mroIn X₁ T.mC) (fun h₂ hso hk₂ => ?_)
      intro pl
      have X₂ : K.In h₂ := X₁.keeps hk₂
      have he₂ := hk₂ _ _ he₁
      have I2 : InstAt h₂ e (excO C t0) C none := ⟨he₂, rfl, rfl, trivial⟩
      have hsu := T.su
      unfold ks_superIn at hsu
      rw [hcl] at hsu
      refine kxs_getMethod T.kf hso (looks_opaque X₂ T.op) (l₀ := .ref C :: bm) (fun A Q E s k q => wpAny_bind ((looks_clsIn X₂ hcl) A _ E s k (wpAny_pure q))) rfl X₂ hsu (I2.type.andThen (looks_subIn X₂ T.subB)) (ks_ne X₂ I2 hcl) (by decide +kernel) ?_
      have hu : (h₂.push (kxs_mw i e)).get? h₂.objs.size = some (kxs_mw i e) := Heap.get?_push_at rfl rfl
      have k₃ : ∀ b o, h₁.get? b = some o → (h₂.push (kxs_mw i e)).get? b = some o := fun b o z => Heap.get?_push_of_some _ (hk₂ b o z)
      have hst : ∀ env : Env, starEach [arg] env = [(false, eval arg env)] := fun env => by cases aok <;> rfl
      show wpAny _ _ (callWith p3 (.ref h₂.objs.size) [] (backTo p3 (starEach [arg] _)) []) _ _ _
      rw [hst]
      refine kxs_callWith (i := i) (x := e) rfl (evalArgs_plain ?_)
      refine Calls.spliced_cons (eval_arg aok T.pnn.2 (hns.keeps k₃) vpn rfl kp fun u tk => ?_)
      refine Calls.spliced_nil ⟨hu, ?_⟩
      refine call_mw T.fb (k₃ _ _ hC1) (k₃ _ _ he₁) hu (by show 1 ≤ sizeLine; decide) fun h₄ t4 k4 he4 => ?_
      have k₅ : ∀ b o, b ≠ e → h₁.get? b = some o → h₄.get? b = some o := fun b o ne z => k4 b o ne (k₃ b o z)
      have ne_of : ∀ {b o}, K.lookup b = some o → b ≠ e := fun {b o} z y => by
        rw [y, hne] at z
        cases z
      have X₄ : K.In h₄ := fun b o z => k₅ b o (ne_of z) (X₁ b o z)
      cases fld with
      | none =>
        refine wpAt_of_wpAny (wpAny_execs_nil ?_)
        exact hq h₄ _ ⟨fun b o ne z => k₅ b o ne (hk₁ b o z), t4, none, he4, rfl⟩
      | some f =>
        obtain rfl : f = pn := by
          rcases T.fp with z | z
          · cases z
          · exact Option.some.inj z
        have nL : s.heap.objs.size ≠ e := Nat.ne_of_gt (Heap.lt_size he)
        have hns4 : h₄.Ns s.heap.objs.size (fun y => ([(("self" : Str), Value.ref e), (f, v)] : List (Str × Value)).reverse.lookup y) := by
          obtain ⟨o, es, ep, ho, hr⟩ := hns
          exact ⟨o, es, ep, k₅ _ _ nL ho, hr⟩
        refine wpAt_of_wpAny (wpAny_execs_cons (plainObj_wpAny_Assign_Attribute (wpAny_Name (wpAny_loadName_local rfl kp hns4 vpn (wpAny_Name (wpAny_loadName_local rfl ks hns4 vself ?_) (by decide +kernel))) T.pnn.2) rfl))
        refine set_plain X₄ (ox := excO C t4) (od := none) ⟨he4, rfl, rfl, trivial⟩ T.sa ?_
        refine osa_ex T.sf X₄ he4 hcl rfl rfl (T.noN f rfl) (fun h₆ tk₆ dx k₆ dn dne hx₆ hn₆ => ?_)
        refine wpAny_execs_nil (hq h₆ tk₆ ⟨fun b o ne z => k₆ b o ne (k₅ b o ne (hk₁ b o z)), t4, some dx, hx₆, dx, rfl, ?_, dne, hn₆⟩)
        obtain ⟨o, _, _, ho, _⟩ := hns4
        exact Nat.le_trans (Nat.le_of_lt (Heap.lt_size ho)) dn
    · cases aok <;> rfl
/-- a made error: at e; its own dict, if it keeps what it is made of -/
structure Made (fld : Option Str) (h h' : Heap) (e C : Addr) (d : Option Addr) (v : Value) : Prop where
  keep : ∀ b o, h.get? b = some o → h'.get? b = some o
  new : h.objs.size ≤ e
  obj : ∃ oe fv, h'.get? e = some oe ∧ oe.cls = .ref C ∧ oe.dict = d ∧ oe.data = .fields fv ∧ fv[1]? = some .none
  dct : match fld with
    | none => d = none
    | some f => ∃ dx, d = some dx ∧ h.objs.size ≤ dx ∧ dx ≠ e ∧ h'.Ns1 dx (fun y => if y = f then some v else none)
theorem made_run (T : ExTx prog K mg x C B newId i bmB pn fld) {v : Value} (X : K.In s.heap) (G : s.heap.Ns mainGlobals mg) (Bn : s.heap.Ns builtinsNs mb) (hbb : ∀ y : Str, y ≠ "__name__" → mb y = bootBuiltins y) (hlim : s.heap.NoLimit) (hroom : A.depth + 1 < recursionLimit)
    (hq : ∀ h' tk e d, Made fld s.heap h' e C d v → R (.ok (.ret (.ref e))) { s with heap := h', toks := tk }) : codeAny (model prog w) A (.call (.ref C) ⟨[v], []⟩) R s := by
  obtain ⟨fI, iC, tC, _⟩ := id T.iC
  obtain ⟨nm, q, N, bs, bm, sn, sub, ab, col, dd, k0, k1, k2, k3, k5, hC, rfl⟩ := T.cls
  obtain ⟨hp, g, dr, tk, os⟩ := s
  let hp2 : Heap := (hp.push (kdv_tup [v])).push (excO C hp.objs.size)
  have kk : ∀ b o, hp.get? b = some o → hp2.get? b = some o := fun b o z => Heap.get?_push_of_some _ (Heap.get?_push_of_some _ z)
  have he : hp2.get? (hp.objs.size + 1) = some (excO C hp.objs.size) := by
    show ((hp.push (kdv_tup [v])).push (excO C hp.objs.size)).get? (hp.objs.size + 1) = _
    heap_get
  have hne : K.lookup (hp.objs.size + 1) = none := by
    cases z : K.lookup (hp.objs.size + 1) with
    | none => rfl
    | some o =>
      have y : hp.objs.size + 1 < hp.objs.size := Heap.lt_size (X _ _ z)
      exact absurd (Nat.lt_of_succ_lt y) (Nat.lt_irrefl _)
  refine call_own T.fb (fun _ => rfl) (X _ _ hC) (looks_findIn X iC) (fun self => bind_fn X self tC) (by show 1 ≤ sizeLine; decide) ?_
  refine init_run (s := ⟨hp2, g, dr, tk, os⟩) T iC (X.keeps kk) (G.keeps kk) (Bn.keeps kk) hbb (hlim.keeps kk) he (by exact hroom) hne fun h' tk' M => ?_
  obtain ⟨k, t1, d, ho, hd⟩ := M
  have old : ∀ b o, hp.get? b = some o → h'.get? b = some o := fun b o z => k b o (Nat.ne_of_lt (Nat.lt_succ_of_lt (Heap.lt_size z))) (kk b o z)
  refine ⟨rfl, hq h' tk' (hp.objs.size + 1) d ⟨old, Nat.le_succ _, ⟨_, _, ho, rfl, rfl, rfl, rfl⟩, ?_⟩⟩
  cases fld with
  | none => exact hd
  | some f =>
    obtain ⟨dx, e1, e2, e3, e4⟩ := hd
    refine ⟨dx, e1, Nat.le_trans ?_ e2, e3, e4⟩
    show hp.objs.size ≤ ((hp.push (kdv_tup [v])).push (excO C hp.objs.size)).objs.size
    rw [Heap.size_push, Heap.size_push]
    omega
end
end TX

set_option Elab.async false
set_option linter.all false
set_option maxRecDepth 100000
set_option maxHeartbeats 4000000
namespace TX
open PySem PySem.Spec PyProof.Rows L2
/-- X(e): e is computed, then a new error of the class at C -/
def tMkE (C : Addr) (fld : Option Str) (ta : TA) : L2.St → Hp → XK → Prop := fun σ H Q => ta σ H fun vs H1 => ∃ v, vs = [v] ∧ match fld with
  | none => Q (.ref C) none H1
  | some f => ∀ d, H1 d = none → Q (.ref C) (some d) (upd H1 d (.xd [(f, v)]))
theorem relO_one {f : Str} {v : V} {u : Value} (r : RelV v u) (g : Str) : RelO (List.lookup g [(f, v)]) (if g = f then some u else none) := by
  by_cases c : g = f
  · subst c
    rw [if_pos rfl, List.lookup_cons_self]
    exact r
  · have z : (g == f) = false := by simpa using c
    rw [if_neg c]
    simp only [List.lookup, z]
    trivial
section
variable {X : Cx} {C : Addr} {x : Str} {B newId i : String} {bmB : List Value} {pn : Str} {fld : Option Str}
theorem pmk_ex {a : Expr} {ta : TA} {p pos : Pos} {k : Nat} (T : ExTx X.prog X.K X.mg x C B newId i bmB pn fld) (hr : Room k X.A) (ha : PA X [a] ta) (hg : Gl X x) (hdb : (x == ("__debug__" : Str)) = false)
    (he : starEach (a :: []) X.env = (false, eval a X.env) :: starEach [] X.env) : PMk X (.Call (.Name x p) [a] [] pos) (tMkE C fld ta) := by
  intro pins s σ H Q I h
  refine wpAny_Call_Name_kw (ld_glob I hg T.gC ?_ hdb)
  refine PySem.W.callWith_K (h₀ := X.base) I.ok.mod.kin T.kC (thn (ha.run pos pins s σ H _ I h) fun us s1 ⟨vs, H1, I1, r1, v, ev, q1⟩ => ?_) he rfl
  subst ev
  refine ⟨I1.kIn, ?_⟩
  cases r1 with
  | @cons _ u _ us' rv rn =>
    cases rn
    show wpAny _ _ (call (.ref C) [u]) _ _ _
    have hlim := I1.nolimit
    obtain ⟨mb, Bn, hbb⟩ := I1.ok.mod.blt
    have G := I1.mod.glob.keeps I1.bk
    have Bn := Bn.keeps I1.bk
    obtain ⟨hp, g, dr, tk, os⟩ := s1
    refine wpAny_call (made_run T I1.kIn G Bn hbb hlim (by have := hr.dp; omega) fun h' tk' e d M => ?_)
    show MkP X pins σ Q (.ref e) ⟨h', g, dr, tk', os⟩
    obtain ⟨oe, fv, hoe, hc, hd, hdat, h1⟩ := M.obj
    obtain ⟨G', g1, g2⟩ := restrict h' fun b => decide (b ≠ e)
    have ge : G'.get? e = none := g2 e (by simp)
    have gk : ∀ b, b ≠ e → G'.get? b = h'.get? b := fun b hb => g1 b (decide_eq_true hb)
    have old : ∀ b o, hp.get? b = some o → G'.get? b = some o := fun b o q => by
      rw [gk b (Nat.ne_of_lt (Nat.lt_of_lt_of_le (Heap.lt_size q) M.new))]
      exact M.keep b o q
    have up : ∀ b o, G'.get? b = some o → h'.get? b = some o := fun b o q => by
      by_cases hb : b = e
      · rw [hb, ge] at q
        cases q
      · rw [← gk b hb]
        exact q
    have hdct := M.dct
    cases fld with
    | none =>
      have hdct : d = none := hdct
      subst hdct
      have J : Inv X pins σ H1 ⟨G', g, dr, tk', os⟩ := I1.kept (t' := tk') old
      exact ⟨e, oe, fv, ⟨G', g, dr, tk', os⟩, _, .ref C, none, rfl, J, up, ge, hoe, ⟨hc, hd⟩, hdat, h1, I1.hok.fresh M.new, rfl, I1.bare, raises_own T.exC T.tyC, q1⟩
    | some f =>
      obtain ⟨dx, e1, dbig, dne, hns⟩ := hdct
      subst e1
      have ob : ObjOk X.prog X.w (upd H1 dx (.xd [(f, v)])) G' dx (.xd [(f, v)]) := ⟨_, hns.at (fun o q => (gk dx dne).trans q), fun g => relO_one rv g⟩
      have J : Inv X pins σ (upd H1 dx (.xd [(f, v)])) ⟨G', g, dr, tk', os⟩ := I1.laid (t' := tk') old dbig ob
      refine ⟨e, oe, fv, ⟨G', g, dr, tk', os⟩, _, .ref C, some dx, rfl, J, up, ge, hoe, ⟨hc, hd⟩, hdat, h1, ?_, rfl, I1.bare, raises_own T.exC T.tyC, q1 dx (I1.hok.fresh dbig)⟩
      rw [upd_ne (Ne.symm dne)]
      exact I1.hok.fresh M.new
end
end TX

set_option Elab.async false
set_option linter.all false
set_option maxRecDepth 100000
set_option maxHeartbeats 4000000
/-! try, with several clauses, some of them with a name -/
namespace TX
open PySem PySem.Spec PyProof.Rows L2
abbrev HdS := Addr → Value → Option Addr → TS
/-- the ends behind a suite: the clause's name is gone -/
def goneD (i : Nat) (D : Ends) : Ends := { nx := fun σ H => D.nx (σ.set i none) H, rt := D.rt, bk := fun σ H => D.bk (σ.set i none) H, ct := fun σ H => D.ct (σ.set i none) H }
/-- what the clauses wish of an exception of the body -/
def wMix (K : PySem.W.Frag) (W : WX) (D : Ends) : List (Value × Option Nat × HdS) → WX
  | [] => W
  | (c, none, ts) :: r => fun cls d σ H => ∃ b, PySem.W.exmOne K cls c = some b ∧ (b = true → ∀ a, H a = none → ts a cls d D σ H) ∧ (b = false → wMix K W D r cls d σ H)
  | (c, some i, ts) :: r => fun cls d σ H => ∃ b, PySem.W.exmOne K cls c = some b ∧ (b = true → ∀ a, H a = none → ts a cls d (goneD i D) (σ.set i (some (.ref a))) H) ∧ (b = false → wMix K W D r cls d σ H)
/-- a suite does what is said, whatever exception it holds -/
def SuOk (X : Cx) (st : List Stmt) (ts : HdS) : Prop := ∀ (a : Addr) (oe : Obj) (cls : Value) (d : Option Addr) (pn : List (Addr × Obj)), Zc cls d oe → (∃ vs, oe.data = .fields vs) → PSs (X.suite a ((a, oe) :: pn)) st (ts a cls d)
inductive HdMix (X : Cx) : List ExceptHandler → List (Value × Option Nat × HdS) → Prop
  | nil : HdMix X [] []
  | un {x : Str} {c : Value} {ts : HdS} {b₀ : Stmt} {suite : List Stmt} {np pos' : Pos} {hds : List ExceptHandler} {l : List (Value × Option Nat × HdS)} (hc : Names X x c) (hs : SuOk X (b₀ :: suite) ts) (r : HdMix X hds l) :
      HdMix X (.ExceptHandler (some (.Name x np)) none (b₀ :: suite) pos' :: hds) ((c, none, ts) :: l)
  | nm {x n : Str} {i : Nat} {c : Value} {ts : HdS} {b₀ : Stmt} {suite : List Stmt} {np pos' : Pos} {hds : List ExceptHandler} {l : List (Value × Option Nat × HdS)} (hc : Names X x c) (hi : X.N[i]? = some n) (hln : X.env.kindOf n = some .local) (hs : SuOk X (b₀ :: suite) ts) (r : HdMix X hds l) :
      HdMix X (.ExceptHandler (some (.Name x np)) (some n) (b₀ :: suite) pos' :: hds) ((c, some i, ts) :: l)
section
variable {X : Cx}
/-- an exception that has landed: its class can be asked -/
theorem land_nf {a : Addr} {B : Heap} {l : List Env} {h : Heap} {o : Obj} {vs : Array Value} (ff : h.FunFrames B l) (e : h.get? a = some o) (dd : o.data = .fields vs) : a ∉ frs l := fun hm => by
  obtain ⟨_, o', e', hnf⟩ := ff.mem hm
  rw [e] at e'
  cases e'
  exact hnf _ dd
theorem ps_mix {body : List Stmt} {h₀ : ExceptHandler} {hds : List ExceptHandler} {l : List (Value × Option Nat × HdS)} {pos : Pos} {tb : WX → TS} {W : WX} (hst : X.stack = X.env :: X.outer) (hfr0 : X.env.frame = some X.env.locals) (hN : X.N.Nodup) (tk : Takes X W)
    (hb : ∀ (W1 : WX) (pn : List (Addr × Obj)) (xe : Value → Shared → Prop), Takes (X.tr pn xe) W1 → PassesOwn (model X.prog X.w) X.A X.env xe → PSs (X.tr pn xe) body (tb W1)) (hh : HdMix X (h₀ :: hds) l) :
    PS X (.Try body (h₀ :: hds) [] [] pos) (fun D σ H => tb (wMix X.K W D l) D σ H) := by
  refine ⟨fun pins s σ H D I h => ?_⟩
  have ok := I.ok
  have fr1 : X.A.frames = some (X.env :: X.outer) := ok.frames.trans (by rw [hst])
  refine wpAny_Try_except ?_
  let xeT : Value → Shared → Prop := fun e s₁ => wpAny (model X.prog X.w) X.A (noteFrame e X.env) (fun _ s₂ => wpAny (model X.prog X.w) X.A (setFlight e none) (fun _ s₃ => wpAny (model X.prog X.w) X.A (handleBy e X.env (h₀ :: hds)) (SP X pins D) X.xe s₃) X.xe s₂) X.xe s₁
  refine wpAny_mono ((hb (wMix X.K W D l) (X.pn ++ pins) xeT (fun u s' xx => ?_) PassesOwn.looking).run [] s σ H D (I.toTry _) h) (fun f s1 hsp => ?_) (fun e s1 he => he)
  · obtain ⟨a, B, sI, pins', σ', H', cls, d, rfl, J', nb, up, sky, na, os, ag, wm⟩ := xx
    have J : Inv X pins σ' H' sI := J'.ofTry ok
    rw [show (X.tr (X.pn ++ pins) xeT).stack = X.env :: X.outer from hst] at sky
    show wpAny (model X.prog X.w) X.A (noteFrame (.ref a) X.env) _ _ _
    refine Sky.land Zc.steady fr1 hfr0 sky fun h3 fl3 up3 => ?_
    have J3 : Inv X pins σ' H' { s' with heap := h3 } := J.landed nb fl3.1 (up.trans up3) os ag
    obtain ⟨oe3, vs3, he3, hz3, hd3⟩ := fl3.there
    have nfr := land_nf fl3.2.2.1 he3 hd3
    have nL : a ≠ X.env.locals := fun z => nfr (List.mem_filterMap.mpr ⟨X.env, List.mem_cons_self, hfr0.trans (by rw [z])⟩)
    have nF : a ∉ X.fs := fun hm => by
      obtain ⟨e, he, q⟩ := List.mem_filterMap.mp hm
      exact nfr (List.mem_filterMap.mpr ⟨e, List.mem_cons_of_mem _ he, q⟩)
    have S3 := J3.suite he3 hd3 na nL nF
    have LT : PySem.W.Looks (model X.prog X.w) h3 (typeOf (.ref a)) cls := fun A Q E s k q => wpAny_typeOf_ref (k _ _ he3) (by rw [hz3.1]; exact q)
    have asks : ∀ {x : Str} {c : Value} {np : Pos} {Q : Value → Shared → Prop} {E : Value → Shared → Prop}, Names X x c → Q c { s' with heap := h3 } → wpAny (model X.prog X.w) (X.A.mark (some (.ref a))) (eval (.Name x np) X.env) Q E { s' with heap := h3 } := fun {x c np Q E} hc q => by
      obtain ⟨hg, hdbg, hm | ⟨hm, hv, hnn⟩⟩ := hc
      · exact ld_glob (X := X.suite a ((a, oe3) :: (X.pn ++ pins))) S3 hg hm q hdbg
      · exact ld_blt (X := X.suite a ((a, oe3) :: (X.pn ++ pins))) S3 hg hm hv q hnn hdbg
    have go : ∀ {hd : List ExceptHandler} {l' : List (Value × Option Nat × HdS)}, HdMix X hd l' → wMix X.K W D l' cls d σ' H' → wpAny (model X.prog X.w) X.A (handleBy (.ref a) X.env hd) (SP X pins D) X.xe { s' with heap := h3 } := by
      intro hd l' hk
      induction hk with
      | nil =>
        intro wm
        refine wpAny_handleBy_nil ?_
        obtain ⟨k1, k2, k3, oe, vs, T, oT, ts', he, hz, hdt, h1, hr⟩ := id fl3
        have fin : wpAny (model X.prog X.w) X.A (setFlight (.ref a) X.env.frame) (fun _ s4 => wpAny (model X.prog X.w) X.A (throw (.ref a) : Sem Flow) (SP X pins D) X.xe s4) X.xe { s' with heap := h3 } := by
          rw [hfr0]
          exact HandSPX.setFlight_upZ fl3 fun h4 hh4 up4 => wpAny_throw (tk _ _ ⟨a, B, sI, pins, σ', H', cls, d, rfl, J, nb, (up.trans up3).trans up4, .inr (.inr (by rw [hst]; exact hh4)), na, os, ag, wm⟩)
        unfold PySem.passOn
        refine wpAny_bind (wpAny_field he hdt h1 ?_)
        have nn : ¬ ((Value.ref T == Value.none) = true) := by simp
        rw [if_neg nn]
        first
          | exact wpAny_bind (wpAny_pure (wpAny_bind fin))
          | exact wpAny_bind fin
      | @un x c ts b₀ suite np pos' hds2 l2 hc hs r ih =>
        intro wm
        obtain ⟨b, hb1, yes, no⟩ := wm
        have LM := PySem.W.exm_one (M := model X.prog X.w) (J3.kIn) LT hb1
        refine wpAny_handleBy_cons (codeAny_handlers_test (asks hc (LM.here ?_))) nofun
        cases b with
        | false => exact ih (no rfl)
        | true =>
          refine codeAny_handlers_suite (HandSPX.lands_againZ fl3 fun h4 fl4 up4 => ?_)
          have J4 : Inv X pins σ' H' { s' with heap := h4 } := J.landed nb fl4.1 ((up.trans up3).trans up4) os ag
          obtain ⟨oe4, vs4, he4, hz4, hd4⟩ := fl4.there
          refine wpAny_mono ((hs a oe4 cls d (X.pn ++ pins) hz4 ⟨_, hd4⟩).run [] _ _ H' _ (J4.suite he4 hd4 na nL nF) (yes rfl a na)) (fun f s6 q => ?_) fun _ _ z => z.elim
          cases f with
          | next => exact q.imp fun σ6 q => q.imp fun H6 q => ⟨q.1.unsuite ok, q.2⟩
          | brk => exact q.imp fun σ6 q => q.imp fun H6 q => ⟨q.1.unsuite ok, q.2⟩
          | cont => exact q.imp fun σ6 q => q.imp fun H6 q => ⟨q.1.unsuite ok, q.2⟩
          | ret u => exact q.imp fun v q => q.imp fun σ6 q => q.imp fun H6 q => ⟨q.1.unsuite ok, q.2⟩
      | @nm x n i c ts b₀ suite np pos' hds2 l2 hc hi hln hs r ih =>
        intro wm
        obtain ⟨b, hb1, yes, no⟩ := wm
        have LM := PySem.W.exm_one (M := model X.prog X.w) (J3.kIn) LT hb1
        refine wpAny_handleBy_cons (codeAny_handlers_test (asks hc (LM.here ?_))) nofun
        cases b with
        | false => exact ih (no rfl)
        | true =>
          refine codeAny_handlers_suite_as (HandSPX.lands_againZ fl3 fun h4 fl4 up4 => ?_)
          have J4 : Inv X pins σ' H' { s' with heap := h4 } := J.landed nb fl4.1 ((up.trans up3).trans up4) os ag
          obtain ⟨oe4, vs4, he4, hz4, hd4⟩ := fl4.there
          have S4 := J4.suite he4 hd4 na nL nF
          refine store_ok (X := X.suite a ((a, oe4) :: (X.pn ++ pins))) (v := .ref a) S4 hN hi (.inl hln) rfl (fun s5 S5 => ?_) (.inr hln)
          refine wpAny_mono ((hs a oe4 cls d (X.pn ++ pins) hz4 ⟨_, hd4⟩).run [] s5 _ H' _ S5 (yes rfl a na)) (fun f s6 q => ?_) fun _ _ z => z.elim
          have gone : ∀ {σ6 : L2.St} {H6 : Hp} {Q : Shared → Prop}, Inv (X.suite a ((a, oe4) :: (X.pn ++ pins))) [] σ6 H6 s6 → (∀ s7, Inv X pins (σ6.set i none) H6 s7 → Q s7) → wpAny (model X.prog X.w) X.A (do bindName X.env n .none; unbindBehindTheSuite X.env n pos') (fun _ s7 => Q s7) X.xe s6 :=
            fun {σ6 H6 Q} S6 hq => gone_ok (S6.unsuite ok) hN hi hln hq
          cases f with
          | next =>
            obtain ⟨σ6, H6, S6, q⟩ := q
            exact gone S6 fun s7 J7 => ⟨_, _, J7, q⟩
          | brk =>
            obtain ⟨σ6, H6, S6, q⟩ := q
            exact gone S6 fun s7 J7 => ⟨_, _, J7, q⟩
          | cont =>
            obtain ⟨σ6, H6, S6, q⟩ := q
            exact gone S6 fun s7 J7 => ⟨_, _, J7, q⟩
          | ret u =>
            obtain ⟨v6, σ6, H6, S6, r6, q⟩ := q
            exact gone S6 fun s7 J7 => ⟨_, _, _, J7, r6, q⟩
    exact go hh wm
  · cases f with
    | next =>
      obtain ⟨σ', H', J', q⟩ := hsp
      exact wpAny_execs_nil ⟨σ', H', J'.ofTry ok, q⟩
    | brk => exact hsp.imp fun σ6 q => q.imp fun H6 q => ⟨q.1.ofTry ok, q.2⟩
    | cont => exact hsp.imp fun σ6 q => q.imp fun H6 q => ⟨q.1.ofTry ok, q.2⟩
    | ret u => exact hsp.imp fun v q => q.imp fun σ6 q => q.imp fun H6 q => ⟨q.1.ofTry ok, q.2⟩
end
end TX

set_option Elab.async false
set_option linter.all false
set_option maxRecDepth 100000
set_option maxHeartbeats 2000000
namespace TC
open PySem L2 PySem.Spec

/-- how the drawing object of a law stands: with so many draws left, at these addresses -/
structure Rng where
  I : Nat → List Addr → Hp → Prop
  fr : ∀ {b : Nat} {R : List Addr} {H H' : Hp}, I b R H → (∀ a ∈ R, H' a = H a) → I b R H'
  hv : ∀ {b : Nat} {R : List Addr} {H : Hp}, I b R H → ∀ a ∈ R, H a ≠ none
/-- a class of errors: its name, where it stands, the field that keeps what an error is made of -/
structure Xc where
  nm : Str
  C : Addr
  fld : Option Str
/-- what stays through a law -/
structure Ctx where
  K : PySem.W.Frag
  am : Addr
  rg : Rng
  lv : Nat
  cl : Nat → List Wd → Comp FR
  ck : Chk
  exs : List Xc
/-- how an error lies: its class, its own dict -/
def exrOf (C : Ctx) (x : Exn) (cls : Value) (d : Option Addr) (H : Hp) : Prop := ∃ q v, C.exs[x.c]? = some q ∧ cls = .ref q.C ∧ Dq C.K (fun _ => none) v x.v ∧ match q.fld with
  | none => d = none
  | some f => ∃ dd, d = some dd ∧ H dd = some (.xd [(f, v)])

/-- a value that stays, at the frozen part G of the heap -/
def Rep (C : Ctx) (G : Hp) (v : V) : Wd → Prop
  | .d x => Dq C.K G v x
  | .rng => v = .ref C.am
  | .scr n => ∃ a xs, v = .ref a ∧ SqL C.K G a xs ∧ xs.length = n
theorem Rep.sub {C : Ctx} {G G' : Hp} {v : V} {w : Wd} (s : Sub G G') (h : Rep C G v w) : Rep C G' v w := by
  cases w with
  | d x => exact s.dp h
  | rng => exact h
  | scr n =>
    obtain ⟨a, xs, h1, h2, h3⟩ := h
    exact ⟨a, xs, h1, h2.imp s.rd id, h3⟩
def Reps (C : Ctx) (G : Hp) : List V → List Wd → Prop
  | [], [] => True
  | v :: vs, w :: ws => Rep C G v w ∧ Reps C G vs ws
  | _, _ => False
theorem Reps.sub {C : Ctx} {G G' : Hp} (s : Sub G G') : ∀ {vs : List V} {ws : List Wd}, Reps C G vs ws → Reps C G' vs ws
  | [], [], _ => trivial
  | _ :: _, _ :: _, h => ⟨h.1.sub s, Reps.sub s h.2⟩
  | [], _ :: _, h => h
  | _ :: _, [], h => h
theorem Reps.len {C : Ctx} {G : Hp} : ∀ {vs : List V} {ws : List Wd}, Reps C G vs ws → vs.length = ws.length
  | [], [], _ => rfl
  | _ :: _, _ :: _, h => congrArg (· + 1) (Reps.len h.2)
  | [], _ :: _, h => h.elim
  | _ :: _, [], h => h.elim
theorem Reps.get {C : Ctx} {G : Hp} : ∀ {vs : List V} {ws : List Wd} {i : Nat} {w : Wd}, Reps C G vs ws → ws[i]? = some w → ∃ v, vs[i]? = some v ∧ Rep C G v w
  | _ :: _, _ :: _, 0, _, h, e => by
    obtain rfl := Option.some.inj (by simpa using e)
    exact ⟨_, rfl, h.1⟩
  | _ :: _, _ :: _, i + 1, _, h, e => by
    obtain ⟨v, h1, h2⟩ := Reps.get (i := i) h.2 (by simpa using e)
    exact ⟨v, by simpa using h1, h2⟩
  | [], [], _, _, _, e => by simp at e
  | [], _ :: _, _, _, h, _ => h.elim
  | _ :: _, [], _, _, h, _ => h.elim

/-- the heap goes on: what stood outside the drawing object stands, the frozen part grows -/
structure Stp (R : List Addr) (G H : Hp) (R' : List Addr) (G' H' : Hp) : Prop where
  g : Sub G G'
  k : ∀ a o, H a = some o → a ∉ R → H' a = some o
  r : ∀ a, a ∈ R' → a ∈ R ∨ H a = none
  o : ∀ a u, H a = some u → a ∉ R → G a = none → G' a = none
  h : ∀ a, H' a = none → H a = none
theorem upd_none {H : Hp} {p a : Addr} {o : HO} (h : upd H p o a = none) : H a = none := by
  by_cases e : a = p
  · subst e
    rw [upd_same] at h
    cases h
  · rw [upd_ne e] at h
    exact h
theorem Stp.refl {R : List Addr} {G H : Hp} : Stp R G H R G H := ⟨fun _ _ h => h, fun _ _ h _ => h, fun _ h => .inl h, fun _ _ _ _ h => h, fun _ h => h⟩
theorem Stp.notin {R R' : List Addr} {G H G' H' : Hp} (s : Stp R G H R' G' H') {a : Addr} {o : HO} (h : H a = some o) (n : a ∉ R) : a ∉ R' := fun z => by
  rcases s.r a z with q | q
  · exact n q
  · rw [h] at q
    cases q
theorem Stp.trans {R R' R2 : List Addr} {G H G' H' G2 H2 : Hp} (s : Stp R G H R' G' H') (t : Stp R' G' H' R2 G2 H2) : Stp R G H R2 G2 H2 where
  g := fun a o h => t.g a o (s.g a o h)
  k := fun a o h n => t.k a o (s.k a o h n) (s.notin h n)
  r := fun a z => by
    rcases t.r a z with q | q
    · exact s.r a q
    · by_cases n : a ∈ R
      · exact .inl n
      · cases e : H a with
        | none => exact .inr rfl
        | some o =>
          have z2 := s.k a o e n
          rw [q] at z2
          cases z2
  o := fun a u h n z => t.o a u (s.k a u h n) (s.notin h n) (s.o a u h n z)
  h := fun a q => s.h a (t.h a q)
/-- a new object at p, frozen | left open -/
theorem Stp.new {R : List Addr} {G H : Hp} {p : Addr} {o : HO} (n : H p = none) (sub : Sub G H) : Stp R G H R (upd G p o) (upd H p o) where
  g := fun a u h => by
    rw [upd_ne (ne_of_none (sub a u h) n)]
    exact h
  k := fun a u h _ => by
    rw [upd_ne (ne_of_none h n)]
    exact h
  r := fun _ h => .inl h
  o := fun a u h _ z => by
    rw [upd_ne (ne_of_none h n)]
    exact z
  h := fun _ => upd_none
theorem Stp.open {R : List Addr} {G H : Hp} {p : Addr} {o : HO} (n : H p = none) : Stp R G H R G (upd H p o) where
  g := fun _ _ h => h
  k := fun a u h _ => by
    rw [upd_ne (ne_of_none h n)]
    exact h
  r := fun _ h => .inl h
  o := fun _ _ _ _ z => z
  h := fun _ => upd_none

/-- the base of a frame's state: the frozen part, the drawing object -/
structure Bs (C : Ctx) (b : Nat) (R : List Addr) (G H : Hp) : Prop where
  sub : Sub G H
  rg : C.rg.I b R H
  dis : ∀ a ∈ R, G a = none
theorem Bs.new {C : Ctx} {b : Nat} {R : List Addr} {G H : Hp} {p : Addr} {o : HO} (B : Bs C b R G H) (n : H p = none) : Bs C b R (upd G p o) (upd H p o) where
  sub := fun a u h => by
    by_cases e : a = p
    · subst e
      rw [upd_same] at h ⊢
      exact h
    · rw [upd_ne e] at h ⊢
      exact B.sub a u h
  rg := C.rg.fr B.rg fun a ha => upd_ne fun e => C.rg.hv B.rg a ha (e ▸ n)
  dis := fun a ha => by
    have q : a ≠ p := fun e => C.rg.hv B.rg a ha (e ▸ n)
    rw [upd_ne q]
    exact B.dis a ha
/-- a write outside the frozen part and the drawing object -/
theorem Bs.put {C : Ctx} {b : Nat} {R : List Addr} {G H : Hp} {p : Addr} {o : HO} (B : Bs C b R G H) (n : G p = none) (nr : p ∉ R) : Bs C b R G (upd H p o) where
  sub := fun a u h => by
    rw [upd_ne (ne_of_none h n)]
    exact B.sub a u h
  rg := C.rg.fr B.rg fun a ha => upd_ne fun e => nr (e ▸ ha)
  dis := B.dis
theorem Bs.gnone {C : Ctx} {b : Nat} {R : List Addr} {G H : Hp} {p : Addr} (B : Bs C b R G H) (n : H p = none) : G p = none := by
  cases e : G p with
  | none => rfl
  | some o =>
    have z := B.sub p o e
    rw [n] at z
    cases z
theorem Bs.rnone {C : Ctx} {b : Nat} {R : List Addr} {G H : Hp} {p : Addr} (B : Bs C b R G H) (n : H p = none) : p ∉ R := fun z => C.rg.hv B.rg p z n
/-- from now on what stands at p stays -/
theorem Bs.freeze {C : Ctx} {b : Nat} {R : List Addr} {G H : Hp} {p : Addr} {o : HO} (B : Bs C b R G H) (h : H p = some o) (nr : p ∉ R) : Bs C b R (upd G p o) H where
  sub := fun a u q => by
    by_cases e : a = p
    · subst e
      rw [upd_same] at q
      rw [h, q]
    · rw [upd_ne e] at q
      exact B.sub a u q
  rg := B.rg
  dis := fun a ha => by
    have q : a ≠ p := fun e => nr (e ▸ ha)
    rw [upd_ne q]
    exact B.dis a ha

/-- a list that only one slot holds, at l -/
structure Own (C : Ctx) (R : List Addr) (G H : Hp) (l : Addr) (ds : List PyData) : Prop where
  at_ : ∃ vs, H l = some (.lst vs) ∧ DqAll C.K G vs ds
  g : G l = none
  r : l ∉ R
theorem Own.stp {C : Ctx} {R R' : List Addr} {G H G' H' : Hp} {l : Addr} {ds : List PyData} (o : Own C R G H l ds) (s : Stp R G H R' G' H') (g : G' l = none) : Own C R' G' H' l ds := by
  obtain ⟨vs, h, q⟩ := o.at_
  exact ⟨⟨vs, s.k _ _ h o.r, s.g.dps q⟩, g, s.notin h o.r⟩
/-- what is known of a slot -/
def SlOk (C : Ctx) (R : List Addr) (G H : Hp) (v : Option (Option V)) : Sl → Prop
  | .un => True
  | .fz w => ∃ u, v = some (some u) ∧ Rep C G u w
  | .ow ds => ∃ l, v = some (some (.ref l)) ∧ Own C R G H l ds
/-- slot i holds an open list at l -/
def Opn (σ : L2.St) (e : En) (i : Nat) (l : Addr) : Prop := (∃ ds, e[i]? = some (.ow ds)) ∧ σ[i]? = some (some (.ref l))
/-- a frame's state -/
structure St (C : Ctx) (b : Nat) (R : List Addr) (G : Hp) (σ : L2.St) (H : Hp) (e : En) : Prop where
  bs : Bs C b R G H
  len : e.length = σ.length
  sl : ∀ (i : Nat) (s : Sl), e[i]? = some s → SlOk C R G H σ[i]? s
  ap : ∀ (i j : Nat) (l : Addr), Opn σ e i l → Opn σ e j l → i = j
theorem St.opn_some {C : Ctx} {b : Nat} {R : List Addr} {G H : Hp} {σ : L2.St} {e : En} (S : St C b R G σ H e) {i : Nat} {l : Addr} (o : Opn σ e i l) : (∃ u, H l = some u) ∧ G l = none ∧ l ∉ R := by
  obtain ⟨⟨ds, h⟩, hs⟩ := o
  obtain ⟨l', e1, ow⟩ := S.sl i _ h
  rw [hs] at e1
  obtain rfl : l = l' := by
    injection e1 with e1
    injection e1 with e1
    injection e1
  obtain ⟨vs, q, _⟩ := ow.at_
  exact ⟨⟨_, q⟩, ow.g, ow.r⟩
theorem St.stp {C : Ctx} {b b' : Nat} {R R' : List Addr} {G H G' H' : Hp} {σ : L2.St} {e : En} (S : St C b R G σ H e) (s : Stp R G H R' G' H') (B : Bs C b' R' G' H') : St C b' R' G' σ H' e where
  bs := B
  len := S.len
  sl := fun i sl h => by
    have z := S.sl i sl h
    cases sl with
    | un => trivial
    | fz w =>
      obtain ⟨u, e1, r⟩ := z
      exact ⟨u, e1, r.sub s.g⟩
    | ow ds =>
      obtain ⟨l, e1, o⟩ := z
      obtain ⟨⟨u, q⟩, q2, q3⟩ := S.opn_some ⟨⟨ds, h⟩, e1⟩
      exact ⟨l, e1, o.stp s (s.o l u q q3 q2)⟩
  ap := S.ap
theorem St.new {C : Ctx} {b : Nat} {R : List Addr} {G H : Hp} {σ : L2.St} {e : En} {p : Addr} {o : HO} (S : St C b R G σ H e) (n : H p = none) : St C b R (upd G p o) σ (upd H p o) e :=
  S.stp (Stp.new n S.bs.sub) (S.bs.new n)
/-- a new object that is not frozen -/
theorem St.opened {C : Ctx} {b : Nat} {R : List Addr} {G H : Hp} {σ : L2.St} {e : En} {p : Addr} {o : HO} (S : St C b R G σ H e) (n : H p = none) : St C b R G σ (upd H p o) e :=
  S.stp (Stp.open n) (S.bs.put (S.bs.gnone n) (S.bs.rnone n))
/-- a write to an open object that no slot holds -/
theorem St.write {C : Ctx} {b : Nat} {R : List Addr} {G H : Hp} {σ : L2.St} {e : En} {p : Addr} {o : HO} (S : St C b R G σ H e) (g : G p = none) (r : p ∉ R) (no : ∀ i, ¬ Opn σ e i p) : St C b R G σ (upd H p o) e where
  bs := S.bs.put g r
  len := S.len
  sl := fun i sl h => by
    have z := S.sl i sl h
    cases sl with
    | un => trivial
    | fz w => exact z
    | ow ds =>
      obtain ⟨l, e1, ow⟩ := z
      obtain ⟨vs, q, q2⟩ := ow.at_
      refine ⟨l, e1, ⟨vs, ?_, q2⟩, ow.g, ow.r⟩
      have ne : l ≠ p := fun z => no i (z ▸ ⟨⟨ds, h⟩, e1⟩)
      rw [upd_ne ne]
      exact q
  ap := S.ap

/-! ### a computation at a frame's state -/
def Run {α : Type} (C : Ctx) (W : WX) (σ : L2.St) (e : En) (b : Nat) (R : List Addr) (G H : Hp) (c : Comp α) (k : Nat → List Addr → Hp → Hp → α → Prop) : Prop :=
  c.wp b (fun b' a => ∀ R' G' H', Stp R G H R' G' H' → St C b' R' G' σ H' e → k b' R' G' H' a)
    fun b' x => ∀ R' G' H' cls d, Stp R G H R' G' H' → St C b' R' G' σ H' e → exrOf C x cls d H' → W cls d σ H'
section
variable {α β : Type} {C : Ctx} {W : WX} {σ : L2.St} {e : En} {b : Nat} {R : List Addr} {G H : Hp}
theorem Run.mono {c : Comp α} {k k' : Nat → List Addr → Hp → Hp → α → Prop} (h : Run C W σ e b R G H c k)
    (m : ∀ b' R' G' H' a, Stp R G H R' G' H' → St C b' R' G' σ H' e → k b' R' G' H' a → k' b' R' G' H' a) : Run C W σ e b R G H c k' :=
  Comp.wp_mono h (fun b' a q R' G' H' s S => m b' R' G' H' a s S (q R' G' H' s S)) fun _ _ q => q
theorem Run.bind {c : Comp α} {f : α → Comp β} {k : Nat → List Addr → Hp → Hp → β → Prop} (h : Run C W σ e b R G H (c.bind f) k) :
    Run C W σ e b R G H c fun b' R' G' H' a => Run C W σ e b' R' G' H' (f a) k :=
  Comp.wp_mono (Comp.wp_bind.mp h) (fun _ a q R' G' H' s S => Comp.wp_mono q (fun _ _ z R2 G2 H2 s2 S2 => z R2 G2 H2 (s.trans s2) S2) fun _ _ z R2 G2 H2 cls d s2 S2 => z R2 G2 H2 cls d (s.trans s2) S2) fun _ _ q => q
theorem Run.ret {a : α} {k : Nat → List Addr → Hp → Hp → α → Prop} (S : St C b R G σ H e) (h : Run C W σ e b R G H (.ret a) k) : k b R G H a := h R G H .refl S
theorem Run.stuck {k : Nat → List Addr → Hp → Hp → α → Prop} {p : Prop} (h : Run C W σ e b R G H (.stuck : Comp α) k) : p := h.elim
/-- the data of a value -/
theorem Run.dD {c : Comp Wd} {k : Nat → List Addr → Hp → Hp → PyData → Prop} (h : Run C W σ e b R G H (TC.dD c) k) :
    Run C W σ e b R G H c fun b' R' G' H' w => ∃ x, w = .d x ∧ k b' R' G' H' x :=
  Run.mono (Run.bind h) fun b' R' G' H' w _ S q => by
    cases w with
    | d x => exact ⟨x, rfl, Run.ret S q⟩
    | _ => exact q.stuck
theorem Run.dB {c : Comp Wd} {k : Nat → List Addr → Hp → Hp → Bool → Prop} (h : Run C W σ e b R G H (TC.dB c) k) :
    Run C W σ e b R G H c fun b' R' G' H' w => ∃ x, w = .d (.bool x) ∧ k b' R' G' H' x :=
  Run.mono (Run.bind h) fun b' R' G' H' w _ S q => by
    rcases w with x | _ | _
    · cases x <;> first | exact ⟨_, rfl, Run.ret S q⟩ | exact q.stuck
    · exact q.stuck
    · exact q.stuck
theorem Run.dI {c : Comp Wd} {k : Nat → List Addr → Hp → Hp → Int → Prop} (h : Run C W σ e b R G H (TC.dI c) k) :
    Run C W σ e b R G H c fun b' R' G' H' w => ∃ x, w = .d (.int x) ∧ k b' R' G' H' x :=
  Run.mono (Run.bind h) fun b' R' G' H' w _ S q => by
    rcases w with x | _ | _
    · cases x <;> first | exact ⟨_, rfl, Run.ret S q⟩ | exact q.stuck
    · exact q.stuck
    · exact q.stuck
end

/-! ### readings -/
/-- what is wanted behind a value that stays -/
abbrev KW (C : Ctx) (Q : VK) : Nat → List Addr → Hp → Hp → Wd → Prop := fun _ _ G' H' w => ∀ v, Rep C G' v w → Q v H'
/-- an expression whose value stays, by what it computes -/
def tX (C : Ctx) (W : WX) (ev : En → Comp Wd) : TE := fun σ H Q => ∃ b R G e, St C b R G σ H e ∧ Run C W σ e b R G H (ev e) (KW C Q)
theorem tX.mono {C : Ctx} {W : WX} {ev : En → Comp Wd} {σ : L2.St} {H : Hp} {Q Q' : VK} (h : tX C W ev σ H Q) (m : ∀ v H', Q v H' → Q' v H') : tX C W ev σ H Q' := by
  obtain ⟨b, R, G, e, S, h⟩ := h
  exact ⟨b, R, G, e, S, h.mono fun _ _ _ _ _ _ _ q v r => m v _ (q v r)⟩
theorem peM {X : Cx} {e : Expr} {t t' : TE} (h : L2.PE X e t) (m : ∀ σ H Q, t' σ H Q → t σ H Q) : L2.PE X e t' :=
  ⟨fun pins s σ H Q I q => h.run pins s σ H Q I (m σ H Q q)⟩
theorem ptM {X : Cx} {e : Expr} {t t' : TT} (h : L2.PT X e t) (m : ∀ σ H Q, t' σ H Q → t σ H Q) : L2.PT X e t' :=
  ⟨fun pins s σ H Q I q => h.run pins s σ H Q I (m σ H Q q)⟩
/-- an operand is read, the rest goes on from there -/
theorem tX.of {C : Ctx} {W : WX} {ev : En → Comp Wd} {σ : L2.St} {H : Hp} {e : En} {b : Nat} {R : List Addr} {G : Hp} {Q : VK} (S : St C b R G σ H e) {k : Nat → List Addr → Hp → Hp → Wd → Prop} (h : Run C W σ e b R G H (ev e) k)
    (m : ∀ b' R' G' H' w v, Stp R G H R' G' H' → St C b' R' G' σ H' e → Rep C G' v w → k b' R' G' H' w → Q v H') : tX C W ev σ H Q :=
  ⟨b, R, G, e, S, h.mono fun b' R' G' H' w s S' q v r => m b' R' G' H' w v s S' r q⟩
/-- two data operands -/
theorem tX2 {C : Ctx} {W : WX} {ca cb : En → Comp Wd} {f : En → PyData → PyData → Comp Wd} {σ : L2.St} {H : Hp} {Q : VK}
    (h : tX C W (fun e => (dD (ca e)).bind fun x => (dD (cb e)).bind fun y => f e x y) σ H Q) {Q2 : V → V → Hp → Prop}
    (m : ∀ b R G H2 e vx vy x y, St C b R G σ H2 e → Dq C.K G vx x → Dq C.K G vy y → Run C W σ e b R G H2 (f e x y) (KW C Q) → Q2 vx vy H2) :
    tX C W ca σ H fun vx H1 => tX C W cb σ H1 fun vy H2 => Q2 vx vy H2 := by
  obtain ⟨b, R, G, e, S, h⟩ := h
  refine tX.of S h.bind.dD fun b1 R1 G1 H1 w1 v1 s1 S1 r1 ⟨x, ew, q⟩ => ?_
  subst ew
  refine tX.of S1 q.bind.dD fun b2 R2 G2 H2 w2 v2 s2 S2 r2 ⟨y, ew, q2⟩ => ?_
  subst ew
  exact m b2 R2 G2 H2 e v1 v2 x y S2 (s2.g.dp r1) r2 q2
/-- one data operand -/
theorem tX1 {C : Ctx} {W : WX} {ca : En → Comp Wd} {f : En → PyData → Comp Wd} {σ : L2.St} {H : Hp} {Q : VK}
    (h : tX C W (fun e => (dD (ca e)).bind fun x => f e x) σ H Q) {Q2 : V → Hp → Prop}
    (m : ∀ b R G H2 e vx x, St C b R G σ H2 e → Dq C.K G vx x → Run C W σ e b R G H2 (f e x) (KW C Q) → Q2 vx H2) :
    tX C W ca σ H fun vx H1 => Q2 vx H1 := by
  obtain ⟨b, R, G, e, S, h⟩ := h
  refine tX.of S h.bind.dD fun b1 R1 G1 H1 w1 v1 s1 S1 r1 ⟨x, ew, q⟩ => ?_
  subst ew
  exact m b1 R1 G1 H1 e v1 x S1 r1 q
/-- an end in plain data -/
theorem endD {C : Ctx} {W : WX} {σ : L2.St} {e : En} {b : Nat} {R : List Addr} {G H : Hp} {x : PyData} {v : V} {Q : VK} (S : St C b R G σ H e) (h : Run C W σ e b R G H (.ret (.d x)) (KW C Q)) (r : Dq C.K G v x) : Q v H := Run.ret S h v r
theorem endR {C : Ctx} {W : WX} {σ : L2.St} {e : En} {b : Nat} {R : List Addr} {G H : Hp} {x : PyData} {v : V} {Q : VK} (S : St C b R G σ H e) (h : Run C W σ e b R G H (retD (.ret x)) (KW C Q)) (r : Dq C.K G v x) : Q v H := Run.ret S h v r
/-- an end in a new tuple, a new list that stays -/
theorem endT {C : Ctx} {W : WX} {σ : L2.St} {e : En} {b : Nat} {R : List Addr} {G H : Hp} {ds : List PyData} {vs : List V} {Q : VK} (S : St C b R G σ H e) (h : Run C W σ e b R G H (.ret (.d (.tuple ds))) (KW C Q)) (r : DqAll C.K G vs ds) :
    ∀ p, H p = none → Q (.ref p) (upd H p (.tup vs)) := fun p n =>
  h R _ _ (Stp.new n S.bs.sub) (S.new n) (.ref p) (Dq.tup (.inl (.inl upd_same)) ((Stp.new (R := R) n S.bs.sub).g.dps r))
theorem endL {C : Ctx} {W : WX} {σ : L2.St} {e : En} {b : Nat} {R : List Addr} {G H : Hp} {ds : List PyData} {vs : List V} {Q : VK} (S : St C b R G σ H e) (h : Run C W σ e b R G H (.ret (.d (.list ds))) (KW C Q)) (r : DqAll C.K G vs ds) :
    ∀ p, H p = none → Q (.ref p) (upd H p (.lst vs)) := fun p n =>
  h R _ _ (Stp.new n S.bs.sub) (S.new n) (.ref p) (Dq.lst (.inl upd_same) ((Stp.new (R := R) n S.bs.sub).g.dps r))

/-! ### the promises of the text's functions -/
/-- how a function's answer stands -/
def RetOk (C : Ctx) (H : Hp) (R' : List Addr) (G' H' : Hp) (v : V) : FR → Prop
  | .fz w => Rep C G' v w
  | .ow ds => ∃ l, v = .ref l ∧ H l = none ∧ Own C R' G' H' l ds
/-- a function's promise, by what it computes -/
def spG (C : Ctx) (c : List Wd → Comp FR) : Sp := fun vs H Q E => ∃ b R G ws, Bs C b R G H ∧ Reps C G vs ws ∧
  (c ws).wp b (fun b' r => ∀ R' G' H' v, Stp R G H R' G' H' → Bs C b' R' G' H' → RetOk C H R' G' H' v r → Q v H')
    (fun b' x => ∀ R' G' H' cls d, Stp R G H R' G' H' → Bs C b' R' G' H' → exrOf C x cls d H' → E cls d H')
abbrev spU (C : Ctx) (j : Nat) : Sp := spG C (C.cl j)
def spD (C : Ctx) : Sp := fun vs H Q _ => ∃ b R G n, Bs C (b + 1) R G H ∧ vs = [.ref C.am, .int n] ∧ 0 < n ∧ n < 1073741824 ∧
  ∀ r R' H', 0 ≤ r → r < n → Stp R G H R' G H' → Bs C b R' G H' → Q (.int r) H'
def bltB (x : Str) : Bool := decide (x ∈ (["len", "int", "str", "all", "sum", "tuple", "repr", "min", "max", "isinstance", "bool", "list", "range", "enumerate", "zip", "sorted", "set"] : List Str))
/-- what the text's top holds -/
structure ModOk (C : Ctx) (P : Program) (w : World) (K : PySem.W.Frag) (mg : Str → Option Value) (base : Heap) : Prop where
  hK : K = C.K
  blt : ∀ x, bltB x = true → mg x = none
  con : ∀ x v, C.ck.cons.lookup x = some v → ∃ u vv, mg x = some vv ∧ RelV u vv ∧ Dq C.K (fun _ => none) u v.val
  fn : ∀ (j : Nat) x, C.ck.fns[j]? = some x → ∃ f fd ps, mg x = some (.ref f) ∧ PySem.W.keepIn K (.ref f) = true ∧ Binds K fd ps [] ∧ FnG P w K mg base C.lv f fd ps (spU C j)
  exl : C.ck.exs = C.exs.map fun q => (q.nm, q.fld)
  ex : ∀ (c : Nat) q, C.exs[c]? = some q → ∃ B newId i bmB pn, TX.ExTx P K mg q.nm q.C B newId i bmB pn q.fld
  exd : ∀ (c c' : Nat) q q', C.exs[c]? = some q → C.exs[c']? = some q' → PySem.W.exmOne K (.ref q.C) (.ref q'.C) = some (decide (c = c'))
  drw : ∃ f fd ps, mg C.ck.dn = some (.ref f) ∧ PySem.W.keepIn K (.ref f) = true ∧ Binds K fd ps [] ∧ FnG P w K mg base C.lv f fd ps (spD C)
structure XOk (C : Ctx) (W : WX) (X : Cx) : Prop where
  m : ModOk C X.prog X.w X.K X.mg X.base
  calm : X.calm = true
  gu : X.A.guards = some []
  room : Room C.lv X.A
  nd : X.N.Nodup
  tk : Takes X W
  own : PassesOwn (model X.prog X.w) X.A X.env X.xe
end TC

set_option Elab.async false
set_option linter.all false
set_option maxRecDepth 100000
set_option maxHeartbeats 2000000
namespace TC
open PySem L2 PySem.Spec

/-! ### the forms that our syntax is read back into -/
def headB : Expr → Bool
  | .Starred .. => false
  | .Set .. => false
  | .Slice .. => false
  | .NamedExpr .. => false
  | .Yield .. => false
  | .Await .. => false
  | _ => true
theorem Ef.head (f : Ef) : headB f.em = true := by cases f <;> rfl
theorem Ee.head (e : Ee) : headB e.em = true := by
  cases e <;> first | rfl | exact Ef.head _
theorem Eb.head (e : Eb) : headB e.em = true := by
  cases e <;> first | rfl | exact Ee.head _
theorem star_of {e : Expr} (h : headB e = true) (es : List Expr) (env : Env) : starEach (e :: es) env = (false, eval e env) :: starEach es env := by
  cases e <;> first | rfl | cases h
theorem marks_of {e : Expr} (h : headB e = true) (op : CmpOp) : behindInMarks op e = false := by
  cases e <;> first | rfl | cases h
theorem plainIx_of {e : Expr} (h : headB e = true) : PlainIx e := by
  intro o i
  cases e <;> first | rfl | cases h
theorem Es.star : ∀ (es : Es) (env : Env) (pos : Pos), (backTo pos (starEach es.em env)).any (·.1) = false
  | .nil, _, _ => rfl
  | .cons e es, env, pos => by
    show (backTo pos (starEach (e.em :: es.em) env)).any (·.1) = false
    rw [star_of e.head]
    show (false || (backTo pos (starEach es.em env)).any (·.1)) = false
    rw [Es.star es env pos]
    rfl
theorem plainNm_of {x : Str} (h : plainNm x = true) : (x == ("__debug__" : Str)) = false ∧ (x == ("__classdict__" : Str)) = false ∧ x ≠ "__name__" := by
  unfold plainNm at h
  rw [Bool.and_eq_true, Bool.and_eq_true] at h
  obtain ⟨⟨h1, h2⟩, h3⟩ := h
  refine ⟨by simpa using h1, by simpa using h2, by simpa using h3⟩
theorem vis_of {sc : Scope} {x : Str} (h : visB sc x = true) : Vis sc x := by
  unfold visB at h
  rw [Bool.and_eq_true] at h
  have q := h.2
  split at q <;> first | (rename_i e; first | exact .inl e | exact .inr (.inl e) | exact .inr (.inr e)) | cases q
theorem loc_of {sc : Scope} {x : Str} (h : locB sc x = true) : Loc sc x := by
  unfold locB at h
  rw [Bool.and_eq_true] at h
  have q := h.2
  split at q <;> first | (rename_i e; first | exact .inl e | exact .inr e) | cases q
theorem gl_of {X : Cx} {x : Str} (h : glB X.env.scope x = true) : Gl X x := by
  unfold glB at h
  rw [Bool.and_eq_true] at h
  have q := h.2
  split at q <;> first | (rename_i e; exact e) | cases q
theorem nm_vis {sc : Scope} {x : Str} (h : visB sc x = true) : plainNm x = true := (Bool.and_eq_true_iff.mp h).1
theorem nm_gl {sc : Scope} {x : Str} (h : glB sc x = true) : plainNm x = true := (Bool.and_eq_true_iff.mp h).1
theorem slot_of {N : List Str} {i : Nat} {x : Str} (h : slotB N i x = true) : N[i]? = some x := by
  unfold slotB at h
  simpa using h

section
variable {C : Ctx} {W : WX} {X : Cx}
/-! ### names and constants -/
theorem e_var (hX : XOk C W X) {i : Nat} {x : Str} {p : Pos} (hN : X.N[i]? = some x) (hv : visB X.env.scope x = true) : PE X (Ee.var i x p).em (tX C W ((Ee.var i x p).ev C.cl)) := by
  have n := plainNm_of (nm_vis hv)
  refine peM (pe_var hN (vis_of hv) n.1 n.2.1) fun σ H Q h => ?_
  obtain ⟨b, R, G, e, S, h⟩ := h
  have h : Run C W σ e b R G H (varE e i) (KW C Q) := h
  unfold varE at h
  split at h
  · rename_i w ew
    obtain ⟨u, e1, r⟩ := S.sl i _ ew
    exact ⟨u, e1, Run.ret S h u r⟩
  · exact h.stuck
theorem e_con (hX : XOk C W X) {v : Cst} {x : Str} {p : Pos} (hg : glB X.env.scope x = true) (hc : C.ck.cons.lookup x = some v) : PE X (Ee.con x v p).em (tX C W ((Ee.con x v p).ev C.cl)) := by
  obtain ⟨u, vv, hm, r, d⟩ := hX.m.con x v hc
  refine peM (pe_glob (gl_of hg) hm r (plainNm_of (nm_gl hg)).1) fun σ H Q h => ?_
  obtain ⟨b, R, G, e, S, h⟩ := h
  exact Run.ret S h u ((show Sub (fun _ => none) G from fun _ _ z => nomatch z).dp d)
theorem e_non {k : Nat} {p : Pos} : PE X (Ee.non k p).em (tX C W ((Ee.non k p).ev C.cl)) :=
  peM pe_non fun σ H Q ⟨b, R, G, e, S, h⟩ => Run.ret S h _ .non
theorem e_bl {v : Bool} {k : Nat} {p : Pos} : PE X (Ee.bl v k p).em (tX C W ((Ee.bl v k p).ev C.cl)) :=
  peM pe_bl fun σ H Q ⟨b, R, G, e, S, h⟩ => Run.ret S h _ (.bl v)
theorem e_int {v : Int} {k : Nat} {p : Pos} : PE X (Ee.int v k p).em (tX C W ((Ee.int v k p).ev C.cl)) :=
  peM pe_int fun σ H Q ⟨b, R, G, e, S, h⟩ => Run.ret S h _ (.int v)
theorem e_str {v : Str} {k : Nat} {p : Pos} : PE X (Ee.str v k p).em (tX C W ((Ee.str v k p).ev C.cl)) :=
  peM pe_str fun σ H Q ⟨b, R, G, e, S, h⟩ => Run.ret S h _ (.str v)

/-! ### argument lists -/
/-- data, one after another -/
def tAs (C : Ctx) (W : WX) (ev : En → Comp (List PyData)) : TA := fun σ H Q => ∃ b R G e, St C b R G σ H e ∧ Run C W σ e b R G H (ev e) fun _ _ G' H' ds => ∀ vs, DqAll C.K G' vs ds → Q vs H'
def tWs (C : Ctx) (W : WX) (ev : En → Comp (List Wd)) : TA := fun σ H Q => ∃ b R G e, St C b R G σ H e ∧ Run C W σ e b R G H (ev e) fun b' R' G' H' ws => ∀ vs, Reps C G' vs ws → Q vs H'
theorem paM {X : Cx} {es : List Expr} {t t' : TA} (h : PA X es t) (m : ∀ σ H Q, t' σ H Q → t σ H Q) : PA X es t' :=
  ⟨fun pos pins s σ H Q I q => h.run pos pins s σ H Q I (m σ H Q q)⟩
theorem as_nil : PA X Es.nil.em (tAs C W (Es.nil.ev C.cl)) := paM pa_nil fun σ H Q ⟨b, R, G, e, S, h⟩ => Run.ret S h [] .nil
theorem as_cons {a : Ee} {es : Es} (h1 : PE X a.em (tX C W (a.ev C.cl))) (h2 : PA X es.em (tAs C W (es.ev C.cl))) : PA X (Es.cons a es).em (tAs C W ((Es.cons a es).ev C.cl)) := by
  refine paM (pa_cons h1 h2 (star_of a.head _ _)) fun σ H Q ⟨b, R, G, e, S, h⟩ => ?_
  have h : Run C W σ e b R G H ((dD (a.ev C.cl e)).bind fun d => (es.ev C.cl e).bind fun ds => .ret (d :: ds)) _ := h
  refine tX.of S h.bind.dD fun b1 R1 G1 H1 w v s1 S1 r1 ⟨x, ew, q⟩ => ?_
  subst ew
  refine ⟨b1, R1, G1, e, S1, q.bind.mono fun b2 R2 G2 H2 ds s2 S2 q2 vs r2 => ?_⟩
  exact Run.ret S2 q2 (v :: vs) (.cons (s2.g.dp r1) r2)
theorem ws_nil : PA X Es.nil.em (tWs C W (Es.nil.evW C.cl)) := paM pa_nil fun σ H Q ⟨b, R, G, e, S, h⟩ => Run.ret S h [] trivial
theorem ws_cons {a : Ee} {es : Es} (h1 : PE X a.em (tX C W (a.ev C.cl))) (h2 : PA X es.em (tWs C W (es.evW C.cl))) : PA X (Es.cons a es).em (tWs C W ((Es.cons a es).evW C.cl)) := by
  refine paM (pa_cons h1 h2 (star_of a.head _ _)) fun σ H Q ⟨b, R, G, e, S, h⟩ => ?_
  have h : Run C W σ e b R G H ((a.ev C.cl e).bind fun d => (es.evW C.cl e).bind fun ds => .ret (d :: ds)) _ := h
  refine tX.of S h.bind fun b1 R1 G1 H1 w v s1 S1 r1 q => ?_
  refine ⟨b1, R1, G1, e, S1, q.bind.mono fun b2 R2 G2 H2 ds s2 S2 q2 vs r2 => ?_⟩
  exact Run.ret S2 q2 (v :: vs) ⟨r1.sub s2.g, r2⟩

/-! ### displays -/
theorem lim_line {n : Nat} (h : n ≤ LIM) : n ≤ sizeLine := Nat.le_trans h (by decide)
theorem es_len (cl : Nat → List Wd → Comp FR) : ∀ (es : Es) (e : En), (es.ev cl e).All fun ds => ds.length = es.len
  | .nil, e => rfl
  | .cons a es, e => Comp.all_bind (Comp.all_true _) fun d _ => Comp.all_bind (es_len cl es e) fun ds h => congrArg (· + 1) h
theorem Run.all {α : Type} {σ : L2.St} {e : En} {b : Nat} {R : List Addr} {G H : Hp} {c : Comp α} {k : Nat → List Addr → Hp → Hp → α → Prop} {P : α → Prop} (h : Run C W σ e b R G H c k) (a : c.All P) : Run C W σ e b R G H c fun b' R' G' H' x => P x ∧ k b' R' G' H' x :=
  Comp.wp_mono (Comp.wp_all h a) (fun _ _ z R' G' H' s S => ⟨z.1, z.2 R' G' H' s S⟩) fun _ _ z => z
theorem e_tup {es : Es} {k : Nat} {p : Pos} (h1 : PA X es.em (tAs C W (es.ev C.cl))) (hl : es.len ≤ 1000) : PE X (Ee.tup es k p).em (tX C W ((Ee.tup es k p).ev C.cl)) := by
  refine peM (pe_tup h1) fun σ H Q ⟨b, R, G, e, S, h⟩ => ⟨b, R, G, e, S, ((Run.bind h).all (es_len C.cl es e)).mono fun b1 R1 G1 H1 ds s1 S1 ⟨hn, q⟩ vs r => ?_⟩
  refine ⟨?_, endT S1 q r⟩
  rw [dps_length r, hn]
  exact lim_line (by unfold LIM; omega)
/-- a list that is only now made, open still -/
abbrev KF (C : Ctx) (σ : L2.St) (e : En) (Q : VK) : Nat → List Addr → Hp → Hp → List PyData → Prop := fun b' R' G' H' ds => ∀ l H2, H' l = none → Stp R' G' H' R' G' H2 → St C b' R' G' σ H2 e → (∃ vs, H2 l = some (.lst vs) ∧ DqAll C.K G' vs ds) → Q (.ref l) H2
/-- an expression that makes a new list -/
def tF (C : Ctx) (W : WX) (ev : En → Comp (List PyData)) : TE := fun σ H Q => ∃ b R G e, St C b R G σ H e ∧ Run C W σ e b R G H (ev e) (KF C σ e Q)
/-- the new list is written down -/
theorem endF {b : Nat} {R : List Addr} {G H : Hp} {σ : L2.St} {e : En} {Q : VK} {ds : List PyData} {vs : List V} (S : St C b R G σ H e) (h : Run C W σ e b R G H (.ret ds) (KF C σ e Q)) (r : DqAll C.K G vs ds) : ∀ l, H l = none → Q (.ref l) (upd H l (.lst vs)) :=
  fun l n => Run.ret S h l _ n (Stp.open n) (S.opened n) ⟨vs, upd_same, r⟩
theorem f_lst {es : Es} {p : Pos} (h1 : PA X es.em (tAs C W (es.ev C.cl))) (hl : es.len ≤ 1000) : PE X (Ef.lst es p).em (tF C W ((Ef.lst es p).ev C.cl)) := by
  refine peM (pe_lst h1) fun σ H Q ⟨b, R, G, e, S, h⟩ => ⟨b, R, G, e, S, (Run.all h (es_len C.cl es e)).mono fun b1 R1 G1 H1 ds s1 S1 ⟨hn, q⟩ vs r => ⟨?_, fun l n => ?_⟩⟩
  · rw [dps_length r, hn]
    exact lim_line (by unfold LIM; omega)
  · exact q l _ n (Stp.open n) (S1.opened n) ⟨vs, upd_same, r⟩
/-- a new list that from its making on stays -/
theorem e_frz {f : Ef} (h1 : PE X f.em (tF C W (f.ev C.cl))) : PE X (Ee.frz f).em (tX C W ((Ee.frz f).ev C.cl)) := by
  refine peM h1 fun σ H Q ⟨b, R, G, e, S, h⟩ => ⟨b, R, G, e, S, (Run.bind h).mono fun b1 R1 G1 H1 ds s1 S1 q l H2 n s2 S2 ⟨vs, hv, r⟩ => ?_⟩
  have nr : l ∉ R1 := S1.bs.rnone n
  have B := S2.bs.freeze hv nr
  have st : Stp R1 G1 H1 R1 (upd G1 l (.lst vs)) H2 := ⟨fun a u q => by
    have ne : a ≠ l := ne_of_none (S1.bs.sub a u q) n
    rw [upd_ne ne]
    exact q, s2.k, s2.r, fun a u h _ z => by
    rw [upd_ne (ne_of_none h n)]
    exact z, s2.h⟩
  have S3 : St C b1 R1 (upd G1 l (.lst vs)) σ H2 e := S1.stp st B
  exact q R1 _ H2 st S3 (.ref l) (.lst (.inl upd_same) (st.g.dps r))
end
end TC

set_option Elab.async false
set_option linter.all false
set_option maxRecDepth 100000
set_option maxHeartbeats 2000000
namespace TC
open PySem L2 PySem.Spec
section
variable {C : Ctx} {W : WX} {X : Cx}

/-! ### operators -/
theorem opOr {f : Value → Value → Sem Value} {r r' : R2} (h : OpR X f r) (h' : OpR X f r') : OpR X f (fun x y H Q => r x y H Q ∨ r' x y H Q) :=
  fun pins s σ H x y v u Q I rx ry q => q.elim (h pins s σ H x y v u Q I rx ry) (h' pins s σ H x y v u Q I rx ry)
/-- the reading of a two-place operator, by its rule r -/
theorem bin_of (hX : XOk C W X) {o : BO} {r : R2} {a b : Ee} {p : Pos} (ho : OpR X (binaryOp o.op) r) (ha : PE X a.em (tX C W (a.ev C.cl))) (hb : PE X b.em (tX C W (b.ev C.cl)))
    (m : ∀ (n : Nat) R G H (σ : L2.St) e vx vy x y Q, St C n R G σ H e → Dq C.K G vx x → Dq C.K G vy y → Run C W σ e n R G H (retD (binE o x y)) (KW C Q) → r vx vy H Q) :
    PE X (Ee.bin o a b p).em (tX C W ((Ee.bin o a b p).ev C.cl)) :=
  peM (pe_op ho ha hb) fun σ H Q h => tX2 h fun n R G H2 e vx vy x y S rx ry q => m n R G H2 σ e vx vy x y Q S rx ry q
theorem okB_run {σ : L2.St} {e : En} {b : Nat} {R : List Addr} {G H : Hp} {c : Bool} {d : PyData} {Q : VK} (h : Run C W σ e b R G H (retD (okB c d)) (KW C Q)) : c = true ∧ Run C W σ e b R G H (retD (.ret d)) (KW C Q) := by
  cases c with
  | true => exact ⟨rfl, h⟩
  | false => exact h.elim
theorem dps_nil {K : PySem.W.Frag} {G : Hp} {vs : List V} (h : DqAll K G vs []) : vs = [] := by cases h; rfl
theorem dps_ne {K : PySem.W.Frag} {G : Hp} {vs : List V} {ds : List PyData} (h : DqAll K G vs ds) : vs = [] ↔ ds = [] := by
  have e := dps_length h
  constructor
  · rintro rfl
    exact List.eq_nil_of_length_eq_zero e.symm
  · rintro rfl
    exact List.eq_nil_of_length_eq_zero e
theorem e_add (hX : XOk C W X) {a b : Ee} {p : Pos} (ha : PE X a.em (tX C W (a.ev C.cl))) (hb : PE X b.em (tX C W (b.ev C.cl))) : PE X (Ee.bin .add a b p).em (tX C W ((Ee.bin .add a b p).ev C.cl)) := by
  refine bin_of hX (opOr op_add (opOr op_add_str op_catA)) ha hb fun n R G H σ e vx vy x y Q S rx ry q => ?_
  cases x <;> cases y <;> first | exact q.elim | skip
  · cases rx
    cases ry
    exact .inl ⟨_, _, rfl, rfl, endR S q (.int _)⟩
  · cases rx
    cases ry
    obtain ⟨c, q⟩ := okB_run q
    exact .inr (.inl ⟨_, _, rfl, rfl, lim_line (of_decide_eq_true c), endR S q (.str _)⟩)
  · obtain ⟨c, q⟩ := okB_run q
    have c := of_decide_eq_true c
    cases rx with
    | tup hx dx =>
      cases ry with
      | tup hy dy =>
        have hx2 := S.bs.sub.sqT hx
        have hy2 := S.bs.sub.sqT hy
        refine .inr (.inr ?_)
        rw [hX.m.hK]
        refine ⟨_, _, _, _, rfl, rfl, hx2, hy2, ?_, fun z => ?_, fun _ z => ?_, fun _ _ l hl => ?_⟩
        · rw [dps_length dx, dps_length dy]
          exact lim_line c
        · obtain rfl := (dps_ne dx).mp z
          exact endR S q (.tup hy dy)
        · obtain rfl := (dps_ne dy).mp z
          rw [List.append_nil] at q
          exact endR S q (.tup hx dx)
        · exact endT S q (dps_append dx dy) l hl
theorem e_sub (hX : XOk C W X) {a b : Ee} {p : Pos} (ha : PE X a.em (tX C W (a.ev C.cl))) (hb : PE X b.em (tX C W (b.ev C.cl))) : PE X (Ee.bin .sub a b p).em (tX C W ((Ee.bin .sub a b p).ev C.cl)) := by
  refine bin_of hX op_sub ha hb fun n R G H σ e vx vy x y Q S rx ry q => ?_
  cases x <;> cases y <;> first | exact q.elim | skip
  cases rx
  cases ry
  exact ⟨_, _, rfl, rfl, endR S q (.int _)⟩
theorem e_div (hX : XOk C W X) {a b : Ee} {p : Pos} (ha : PE X a.em (tX C W (a.ev C.cl))) (hb : PE X b.em (tX C W (b.ev C.cl))) : PE X (Ee.bin .div a b p).em (tX C W ((Ee.bin .div a b p).ev C.cl)) := by
  refine bin_of hX op_fdivW ha hb fun n R G H σ e vx vy x y Q S rx ry q => ?_
  cases x <;> cases y <;> first | exact q.elim | skip
  cases rx
  cases ry
  obtain ⟨c, q⟩ := okB_run q
  rw [Bool.and_eq_true] at c
  exact ⟨_, _, rfl, rfl, ⟨of_decide_eq_true c.1, of_decide_eq_true c.2⟩, endR S q (.int _)⟩
theorem e_mod (hX : XOk C W X) {a b : Ee} {p : Pos} (ha : PE X a.em (tX C W (a.ev C.cl))) (hb : PE X b.em (tX C W (b.ev C.cl))) : PE X (Ee.bin .mod a b p).em (tX C W ((Ee.bin .mod a b p).ev C.cl)) := by
  refine bin_of hX op_mod ha hb fun n R G H σ e vx vy x y Q S rx ry q => ?_
  cases x <;> cases y <;> first | exact q.elim | skip
  cases rx
  cases ry
  obtain ⟨c, q⟩ := okB_run q
  exact ⟨_, _, rfl, rfl, of_decide_eq_true c, endR S q (.int _)⟩
theorem e_pow (hX : XOk C W X) {a b : Ee} {p : Pos} (ha : PE X a.em (tX C W (a.ev C.cl))) (hb : PE X b.em (tX C W (b.ev C.cl))) : PE X (Ee.bin .pow a b p).em (tX C W ((Ee.bin .pow a b p).ev C.cl)) := by
  refine bin_of hX op_pow ha hb fun n R G H σ e vx vy x y Q S rx ry q => ?_
  cases x <;> cases y <;> first | exact q.elim | skip
  cases rx
  cases ry
  obtain ⟨c, q⟩ := okB_run q
  rw [Bool.and_eq_true, Bool.and_eq_true] at c
  have c1 := of_decide_eq_true c.1.1
  have c2 := of_decide_eq_true c.1.2
  have c3 := of_decide_eq_true c.2
  exact ⟨_, _, rfl, rfl, ⟨c1, by omega, Nat.lt_trans c3 (by decide)⟩, endR S q (.int _)⟩
end
end TC

set_option Elab.async false
set_option linter.all false
set_option maxRecDepth 100000
set_option maxHeartbeats 4000000
namespace TC
open PySem L2 PySem.Spec PyProof.Rows
/-- the same object: nothing in it, or once -/
theorem tup_mul1 (l : Addr) (items : Array Value) (n : Nat) (dd : Option Addr) (sl : Array (Option Value)) (x : Int) (u : Tok) (k0 : (decide (x < -(2 ^ 63)) || decide (x ≥ 2 ^ 63)) = false) (k1 : (items.isEmpty || x == 1) = true) :
    Meets (Builtin.«tuple.__mul__» ⟨[.ref l, .int x u], []⟩) (fun _ R s => s.heap.get? l = some { cls := .type "tuple", dict := dd, data := .seq items n, slots := sl } ∧ R (.ok (.ret (.ref l))) s) :=
  .of_wp fun prog w A R s h => by
    obtain ⟨hp, g, d, tk, os⟩ := s
    obtain ⟨hl, h⟩ := h
    have f1 := AutoSeq1.idx_int
    wp_walk using wpAny_loadPart' hl
    repeat (first
      | (refine wpAny_ite_false (decide_eq_false (by rw [k0]; exact Bool.false_ne_true)) ?_; wp_walk using wpAny_loadPart' hl)
      | (refine wpAny_ite_true (decide_eq_true k1) ?_; wp_walk using wpAny_loadPart' hl))
    exact ⟨_, rfl, h⟩
/-- no times -/
theorem tup_mul0 (l : Addr) (items : Array Value) (n : Nat) (dd : Option Addr) (sl : Array (Option Value)) (x : Int) (u : Tok) (k0 : (decide (x < -(2 ^ 63)) || decide (x ≥ 2 ^ 63)) = false) (k1 : (items.isEmpty || x == 1) = false) (k2 : (decide (x ≤ 0) || items.isEmpty) = true) :
    Meets (Builtin.«tuple.__mul__» ⟨[.ref l, .int x u], []⟩) (fun _ R s => s.heap.get? l = some { cls := .type "tuple", dict := dd, data := .seq items n, slots := sl } ∧
      R (.ok (.ret (Value.ref s.heap.objs.size))) { s with heap := s.heap.push { cls := Value.type "tuple", data := Data.seq #[] }, toks := s.toks }) :=
  .of_wp fun prog w A R s h => by
    obtain ⟨hp, g, d, tk, os⟩ := s
    obtain ⟨hl, h⟩ := h
    have f1 := AutoSeq1.idx_int
    wp_walk using wpAny_loadPart' hl
    repeat (first
      | (refine wpAny_ite_false (decide_eq_false (by rw [k0]; exact Bool.false_ne_true)) ?_; wp_walk using wpAny_loadPart' hl)
      | (refine wpAny_ite_false (decide_eq_false (by rw [k1]; exact Bool.false_ne_true)) ?_; wp_walk using wpAny_loadPart' hl)
      | (refine wpAny_ite_true (decide_eq_true k2) ?_; wp_walk using wpAny_loadPart' hl))
    exact ⟨_, rfl, h⟩
section
variable {X : Cx}
theorem op_rep01 : OpR X (binaryOp .Mult) (fun x y H Q => ∃ l k xs, x = .ref l ∧ y = .int k ∧ SqT X.K H l xs ∧ 0 ≤ k ∧ k < 2 ^ 63 ∧ (((xs = [] ∨ k = 1) ∧ Q (.ref l) H) ∨ (xs ≠ [] ∧ k = 0 ∧ ∀ p, H p = none → Q (.ref p) (upd H p (.tup []))))) := by
  intro pins s σ H x y v u Q I rx ry h
  obtain ⟨l, k, xs, rfl, rfl, hT, h0, h1, q⟩ := h
  cases rx
  obtain ⟨t, rfl⟩ := ry
  obtain ⟨us, rv, ⟨⟨cls, dd, data, sl⟩, ho, hc, n, hd⟩, _⟩ := I.tuple hT
  simp only at hc hd
  subst hc hd
  have hl := rv.length
  have k0 : (decide (k < -(2 ^ 63)) || decide (k ≥ 2 ^ 63)) = false := by
    rw [decide_eq_false (by omega), decide_eq_false (by omega)]
    rfl
  rcases q with ⟨hk, q⟩ | ⟨hne, hk, q⟩
  · have k1 : (us.toArray.isEmpty || k == 1) = true := by
      rcases hk with hk | hk
      · rw [hk] at hl
        rw [List.eq_nil_of_length_eq_zero hl.symm]
        rfl
      · rw [hk, Bool.or_eq_true]
        exact .inr rfl
    exact wpAny_binaryOp_repeat_ref (T := "tuple") (U := "int") (by decide) ⟨_, ho, rfl⟩ (fun s' => typeIs_int s' k t) noFill_tuple_mul F.fills_int_mul F.slot_int_rmul repeat_tuple F.slot_int_index.lookup
      (call_meets F.slot_int_rmul (typeIs_int s k t) F.entry_int_rmul (F.args_int_rmul_2 _ _) (int_rmul_tuple k t l us.toArray n dd sl)
        ⟨ho, rfl, ⟨_, ho, rfl⟩, call_meets F.slot_tuple_mul ⟨_, ho, rfl⟩ F.entry_tuple_mul (F.args_tuple_mul_2 _ _) (tup_mul1 l us.toArray n dd sl k t k0 k1) ⟨ho, ⟨.ref l, H, I, rfl, q⟩⟩⟩)
  · have e1 : us.toArray.isEmpty = false := by
      cases us with
      | nil => exact absurd (List.eq_nil_of_length_eq_zero hl) hne
      | cons a b => rfl
    subst hk
    have k1 : (us.toArray.isEmpty || (0 : Int) == 1) = false := by rw [e1]; rfl
    have k2 : (decide ((0 : Int) ≤ 0) || us.toArray.isEmpty) = true := rfl
    exact wpAny_binaryOp_repeat_ref (T := "tuple") (U := "int") (by decide) ⟨_, ho, rfl⟩ (fun s' => typeIs_int s' 0 t) noFill_tuple_mul F.fills_int_mul F.slot_int_rmul repeat_tuple F.slot_int_index.lookup
      (call_meets F.slot_int_rmul (typeIs_int s 0 t) F.entry_int_rmul (F.args_int_rmul_2 _ _) (int_rmul_tuple 0 t l us.toArray n dd sl)
        ⟨ho, rfl, ⟨_, ho, rfl⟩, call_meets F.slot_tuple_mul ⟨_, ho, rfl⟩ F.entry_tuple_mul (F.args_tuple_mul_2 _ _) (tup_mul0 l us.toArray n dd sl 0 t k0 k1 k2) ⟨ho,
          ⟨.ref s.heap.objs.size, _, I.laid (t' := s.toks) (o := .tup []) (fun b ob z => Heap.get?_push_of_some _ z) (Nat.le_refl _) ⟨Nat.zero_le _, [], .nil, IsTup.new _ _⟩, rfl, q _ (I.hok.fresh (Nat.le_refl _))⟩⟩⟩)
end
end TC

set_option Elab.async false
set_option linter.all false
set_option maxRecDepth 100000
set_option maxHeartbeats 2000000
namespace TC
open PySem L2 PySem.Spec
section
variable {C : Ctx} {W : WX} {X : Cx}
theorem line_num : sizeLine = 16777216 := by decide
theorem fold_len (z : Array Nat) : ∀ (n : Nat) (acc : Array Nat), ((List.replicate n z).foldl (· ++ ·) acc).size = acc.size + n * z.size
  | 0, acc => by simp
  | n + 1, acc => by
    rw [List.replicate_succ, List.foldl_cons, fold_len z n, Array.size_append, Nat.succ_mul]
    omega
theorem op_mul_str : OpR X (binaryOp .Mult) (fun x y H Q => ∃ z k, x = .str z ∧ y = .int k ∧ 0 ≤ k ∧ k ≤ 1000 ∧ z.length ≤ 100 ∧ Q (.str (if k < 1 then Str.empty else if (k == 1 || z.length == 0) = true then z else ⟨(List.replicate k.toNat z.cps).foldl (· ++ ·) #[]⟩)) H) := by
  intro pins s σ H x y v u Q I rx ry h
  obtain ⟨z, k, rfl, rfl, h0, h1, hz, q⟩ := h
  obtain ⟨t, rfl⟩ := rx
  obtain ⟨t', rfl⟩ := ry
  have hm : (z.length : Int) * k ≤ 100000 := by
    have a1 : (z.length : Int) * k ≤ 100 * k := Int.mul_le_mul_of_nonneg_right (by omega) h0
    omega
  have hmn : z.length * k.toNat ≤ 100000 := by
    have a1 : z.length * k.toNat ≤ 100 * 1000 := Nat.mul_le_mul hz (by omega)
    omega
  refine P.mul_str (by
    have e1 : ¬ k < -(2 ^ 63 : Int) := by omega
    have e2 : ¬ k ≥ 2 ^ 63 := by omega
    rw [decide_eq_false e1, decide_eq_false e2]
    rfl) (fun e1 _ => ?_) (fun _ _ => ?_) ?_
  · have e3 : (z.length : Int) ≤ (2 ^ 63 - 1) / k := by
      rw [Int.le_ediv_iff_mul_le (by omega)]
      omega
    omega
  · show decide _ = false
    have e9 := line_num
    exact decide_eq_false (by omega)
  · by_cases c1 : k < 1
    · rw [if_pos c1] at q ⊢
      exact ⟨by decide, V.str _, H, I.tok _, ⟨_, rfl⟩, q⟩
    · rw [if_neg c1] at q ⊢
      by_cases c2 : (k == 1 || z.length == 0) = true
      · rw [if_pos c2] at q ⊢
        exact ⟨V.str _, H, I, ⟨_, rfl⟩, q⟩
      · rw [if_neg c2] at q ⊢
        refine ⟨?_, V.str _, H, I.tok _, ⟨_, rfl⟩, q⟩
        show ((List.replicate k.toNat z.cps).foldl (· ++ ·) #[]).size ≤ sizeLine
        rw [fold_len, line_num]
        have e : z.cps.size = z.length := rfl
        rw [e]
        have e2 : k.toNat * z.length = z.length * k.toNat := Nat.mul_comm _ _
        have e3 : (#[] : Array Nat).size = 0 := rfl
        omega
theorem e_mul (hX : XOk C W X) {a b : Ee} {p : Pos} (ha : PE X a.em (tX C W (a.ev C.cl))) (hb : PE X b.em (tX C W (b.ev C.cl))) : PE X (Ee.bin .mul a b p).em (tX C W ((Ee.bin .mul a b p).ev C.cl)) := by
  refine bin_of hX (opOr op_mul (opOr op_mul_str (opOr op_repT op_rep01))) ha hb fun n R G H σ e vx vy x y Q S rx ry q => ?_
  cases x <;> cases y <;> first | exact q.elim | skip
  · cases rx
    cases ry
    obtain ⟨c, q⟩ := okB_run q
    rw [Bool.or_eq_true] at c
    unfold smallI at c
    rw [Bool.and_eq_true, Bool.and_eq_true, decide_eq_true_eq, decide_eq_true_eq, decide_eq_true_eq, decide_eq_true_eq] at c
    exact .inl ⟨_, _, rfl, rfl, (by unfold CMul; omega), endR S q (.int _)⟩
  · cases rx
    cases ry
    obtain ⟨c, q⟩ := okB_run q
    rw [Bool.and_eq_true, Bool.and_eq_true, decide_eq_true_eq, decide_eq_true_eq, decide_eq_true_eq] at c
    exact .inr (.inl ⟨_, _, rfl, rfl, c.1.1, c.1.2, c.2, endR S q (.str _)⟩)
  · rename_i xs k
    obtain ⟨c, q⟩ := okB_run q
    rw [Bool.and_eq_true, Bool.and_eq_true, decide_eq_true_eq, decide_eq_true_eq, decide_eq_true_eq] at c
    cases ry
    cases rx with
    | tup hx dx =>
      refine .inr (.inr ?_)
      rw [hX.m.hK]
      by_cases c1 : xs = []
      · subst c1
        refine .inr ⟨_, _, _, rfl, rfl, S.bs.sub.sqT hx, c.1.1, by omega, .inl ⟨.inl (dps_nil dx), ?_⟩⟩
        have e : (List.replicate k.toNat ([] : List PyData)).flatten = [] := by
          generalize k.toNat = n
          induction n with
          | zero => rfl
          | succ n ih => rw [List.replicate_succ, List.flatten_cons, ih]; rfl
        rw [e] at q
        exact endR S q (.tup hx dx)
      · have n1 := fun z => c1 ((dps_ne dx).mp z)
        by_cases c2 : k = 1
        · subst c2
          refine .inr ⟨_, _, _, rfl, rfl, S.bs.sub.sqT hx, by decide, by decide, .inl ⟨.inr rfl, ?_⟩⟩
          have e : (List.replicate (1 : Int).toNat xs).flatten = xs := by simp
          rw [e] at q
          exact endR S q (.tup hx dx)
        · by_cases c3 : k = 0
          · subst c3
            refine .inr ⟨_, _, _, rfl, rfl, S.bs.sub.sqT hx, by decide, by decide, .inr ⟨n1, rfl, fun l hl => endT S q .nil l hl⟩⟩
          · refine .inl ⟨_, _, _, rfl, rfl, S.bs.sub.sqT hx, n1, by omega, c.1.2, ?_, fun l hl => endT S q (dps_rep dx _) l hl⟩
            rw [dps_length dx]
            omega
theorem e_neg {a : Ee} {p : Pos} (ha : PE X a.em (tX C W (a.ev C.cl))) : PE X (Ee.neg a p).em (tX C W ((Ee.neg a p).ev C.cl)) :=
  peM (pe_un un_neg ha) fun σ H Q h => tX1 h fun n R G H2 e vx x S rx q => by
    cases x <;> first | exact q.elim | skip
    cases rx
    exact ⟨_, rfl, endR S q (.int _)⟩

/-! ### tests -/
def tT (C : Ctx) (W : WX) (ev : En → Comp Wd) : TT := fun σ H Q => ∃ b R G e, St C b R G σ H e ∧ Run C W σ e b R G H (ev e) fun _ _ _ H' w => ∃ t, w = .d (.bool t) ∧ Q t H'
def plainTB : Expr → Bool
  | .UnaryOp .Not _ _ => false
  | .BoolOp .. => false
  | .IfExp .. => false
  | .Compare .. => false
  | _ => true
theorem plain_of {e : Expr} (h : plainTB e = true) (env : Env) (whole : Sem Value) : isTrue e env whole = (do let v ← whole; standAt e.pos; holding [v] (truthy v)) := by
  cases e <;> first | rfl | (rename_i op _ _; cases op <;> first | rfl | cases h) | cases h
theorem t_val {e : Expr} {ev : En → Comp Wd} (h : PE X e (tX C W ev)) (hp : plainTB e = true) : PT X e (tT C W ev) :=
  ptM (pt_val h fun whole => plain_of hp _ _) fun σ H Q ⟨b, R, G, en, S, h⟩ => tX.of S h fun b1 R1 G1 H1 w v s1 S1 r1 ⟨t, ew, q⟩ => by
    subst ew
    cases r1
    exact ⟨t, rfl, q⟩
theorem t_not {a : Ee} {p : Pos} (h : PT X a.em (tT C W (a.ev C.cl))) : PT X (Ee.nt a p).em (tT C W ((Ee.nt a p).ev C.cl)) :=
  ptM (pt_not h) fun σ H Q ⟨b, R, G, en, S, h⟩ => ⟨b, R, G, en, S, (Run.bind h).dB.mono fun b1 R1 G1 H1 w s1 S1 ⟨t, ew, q⟩ => ⟨t, ew, by
    obtain ⟨t2, e, q⟩ := Run.ret S1 q
    injection e with e
    injection e with e
    subst e
    exact q⟩⟩
theorem e_not {a : Ee} {p : Pos} (h : PE X a.em (tX C W (a.ev C.cl))) : PE X (Ee.nt a p).em (tX C W ((Ee.nt a p).ev C.cl)) :=
  peM (pe_not h) fun σ H Q ⟨b, R, G, en, S, h⟩ => tX.of S (Run.bind h).dB fun b1 R1 G1 H1 w v s1 S1 r1 ⟨t, ew, q⟩ => by
    subst ew
    cases r1
    exact ⟨t, rfl, endD S1 q (.bl _)⟩
end
end TC

set_option Elab.async false
set_option linter.all false
set_option maxRecDepth 100000
set_option maxHeartbeats 2000000
namespace TC
open PySem L2 PySem.Spec
section
variable {C : Ctx} {W : WX} {X : Cx} {σ : L2.St} {e : En} {b : Nat} {R : List Addr} {G H : Hp}

/-! ### operands that are only looked at -/
/-- how a looked-at value stands: it stays, or it is what an open slot holds -/
def RepB (C : Ctx) (σ : L2.St) (e : En) (G : Hp) (v : V) (d : PyData) : Prop :=
  Dq C.K G v d ∨ ∃ (i : Nat) (ds : List PyData) (l : Addr), e[i]? = some (.ow ds) ∧ d = .list ds ∧ σ[i]? = some (some (.ref l)) ∧ v = .ref l
theorem RepB.sub {G' : Hp} {v : V} {d : PyData} (h : RepB C σ e G v d) (s : Sub G G') : RepB C σ e G' v d := h.imp s.dp id
theorem RepB.own {v : V} {d : PyData} (h : RepB C σ e G v d) (S : St C b R G σ H e) : Dq C.K G v d ∨ ∃ l ds, v = .ref l ∧ d = .list ds ∧ Own C R G H l ds := by
  rcases h with h | ⟨i, ds, l, h1, rfl, h2, rfl⟩
  · exact .inl h
  · obtain ⟨l', q1, q2⟩ := S.sl i _ h1
    rw [h2] at q1
    injection q1 with q1
    injection q1 with q1
    injection q1 with q1
    subst q1
    exact .inr ⟨l, ds, rfl, rfl, q2⟩
theorem RepB.dp {v : V} {d : PyData} (h : RepB C σ e G v d) (S : St C b R G σ H e) : Dp C.K H v d := by
  rcases h.own S with h | ⟨l, ds, rfl, rfl, o⟩
  · exact (S.bs.sub.dp h).dp
  · obtain ⟨vs, q, r⟩ := o.at_
    exact .lst (.inl (.inl q)) (S.bs.sub.dps r).dp
theorem RepB.lst {v : V} {ds : List PyData} (h : RepB C σ e G v (.list ds)) (S : St C b R G σ H e) : ∃ a vs, v = .ref a ∧ Rd H a (.lst vs) ∧ DqAll C.K G vs ds := by
  rcases h.own S with h | ⟨l, ds, rfl, q, o⟩
  · cases h with
    | lst q r => exact ⟨_, _, rfl, S.bs.sub.rd q, r⟩
  · injection q with q
    subst q
    obtain ⟨vs, q, r⟩ := o.at_
    exact ⟨l, vs, rfl, .inl q, r⟩
/-- a list that is no object of the top: written or tracked as a list -/
theorem RepB.stay {v : V} {d : PyData} (h : RepB C σ e G v d) (n : ∀ ds, d ≠ .list ds) : Dq C.K G v d := by
  rcases h with h | ⟨i, ds, l, h1, rfl, h2, rfl⟩
  · exact h
  · exact absurd rfl (n ds)
abbrev KB (C : Ctx) (σ : L2.St) (e : En) (Q : VK) : Nat → List Addr → Hp → Hp → PyData → Prop := fun _ _ G' H' d => ∀ v, RepB C σ e G' v d → Q v H'
/-- an operand -/
def tB (C : Ctx) (W : WX) (ev : En → CP) : TE := fun σ H Q => ∃ b R G e, St C b R G σ H e ∧ Run C W σ e b R G H (ev e) (KB C σ e Q)
theorem b_ex {a : Ee} (h : PE X a.em (tX C W (a.ev C.cl))) : PE X (Eb.ex a).em (tB C W ((Eb.ex a).ev C.cl)) :=
  peM h fun σ H Q ⟨b, R, G, e, S, h⟩ => tX.of S (Run.dD h) fun b1 R1 G1 H1 w v s1 S1 r1 ⟨x, ew, q⟩ => by
    subst ew
    exact q v (.inl r1)
theorem b_ov (hX : XOk C W X) {i : Nat} {x : Str} {p : Pos} (hN : X.N[i]? = some x) (hv : visB X.env.scope x = true) : PE X (Eb.ov i x p).em (tB C W ((Eb.ov i x p).ev C.cl)) := by
  have n := plainNm_of (nm_vis hv)
  refine peM (pe_var hN (vis_of hv) n.1 n.2.1) fun σ H Q ⟨b, R, G, e, S, h⟩ => ?_
  have h : Run C W σ e b R G H (match e[i]? with
    | some (.ow ds) => .ret (.list ds)
    | _ => .stuck) (KB C σ e Q) := h
  split at h
  · rename_i ds ew
    obtain ⟨l, e1, o⟩ := S.sl i _ ew
    exact ⟨.ref l, e1, Run.ret S h (.ref l) (.inr ⟨i, ds, l, ew, rfl, e1, rfl⟩)⟩
  · exact h.stuck
theorem tB.of {ev : En → CP} {Q : VK} (S : St C b R G σ H e) {k : Nat → List Addr → Hp → Hp → PyData → Prop} (h : Run C W σ e b R G H (ev e) k)
    (m : ∀ b' R' G' H' d v, Stp R G H R' G' H' → St C b' R' G' σ H' e → RepB C σ e G' v d → k b' R' G' H' d → Q v H') : tB C W ev σ H Q :=
  ⟨b, R, G, e, S, h.mono fun b' R' G' H' d s S' q v r => m b' R' G' H' d v s S' r q⟩

/-! ### comparisons -/
theorem room64 {k : Nat} {A : Around} (r : Room k A) : A.units + 65 < cLine := by have := r.un; omega
/-- == | != of data -/
theorem op_inT (hu : X.A.units + 65 < cLine) : OpR X (compareOp .In) (fun x y H Q => ∃ d ds, Dp X.K H x d ∧ Dp X.K H y (.tuple ds) ∧ SeqAt.shaped d = true ∧ SeqAt.shaped (.tuple ds) = true ∧ Q (.bl (ds.any fun z => PyData.eqv z d)) H) := by
  intro pins s σ H x y v u Q I rx ry h
  obtain ⟨d, ds, hd, he, sd, se, q⟩ := h
  obtain ⟨as, r1⟩ := Dp.reads I d x v hd rx
  obtain ⟨bs, r2⟩ := Dp.reads I _ y u he ry
  have q1 := SeqAt.canLay_of_shaped sd
  have q2 := SeqAt.canLay_of_shaped se
  have q3 := SeqAt.depth_of_shaped sd
  exact PySem.SeqAt.in_tuple_reads r2 r1 q2 q1 (by have := Nat.min_le_right (PyData.depthAll ds) d.depth; omega) ⟨.bl _, H, I, rfl, q⟩
theorem op_notInT (hu : X.A.units + 65 < cLine) : OpR X (compareOp .NotIn) (fun x y H Q => ∃ d ds, Dp X.K H x d ∧ Dp X.K H y (.tuple ds) ∧ SeqAt.shaped d = true ∧ SeqAt.shaped (.tuple ds) = true ∧ Q (.bl (!ds.any fun z => PyData.eqv z d)) H) := by
  intro pins s σ H x y v u Q I rx ry h
  obtain ⟨d, ds, hd, he, sd, se, q⟩ := h
  obtain ⟨as, r1⟩ := Dp.reads I d x v hd rx
  obtain ⟨bs, r2⟩ := Dp.reads I _ y u he ry
  have q1 := SeqAt.canLay_of_shaped sd
  have q2 := SeqAt.canLay_of_shaped se
  have q3 := SeqAt.depth_of_shaped sd
  exact PySem.SeqAt.notIn_tuple_reads r2 r1 q2 q1 (by have := Nat.min_le_right (PyData.depthAll ds) d.depth; omega) ⟨.bl _, H, I, rfl, q⟩
inductive EqIs : PyData → PyData → Bool → Prop where
  | int (i j : Int) : EqIs (.int i) (.int j) (decide (i = j))
  | str (i j : Str) : EqIs (.str i) (.str j) (decide (i = j))
  | bool (i j : Bool) : EqIs (.bool i) (.bool j) (decide (i = j))
  | any (d d2 : PyData) (h1 : SeqAt.shaped d = true) (h2 : SeqAt.shaped d2 = true) : EqIs d d2 (PyData.eqv d d2)
theorem eqE_ret {d d2 : PyData} {z : Bool} (h : eqE d d2 = .ret z) : EqIs d d2 z := by
  unfold eqE at h
  split at h
  · injection h with h
    rw [← h]
    exact .int _ _
  · injection h with h
    rw [← h]
    exact .str _ _
  · injection h with h
    rw [← h]
    exact .bool _ _
  · split at h
    · rename_i c
      rw [Bool.and_eq_true] at c
      injection h with h
      rw [← h]
      exact .any _ _ c.1 c.2
    · cases h
theorem RepB.int {v : V} {i : Int} (h : RepB C σ e G v (.int i)) : v = .int i := by
  cases h.stay fun _ z => nomatch z
  rfl
theorem RepB.str {v : V} {i : Str} (h : RepB C σ e G v (.str i)) : v = .str i := by
  cases h.stay fun _ z => nomatch z
  rfl
theorem RepB.bl {v : V} {i : Bool} (h : RepB C σ e G v (.bool i)) : v = .bl i := by
  cases h.stay fun _ z => nomatch z
  rfl
theorem dec_int (i j : Int) : decide (V.int i = V.int j) = decide (i = j) := by simp
theorem dec_str (i j : Str) : decide (V.str i = V.str j) = decide (i = j) := by simp
theorem dec_bl (i j : Bool) : decide (V.bl i = V.bl j) = decide (i = j) := by simp
/-- the rule of a comparison, over data -/
def rC (C : Ctx) (o : CO) : R2 := fun x y H Q => ∃ b R G σ e d d2 z, St C b R G σ H e ∧ RepB C σ e G x d ∧ RepB C σ e G y d2 ∧ cmpE o d d2 = .ret z ∧ Q (.bl z) H
theorem opM {f : Value → Value → Sem Value} {r r' : R2} (h : OpR X f r) (m : ∀ x y H Q, r' x y H Q → r x y H Q) : OpR X f r' :=
  fun pins s σ H x y v u Q I rx ry q => h pins s σ H x y v u Q I rx ry (m x y H Q q)
theorem c_eq (hX : XOk C W X) : OpR X (compareOp .Eq) (rC C .eq) :=
  opM (opOr op_eq (op_eqD hX.room.units)) fun x y H Q ⟨b, R, G, σ, e, d, d2, z, S, r1, r2, h, q⟩ => by
    cases eqE_ret h with
    | int i j =>
      obtain rfl := r1.int
      obtain rfl := r2.int
      exact .inl ⟨rfl, by rw [dec_int]; exact q⟩
    | str i j =>
      obtain rfl := r1.str
      obtain rfl := r2.str
      exact .inl ⟨rfl, by rw [dec_str]; exact q⟩
    | bool i j =>
      obtain rfl := r1.bl
      obtain rfl := r2.bl
      exact .inl ⟨rfl, by rw [dec_bl]; exact q⟩
    | any d d2 h1 h2 =>
      refine .inr ?_
      rw [hX.m.hK]
      exact ⟨d, d2, r1.dp S, r2.dp S, h1, h2, q⟩
theorem neg_ret {c : Comp Bool} {z : Bool} (h : (c.bind fun b => .ret (!b)) = .ret z) : c = .ret (!z) := by
  cases c with
  | ret b =>
    have h : Comp.ret (!b) = Comp.ret z := h
    injection h with h
    rw [← h, Bool.not_not]
  | raise x => cases h
  | draw n k => cases h
  | stuck => cases h
theorem c_ne (hX : XOk C W X) : OpR X (compareOp .NotEq) (rC C .ne) :=
  opM (opOr op_ne (op_neD hX.room.units)) fun x y H Q ⟨b, R, G, σ, e, d, d2, z, S, r1, r2, h, q0⟩ => by
    have q : Q (.bl (!(!z))) H := by rw [Bool.not_not]; exact q0
    generalize hz : (!z) = z2 at q
    have h := neg_ret h
    rw [hz] at h
    cases eqE_ret h with
    | int i j =>
      obtain rfl := r1.int
      obtain rfl := r2.int
      exact .inl ⟨rfl, by rw [dec_int]; exact q⟩
    | str i j =>
      obtain rfl := r1.str
      obtain rfl := r2.str
      exact .inl ⟨rfl, by rw [dec_str]; exact q⟩
    | bool i j =>
      obtain rfl := r1.bl
      obtain rfl := r2.bl
      exact .inl ⟨rfl, by rw [dec_bl]; exact q⟩
    | any d d2 h1 h2 =>
      refine .inr ?_
      rw [hX.m.hK]
      exact ⟨d, d2, r1.dp S, r2.dp S, h1, h2, q⟩
theorem c_lt : OpR X (compareOp .Lt) (rC C .lt) :=
  opM (opOr op_lt op_lt_str) fun x y H Q ⟨b, R, G, σ, e, d, d2, z, S, r1, r2, h, q⟩ => by
    cases d <;> cases d2 <;> first | cases h | skip
    · exact .inl ⟨_, _, r1.int, r2.int, q⟩
    · exact .inr ⟨_, _, r1.str, r2.str, q⟩
theorem c_le : OpR X (compareOp .LtE) (rC C .le) :=
  opM op_le fun x y H Q ⟨b, R, G, σ, e, d, d2, z, S, r1, r2, h, q⟩ => by
    cases d <;> cases d2 <;> first | cases h | skip
    exact ⟨_, _, r1.int, r2.int, q⟩
theorem c_gt : OpR X (compareOp .Gt) (rC C .gt) :=
  opM op_gt fun x y H Q ⟨b, R, G, σ, e, d, d2, z, S, r1, r2, h, q⟩ => by
    cases d <;> cases d2 <;> first | cases h | skip
    exact ⟨_, _, r1.int, r2.int, q⟩
theorem c_ge : OpR X (compareOp .GtE) (rC C .ge) :=
  opM op_ge fun x y H Q ⟨b, R, G, σ, e, d, d2, z, S, r1, r2, h, q⟩ => by
    cases d <;> cases d2 <;> first | cases h | skip
    exact ⟨_, _, r1.int, r2.int, q⟩
/-- what «in» says, by the right operand's kind -/
inductive InIs : PyData → PyData → Bool → Prop where
  | sign (c : Nat) (z : Str) : InIs (.str ⟨#[c]⟩) (.str z) (decide (c ∈ z.cps.toList))
  | str (x z : Str) : InIs (.str x) (.str z) (!(Builtin.Str.occurrences z x 0 z.length 1).isEmpty)
  | list (d : PyData) (ds : List PyData) (h1 : SeqAt.shaped d = true) (h2 : SeqAt.shaped (.list ds) = true) : InIs d (.list ds) (ds.any fun z => PyData.eqv z d)
  | tuple (d : PyData) (ds : List PyData) (h1 : SeqAt.shaped d = true) (h2 : SeqAt.shaped (.tuple ds) = true) : InIs d (.tuple ds) (ds.any fun z => PyData.eqv z d)
theorem inE_ret {d d2 : PyData} {z : Bool} (h : inE d d2 = .ret z) : InIs d d2 z := by
  unfold inE at h
  split at h
  · rename_i x w
    split at h
    · rename_i c ec
      injection h with h
      subst h
      have e : x = #[c] := by
        rw [← Array.toArray_toList (xs := x), ec]
      subst e
      exact .sign c w
    · injection h with h
      subst h
      exact .str _ _
  · split at h
    · rename_i c
      rw [Bool.and_eq_true] at c
      injection h with h
      subst h
      exact .list _ _ c.1 c.2
    · cases h
  · split at h
    · rename_i c
      rw [Bool.and_eq_true] at c
      injection h with h
      subst h
      exact .tuple _ _ c.1 c.2
    · cases h
  · cases h
theorem c_in (hX : XOk C W X) : OpR X (compareOp .In) (rC C .inn) :=
  opM (opOr op_in_sign (opOr op_in_str (opOr (op_inD (room64 hX.room)) (op_inT (room64 hX.room))))) fun x y H Q ⟨b, R, G, σ, e, d, d2, z, S, r1, r2, h, q⟩ => by
    cases inE_ret h with
    | sign c w => exact .inl ⟨_, _, r1.str, r2.str, q⟩
    | str c w => exact .inr (.inl ⟨_, _, r1.str, r2.str, q⟩)
    | list d ds h1 h2 =>
      refine .inr (.inr (.inl ?_))
      rw [hX.m.hK]
      exact ⟨_, _, r1.dp S, r2.dp S, h1, h2, q⟩
    | tuple d ds h1 h2 =>
      refine .inr (.inr (.inr ?_))
      rw [hX.m.hK]
      exact ⟨_, _, r1.dp S, r2.dp S, h1, h2, q⟩
theorem c_nin (hX : XOk C W X) : OpR X (compareOp .NotIn) (rC C .nin) :=
  opM (opOr op_notIn_sign (opOr op_notin_str (opOr (op_notInD (room64 hX.room)) (op_notInT (room64 hX.room))))) fun x y H Q ⟨b, R, G, σ, e, d, d2, z, S, r1, r2, h, q⟩ => by
    have q : Q (.bl (!(!z))) H := by rw [Bool.not_not]; exact q
    generalize hz : (!z) = z2 at q
    have h := neg_ret h
    rw [hz] at h
    cases inE_ret h with
    | sign c w => exact .inl ⟨_, _, r1.str, r2.str, q⟩
    | str c w => exact .inr (.inl ⟨_, _, r1.str, r2.str, q⟩)
    | list d ds h1 h2 =>
      refine .inr (.inr (.inl ?_))
      rw [hX.m.hK]
      exact ⟨_, _, r1.dp S, r2.dp S, h1, h2, q⟩
    | tuple d ds h1 h2 =>
      refine .inr (.inr (.inr ?_))
      rw [hX.m.hK]
      exact ⟨_, _, r1.dp S, r2.dp S, h1, h2, q⟩
theorem c_any (hX : XOk C W X) : ∀ o : CO, OpR X (compareOp o.op) (rC C o)
  | .eq => c_eq hX
  | .ne => c_ne hX
  | .lt => c_lt
  | .le => c_le
  | .gt => c_gt
  | .ge => c_ge
  | .inn => c_in hX
  | .nin => c_nin hX
/-- a comparison of data neither draws nor raises -/
theorem cmp_form (o : CO) (d d2 : PyData) : (∃ z, cmpE o d d2 = .ret z) ∨ cmpE o d d2 = .stuck := by
  have e1 : (∃ z, eqE d d2 = .ret z) ∨ eqE d d2 = .stuck := by
    unfold eqE
    split <;> first | exact .inl ⟨_, rfl⟩ | (split <;> first | exact .inl ⟨_, rfl⟩ | exact .inr rfl)
  have e2 : (∃ z, inE d d2 = .ret z) ∨ inE d d2 = .stuck := by
    unfold inE
    split <;> first | exact .inr rfl | (split <;> first | exact .inl ⟨_, rfl⟩ | exact .inr rfl)
  have ng : ∀ c : Comp Bool, ((∃ z, c = .ret z) ∨ c = .stuck) → (∃ z, (c.bind fun b => .ret (!b)) = .ret z) ∨ (c.bind fun b => .ret (!b)) = .stuck := fun c h => by
    rcases h with ⟨z, rfl⟩ | rfl
    · exact .inl ⟨_, rfl⟩
    · exact .inr rfl
  cases o with
  | eq => exact e1
  | ne => exact ng _ e1
  | inn => exact e2
  | nin => exact ng _ e2
  | lt => cases d <;> cases d2 <;> first | exact .inl ⟨_, rfl⟩ | exact .inr rfl
  | le => cases d <;> cases d2 <;> first | exact .inl ⟨_, rfl⟩ | exact .inr rfl
  | gt => cases d <;> cases d2 <;> first | exact .inl ⟨_, rfl⟩ | exact .inr rfl
  | ge => cases d <;> cases d2 <;> first | exact .inl ⟨_, rfl⟩ | exact .inr rfl
theorem cmp_run {o : CO} {d d2 : PyData} {α : Type} {f : Bool → Comp α} {k : Nat → List Addr → Hp → Hp → α → Prop} (h : Run C W σ e b R G H ((cmpE o d d2).bind f) k) : ∃ z, cmpE o d d2 = .ret z ∧ Run C W σ e b R G H (f z) k := by
  rcases cmp_form o d d2 with ⟨z, q⟩ | q
  · rw [q] at h
    exact ⟨z, q, h⟩
  · rw [q] at h
    exact h.elim
theorem e_cmp (hX : XOk C W X) {o : CO} {a c : Eb} {p : Pos} (ha : PE X a.em (tB C W (a.ev C.cl))) (hc : PE X c.em (tB C W (c.ev C.cl))) : PE X (Ee.cmp o a c p).em (tX C W ((Ee.cmp o a c p).ev C.cl)) :=
  peM (pe_cmpR (c_any hX o) ha hc (marks_of c.head _)) fun σ H Q ⟨b, R, G, e, S, h⟩ => tB.of S (Run.bind h) fun b1 R1 G1 H1 d v s1 S1 r1 q => tB.of S1 q.bind fun b2 R2 G2 H2 d2 v2 s2 S2 r2 q2 => by
    obtain ⟨z, ez, q3⟩ := cmp_run q2
    exact ⟨b2, R2, G2, σ, e, d, d2, z, S2, r1.sub s2.g, r2, ez, endD S2 q3 (.bl z)⟩
theorem t_cmp (hX : XOk C W X) {o : CO} {a c : Eb} {p : Pos} (ha : PE X a.em (tB C W (a.ev C.cl))) (hc : PE X c.em (tB C W (c.ev C.cl))) : PT X (Ee.cmp o a c p).em (tT C W ((Ee.cmp o a c p).ev C.cl)) :=
  ptM (pt_cmpR (c_any hX o) ha hc (marks_of c.head _)) fun σ H Q ⟨b, R, G, e, S, h⟩ => tB.of S (Run.bind h) fun b1 R1 G1 H1 d v s1 S1 r1 q => tB.of S1 q.bind fun b2 R2 G2 H2 d2 v2 s2 S2 r2 q2 => by
    obtain ⟨z, ez, q3⟩ := cmp_run q2
    obtain ⟨z2, ew, q4⟩ := Run.ret S2 q3
    injection ew with ew
    injection ew with ew
    subst ew
    exact ⟨b2, R2, G2, σ, e, d, d2, z, S2, r1.sub s2.g, r2, ez, z, rfl, q4⟩
end
end TC

set_option Elab.async false
set_option linter.all false
set_option maxRecDepth 100000
set_option maxHeartbeats 2000000
namespace TC
open PySem L2 PySem.Spec
section
variable {C : Ctx} {W : WX} {X : Cx} {σ : L2.St} {e : En} {b : Nat} {R : List Addr} {G H : Hp}
/-! ### a chain of two comparisons -/
theorem marks2_of {o1 o2 : CmpOp} {c d : Expr} (h : headB d = true) : lastMarks [o1, o2] [c, d] = false := by
  show behindInMarks o2 d = false
  exact marks_of h _
theorem e_chn (hX : XOk C W X) {o1 o2 : CO} {a c d : Ee} {p : Pos} (ha : PE X a.em (tX C W (a.ev C.cl))) (hc : PE X c.em (tX C W (c.ev C.cl))) (hd : PE X d.em (tX C W (d.ev C.cl))) : PE X (Ee.chn o1 o2 a c d p).em (tX C W ((Ee.chn o1 o2 a c d p).ev C.cl)) :=
  peM (pe_chain (c_any hX o1) (c_any hX o2) ha hc hd (marks2_of d.head)) fun σ H Q h => tX2 h fun n R G H2 e vx vy x y S rx ry q => by
    obtain ⟨z, ez, q⟩ := cmp_run q
    refine ⟨n, R, G, σ, e, x, y, z, S, .inl rx, .inl ry, ez, z, rfl, ?_⟩
    cases z with
    | false => exact endD S q (.bl false)
    | true =>
      have q : Run C W σ e n R G H2 ((dD (d.ev C.cl e)).bind fun u => retB (cmpE o2 y u)) (KW C Q) := q
      refine tX.of S q.bind.dD fun b3 R3 G3 H3 w3 v3 s3 S3 r3 ⟨u, ew, q3⟩ => ?_
      subst ew
      obtain ⟨z, ez, q4⟩ := cmp_run q3
      exact ⟨b3, R3, G3, σ, e, y, u, z, S3, .inl (s3.g.dp ry), .inl r3, ez, endD S3 q4 (.bl z)⟩
theorem t_chn (hX : XOk C W X) {o1 o2 : CO} {a c d : Ee} {p : Pos} (ha : PE X a.em (tX C W (a.ev C.cl))) (hc : PE X c.em (tX C W (c.ev C.cl))) (hd : PE X d.em (tX C W (d.ev C.cl))) : PT X (Ee.chn o1 o2 a c d p).em (tT C W ((Ee.chn o1 o2 a c d p).ev C.cl)) :=
  ptM (pt_chain (c_any hX o1) (c_any hX o2) ha hc hd (marks2_of d.head)) fun σ H Q ⟨b, R, G, e, S, h⟩ => by
    have h2 : tX C W (fun e => (dD (a.ev C.cl e)).bind fun x => (dD (c.ev C.cl e)).bind fun y => (cmpE o1 x y).bind fun z => if z then (dD (d.ev C.cl e)).bind fun u => retB (cmpE o2 y u) else .ret (.d (.bool false))) σ H
        (fun v H' => ∃ k, v = .bl k ∧ Q k H') := ⟨b, R, G, e, S, Run.mono h fun b' R' G' H' w s S' ⟨x, ew, q⟩ v r => by
          subst ew
          cases r
          exact ⟨x, rfl, q⟩⟩
    refine tX2 h2 fun n R G H2 e vx vy x y S rx ry q => ?_
    obtain ⟨z, ez, q⟩ := cmp_run q
    refine ⟨n, R, G, σ, e, x, y, z, S, .inl rx, .inl ry, ez, z, rfl, ?_⟩
    cases z with
    | false => exact endD S q (.bl false)
    | true =>
      have q : Run C W σ e n R G H2 ((dD (d.ev C.cl e)).bind fun u => retB (cmpE o2 y u)) (KW C fun v H' => ∃ k, v = .bl k ∧ Q k H') := q
      refine tX.of S q.bind.dD fun b3 R3 G3 H3 w3 v3 s3 S3 r3 ⟨u, ew, q3⟩ => ?_
      subst ew
      obtain ⟨z, ez, q4⟩ := cmp_run q3
      exact ⟨b3, R3, G3, σ, e, y, u, z, S3, .inl (s3.g.dp ry), .inl r3, ez, endD S3 q4 (.bl z)⟩
/-! ### is None -/
theorem isn_run {n : Bool} {w : Wd} {Q : VK} {v : V} (S : St C b R G σ H e) (r : Rep C G v w) (h : Run C W σ e b R G H (isnE n w) (KW C Q)) : Q (.bl (if n then !decide (v = .non) else decide (v = .non))) H := by
  rcases w with x | _ | _
  · cases x <;> cases r <;> (cases n <;> exact endD S h (.bl _))
  · exact h.elim
  · exact h.elim
theorem e_isn {n : Bool} {a : Ee} {k : Nat} {pn p : Pos} (ha : PE X a.em (tX C W (a.ev C.cl))) : PE X (Ee.isn n a k pn p).em (tX C W ((Ee.isn n a k pn p).ev C.cl)) := by
  cases n with
  | false =>
    exact peM (pe_cmp (pc_isN ha) (by rfl)) fun σ H Q ⟨b, R, G, e, S, h⟩ => tX.of S (Run.bind h) fun b1 R1 G1 H1 w v s1 S1 r1 q => isn_run (n := false) S1 r1 q
  | true =>
    exact peM (pe_cmp (pc_notN ha) (by rfl)) fun σ H Q ⟨b, R, G, e, S, h⟩ => tX.of S (Run.bind h) fun b1 R1 G1 H1 w v s1 S1 r1 q => isn_run (n := true) S1 r1 q
theorem t_isn {n : Bool} {a : Ee} {k : Nat} {pn p : Pos} (ha : PE X a.em (tX C W (a.ev C.cl))) : PT X (Ee.isn n a k pn p).em (tT C W ((Ee.isn n a k pn p).ev C.cl)) := by
  have key : ∀ {σ : L2.St} {H : Hp} {Q : Bool → Hp → Prop}, tT C W ((Ee.isn n a k pn p).ev C.cl) σ H Q → tX C W (a.ev C.cl) σ H fun v H1 => ∃ c, V.bl (if n then !decide (v = .non) else decide (v = .non)) = .bl c ∧ Q c H1 := fun {σ H Q} ⟨b, R, G, e, S, h⟩ =>
    tX.of S (Run.bind h) fun b1 R1 G1 H1 w v s1 S1 r1 q => ⟨_, rfl, by
      have q2 := isn_run (Q := fun v H' => ∃ t, v = .bl t ∧ Q t H') S1 r1 (q.mono fun b' R' G' H' w s S' ⟨x, ew, q⟩ v r => by
        subst ew
        cases r
        exact ⟨x, rfl, q⟩)
      obtain ⟨t, et, q3⟩ := q2
      injection et with et
      rw [et]
      exact q3⟩
  cases n with
  | false => exact ptM (pt_cmp (pc_isN ha) (by rfl)) fun σ H Q h => key h
  | true => exact ptM (pt_cmp (pc_notN ha) (by rfl)) fun σ H Q h => key h
/-! ### a if t else b -/
theorem e_ife {c a d : Ee} {p : Pos} (hc : PT X c.em (tT C W (c.ev C.cl))) (ha : PE X a.em (tX C W (a.ev C.cl))) (hd : PE X d.em (tX C W (d.ev C.cl))) : PE X (Ee.ife c a d p).em (tX C W ((Ee.ife c a d p).ev C.cl)) :=
  peM (pe_ifExp hc ha hd) fun σ H Q ⟨b, R, G, e, S, h⟩ => ⟨b, R, G, e, S, (Run.bind h).dB.mono fun b1 R1 G1 H1 w s1 S1 ⟨t, ew, q⟩ => ⟨t, ew, by
    cases t with
    | true => exact ⟨b1, R1, G1, e, S1, q⟩
    | false => exact ⟨b1, R1, G1, e, S1, q⟩⟩⟩
theorem pt_ifExp {c a d : Expr} {p : Pos} {tc ta td : TT} (hc : PT X c tc) (ha : PT X a ta) (hd : PT X d td) : PT X (.IfExp c a d p) (fun σ H Q => tc σ H fun t H1 => if t = true then ta σ H1 Q else td σ H1 Q) :=
  ⟨fun pins s σ H Q I h => PyProof.Rows.isTrue_IfExp (thn (hc.run pins s σ H _ I h) fun t s1 ⟨H1, I1, q1⟩ => by
    cases t with
    | true => exact ha.run pins s1 σ H1 Q I1 q1
    | false => exact hd.run pins s1 σ H1 Q I1 q1)⟩
theorem t_ife {c a d : Ee} {p : Pos} (hc : PT X c.em (tT C W (c.ev C.cl))) (ha : PT X a.em (tT C W (a.ev C.cl))) (hd : PT X d.em (tT C W (d.ev C.cl))) : PT X (Ee.ife c a d p).em (tT C W ((Ee.ife c a d p).ev C.cl)) :=
  ptM (pt_ifExp hc ha hd) fun σ H Q ⟨b, R, G, e, S, h⟩ => ⟨b, R, G, e, S, (Run.bind h).dB.mono fun b1 R1 G1 H1 w s1 S1 ⟨t, ew, q⟩ => ⟨t, ew, by
    cases t with
    | true => exact ⟨b1, R1, G1, e, S1, q⟩
    | false => exact ⟨b1, R1, G1, e, S1, q⟩⟩⟩
/-! ### and, or -/
def tAnds (C : Ctx) (W : WX) (es : Es) : TE := tX C W (es.evAnd C.cl)
def tOrs (C : Ctx) (W : WX) (es : Es) : TE := tX C W (es.evOr C.cl)
theorem and_one {a : Ee} {p : Pos} (h : PE X a.em (tX C W (a.ev C.cl))) : PE X (.BoolOp .And (Es.cons a .nil).em p) (tX C W ((Es.cons a .nil).evAnd C.cl)) := pe_one h
theorem and_cons {a a2 : Ee} {es : Es} {p : Pos} (h : PE X a.em (tX C W (a.ev C.cl))) (h2 : PE X (.BoolOp .And (Es.cons a2 es).em p) (tX C W ((Es.cons a2 es).evAnd C.cl))) :
    PE X (.BoolOp .And (Es.cons a (.cons a2 es)).em p) (tX C W ((Es.cons a (.cons a2 es)).evAnd C.cl)) :=
  peM (pe_and h h2) fun σ H Q ⟨b, R, G, e, S, h⟩ => tX.of S (Run.bind h).dB fun b1 R1 G1 H1 w v s1 S1 r1 ⟨t, ew, q⟩ => by
    subst ew
    cases r1
    refine ⟨t, rfl, ?_⟩
    cases t with
    | true => exact ⟨b1, R1, G1, e, S1, q⟩
    | false => exact endD S1 q (.bl false)
theorem or_one {a : Ee} {p : Pos} (h : PE X a.em (tX C W (a.ev C.cl))) : PE X (.BoolOp .Or (Es.cons a .nil).em p) (tX C W ((Es.cons a .nil).evOr C.cl)) := pe_one h
theorem or_cons {a a2 : Ee} {es : Es} {p : Pos} (h : PE X a.em (tX C W (a.ev C.cl))) (h2 : PE X (.BoolOp .Or (Es.cons a2 es).em p) (tX C W ((Es.cons a2 es).evOr C.cl))) :
    PE X (.BoolOp .Or (Es.cons a (.cons a2 es)).em p) (tX C W ((Es.cons a (.cons a2 es)).evOr C.cl)) :=
  peM (pe_or h h2) fun σ H Q ⟨b, R, G, e, S, h⟩ => tX.of S (Run.bind h).dB fun b1 R1 G1 H1 w v s1 S1 r1 ⟨t, ew, q⟩ => by
    subst ew
    cases r1
    refine ⟨t, rfl, ?_⟩
    cases t with
    | true => exact endD S1 q (.bl true)
    | false => exact ⟨b1, R1, G1, e, S1, q⟩
theorem wand_one {a : Ee} {p : Pos} (h : PT X a.em (tT C W (a.ev C.cl))) : PW X (.BoolOp .And (Es.cons a .nil).em p) (tT C W ((Es.cons a .nil).evAnd C.cl)) := pw_and1 h
theorem wand_cons {a a2 : Ee} {es : Es} {p : Pos} (h : PT X a.em (tT C W (a.ev C.cl))) (h2 : PW X (.BoolOp .And (Es.cons a2 es).em p) (tT C W ((Es.cons a2 es).evAnd C.cl))) :
    PW X (.BoolOp .And (Es.cons a (.cons a2 es)).em p) (tT C W ((Es.cons a (.cons a2 es)).evAnd C.cl)) :=
  ⟨fun wh pins s σ H Q I q => (pw_and h h2).run wh pins s σ H Q I (by
    obtain ⟨b, R, G, e, S, h⟩ := q
    refine ⟨b, R, G, e, S, (Run.bind h).dB.mono fun b1 R1 G1 H1 w s1 S1 ⟨t, ew, q⟩ => ⟨t, ew, ?_⟩⟩
    cases t with
    | true => exact ⟨b1, R1, G1, e, S1, q⟩
    | false =>
      obtain ⟨t2, e2, q⟩ := Run.ret S1 q
      injection e2 with e2
      injection e2 with e2
      subst e2
      exact q)⟩
theorem wor_one {a : Ee} {p : Pos} (h : PT X a.em (tT C W (a.ev C.cl))) : PW X (.BoolOp .Or (Es.cons a .nil).em p) (tT C W ((Es.cons a .nil).evOr C.cl)) := pw_or1 h
theorem wor_cons {a a2 : Ee} {es : Es} {p : Pos} (h : PT X a.em (tT C W (a.ev C.cl))) (h2 : PW X (.BoolOp .Or (Es.cons a2 es).em p) (tT C W ((Es.cons a2 es).evOr C.cl))) :
    PW X (.BoolOp .Or (Es.cons a (.cons a2 es)).em p) (tT C W ((Es.cons a (.cons a2 es)).evOr C.cl)) :=
  ⟨fun wh pins s σ H Q I q => (pw_or h h2).run wh pins s σ H Q I (by
    obtain ⟨b, R, G, e, S, h⟩ := q
    refine ⟨b, R, G, e, S, (Run.bind h).dB.mono fun b1 R1 G1 H1 w s1 S1 ⟨t, ew, q⟩ => ⟨t, ew, ?_⟩⟩
    cases t with
    | false => exact ⟨b1, R1, G1, e, S1, q⟩
    | true =>
      obtain ⟨t2, e2, q⟩ := Run.ret S1 q
      injection e2 with e2
      injection e2 with e2
      subst e2
      exact q)⟩
end
end TC

set_option Elab.async false
set_option linter.all false
set_option maxRecDepth 100000
set_option maxHeartbeats 2000000
namespace TC
open PySem L2 PySem.Spec
section
variable {C : Ctx} {W : WX} {X : Cx} {σ : L2.St} {e : En} {b : Nat} {R : List Addr} {G H : Hp}
/-! ### items and cuts -/
theorem lim_le {n : Nat} (h : decide (n ≤ LIM) = true) : n ≤ sizeLine := lim_line (of_decide_eq_true h)
inductive IdxIs : PyData → Int → PyData → Prop where
  | list (ds : List PyData) (i : Int) (x : PyData) (h : atI ds i = some x) : IdxIs (.list ds) i x
  | tuple (ds : List PyData) (i : Int) (x : PyData) (h : atI ds i = some x) : IdxIs (.tuple ds) i x
  | str (z : Str) (i : Int) (c : Nat) (hz : z.length ≤ LIM) (h : atI z.cps.toList i = some c) : IdxIs (.str z) i (.str ⟨#[c]⟩)
theorem idx_form (d y : PyData) : (∃ i x, y = .int i ∧ IdxIs d i x ∧ idxE d y = .ret x) ∨ idxE d y = .stuck := by
  cases d <;> cases y <;> first | exact .inr rfl | skip
  · rename_i z i
    show _ ∨ (if z.length ≤ LIM then (match atI z.cps.toList i with | some c => Comp.ret (PyData.str ⟨#[c]⟩) | none => .stuck) else .stuck) = Comp.stuck
    by_cases hz : z.length ≤ LIM
    · cases ea : atI z.cps.toList i with
      | none =>
        right
        rw [if_pos hz]
      | some x =>
        left
        refine ⟨i, _, rfl, .str z i x hz ea, ?_⟩
        show (if z.length ≤ LIM then (match atI z.cps.toList i with | some c => Comp.ret (PyData.str ⟨#[c]⟩) | none => .stuck) else .stuck) = _
        rw [if_pos hz, ea]
    · right
      rw [if_neg hz]
  · rename_i ds i
    show _ ∨ (match atI ds i with | some d => Comp.ret d | none => .stuck) = Comp.stuck
    cases ea : atI ds i with
    | none => exact .inr rfl
    | some x =>
      left
      refine ⟨i, x, rfl, .list ds i x ea, ?_⟩
      show (match atI ds i with | some d => Comp.ret d | none => .stuck) = _
      rw [ea]
  · rename_i ds i
    show _ ∨ (match atI ds i with | some d => Comp.ret d | none => .stuck) = Comp.stuck
    cases ea : atI ds i with
    | none => exact .inr rfl
    | some x =>
      left
      refine ⟨i, x, rfl, .tuple ds i x ea, ?_⟩
      show (match atI ds i with | some d => Comp.ret d | none => .stuck) = _
      rw [ea]
theorem e_idx (hX : XOk C W X) {a : Eb} {i : Ee} {p : Pos} (ha : PE X a.em (tB C W (a.ev C.cl))) (hi : PE X i.em (tX C W (i.ev C.cl))) : PE X (Ee.idx a i p).em (tX C W ((Ee.idx a i p).ev C.cl)) :=
  peM (pe_ix ix_seq ha hi (plainIx_of i.head)) fun σ H Q ⟨b, R, G, e, S, h⟩ => tB.of S (Run.bind h) fun b1 R1 G1 H1 d v s1 S1 r1 q => tX.of S1 q.bind.dD fun b2 R2 G2 H2 w2 v2 s2 S2 r2 ⟨y, ew, q2⟩ => by
    subst ew
    have r1 := r1.sub s2.g
    rcases idx_form d y with ⟨i, x, rfl, ix, e0⟩ | e0
    · rw [e0] at q2
      cases r2
      cases ix with
      | list ds _ _ ea =>
        obtain ⟨l, vs, rfl, h1, h2⟩ := r1.lst S2
        obtain ⟨u, h3, h4⟩ := atI_dps h2 ea
        refine .inl ?_
        rw [hX.m.hK]
        exact ⟨l, vs, i, u, rfl, rfl, .inl h1, h3, endR S2 q2 h4⟩
      | tuple ds _ _ ea =>
        cases r1.stay fun _ z => nomatch z with
        | tup h1 h2 =>
        obtain ⟨u, h3, h4⟩ := atI_dps h2 ea
        refine .inr (.inl ?_)
        rw [hX.m.hK]
        exact ⟨_, _, i, u, rfl, rfl, S2.bs.sub.sqT h1, h3, endR S2 q2 h4⟩
      | str z _ c hz ea =>
        obtain rfl := r1.str
        exact .inr (.inr ⟨z, i, c, rfl, rfl, lim_line hz, ea, endR S2 q2 (.str _)⟩)
    · rw [e0] at q2
      exact q2.elim
/-- a bound of a cut -/
def tO (C : Ctx) (W : WX) (ev : En → Comp (Option Int)) : TO := fun σ H Q => ∃ b R G e, St C b R G σ H e ∧ Run C W σ e b R G H (ev e) fun _ _ _ H' o => Q o H'
theorem o_no : PO X Eo.no.em (tO C W (Eo.no.ev C.cl)) := ⟨fun pins s σ H Q I h => po_none.run pins s σ H Q I (by
  obtain ⟨b, R, G, e, S, h⟩ := h
  exact Run.ret S h)⟩
theorem o_so {a : Ee} (h : PE X a.em (tX C W (a.ev C.cl))) : PO X (Eo.so a).em (tO C W ((Eo.so a).ev C.cl)) := ⟨fun pins s σ H Q I h2 => (po_some h).run pins s σ H Q I (by
  obtain ⟨b, R, G, e, S, h⟩ := h2
  refine tX.of S (Run.bind h).dI fun b1 R1 G1 H1 w v s1 S1 r1 ⟨i, ew, q⟩ => ?_
  subst ew
  cases r1
  exact ⟨i, rfl, Run.ret S1 q⟩)⟩
theorem tO.of {ev : En → Comp (Option Int)} {Q : Option Int → Hp → Prop} (S : St C b R G σ H e) {k : Nat → List Addr → Hp → Hp → Option Int → Prop} (h : Run C W σ e b R G H (ev e) k)
    (m : ∀ b' R' G' H' o, Stp R G H R' G' H' → St C b' R' G' σ H' e → k b' R' G' H' o → Q o H') : tO C W ev σ H Q :=
  ⟨b, R, G, e, S, h.mono fun b' R' G' H' o s S' q => m b' R' G' H' o s S' q⟩
theorem dps_cut {K : PySem.W.Frag} {vs : List V} {ds : List PyData} (h : DqAll K G vs ds) (lo hi : Option Int) : DqAll K G (cutV vs lo hi) (cutP ds lo hi) := by
  unfold cutV cutP
  rw [dps_length h]
  exact dps_take _ (dps_drop _ h)
theorem cut_whole {ds : List PyData} {lo hi : Option Int} (h : HT.sIx ds.length 0 lo = 0 ∧ HT.sIx ds.length ds.length hi = ds.length) : cutP ds lo hi = ds := by
  unfold cutP
  rw [h.1, h.2, List.drop_zero, Nat.sub_zero, List.take_length]
theorem e_slc (hX : XOk C W X) {a : Eb} {lo hi : Eo} {ps p : Pos} (ha : PE X a.em (tB C W (a.ev C.cl))) (hl : PO X lo.em (tO C W (lo.ev C.cl))) (hh : PO X hi.em (tO C W (hi.ev C.cl))) : PE X (Ee.slc a lo hi ps p).em (tX C W ((Ee.slc a lo hi ps p).ev C.cl)) :=
  peM (pe_slice (sl_str.or sl_tupA) ha hl hh) fun σ H Q ⟨b, R, G, e, S, h⟩ => tB.of S (Run.bind h) fun b1 R1 G1 H1 d v s1 S1 r1 q => tO.of S1 q.bind fun b2 R2 G2 H2 l s2 S2 q2 => tO.of S2 q2.bind fun b3 R3 G3 H3 u s3 S3 q3 => by
    have r1 := r1.sub (s2.trans s3).g
    cases d <;> first | exact q3.elim | skip
    · obtain rfl := r1.str
      obtain ⟨c, q⟩ := okB_run q3
      exact .inl ⟨_, rfl, lim_le c, endR S3 q (.str _)⟩
    · cases r1.stay fun _ z => nomatch z with
      | tup h1 h2 =>
      refine .inr ?_
      rw [hX.m.hK]
      refine ⟨_, _, rfl, S3.bs.sub.sqT h1, fun z => ?_, fun _ l hl => endT S3 q3 (dps_cut h2 _ _) l hl⟩
      rw [dps_length h2] at z
      have q4 : Run C W σ e b3 R3 G3 H3 (retD (.ret (.tuple (cutP _ l u)))) (KW C Q) := q3
      rw [cut_whole z] at q4
      exact endR S3 q4 (.tup h1 h2)
/-! ### calls of the built-ins -/
theorem blt_none (hX : XOk C W X) {x : Str} (h : bltB x = true) : X.mg x = none := hX.m.blt x h
/-- a call with one operand -/
theorem e_f1 {f : F1} {a : Eb} {pf p : Pos} {r : List V → Hp → VK → Prop} (hp : PE X (.Call (.Name f.nm pf) [a.em] [] p) (tCB r (tCons (tB C W (a.ev C.cl)) tNil)))
    (m : ∀ (n : Nat) R G H (σ : L2.St) e v d Q, St C n R G σ H e → RepB C σ e G v d → Run C W σ e n R G H (retD (f1E f d)) (KW C Q) → r [v] H Q) : PE X (Ee.f1 f pf a p).em (tX C W ((Ee.f1 f pf a p).ev C.cl)) :=
  peM hp fun σ H Q ⟨b, R, G, e, S, h⟩ => tB.of S (Run.bind h) fun b1 R1 G1 H1 d v s1 S1 r1 q => m b1 R1 G1 H1 σ e v d Q S1 r1 q
theorem star1 (a : Eb) (env : Env) : starEach [a.em] env = (false, eval a.em env) :: starEach [] env := star_of a.head _ _
theorem pa_1 {a : Expr} {t : TE} (h : PE X a t) (hd : headB a = true) : PA X [a] (tCons t tNil) := pa_cons h pa_nil (star_of hd _ _)
theorem nmB {x : Str} (h : glB X.env.scope x = true) : x ≠ "__name__" ∧ (x == ("__debug__" : Str)) = false := ⟨(plainNm_of (nm_gl h)).2.2, (plainNm_of (nm_gl h)).1⟩
theorem e_len (hX : XOk C W X) {a : Eb} {pf p : Pos} (hg : glB X.env.scope F1.len.nm = true) (ha : PE X a.em (tB C W (a.ev C.cl))) : PE X (Ee.f1 .len pf a p).em (tX C W ((Ee.f1 .len pf a p).ev C.cl)) :=
  e_f1 (pe_callB call_len (gl_of hg) (blt_none hX (by decide +kernel)) boot_len (pa_1 ha a.head) (nmB hg).1 (nmB hg).2 (star1 a _) (by rfl)) fun n R G H σ e v d Q S r q => by
    rw [hX.m.hK]
    cases d <;> first | exact q.elim | skip
    · obtain rfl := r.str
      obtain ⟨c, q⟩ := okB_run q
      exact ⟨_, _, rfl, ⟨lim_le c, rfl⟩, endR S q (.int _)⟩
    · obtain ⟨l, vs, rfl, h1, h2⟩ := r.lst S
      refine ⟨_, _, rfl, .inl ⟨vs, .inl h1, rfl⟩, ?_⟩
      rw [dps_length h2]
      exact endR S q (.int _)
    · cases r.stay fun _ z => nomatch z with
      | tup h1 h2 =>
      refine ⟨_, _, rfl, .inr ⟨_, S.bs.sub.sqT h1, rfl⟩, ?_⟩
      rw [dps_length h2]
      exact endR S q (.int _)
theorem e_intF (hX : XOk C W X) {a : Eb} {pf p : Pos} (hg : glB X.env.scope F1.int.nm = true) (ha : PE X a.em (tB C W (a.ev C.cl))) : PE X (Ee.f1 .int pf a p).em (tX C W ((Ee.f1 .int pf a p).ev C.cl)) :=
  e_f1 (pe_callTy (call_int1.or call_int_str) (gl_of hg) (blt_none hX (by decide +kernel)) (by decide +kernel) (pa_1 ha a.head) (nmB hg).1 (nmB hg).2 (star1 a _) (by rfl)) fun n R G H σ e v d Q S r q => by
    cases d <;> first | exact q.elim | skip
    · rename_i k
      obtain rfl := r.bl
      exact .inl (.inr ⟨_, rfl, endR S q (.int _)⟩)
    · obtain rfl := r.int
      exact .inl (.inl ⟨_, rfl, endR S q (.int _)⟩)
    · rename_i z
      obtain rfl := r.str
      have q : Run C W σ e n R G H (retD (match intText? z with | some n => okB (decide (z.length ≤ 640)) (.int n) | none => .stuck)) (KW C Q) := q
      cases ez : intText? z with
      | none => rw [ez] at q; exact q.elim
      | some k =>
        rw [ez] at q
        obtain ⟨c, q⟩ := okB_run q
        exact .inr ⟨z, k, rfl, ez, of_decide_eq_true c, endR S q (.int _)⟩
theorem e_strF (hX : XOk C W X) {a : Eb} {pf p : Pos} (hg : glB X.env.scope F1.str.nm = true) (ha : PE X a.em (tB C W (a.ev C.cl))) : PE X (Ee.f1 .str pf a p).em (tX C W ((Ee.f1 .str pf a p).ev C.cl)) :=
  e_f1 (pe_callTy call_str_int (gl_of hg) (blt_none hX (by decide +kernel)) (by decide +kernel) (pa_1 ha a.head) (nmB hg).1 (nmB hg).2 (star1 a _) (by rfl)) fun n R G H σ e v d Q S r q => by
    cases d <;> first | exact q.elim | skip
    obtain rfl := r.int
    obtain ⟨c, q⟩ := okB_run q
    exact ⟨_, rfl, of_decide_eq_true c, endR S q (.str _)⟩
theorem e_all (hX : XOk C W X) {a : Eb} {pf p : Pos} (hg : glB X.env.scope F1.all.nm = true) (ha : PE X a.em (tB C W (a.ev C.cl))) : PE X (Ee.f1 .all pf a p).em (tX C W ((Ee.f1 .all pf a p).ev C.cl)) :=
  e_f1 (pe_callB (cr_all hX.calm) (gl_of hg) (blt_none hX (by decide +kernel)) (by decide +kernel) (pa_1 ha a.head) (nmB hg).1 (nmB hg).2 (star1 a _) (by rfl)) fun n R G H σ e v d Q S r q => by
    rw [hX.m.hK]
    cases d <;> first | exact q.elim | skip
    rename_i ds
    have q : Run C W σ e n R G H (retD (match boolsP ds with | some bs => .ret (.bool (bs.all id)) | none => .stuck)) (KW C Q) := q
    obtain ⟨l, vs, rfl, h1, h2⟩ := r.lst S
    cases ez : boolsP ds with
    | none => rw [ez] at q; exact q.elim
    | some bs =>
      rw [ez] at q
      rw [dps_bools h2 ez] at h1
      exact ⟨l, bs, rfl, .inl h1, endR S q (.bl _)⟩
theorem cr_sumT (hc : X.calm = true) : CallR X (.builtin "sum") (fun xs H Q => ∃ (a : Addr) (ns : List Int), xs = [V.ref a] ∧ SqT X.K H a (ns.map V.int) ∧ Q (.int ns.sum) H) := by
  intro pins s σ H vs us Q I r h
  obtain ⟨a, ns, rfl, hs, q⟩ := h
  obtain ⟨its, rv, ht, _⟩ := I.tuple hs
  rw [Vals.ref1 r]
  obtain ⟨xs, e⟩ := rv.ints.allInts.items
  have hn : numsOf (intItems xs).toList = ns := by
    rw [← e]
    exact rv.ints.numsOf
  rw [nums_intItems] at hn
  have ht : s.heap.IsTuple a its.toArray := ht
  rw [e] at ht
  refine PySem.W.ktm_sumG (I.ok.hd hc) ht fun h' tk t' hk => ?_
  rw [preSum_eq, List.take_of_length_le (by simp), hn]
  exact ⟨.int _, H, I.kept hk, ⟨_, rfl⟩, q⟩
theorem e_sum (hX : XOk C W X) {a : Eb} {pf p : Pos} (hg : glB X.env.scope F1.sum.nm = true) (ha : PE X a.em (tB C W (a.ev C.cl))) : PE X (Ee.f1 .sum pf a p).em (tX C W ((Ee.f1 .sum pf a p).ev C.cl)) :=
  e_f1 (pe_callB ((cr_sum hX.calm).or (cr_sumT hX.calm)) (gl_of hg) (blt_none hX (by decide +kernel)) (by decide +kernel) (pa_1 ha a.head) (nmB hg).1 (nmB hg).2 (star1 a _) (by rfl)) fun n R G H σ e v d Q S r q => by
    rw [hX.m.hK]
    cases d with
    | list ds =>
      have q : Run C W σ e n R G H (retD (match intsP ds with | some ns => .ret (.int ns.sum) | none => .stuck)) (KW C Q) := q
      obtain ⟨l, vs, rfl, h1, h2⟩ := r.lst S
      cases ez : intsP ds with
      | none => rw [ez] at q; exact q.elim
      | some bs =>
        rw [ez] at q
        rw [dps_ints h2 ez] at h1
        exact .inl ⟨l, bs, rfl, .inl h1, endR S q (.int _)⟩
    | tuple ds =>
      have q : Run C W σ e n R G H (retD (match intsP ds with | some ns => .ret (.int ns.sum) | none => .stuck)) (KW C Q) := q
      cases r.stay fun _ z => nomatch z with
      | tup h1 h2 =>
      cases ez : intsP ds with
      | none => rw [ez] at q; exact q.elim
      | some bs =>
        rw [ez] at q
        rw [dps_ints h2 ez] at h1
        exact .inr ⟨_, bs, rfl, S.bs.sub.sqT h1, endR S q (.int _)⟩
    | _ => exact q.elim
theorem maxI_mem : ∀ {n : Int} {ns : List Int}, maxI (n :: ns) ∈ n :: ns
  | n, [] => List.mem_singleton.mpr rfl
  | n, m :: ns => by
    have z := maxI_mem (n := m) (ns := ns)
    unfold maxI
    split
    · exact List.mem_cons_self ..
    · exact List.mem_cons_of_mem _ z
theorem maxI_ge : ∀ {n : Int} {ns : List Int}, ∀ y ∈ n :: ns, y ≤ maxI (n :: ns)
  | n, [], y, h => by
    rw [List.mem_singleton.mp h]
    exact Int.le_refl n
  | n, m :: ns, y, h => by
    have z := maxI_ge (n := m) (ns := ns)
    have e : maxI (n :: m :: ns) = if n > maxI (m :: ns) then n else maxI (m :: ns) := by rw [maxI]
    rw [e]
    rcases List.mem_cons.mp h with rfl | h
    · split <;> omega
    · have := z y h
      split <;> omega
theorem e_maxF (hX : XOk C W X) {a : Eb} {pf p : Pos} (hg : glB X.env.scope F1.max.nm = true) (ha : PE X a.em (tB C W (a.ev C.cl))) : PE X (Ee.f1 .max pf a p).em (tX C W ((Ee.f1 .max pf a p).ev C.cl)) :=
  e_f1 (pe_callB (cr_max hX.calm) (gl_of hg) (blt_none hX (by decide +kernel)) (by decide +kernel) (pa_1 ha a.head) (nmB hg).1 (nmB hg).2 (star1 a _) (by rfl)) fun n R G H σ e v d Q S r q => by
    rw [hX.m.hK]
    cases d with
    | list ds =>
      have q : Run C W σ e n R G H (retD (match intsP ds with | some (n :: ns) => .ret (.int (maxI (n :: ns))) | _ => .stuck)) (KW C Q) := q
      obtain ⟨l, vs, rfl, h1, h2⟩ := r.lst S
      cases ez : intsP ds with
      | none => rw [ez] at q; exact q.elim
      | some bs =>
        cases bs with
        | nil => rw [ez] at q; exact q.elim
        | cons b bs =>
          rw [ez] at q
          rw [dps_ints h2 ez] at h1
          refine ⟨l, b :: bs, rfl, .inl h1, Nat.zero_lt_succ _, fun m hm hb => ?_⟩
          have e : m = maxI (b :: bs) := Int.le_antisymm (maxI_ge m hm) (hb _ maxI_mem)
          rw [e]
          exact endR S q (.int _)
    | _ => exact q.elim
theorem e_tupF (hX : XOk C W X) {a : Eb} {pf p : Pos} (hg : glB X.env.scope F1.tuple.nm = true) (ha : PE X a.em (tB C W (a.ev C.cl))) : PE X (Ee.f1 .tuple pf a p).em (tX C W ((Ee.f1 .tuple pf a p).ev C.cl)) :=
  e_f1 (pe_callTy call_tuple_of (gl_of hg) (blt_none hX (by decide +kernel)) (by decide +kernel) (pa_1 ha a.head) (nmB hg).1 (nmB hg).2 (star1 a _) (by rfl)) fun n R G H σ e v d Q S r q => by
    rw [hX.m.hK]
    cases d <;> first | exact q.elim | skip
    · obtain ⟨l, vs, rfl, h1, h2⟩ := r.lst S
      exact ⟨_, _, rfl, .inl ⟨.inl h1, fun l hl => endT S q h2 l hl⟩⟩
    · cases r.stay fun _ z => nomatch z with
      | tup h1 h2 => exact ⟨_, _, rfl, .inr ⟨S.bs.sub.sqT h1, endR S q (.tup h1 h2)⟩⟩
end
end TC

set_option Elab.async false
set_option linter.all false
set_option maxRecDepth 100000
set_option maxHeartbeats 2000000
namespace TC
open PySem L2 PySem.Spec
section
variable {C : Ctx} {W : WX} {X : Cx} {σ : L2.St} {e : En} {b : Nat} {R : List Addr} {G H : Hp}
/-! ### repr -/
theorem cr_repr {k : Nat} (gu : X.A.guards = some []) (hr : Room k X.A) : CallR X (.builtin "repr") (fun xs H Q => ∃ v d, xs = [v] ∧ Dp X.K H v d ∧ d.showable = true ∧ d.hasDict = false ∧ d.depth ≤ 60 ∧ d.shown.length ≤ sizeLine ∧ Q (.str d.shown) H) := by
  intro pins s σ H xs us Q I r h
  obtain ⟨v, d, rfl, hd, hs, hn, hdp, hz, q⟩ := h
  cases r with
  | cons r rr =>
  cases rr
  have un := hr.un
  have far : ∀ {a : Addr} {u : Value}, u = .ref a → RelV v u → wpAny (model X.prog X.w) X.A (PySem.call (.builtin "repr") [u]) (EP X pins σ Q) X.xe s := by
    rintro a u rfl rv
    obtain ⟨as, rd⟩ := Dp.reads I d v _ hd rv
    exact repr_of_reads' rd hs (PyData.noDict_hsm hn) gu (by omega) (fun _ _ e => e) (fun h' u tk k => ⟨V.str _, H, I.kept k, ⟨_, rfl⟩, q⟩) hz
  cases hd with
  | non =>
    cases r
    exact P.repr_of_none ⟨V.str _, H, I.tok _, ⟨_, rfl⟩, q⟩
  | bl c =>
    cases r
    refine P.repr_of_bool ⟨V.str _, H, I.tok _, ⟨_, rfl⟩, ?_⟩
    cases c <;> exact q
  | int i =>
    obtain ⟨t, rfl⟩ := r
    exact P.repr_of_int (of_decide_eq_true hs) ⟨V.str _, H, I.tok _, ⟨_, rfl⟩, q⟩
  | str x =>
    obtain ⟨t, rfl⟩ := r
    exact P.repr_of_str ⟨V.str _, H, I.tok _, ⟨_, rfl⟩, q⟩ hz
  | lst h1 h2 => exact far r r
  | tup h1 h2 => exact far r r
theorem lim10 {n : Nat} (h : n ≤ 10000000) : n ≤ sizeLine := Nat.le_trans h (by decide)
theorem e_repr (hX : XOk C W X) {a : Eb} {pf p : Pos} (hg : glB X.env.scope F1.repr.nm = true) (ha : PE X a.em (tB C W (a.ev C.cl))) : PE X (Ee.f1 .repr pf a p).em (tX C W ((Ee.f1 .repr pf a p).ev C.cl)) :=
  e_f1 (pe_callB (cr_repr hX.gu hX.room) (gl_of hg) (blt_none hX (by decide +kernel)) (by decide +kernel) (pa_1 ha a.head) (nmB hg).1 (nmB hg).2 (star1 a _) (by rfl)) fun n R G H σ e v d Q S r q => by
    rw [hX.m.hK]
    obtain ⟨c, q⟩ := okB_run (c := d.showable && !d.hasDict && decide (d.depth ≤ 60) && decide (d.shown.length ≤ 10000000)) (d := .str d.shown) q
    rw [Bool.and_eq_true, Bool.and_eq_true, Bool.and_eq_true, decide_eq_true_eq, decide_eq_true_eq] at c
    exact ⟨v, d, rfl, r.dp S, c.1.1.1, by simpa using c.1.1.2, c.1.2, lim10 c.2, endR S q (.str _)⟩
theorem e_f1_any (hX : XOk C W X) (f : F1) {a : Eb} {pf p : Pos} (hg : glB X.env.scope f.nm = true) (ha : PE X a.em (tB C W (a.ev C.cl))) : PE X (Ee.f1 f pf a p).em (tX C W ((Ee.f1 f pf a p).ev C.cl)) := by
  cases f with
  | len => exact e_len hX hg ha
  | int => exact e_intF hX hg ha
  | str => exact e_strF hX hg ha
  | all => exact e_all hX hg ha
  | sum => exact e_sum hX hg ha
  | tuple => exact e_tupF hX hg ha
  | repr => exact e_repr hX hg ha
  | max => exact e_maxF hX hg ha
/-! ### min, max, isinstance -/
theorem pa_2 {a c : Expr} {t u : TE} (h : PE X a t) (h2 : PE X c u) (hd : headB a = true) (hd2 : headB c = true) : PA X [a, c] (tCons t (tCons u tNil)) := pa_cons h (pa_1 h2 hd2) (star_of hd _ _)
theorem star2 {a c : Expr} (h : headB c = true) (pos : Pos) (env : Env) : (backTo pos (starEach [c] env)).any (·.1) = false := by
  rw [star_of h]
  rfl
theorem e_f2 (hX : XOk C W X) (f : F2) {a c : Ee} {pf p : Pos} (hg : glB X.env.scope f.nm = true) (ha : PE X a.em (tX C W (a.ev C.cl))) (hc : PE X c.em (tX C W (c.ev C.cl))) : PE X (Ee.f2 f pf a c p).em (tX C W ((Ee.f2 f pf a c p).ev C.cl)) := by
  cases f with
  | min =>
    exact peM (pe_callB (call_min2 hX.calm) (gl_of hg) (blt_none hX (by decide +kernel)) (by decide +kernel) (pa_2 ha hc a.head c.head) (nmB hg).1 (nmB hg).2 (star_of a.head _ _) (star2 (a := a.em) c.head _ _)) fun σ H Q h => tX2 h fun n R G H2 e vx vy x y S rx ry q => by
      cases x <;> cases y <;> first | exact q.elim | skip
      cases rx
      cases ry
      exact ⟨_, _, rfl, endR S q (.int _)⟩
  | max =>
    exact peM (pe_callB (call_max2 hX.calm) (gl_of hg) (blt_none hX (by decide +kernel)) (by decide +kernel) (pa_2 ha hc a.head c.head) (nmB hg).1 (nmB hg).2 (star_of a.head _ _) (star2 (a := a.em) c.head _ _)) fun σ H Q h => tX2 h fun n R G H2 e vx vy x y S rx ry q => by
      cases x <;> cases y <;> first | exact q.elim | skip
      cases rx
      cases ry
      exact ⟨_, _, rfl, endR S q (.int _)⟩
def tyOf : PyData → String
  | .none => "NoneType" | .bool _ => "bool" | .int _ => "int" | .str _ => "str" | .list _ => "list" | .tuple _ => "tuple" | .dict _ => "dict"
def Ty.id : Ty → String
  | .int => "int" | .str => "str" | .bool => "bool" | .tuple => "tuple" | .list => "list"
theorem ty_at {v : V} {d : PyData} (h : Dq C.K H v d) : TyX C.K H v (.type (tyOf d)) := by
  cases h with
  | non => exact .base .non
  | bl c => exact .base (.bl c)
  | int i => exact .base (.int i)
  | str x => exact .base (.str x)
  | lst h1 h2 =>
    rcases h1 with h1 | ⟨o, h1⟩
    · exact .base (.lst h1)
    · exact .base (.frz h1)
  | tup h1 h2 =>
    rcases h1 with (h1 | ⟨o, h1⟩) | ⟨o, its, n, h1, h3, _⟩
    · exact .base (.tup h1)
    · exact .fTuple h1
    · exact .kTuple h1 h3
def isiT : Ty → String → Bool
  | .int, s => s == "int" || s == "bool"
  | t, s => s == t.id
theorem isi_eq (t : Ty) (d : PyData) : isiE t d = isiT t (tyOf d) := by
  cases d <;> cases t <;> rfl
theorem kit_at (t : Ty) (d : PyData) (nd : ∀ kvs, d ≠ .dict kvs) : kitB (tyOf d) t.id = some (isiE t d) := by
  rw [isi_eq]
  cases d with
  | dict kvs => exact absurd rfl (nd kvs)
  | none => show kitB "NoneType" t.id = some (isiT t "NoneType"); cases t <;> decide +kernel
  | bool c => show kitB "bool" t.id = some (isiT t "bool"); cases t <;> decide +kernel
  | int c => show kitB "int" t.id = some (isiT t "int"); cases t <;> decide +kernel
  | str c => show kitB "str" t.id = some (isiT t "str"); cases t <;> decide +kernel
  | list c => show kitB "list" t.id = some (isiT t "list"); cases t <;> decide +kernel
  | tuple c => show kitB "tuple" t.id = some (isiT t "tuple"); cases t <;> decide +kernel
theorem dp_nodict {v : V} {d : PyData} (h : Dq C.K H v d) : ∀ kvs, d ≠ .dict kvs := fun kvs z => by
  subst z
  cases h
theorem Ty.boot (t : Ty) : bootBuiltins t.nm = some (.type t.id) := by cases t <;> decide +kernel
theorem Ty.blt (t : Ty) : bltB t.nm = true := by cases t <;> decide +kernel
theorem e_isi (hX : XOk C W X) {t : Ty} {a : Ee} {pf pt p : Pos} (hg : glB X.env.scope "isinstance" = true) (hgt : glB X.env.scope t.nm = true) (ha : PE X a.em (tX C W (a.ev C.cl))) : PE X (Ee.isi pf a t pt p).em (tX C W ((Ee.isi pf a t pt p).ev C.cl)) :=
  peM (pe_callB call_isi (gl_of hg) (blt_none hX (by decide +kernel)) (by decide +kernel) (pa_2 ha (pe_bltn (v := .ty t.id) (gl_of hgt) (blt_none hX t.blt) t.boot rfl (nmB hgt).1 (nmB hgt).2) a.head rfl) (nmB hg).1 (nmB hg).2 (star_of a.head _ _) (by rfl)) fun σ H Q h => tX1 h fun n R G H2 e vx x S rx q => by
    rw [hX.m.hK]
    refine ⟨vx, _, _, _, _, rfl, .ty _, ty_at (S.bs.sub.dp rx), kit_ty (kit_at t x (dp_nodict rx)), endD S q (.bl _)⟩
/-! ### methods of texts -/
def recvB : Expr → Bool
  | .Call _ [] _ _ => false
  | _ => true
theorem base_of {o : Expr} (h : recvB o = true) (m : Str) (env : Env) : attributeBase o m env (eval o env) = eval o env := by
  unfold attributeBase
  split
  · cases h
  · rfl
theorem Ee.recv_em {o : Ee} (h : o.recv = true) : recvB o.em = true := by
  cases o <;> first | rfl | cases h
/-- the reading of a text's method -/
theorem tM_of {r : V → List V → Hp → VK → Prop} {ev : En → Comp Wd} {f : En → Str → Comp Wd} {te : TE} {Q : VK} (h : tX C W (fun e => (dD (ev e)).bind fun x => (asS x).bind fun z => f e z) σ H Q)
    (m : ∀ b1 R1 G1 H1 e z, St C b1 R1 G1 σ H1 e → Run C W σ e b1 R1 G1 H1 (f e z) (KW C Q) → te σ H1 fun y H2 => r (.str z) [y] H2 Q) : tM1 r (tX C W ev) te σ H Q := by
  obtain ⟨b, R, G, e, S, h⟩ := h
  refine tX.of S (Run.bind h).dD fun b1 R1 G1 H1 w v s1 S1 r1 ⟨x, ew, q⟩ => ?_
  subst ew
  cases x <;> first | exact (Run.bind q).elim | skip
  cases r1
  exact ⟨⟨_, rfl⟩, m b1 R1 G1 H1 e _ S1 q⟩
theorem e_m1 (hX : XOk C W X) (m : M1) {o : Ee} {a : Eb} {pa p : Pos} (ho : PE X o.em (tX C W (o.ev C.cl))) (ha : PE X a.em (tB C W (a.ev C.cl))) (hr : o.recv = true) (hl : (pa.endLine == p.line) = true) : PE X (Ee.m1 m o pa a p).em (tX C W ((Ee.m1 m o pa a p).ev C.cl)) := by
  have bs := fun (m : Str) => base_of (Ee.recv_em hr) m X.env
  cases m with
  | join =>
    refine peM (pe_join ho ha (star1 a _) (bs _) hl) fun σ H Q h => tM_of h fun b1 R1 G1 H1 e z S1 q => tB.of S1 q.bind fun b2 R2 G2 H2 y v2 s2 S2 r2 q2 => ?_
    rw [hX.m.hK]
    cases y <;> first | exact q2.elim | skip
    · rename_i ds
      have q2 : Run C W σ e b2 R2 G2 H2 (retD (match strsP ds with | some ys => joinE z ys | none => .stuck)) (KW C Q) := q2
      obtain ⟨l, vs, rfl, h1, h2⟩ := r2.lst S2
      cases ez : strsP ds with
      | none => rw [ez] at q2; exact q2.elim
      | some ys =>
        rw [ez] at q2
        rw [dps_strs h2 ez] at h1
        obtain ⟨c, q2⟩ := okB_run q2
        exact ⟨z, l, ys, rfl, rfl, .inl (.inl h1), Nat.le_trans (of_decide_eq_true c) (by decide), endR S2 q2 (.str _)⟩
    · rename_i ds
      have q2 : Run C W σ e b2 R2 G2 H2 (retD (match strsP ds with | some ys => joinE z ys | none => .stuck)) (KW C Q) := q2
      cases r2.stay fun _ z => nomatch z with
      | tup h1 h2 =>
      cases ez : strsP ds with
      | none => rw [ez] at q2; exact q2.elim
      | some ys =>
        rw [ez] at q2
        rw [dps_strs h2 ez] at h1
        obtain ⟨c, q2⟩ := okB_run q2
        exact ⟨z, _, ys, rfl, rfl, .inr (S2.bs.sub.sqT h1), Nat.le_trans (of_decide_eq_true c) (by decide), endR S2 q2 (.str _)⟩
  | find =>
    refine peM (pe_m1 F.slot_str_find F.type_str_find mt_find ho ha (star1 a _) (bs _) hl) fun σ H Q h => tM_of h fun b1 R1 G1 H1 e z S1 q => tB.of S1 q.bind fun b2 R2 G2 H2 y v2 s2 S2 r2 q2 => ?_
    cases y <;> first | exact q2.elim | skip
    obtain rfl := r2.str
    exact ⟨_, _, rfl, rfl, endR S2 q2 (.int _)⟩
  | count =>
    refine peM (pe_m1 F.slot_str_count F.type_str_count mt_count ho ha (star1 a _) (bs _) hl) fun σ H Q h => tM_of h fun b1 R1 G1 H1 e z S1 q => tB.of S1 q.bind fun b2 R2 G2 H2 y v2 s2 S2 r2 q2 => ?_
    cases y <;> first | exact q2.elim | skip
    obtain rfl := r2.str
    exact ⟨_, _, rfl, rfl, endR S2 q2 (.int _)⟩
  | startswith =>
    refine peM (pe_m1 F.slot_str_startswith F.type_str_startswith mt_startswith ho ha (star1 a _) (bs _) hl) fun σ H Q h => tM_of h fun b1 R1 G1 H1 e z S1 q => tB.of S1 q.bind fun b2 R2 G2 H2 y v2 s2 S2 r2 q2 => ?_
    cases y <;> first | exact q2.elim | skip
    obtain rfl := r2.str
    exact ⟨_, _, rfl, rfl, endR S2 q2 (.bl _)⟩
/-! ### calls of the text's own functions -/
/-- the heap without an object that no one holds -/
def hide (H : Hp) (l : Addr) : Hp := fun a => if a = l then none else H a
theorem hide_ne {l a : Addr} (h : a ≠ l) : hide H l a = H a := if_neg h
theorem hide_self {l : Addr} : hide H l l = none := if_pos rfl
theorem upd_hide {l : Addr} {o : HO} (h : H l = some o) : upd (hide H l) l o = H := by
  funext a
  by_cases e : a = l
  · subst e
    rw [upd_same, h]
  · rw [upd_ne e, hide_ne e]
theorem Bs.hide {l : Addr} (B : Bs C b R G H) (g : G l = none) (r : l ∉ R) : Bs C b R G (TC.hide H l) where
  sub := fun a o h => by
    have ne : a ≠ l := ne_of_none h g
    rw [hide_ne ne]
    exact B.sub a o h
  rg := C.rg.fr B.rg fun a ha => hide_ne fun z => r (z ▸ ha)
  dis := B.dis
theorem St.hide {l : Addr} (S : St C b R G σ H e) (g : G l = none) (r : l ∉ R) (no : ∀ i, ¬ Opn σ e i l) : St C b R G σ (TC.hide H l) e where
  bs := S.bs.hide g r
  len := S.len
  sl := fun i sl h => by
    have z := S.sl i sl h
    cases sl with
    | un => trivial
    | fz w => exact z
    | ow ds =>
      obtain ⟨l', e1, ow⟩ := z
      obtain ⟨vs, q, q2⟩ := ow.at_
      refine ⟨l', e1, ⟨vs, ?_, q2⟩, ow.g, ow.r⟩
      have ne : l' ≠ l := fun z => no i (z ▸ ⟨⟨ds, h⟩, e1⟩)
      rw [hide_ne ne]
      exact q
  ap := S.ap
/-- the same heap, the new list not yet there -/
theorem hid {b' : Nat} {R' : List Addr} {G' H' : Hp} {l : Addr} {ds : List PyData} {vs : List V} (S : St C b R G σ H e) (s : Stp R G H R' G' H') (S' : St C b' R' G' σ H' e) (n0 : H l = none) (o : Own C R' G' H' l ds) (hv : H' l = some (.lst vs)) :
    St C b' R' G' σ (hide H' l) e ∧ Stp R G H R' G' (hide H' l) ∧ Stp R' G' (hide H' l) R' G' H' ∧ Stp R' G' (hide H' l) R' (upd G' l (.lst vs)) H' := by
  have no : ∀ i, ¬ Opn σ e i l := fun i op => by
    obtain ⟨⟨u, hu⟩, _⟩ := S.opn_some op
    rw [n0] at hu
    cases hu
  have k : ∀ a u, hide H' l a = some u → a ∉ R' → H' a = some u := fun a u h _ => by
    have ne : a ≠ l := ne_of_none h hide_self
    rw [hide_ne ne] at h
    exact h
  have hn : ∀ a, H' a = none → hide H' l a = none := fun a z => by
    unfold TC.hide
    split
    · rfl
    · exact z
  refine ⟨S'.hide o.g o.r no, ⟨s.g, fun a u h n => ?_, s.r, s.o, fun a z => ?_⟩, ⟨fun _ _ z => z, k, fun _ z => .inl z, fun _ _ _ _ z => z, hn⟩, ⟨fun a u q => ?_, k, fun _ z => .inl z, fun a u h _ z => ?_, hn⟩⟩
  · have ne : a ≠ l := ne_of_none h n0
    rw [hide_ne ne]
    exact s.k a u h n
  · by_cases c : a = l
    · rw [c]
      exact n0
    · rw [hide_ne c] at z
      exact s.h a z
  · have ne : a ≠ l := ne_of_none q o.g
    rw [upd_ne ne]
    exact q
  · have ne : a ≠ l := ne_of_none h hide_self
    rw [upd_ne ne]
    exact z
/-- a function's promise, from what it computes on plain data -/
theorem call_run {α : Type} {j : Nat} {ws : List Wd} {vs : List V} {Q : VK} {f : FR → Comp α} {k : Nat → List Addr → Hp → Hp → α → Prop} (S : St C b R G σ H e) (r : Reps C G vs ws)
    (h : Run C W σ e b R G H (C.cl j ws) fun b' R' G' H' fr => Run C W σ e b' R' G' H' (f fr) k)
    (m : ∀ b' R' G' H' v fr, Stp R G H R' G' H' → St C b' R' G' σ H' e → RetOk C H R' G' H' v fr → (∀ R2 G2 H2, Stp R G H R2 G2 H2 → St C b' R2 G2 σ H2 e → Run C W σ e b' R2 G2 H2 (f fr) k) → Q v H') : spU C j vs H Q (fun cls d H2 => W cls d σ H2) :=
  ⟨b, R, G, ws, S.bs, r, Comp.wp_mono h (fun b' fr q R' G' H' v s B ro => m b' R' G' H' v fr s (S.stp s B) ro q)
    fun b' x q R' G' H' cls d s B ex => q R' G' H' cls d s (S.stp s B) ex⟩
/-- what a function hands back, from here on kept -/
theorem frz_run {Q : VK} {fr : FR} {v : V} {b0 : Nat} {R0 : List Addr} {G0 H0 : Hp} (S0 : St C b0 R0 G0 σ H0 e) (s : Stp R0 G0 H0 R G H) (S : St C b R G σ H e) (ro : RetOk C H0 R G H v fr)
    (h : ∀ R2 G2 H2, Stp R0 G0 H0 R2 G2 H2 → St C b R2 G2 σ H2 e → Run C W σ e b R2 G2 H2 (frC fr) (KW C Q)) : Q v H := by
  cases fr with
  | fz w => exact Run.ret S (h R G H s S) v ro
  | ow ds =>
    obtain ⟨l, rfl, n0, o⟩ := ro
    obtain ⟨vs, hv, dv⟩ := o.at_
    obtain ⟨S3, s3, _, st⟩ := hid S0 s S n0 o hv
    have B := S.bs.freeze hv o.r
    exact h R G _ s3 S3 R _ H st (S3.stp st B) (.ref l) (.lst (.inl upd_same) (st.g.dps dv))
theorem e_call (hX : XOk C W X) {j : Nat} {x : Str} {es : Es} {pf p : Pos} (hg : glB X.env.scope x = true) (hf : C.ck.fns[j]? = some x) (ha : PA X es.em (tWs C W (es.evW C.cl))) : PE X (Ee.call j x pf es p).em (tX C W ((Ee.call j x pf es p).ev C.cl)) := by
  obtain ⟨f, fd, ps, hm, hk, hb, F⟩ := hX.m.fn j x hf
  have fin : ∀ σ H Q, tX C W ((Ee.call j x pf es p).ev C.cl) σ H Q → tCallW (spU C j) W (tWs C W (es.evW C.cl)) σ H Q := fun σ H Q ⟨b, R, G, e, S, h⟩ =>
    ⟨b, R, G, e, S, (Run.bind h).mono fun b1 R1 G1 H1 ws s1 S1 q vs r => call_run S1 r q.bind fun b2 R2 G2 H2 v fr s2 S2 ro q2 => frz_run S1 s2 S2 ro q2⟩
  cases es with
  | nil =>
    exact peM (pe_callG0 F hX.gu hX.room (gl_of hg) hm hk hb hX.tk (nmB hg).2) fun σ H Q h => by
      obtain ⟨b, R, G, e, S, h⟩ := fin σ H Q h
      exact Run.ret S h [] trivial
  | cons a es => exact peM (pe_callG F hX.gu hX.room (gl_of hg) hm hk hb hX.tk ha (nmB hg).2 (star_of a.head _ _) (Es.star es _ _)) fin
/-! ### the script's length -/
theorem e_lns (hX : XOk C W X) {i : Nat} {x : Str} {px pf p : Pos} (hN : X.N[i]? = some x) (hv : visB X.env.scope x = true) (hg : glB X.env.scope "len" = true) : PE X (Ee.lns i x px pf p).em (tX C W ((Ee.lns i x px pf p).ev C.cl)) :=
  peM (pe_callB call_len_seq (gl_of hg) (blt_none hX (by decide +kernel)) boot_len (pa_1 (e_var hX (p := px) hN hv) rfl) (nmB hg).1 (nmB hg).2 rfl (by rfl)) fun σ H Q ⟨b, R, G, e, S, h⟩ => tX.of S (Run.bind h) fun b1 R1 G1 H1 w v s1 S1 r1 q => by
    rw [hX.m.hK]
    cases w with
    | scr n =>
      obtain ⟨a, xs, rfl, h2, rfl⟩ := r1
      exact ⟨a, xs, rfl, .inl (h2.imp S1.bs.sub.rd id), Run.ret S1 q (.int _) (.int _)⟩
    | _ => exact q.elim
/-! ### a draw -/
theorem e_drw (hX : XOk C W X) {x : Str} {m a : Ee} {pf p : Pos} (hg : glB X.env.scope x = true) (hd : x = C.ck.dn) (hm : PE X m.em (tX C W (m.ev C.cl))) (ha : PE X a.em (tX C W (a.ev C.cl))) : PE X (Ee.drw x pf m a p).em (tX C W ((Ee.drw x pf m a p).ev C.cl)) := by
  subst hd
  obtain ⟨f, fd, ps, hmg, hk, hb, F⟩ := hX.m.drw
  refine peM (pe_callG F hX.gu hX.room (gl_of hg) hmg hk hb hX.tk (pa_2 hm ha m.head a.head) (nmB hg).2 (star_of m.head _ _) (star2 (a := m.em) a.head _ _)) fun σ H Q ⟨b, R, G, e, S, h⟩ => ?_
  refine tX.of S (Run.bind h) fun b1 R1 G1 H1 w v s1 S1 r1 q => tX.of S1 q.bind.dD fun b2 R2 G2 H2 w2 v2 s2 S2 r2 ⟨y, ew, q2⟩ => ?_
  subst ew
  cases w with
  | d x => cases y <;> exact q2.elim
  | scr n => cases y <;> exact q2.elim
  | rng =>
    cases y <;> first | exact q2.elim | skip
    cases r2
    obtain ⟨c, rfl, h1, h2, h3⟩ := q2
    obtain rfl : v = .ref C.am := r1
    refine ⟨c, R2, G2, _, S2.bs, rfl, h1, h2, fun r R3 H3 r0 r1 s3 B3 => ?_⟩
    exact h3 r r0 r1 R3 G2 H3 s3 (S2.stp s3 B3) (.int r) (.int r)
end
end TC

set_option Elab.async false
set_option linter.all false
set_option maxRecDepth 100000
set_option maxHeartbeats 2000000
namespace TC
open PySem L2 PySem.Spec
section
variable {C : Ctx} {W : WX} {X : Cx} {σ : L2.St} {e : En} {b : Nat} {R : List Addr} {G H : Hp}
/-! ### new lists -/
theorem rd_obj {pins : List (Addr × Obj)} {s : Shared} {l : Addr} {xs : List V} (I : Inv X pins σ H s) (h : Rd H l (.lst xs)) : ∃ (its : List Value) (n : Nat), Vals xs its ∧ xs.length = its.length ∧ xs.length ≤ sizeLine ∧ s.heap.get? l = some { cls := .type "list", data := .seq its.toArray n } := by
  obtain ⟨z, its, n, r, e⟩ := h.ok I.hok
  exact ⟨its, n, r, r.length, z, e⟩
/-- two lists that are read, put together -/
theorem op_catR : OpR X (binaryOp .Add) (fun x y H Q => ∃ l m xs zs, x = .ref l ∧ y = .ref m ∧ Rd H l (.lst xs) ∧ Rd H m (.lst zs) ∧ xs.length + zs.length ≤ sizeLine ∧ ∀ p, H p = none → Q (.ref p) (upd H p (.lst (xs ++ zs)))) := by
  intro pins s σ H x y v u Q I rx ry h
  obtain ⟨l, m, xs, zs, rfl, rfl, h1, h2, hz, q⟩ := h
  cases rx
  cases ry
  obtain ⟨a1, n1, r1, e1, _, g1⟩ := rd_obj I h1
  obtain ⟨a2, n2, r2, e2, _, g2⟩ := rd_obj I h2
  refine PySem.P.add_list g1 g2 ?_ (by rw [List.size_toArray, List.size_toArray, ← e1, ← e2]; exact hz)
  have e3 : a1.toArray ++ a2.toArray = (a1 ++ a2).toArray := by simp
  rw [e3]
  exact ⟨.ref _, _, I.lnew (t' := s.toks) (r1.append r2) (by rw [List.length_append]; exact hz), rfl, q _ I.fresh⟩
theorem limL_run {ds : List PyData} {k : Nat → List Addr → Hp → Hp → List PyData → Prop} (h : Run C W σ e b R G H (limL ds) k) : ds.length ≤ LIM ∧ Run C W σ e b R G H (.ret ds) k := by
  unfold limL at h
  by_cases c : ds.length ≤ LIM
  · rw [if_pos c] at h
    exact ⟨c, h⟩
  · rw [if_neg c] at h
    exact h.elim
theorem f_cat (hX : XOk C W X) {a c : Eb} {p : Pos} (ha : PE X a.em (tB C W (a.ev C.cl))) (hc : PE X c.em (tB C W (c.ev C.cl))) : PE X (Ef.cat a c p).em (tF C W ((Ef.cat a c p).ev C.cl)) :=
  peM (pe_op op_catR ha hc) fun σ H Q ⟨b, R, G, e, S, h⟩ => tB.of S (Run.bind h) fun b1 R1 G1 H1 d v s1 S1 r1 q => tB.of S1 q.bind fun b2 R2 G2 H2 d2 v2 s2 S2 r2 q2 => by
    have r1 := r1.sub s2.g
    have q2 := q2.bind
    cases d <;> first | exact q2.elim | skip
    have q3 := Run.bind (Run.ret S2 q2)
    cases d2 <;> first | exact q3.elim | skip
    obtain ⟨c, q4⟩ := limL_run (Run.ret S2 q3)
    obtain ⟨l, vs, rfl, h1, d1⟩ := r1.lst S2
    obtain ⟨l2, vs2, rfl, h2, d2⟩ := r2.lst S2
    refine ⟨l, l2, vs, vs2, rfl, rfl, h1, h2, ?_, fun l hl => endF S2 q4 (dps_append d1 d2) l hl⟩
    rw [List.length_append] at c
    rw [dps_length d1, dps_length d2]
    exact lim_line c
theorem f_call (hX : XOk C W X) {j : Nat} {x : Str} {es : Es} {pf p : Pos} (hg : glB X.env.scope x = true) (hf : C.ck.fns[j]? = some x) (ha : PA X es.em (tWs C W (es.evW C.cl))) : PE X (Ef.call j x pf es p).em (tF C W ((Ef.call j x pf es p).ev C.cl)) := by
  obtain ⟨f, fd, ps, hm, hk, hb, F⟩ := hX.m.fn j x hf
  have fin : ∀ σ H Q, tF C W ((Ef.call j x pf es p).ev C.cl) σ H Q → tCallW (spU C j) W (tWs C W (es.evW C.cl)) σ H Q := fun σ H Q ⟨b, R, G, e, S, h⟩ =>
    ⟨b, R, G, e, S, (Run.bind h).mono fun b1 R1 G1 H1 ws s1 S1 q vs r => call_run S1 r q.bind fun b2 R2 G2 H2 v fr s2 S2 ro q => by
      cases fr with
      | fz w => exact (q R2 G2 H2 s2 S2).elim
      | ow ds =>
        obtain ⟨l, rfl, n0, o⟩ := ro
        obtain ⟨vs, hv, dv⟩ := o.at_
        obtain ⟨S3, s3, st, _⟩ := hid S1 s2 S2 n0 o hv
        exact Run.ret S3 (q R2 G2 _ s3 S3) l H2 hide_self st S2 ⟨vs, hv, dv⟩⟩
  cases es with
  | nil =>
    exact peM (pe_callG0 F hX.gu hX.room (gl_of hg) hm hk hb hX.tk (nmB hg).2) fun σ H Q h => by
      obtain ⟨b, R, G, e, S, h⟩ := fin σ H Q h
      exact Run.ret S h [] trivial
  | cons a es => exact peM (pe_callG F hX.gu hX.room (gl_of hg) hm hk hb hX.tk ha (nmB hg).2 (star_of a.head _ _) (Es.star es _ _)) fin
theorem f_lof (hX : XOk C W X) {a : Eb} {pf p : Pos} (hg : glB X.env.scope "list" = true) (ha : PE X a.em (tB C W (a.ev C.cl))) : PE X (Ef.lof pf a p).em (tF C W ((Ef.lof pf a p).ev C.cl)) :=
  peM (pe_callTy call_list_of (gl_of hg) (blt_none hX (by decide +kernel)) (by decide +kernel) (pa_1 ha a.head) (nmB hg).1 (nmB hg).2 (star1 a _) (by rfl)) fun σ H Q ⟨b, R, G, e, S, h⟩ => tB.of S (Run.bind h) fun b1 R1 G1 H1 d v s1 S1 r q => by
    rw [hX.m.hK]
    cases d <;> first | exact q.elim | skip
    · obtain ⟨l, vs, rfl, h1, h2⟩ := r.lst S1
      exact ⟨_, _, rfl, .inl (.inl h1), fun l hl => endF S1 q h2 l hl⟩
    · cases r.stay fun _ z => nomatch z with
      | tup h1 h2 => exact ⟨_, _, rfl, .inr (S1.bs.sub.sqT h1), fun l hl => endF S1 q h2 l hl⟩
theorem dps_rng (a b : Int) : DqAll C.K G (rgV a b) (rngP a b) := by
  unfold rgV rngP
  generalize List.range (b - a).toNat = l
  induction l with
  | nil => exact .nil
  | cons n l ih => exact .cons (.int _) ih
theorem f_lofr (hX : XOk C W X) {a : Ee} {pf pr pq p : Pos} (hg : glB X.env.scope "list" = true) (hg2 : glB X.env.scope "range" = true) (ha : PE X a.em (tX C W (a.ev C.cl))) : PE X (Ef.lofr pf pr a pq p).em (tF C W ((Ef.lofr pf pr a pq p).ev C.cl)) :=
  peM (pe_listRg hX.calm (gl_of hg) (blt_none hX (by decide +kernel)) (prg_1 (gl_of hg2) (blt_none hX (by decide +kernel)) ha (star_of a.head _ _)) (by rfl)) fun σ H Q ⟨b, R, G, e, S, h⟩ => tX.of S (Run.bind h).dI fun b1 R1 G1 H1 w v s1 S1 r1 ⟨k, ew, q⟩ => by
    subst ew
    cases r1
    by_cases c : (decide (-100000 ≤ k) && decide (k ≤ 100000)) = true
    · have q : Run C W σ e b1 R1 G1 H1 (.ret (rngP 0 k)) (KF C σ e Q) := by rw [if_pos c] at q; exact q
      rw [Bool.and_eq_true, decide_eq_true_eq, decide_eq_true_eq] at c
      exact ⟨k, rfl, ⟨by omega, by omega, by omega, by omega, by omega⟩, fun l hl => endF S1 q (dps_rng 0 k) l hl⟩
    · rw [if_neg c] at q
      exact q.elim
theorem f_slc (hX : XOk C W X) {a : Eb} {lo hi : Eo} {ps p : Pos} (ha : PE X a.em (tB C W (a.ev C.cl))) (hl : PO X lo.em (tO C W (lo.ev C.cl))) (hh : PO X hi.em (tO C W (hi.ev C.cl))) : PE X (Ef.slc a lo hi ps p).em (tF C W ((Ef.slc a lo hi ps p).ev C.cl)) :=
  peM (pe_slice sl_list ha hl hh) fun σ H Q ⟨b, R, G, e, S, h⟩ => tB.of S (Run.bind h) fun b1 R1 G1 H1 d v s1 S1 r1 q => tO.of S1 q.bind fun b2 R2 G2 H2 l s2 S2 q2 => tO.of S2 q2.bind fun b3 R3 G3 H3 u s3 S3 q3 => by
    have r1 := r1.sub (s2.trans s3).g
    have q3 := q3.bind
    cases d <;> first | exact q3.elim | skip
    obtain ⟨a, vs, rfl, h1, h2⟩ := r1.lst S3
    rw [hX.m.hK]
    exact ⟨a, vs, rfl, .inl h1, fun l hl => endF S3 (Run.ret S3 q3) (dps_cut h2 _ _) l hl⟩
theorem f_split (hX : XOk C W X) {o a : Ee} {pa p : Pos} (ho : PE X o.em (tX C W (o.ev C.cl))) (ha : PE X a.em (tX C W (a.ev C.cl))) (hr : o.recv = true) (hl : (pa.endLine == p.line) = true) : PE X (Ef.split o pa a p).em (tF C W ((Ef.split o pa a p).ev C.cl)) :=
  peM (pe_split ho ha (star_of a.head _ _) (base_of (Ee.recv_em hr) _ _) hl) fun σ H Q ⟨b, R, G, e, S, h⟩ => tX.of S (Run.bind h).dD fun b1 R1 G1 H1 w v s1 S1 r1 ⟨x, ew, q⟩ => by
    subst ew
    cases x with
    | str z =>
      cases r1
      refine ⟨⟨_, rfl⟩, tX.of S1 (Run.bind (Run.ret S1 (Run.bind q))).dD fun b2 R2 G2 H2 w2 v2 s2 S2 r2 ⟨y, ew, q2⟩ => ?_⟩
      subst ew
      cases y with
      | str w =>
        cases r2
        have q2 : Run C W σ e b2 R2 G2 H2 (if (w.length != 0) && decide (z.length ≤ LIM) then .ret ((Txt.split z w).map .str) else .stuck) (KF C σ e Q) := q2
        by_cases c : ((w.length != 0) && decide (z.length ≤ LIM)) = true
        · rw [if_pos c] at q2
          rw [Bool.and_eq_true, decide_eq_true_eq] at c
          refine ⟨z, w, rfl, rfl, by simpa using c.1, ?_, fun l hl => ?_⟩
          · have := c.2
            rw [line_num]
            unfold LIM at this
            omega
          · have := dps_of_strs (K := C.K) (G := G2) (Txt.split z w)
            exact endF S2 q2 this l hl
        · rw [if_neg c] at q2
          exact q2.elim
      | _ => exact q2.elim
    | _ => exact (Run.bind q).elim
end
end TC

set_option Elab.async false
set_option linter.all false
set_option maxRecDepth 100000
set_option maxHeartbeats 2000000
namespace TC
open PySem L2 PySem.Spec
section
variable {C : Ctx} {W : WX} {X : Cx} {σ : L2.St} {e : En} {b : Nat} {R : List Addr} {G H : Hp}
/-! ### what is walked -/
/-- an item as it comes: it stays, or it is a new tuple of what stays -/
def Com (C : Ctx) (G H : Hp) (x : V) (H' : Hp) (d : PyData) : Prop :=
  (H' = H ∧ Dq C.K G x d) ∨ ∃ p vs es, H p = none ∧ H' = upd H p (.tup vs) ∧ x = .ref p ∧ d = .tuple es ∧ DqAll C.K G vs es
/-- the walk J yields ds, one after another, while what is frozen at G stands -/
structure Wk (C : Ctx) (J : It) (G : Hp) (ds : List PyData) : Prop where
  go : ∀ i H, i < ds.length → Sub G H → J.go i H
  stop : ∀ i H, ds.length ≤ i → Sub G H → J.stop i H
  yld : ∀ i H x H' d, ds[i]? = some d → Sub G H → J.yld i H x H' → Com C G H x H' d
def tI (C : Ctx) (W : WX) (ev : En → Comp (List PyData)) : TI := fun σ H K => ∃ b R G e, St C b R G σ H e ∧ Run C W σ e b R G H (ev e) fun b' R' G' H' ds => St C b' R' G' σ H' e → ∀ J, Wk C J G' ds → K J H'
theorem piM {X : Cx} {tg : Expr} {e : Expr} {t t' : TI} (h : PI X tg e t) (m : ∀ σ H K, t' σ H K → t σ H K) : PI X tg e t' :=
  ⟨fun pins s σ H K I q => h.run pins s σ H K I (m σ H K q)⟩
theorem piOr {X : Cx} {tg : Expr} {e : Expr} {t t' : TI} (h : PI X tg e t) (h' : PI X tg e t') : PI X tg e (fun σ H K => t σ H K ∨ t' σ H K) :=
  ⟨fun pins s σ H K I q => q.elim (h.run pins s σ H K I) (h'.run pins s σ H K I)⟩
theorem wk_list {a : Addr} {vs : List V} {ds : List PyData} {K : PySem.W.Frag} (h : Rd G a (.lst vs)) (d : DqAll C.K G vs ds) : Wk C (Itl K a) G ds where
  go := fun i H hi s => ⟨vs, vs[i]'(by rw [dps_length d]; exact hi), .inl (s.rd h), List.getElem?_eq_getElem _⟩
  stop := fun i H hi s => ⟨vs, .inl (s.rd h), by rw [dps_length d]; exact hi⟩
  yld := fun i H x H' u e s ⟨q1, q2⟩ => by
    obtain ⟨v, h1, h2⟩ := dps_get d e
    have z := q2 vs (.inl (s.rd h))
    rw [h1] at z
    injection z with z
    subst z
    exact .inl ⟨q1, h2⟩
theorem wk_tup {a : Addr} {vs : List V} {ds : List PyData} (h : SqT C.K G a vs) (d : DqAll C.K G vs ds) : Wk C (Itt C.K a) G ds where
  go := fun i H hi s => ⟨vs, vs[i]'(by rw [dps_length d]; exact hi), s.sqT h, List.getElem?_eq_getElem _⟩
  stop := fun i H hi s => ⟨vs, s.sqT h, by rw [dps_length d]; exact hi⟩
  yld := fun i H x H' u e s ⟨q1, q2⟩ => by
    obtain ⟨v, h1, h2⟩ := dps_get d e
    have z := q2 vs (s.sqT h)
    rw [h1] at z
    injection z with z
    subst z
    exact .inl ⟨q1, h2⟩
theorem wk_str (x : Str) : Wk C (Its x) G (x.cps.toList.map fun c => .str ⟨#[c]⟩) where
  go := fun i H hi _ => by
    rw [List.length_map, Array.length_toList] at hi
    exact hi
  stop := fun i H hi _ => by
    rw [List.length_map, Array.length_toList] at hi
    exact hi
  yld := fun i H v H' u e _ ⟨q1, c, q2, q3⟩ => by
    rw [List.getElem?_map, Array.getElem?_toList, q2] at e
    injection e with e
    subst e q3
    exact .inl ⟨q1, .str _⟩
theorem wk_rng (a b : Int) : Wk C (Itr a (b - a).toNat) G (rngP a b) where
  go := fun i H hi _ => by
    unfold rngP at hi
    rw [List.length_map, List.length_range] at hi
    exact hi
  stop := fun i H hi _ => by
    unfold rngP at hi
    rw [List.length_map, List.length_range] at hi
    exact hi
  yld := fun i H v H' u e _ ⟨q1, q2⟩ => by
    unfold rngP at e
    rw [List.getElem?_map] at e
    obtain ⟨n, h1, h2⟩ := Option.map_eq_some_iff.mp e
    obtain ⟨h3, h4⟩ := List.getElem?_eq_some_iff.mp h1
    rw [List.getElem_range] at h4
    subst h4 h2 q2
    exact .inl ⟨q1, .int _⟩
theorem wk_rgc (a b : Int) : Wk C (Itc a (-1) (a - b).toNat) G (rg3P a b) where
  go := fun i H hi _ => by
    unfold rg3P at hi
    rw [List.length_map, List.length_range] at hi
    exact hi
  stop := fun i H hi _ => by
    unfold rg3P at hi
    rw [List.length_map, List.length_range] at hi
    exact hi
  yld := fun i H v H' u e _ ⟨q1, q2⟩ => by
    unfold rg3P at e
    rw [List.getElem?_map] at e
    obtain ⟨n, h1, h2⟩ := Option.map_eq_some_iff.mp e
    obtain ⟨h3, h4⟩ := List.getElem?_eq_some_iff.mp h1
    rw [List.getElem_range] at h4
    subst h4 h2 q2
    exact .inl ⟨q1, .int _⟩
/-- a list, a tuple or a text is walked -/
theorem pi_any {tg l : Expr} {tl : TE} (hl : PE X l tl) : PI X tg l (fun σ H K => tl σ H fun x H1 => (∃ a xs, x = .ref a ∧ Rd H1 a (.lst xs) ∧ K (Itl X.K a) H1) ∨ (∃ a xs, x = .ref a ∧ SqT X.K H1 a xs ∧ K (Itt X.K a) H1) ∨ (∃ z, x = .str z ∧ K (Its z) H1)) := by
  refine ⟨fun pins s σ H K I h => thn (hl.run pins s σ H _ I h) fun v s1 ⟨x, H1, I1, r1, q1⟩ => ?_⟩
  rcases q1 with ⟨a, xs, rfl, h1, q⟩ | ⟨a, xs, rfl, h1, q⟩ | ⟨z, rfl, q⟩
  · cases r1
    obtain ⟨its, rv, p, hz⟩ := I1.list (.inl h1)
    exact wpAny_pyIter_list p.isList (pi_one (tk := s1.toks) I1 _ (turn_list a _) ⟨_, Heap.get?_push_size _ rfl, rfl, rfl⟩ q)
  · cases r1
    obtain ⟨its, rv, p, hz⟩ := I1.tuple h1
    exact wpAny_pyIter_tuple (show s1.heap.IsTuple a its.toArray from p) (pi_one (tk := s1.toks) I1 _ (turn_tuple a _) ⟨_, Heap.get?_push_size _ rfl, rfl, rfl⟩ q)
  · obtain ⟨t, rfl⟩ := r1
    cases ha : z.cps.all (· < 128)
    · exact wpAny_pyIter_wide ha (pi_one (tk := s1.toks) I1 _ (turn_str _ z t "str_iterator" (.inr rfl)) ⟨_, Heap.get?_push_size _ rfl, rfl, rfl⟩ q)
    · exact wpAny_pyIter_ascii ha (pi_one (tk := s1.toks) I1 _ (turn_str _ z t "str_ascii_iterator" (.inl rfl)) ⟨_, Heap.get?_push_size _ rfl, rfl, rfl⟩ q)
theorem i_seq (hX : XOk C W X) {tg : Expr} {a : Ee} (ha : PE X a.em (tX C W (a.ev C.cl))) : PI X tg (Ei.seq a).em (tI C W ((Ei.seq a).ev C.cl)) :=
  piM (pi_any ha) fun σ H K ⟨b, R, G, e, S, h⟩ => tX.of S (Run.bind h).dD fun b1 R1 G1 H1 w v s1 S1 r1 ⟨x, ew, q⟩ => by
    subst ew
    rw [hX.m.hK]
    cases x with
    | list ds =>
      cases r1 with
      | lst h1 h2 => exact .inl ⟨_, _, rfl, S1.bs.sub.rd h1, Run.ret S1 q S1 _ (wk_list h1 h2)⟩
    | tuple ds =>
      cases r1 with
      | tup h1 h2 => exact .inr (.inl ⟨_, _, rfl, S1.bs.sub.sqT h1, Run.ret S1 q S1 _ (wk_tup h1 h2)⟩)
    | str z =>
      cases r1
      exact .inr (.inr ⟨z, rfl, Run.ret S1 q S1 _ (wk_str z)⟩)
    | _ => exact q.elim
theorem i_rg1 (hX : XOk C W X) {tg : Expr} {a : Ee} {pf p : Pos} (hg : glB X.env.scope "range" = true) (ha : PE X a.em (tX C W (a.ev C.cl))) : PI X tg (Ei.rg1 pf a p).em (tI C W ((Ei.rg1 pf a p).ev C.cl)) :=
  piM (pi_range1 (gl_of hg) (blt_none hX (by decide +kernel)) (pa_1 ha a.head) (star_of a.head _ _)) fun σ H K ⟨b, R, G, e, S, h⟩ => tX.of S (Run.bind h).dI fun b1 R1 G1 H1 w v s1 S1 r1 ⟨k, ew, q⟩ => by
    subst ew
    cases r1
    by_cases c : bigI k = true
    · rw [if_pos c] at q
      unfold bigI at c
      rw [Bool.and_eq_true, decide_eq_true_eq, decide_eq_true_eq] at c
      have z := Run.ret S1 q S1 _ (wk_rng 0 k)
      rw [Int.sub_zero] at z
      exact ⟨k, rfl, by omega, by omega, z⟩
    · rw [if_neg c] at q
      exact q.elim
theorem i_rg2 (hX : XOk C W X) {tg : Expr} {a c : Ee} {pf p : Pos} (hg : glB X.env.scope "range" = true) (ha : PE X a.em (tX C W (a.ev C.cl))) (hc : PE X c.em (tX C W (c.ev C.cl))) : PI X tg (Ei.rg2 pf a c p).em (tI C W ((Ei.rg2 pf a c p).ev C.cl)) :=
  piM (pi_range2 (gl_of hg) (blt_none hX (by decide +kernel)) (pa_2 ha hc a.head c.head) ((star_of a.head _ _).trans (congrArg _ (star_of c.head _ _))) (star_of c.head _ _)) fun σ H K ⟨b, R, G, e, S, h⟩ => tX.of S (Run.bind h).dI fun b1 R1 G1 H1 w v s1 S1 r1 ⟨k, ew, q⟩ => by
    subst ew
    refine tX.of S1 (Run.bind q).dI fun b2 R2 G2 H2 w2 v2 s2 S2 r2 ⟨k2, ew, q⟩ => ?_
    subst ew
    cases r1
    cases r2
    by_cases c : (bigI k && bigI k2) = true
    · rw [if_pos c] at q
      unfold bigI at c
      rw [Bool.and_eq_true, Bool.and_eq_true, Bool.and_eq_true, decide_eq_true_eq, decide_eq_true_eq, decide_eq_true_eq, decide_eq_true_eq] at c
      exact ⟨k, k2, rfl, ⟨by omega, by omega, by omega, by omega⟩, Run.ret S2 q S2 _ (wk_rng k k2)⟩
    · rw [if_neg c] at q
      exact q.elim
theorem i_rg3 (hX : XOk C W X) {tg : Expr} {a c d : Ee} {pf p : Pos} (hg : glB X.env.scope "range" = true) (ha : PE X a.em (tX C W (a.ev C.cl))) (hc : PE X c.em (tX C W (c.ev C.cl))) (hd : PE X d.em (tX C W (d.ev C.cl))) : PI X tg (Ei.rg3 pf a c d p).em (tI C W ((Ei.rg3 pf a c d p).ev C.cl)) :=
  piM (pi_range3 (gl_of hg) (blt_none hX (by decide +kernel)) (pa_cons ha (pa_2 hc hd c.head d.head) (star_of a.head _ _)) (star_of a.head _ _) (by
    rw [star_of c.head, star_of d.head]
    rfl)) fun σ H K ⟨b, R, G, e, S, h⟩ => tX.of S (Run.bind h).dI fun b1 R1 G1 H1 w v s1 S1 r1 ⟨k, ew, q⟩ => by
    subst ew
    refine tX.of S1 (Run.bind q).dI fun b2 R2 G2 H2 w2 v2 s2 S2 r2 ⟨k2, ew, q⟩ => ?_
    subst ew
    refine tX.of S2 (Run.bind q).dI fun b3 R3 G3 H3 w3 v3 s3 S3 r3 ⟨k3, ew, q⟩ => ?_
    subst ew
    cases r1
    cases r2
    cases r3
    by_cases c : rgOkB k k2 k3 = true
    · rw [if_pos c] at q
      unfold rgOkB at c
      rw [Bool.and_eq_true, Bool.and_eq_true, Bool.and_eq_true, Bool.and_eq_true, decide_eq_true_eq, decide_eq_true_eq, decide_eq_true_eq, decide_eq_true_eq, decide_eq_true_eq] at c
      obtain ⟨⟨⟨⟨rfl, c2⟩, c3⟩, c4⟩, c5⟩ := c
      exact ⟨k, k2, -1, (k - k2).toNat, rfl, RgC.neg (by omega) (by omega) (by omega) (by omega), Run.ret S3 q S3 _ (wk_rgc k k2)⟩
    · rw [if_neg c] at q
      exact q.elim
theorem zipw_get {α β γ : Type} (f : α → β → γ) : ∀ {xs : List α} {ys : List β} {i : Nat} {z : γ}, (xs.zipWith f ys)[i]? = some z → ∃ x y, xs[i]? = some x ∧ ys[i]? = some y ∧ z = f x y
  | x :: xs, y :: ys, 0, z, h => ⟨x, y, rfl, rfl, (Option.some.inj h).symm⟩
  | x :: xs, y :: ys, i + 1, z, h => by
    obtain ⟨u, v, h1, h2, h3⟩ := zipw_get f (xs := xs) (ys := ys) (i := i) h
    exact ⟨u, v, h1, h2, h3⟩
  | [], _, _, _, h => by simp at h
  | _ :: _, [], _, _, h => by simp at h
theorem wk_enu {a : Addr} {vs : List V} {ds : List PyData} {K : PySem.W.Frag} (h : Rd G a (.lst vs)) (d : DqAll C.K G vs ds) : Wk C (Ite K a) G (enuP ds) where
  go := fun i H hi s => by
    have hi : i < vs.length := by
      unfold enuP at hi
      rw [List.length_zipWith, List.length_range, Nat.min_self] at hi
      rw [dps_length d]
      exact hi
    exact ⟨vs, vs[i], .inl (s.rd h), List.getElem?_eq_getElem _⟩
  stop := fun i H hi s => by
    unfold enuP at hi
    rw [List.length_zipWith, List.length_range, Nat.min_self] at hi
    exact ⟨vs, .inl (s.rd h), by rw [dps_length d]; exact hi⟩
  yld := fun i H x H' u e s ⟨T, x1, q1, q2, q3, q4⟩ => by
    obtain ⟨n, y, h1, h2, rfl⟩ := zipw_get _ e
    obtain ⟨h3, h4⟩ := List.getElem?_eq_some_iff.mp h1
    rw [List.getElem_range] at h4
    subst h4
    obtain ⟨v, g1, g2⟩ := dps_get d h2
    have z := q4 vs (.inl (s.rd h))
    rw [g1] at z
    injection z with z
    subst z
    exact .inr ⟨T, _, _, q2, q3, q1, rfl, .cons (.int _) (.cons g2 .nil)⟩
theorem wk_enuT {a : Addr} {vs : List V} {ds : List PyData} (h : SqT C.K G a vs) (d : DqAll C.K G vs ds) : Wk C (TZ.ItE C.K a) G (enuP ds) where
  go := fun i H hi s => by
    unfold enuP at hi
    rw [List.length_zipWith, List.length_range] at hi
    have e1 := dps_length d
    exact ⟨vs, vs[i]'(by omega), s.sqT h, List.getElem?_eq_getElem _⟩
  stop := fun i H hi s => by
    unfold enuP at hi
    rw [List.length_zipWith, List.length_range] at hi
    have e1 := dps_length d
    exact ⟨vs, s.sqT h, by omega⟩
  yld := fun i H x H' u e s ⟨T, x1, q1, q2, q3, q4⟩ => by
    obtain ⟨n, y, g1, g2, rfl⟩ := zipw_get _ e
    obtain ⟨v, k1, k2⟩ := dps_get d g2
    have z1 := q4 vs (s.sqT h)
    rw [k1] at z1
    injection z1 with z1
    obtain ⟨hl, g3⟩ := List.getElem?_eq_some_iff.mp g1
    rw [List.getElem_range] at g3
    subst z1 g3
    exact .inr ⟨T, _, _, q2, q3, q1, rfl, .cons (.int _) (.cons k2 .nil)⟩
theorem i_enu (hX : XOk C W X) {elts : List Expr} {kk : Nat} {tpos : Pos} {a : Ee} {pf p : Pos} (hg : glB X.env.scope "enumerate" = true) (ha : PE X a.em (tX C W (a.ev C.cl))) : PI X (.Tuple elts kk tpos) (Ei.enu pf a p).em (tI C W ((Ei.enu pf a p).ev C.cl)) :=
  piM (TZ.pi_one1 (gl_of hg) (blt_none hX (by decide +kernel)) (pa_1 ha a.head) (star_of a.head _ _)) fun σ H K ⟨b, R, G, e, S, h⟩ => tX.of S (Run.bind h).dD fun b1 R1 G1 H1 w v s1 S1 r1 ⟨x, ew, q⟩ => by
    subst ew
    rw [hX.m.hK]
    cases x with
    | list ds =>
      cases r1 with
      | lst h1 h2 => exact ⟨_, .l (.inl (S1.bs.sub.rd h1)), Run.ret S1 q S1 _ (wk_enu h1 h2)⟩
    | tuple ds =>
      cases r1 with
      | tup h1 h2 => exact ⟨_, .t (S1.bs.sub.sqT h1), Run.ret S1 q S1 _ (wk_enuT h1 h2)⟩
    | _ => exact q.elim
theorem wk_zip {a c : Addr} {vs us : List V} {ds es : List PyData} {K : PySem.W.Frag} (h : Rd G a (.lst vs)) (h2 : Rd G c (.lst us)) (d : DqAll C.K G vs ds) (d2 : DqAll C.K G us es) : Wk C (Itz K a c) G (zipP ds es) where
  go := fun i H hi s => by
    unfold zipP at hi
    rw [List.length_zipWith] at hi
    have e1 := dps_length d
    have e2 := dps_length d2
    exact ⟨vs, us, vs[i]'(by omega), us[i]'(by omega), .inl (s.rd h), .inl (s.rd h2), List.getElem?_eq_getElem _, List.getElem?_eq_getElem _⟩
  stop := fun i H hi s => by
    unfold zipP at hi
    rw [List.length_zipWith] at hi
    have e1 := dps_length d
    have e2 := dps_length d2
    exact ⟨vs, us, .inl (s.rd h), .inl (s.rd h2), by omega⟩
  yld := fun i H x H' u e s ⟨T, x1, y1, q1, q2, q3, q4, q5⟩ => by
    obtain ⟨n, y, g1, g2, rfl⟩ := zipw_get _ e
    obtain ⟨v, k1, k2⟩ := dps_get d g1
    obtain ⟨v2, k3, k4⟩ := dps_get d2 g2
    have z := q4 vs (.inl (s.rd h))
    rw [k1] at z
    injection z with z
    have z2 := q5 us (.inl (s.rd h2))
    rw [k3] at z2
    injection z2 with z2
    subst z z2
    exact .inr ⟨T, _, _, q2, q3, q1, rfl, .cons k2 (.cons k4 .nil)⟩
theorem wk_zipT {a c : Addr} {vs us : List V} {ds es : List PyData} (h : SqT C.K G a vs) (h2 : SqT C.K G c us) (d : DqAll C.K G vs ds) (d2 : DqAll C.K G us es) : Wk C (RZ.ItzT C.K a c) G (zipP ds es) where
  go := fun i H hi s => by
    unfold zipP at hi
    rw [List.length_zipWith] at hi
    have e1 := dps_length d
    have e2 := dps_length d2
    exact ⟨vs, us, vs[i]'(by omega), us[i]'(by omega), s.sqT h, s.sqT h2, List.getElem?_eq_getElem _, List.getElem?_eq_getElem _⟩
  stop := fun i H hi s => by
    unfold zipP at hi
    rw [List.length_zipWith] at hi
    have e1 := dps_length d
    have e2 := dps_length d2
    exact ⟨vs, us, s.sqT h, s.sqT h2, by omega⟩
  yld := fun i H x H' u e s ⟨T, x1, y1, q1, q2, q3, q4, q5⟩ => by
    obtain ⟨n, y, g1, g2, rfl⟩ := zipw_get _ e
    obtain ⟨v, k1, k2⟩ := dps_get d g1
    obtain ⟨v2, k3, k4⟩ := dps_get d2 g2
    have z := q4 vs (s.sqT h)
    rw [k1] at z
    injection z with z
    have z2 := q5 us (s.sqT h2)
    rw [k3] at z2
    injection z2 with z2
    subst z z2
    exact .inr ⟨T, _, _, q2, q3, q1, rfl, .cons k2 (.cons k4 .nil)⟩
theorem wk_zs {a : Addr} {vs : List V} {ds : List PyData} {K : PySem.W.Frag} {z : Str} (h : Rd G a (.lst vs)) (d : DqAll C.K G vs ds) : Wk C (TZ.ItS K a z) G (zipP ds (z.cps.toList.map fun c => .str ⟨#[c]⟩)) where
  go := fun i H hi s => by
    unfold zipP at hi
    rw [List.length_zipWith, List.length_map] at hi
    have ez : z.cps.toList.length = z.cps.size := Array.length_toList
    have e1 := dps_length d
    exact ⟨vs, vs[i]'(by omega), .inl (s.rd h), List.getElem?_eq_getElem _, by omega⟩
  stop := fun i H hi s => by
    unfold zipP at hi
    rw [List.length_zipWith, List.length_map] at hi
    have ez : z.cps.toList.length = z.cps.size := Array.length_toList
    have e1 := dps_length d
    exact ⟨vs, .inl (s.rd h), by omega⟩
  yld := fun i H x H' u e s ⟨T, x1, c, q1, q2, q3, q4, q5⟩ => by
    obtain ⟨n, y, g1, g2, rfl⟩ := zipw_get _ e
    obtain ⟨v, k1, k2⟩ := dps_get d g1
    have z1 := q4 vs (.inl (s.rd h))
    rw [k1] at z1
    injection z1 with z1
    rw [List.getElem?_map, Array.getElem?_toList, q5] at g2
    injection g2 with g2
    subst z1 g2
    exact .inr ⟨T, _, _, q2, q3, q1, rfl, .cons k2 (.cons (.str _) .nil)⟩
theorem i_zip (hX : XOk C W X) {elts : List Expr} {kk : Nat} {tpos : Pos} {a c : Ee} {pf p : Pos} (hg : glB X.env.scope "zip" = true) (ha : PE X a.em (tX C W (a.ev C.cl))) (hc : PE X c.em (tX C W (c.ev C.cl))) : PI X (.Tuple elts kk tpos) (Ei.zip pf a c p).em (tI C W ((Ei.zip pf a c p).ev C.cl)) :=
  piM (TZ.pi_two (gl_of hg) (blt_none hX (by decide +kernel)) (pa_2 ha hc a.head c.head) (star_of a.head _ _) (star2 (a := a.em) c.head _ _)) fun σ H K ⟨b, R, G, e, S, h⟩ => tX.of S (Run.bind h).dD fun b1 R1 G1 H1 w v s1 S1 r1 ⟨x, ew, q⟩ => by
    subst ew
    refine tX.of S1 (Run.bind q).dD fun b2 R2 G2 H2 w2 v2 s2 S2 r2 ⟨y, ew, q⟩ => ?_
    subst ew
    have r1 := s2.g.dp (show Dq C.K G1 v x from r1)
    rw [hX.m.hK]
    cases x with
    | list ds =>
      cases y with
      | list es =>
        cases r1 with
        | lst h1 h2 =>
        cases r2 with
        | lst h3 h4 => exact ⟨_, .ll (.inl (S2.bs.sub.rd h1)) (.inl (S2.bs.sub.rd h3)), Run.ret S2 q S2 _ (wk_zip h1 h3 h2 h4)⟩
      | str z =>
        cases r1 with
        | lst h1 h2 =>
        cases r2
        exact ⟨_, .ls (.inl (S2.bs.sub.rd h1)), Run.ret S2 q S2 _ (wk_zs h1 h2)⟩
      | _ => exact q.elim
    | tuple ds =>
      cases y with
      | tuple es =>
        cases r1 with
        | tup h1 h2 =>
        cases r2 with
        | tup h3 h4 => exact ⟨_, .tt (S2.bs.sub.sqT h1) (S2.bs.sub.sqT h3), Run.ret S2 q S2 _ (wk_zipT h1 h3 h2 h4)⟩
      | _ => exact q.elim
    | _ => cases y <;> exact q.elim
end
end TC

set_option Elab.async false
set_option linter.all false
set_option maxRecDepth 100000
set_option maxHeartbeats 2000000
namespace TC
open PySem L2 PySem.Spec
section
variable {C : Ctx} {W : WX} {X : Cx} {σ : L2.St} {e : En} {b : Nat} {R : List Addr} {G H : Hp}
/-! ### slots are set -/
theorem opn_set {k : Nat} {x : Option V} {s : Sl} {i : Nat} {l : Addr} (ns : ∀ ds, s ≠ .ow ds) (o : Opn (σ.set k x) (e.set k s) i l) : i ≠ k ∧ Opn σ e i l := by
  obtain ⟨⟨ds, h1⟩, h2⟩ := o
  have ne : i ≠ k := fun z => by
    subst z
    by_cases c : i < e.length
    · rw [List.getElem?_set_self c] at h1
      exact ns ds (Option.some.inj h1)
    · rw [List.getElem?_eq_none (by rw [List.length_set]; omega)] at h1
      cases h1
  rw [List.getElem?_set_ne (Ne.symm ne)] at h1 h2
  exact ⟨ne, ⟨ds, h1⟩, h2⟩
theorem St.setN {k : Nat} {x : Option V} {s : Sl} (S : St C b R G σ H e) (ns : ∀ ds, s ≠ .ow ds) (ok : SlOk C R G H (some x) s) : St C b R G (σ.set k x) H (e.set k s) where
  bs := S.bs
  len := by rw [List.length_set, List.length_set, S.len]
  sl := fun i sl h => by
    by_cases c : k = i
    · subst c
      by_cases c : k < e.length
      · rw [List.getElem?_set_self c] at h
        obtain rfl := Option.some.inj h
        rw [List.getElem?_set_self (by rw [← S.len]; exact c)]
        exact ok
      · rw [List.getElem?_eq_none (by rw [List.length_set]; omega)] at h
        cases h
    · rw [List.getElem?_set_ne c] at h ⊢
      exact S.sl i sl h
  ap := fun i j l o1 o2 => S.ap i j l (opn_set ns o1).2 (opn_set ns o2).2
theorem St.setF {k : Nat} {v : V} {w : Wd} (S : St C b R G σ H e) (r : Rep C G v w) : St C b R G (σ.set k (some v)) H (e.set k (.fz w)) := S.setN nofun ⟨v, rfl, r⟩
theorem St.setO {k : Nat} {l : Addr} {ds : List PyData} (S : St C b R G σ H e) (o : Own C R G H l ds) (no : ∀ i, ¬ Opn σ e i l) : St C b R G (σ.set k (some (.ref l))) H (e.set k (.ow ds)) where
  bs := S.bs
  len := by rw [List.length_set, List.length_set, S.len]
  sl := fun i sl h => by
    by_cases c : k = i
    · subst c
      by_cases c : k < e.length
      · rw [List.getElem?_set_self c] at h
        obtain rfl := Option.some.inj h
        rw [List.getElem?_set_self (by rw [← S.len]; exact c)]
        exact ⟨l, rfl, o⟩
      · rw [List.getElem?_eq_none (by rw [List.length_set]; omega)] at h
        cases h
    · rw [List.getElem?_set_ne c] at h ⊢
      exact S.sl i sl h
  ap := fun i j m o1 o2 => by
    have at_k : ∀ {i m}, Opn (σ.set k (some (.ref l))) (e.set k (.ow ds)) i m → i = k ∧ m = l ∨ i ≠ k ∧ Opn σ e i m := fun {i m} o => by
      obtain ⟨⟨es, h1⟩, h2⟩ := o
      by_cases c : i = k
      · subst c
        by_cases c : i < σ.length
        · rw [List.getElem?_set_self c] at h2
          injection h2 with h2
          injection h2 with h2
          injection h2 with h2
          exact .inl ⟨rfl, h2.symm⟩
        · rw [List.getElem?_eq_none (by rw [List.length_set]; omega)] at h2
          cases h2
      · rw [List.getElem?_set_ne (Ne.symm c)] at h1 h2
        exact .inr ⟨c, ⟨es, h1⟩, h2⟩
    rcases at_k o1 with ⟨e1, e2⟩ | ⟨e1, q1⟩ <;> rcases at_k o2 with ⟨e3, e4⟩ | ⟨e3, q3⟩
    · rw [e1, e3]
    · exact absurd (e2 ▸ q3) (no j)
    · exact absurd (e4 ▸ q1) (no i)
    · exact S.ap i j m q1 q3
theorem St.wipe (S : St C b R G σ H e) : ∀ vs : List Nat, St C b R G (L2.wipe σ vs) H (wipeE e vs)
  | [] => S
  | v :: vs => (S.wipe vs).setN nofun trivial
/-! ### targets -/
theorem wipe_set {x : Option V} {i : Nat} : ∀ {vs : List Nat}, i ∈ vs → L2.wipe (σ.set i x) vs = L2.wipe σ vs
  | v :: vs, h => by
    unfold L2.wipe
    by_cases c : i ∈ vs
    · rw [wipe_set c]
    · have c2 : i = v := by
        rcases List.mem_cons.mp h with z | z
        · exact z
        · exact absurd z c
      subst c2
      have q : ∀ {us : List Nat}, i ∉ us → L2.wipe (σ.set i x) us = (L2.wipe σ us).set i x := fun {us} => by
        induction us with
        | nil => exact fun _ => rfl
        | cons u us ih =>
          intro n
          have n1 : u ≠ i := fun z => n (z ▸ List.mem_cons_self)
          unfold L2.wipe
          rw [ih fun z => n (List.mem_cons_of_mem _ z), List.set_comm _ _ (Ne.symm n1)]
      rw [q c, List.set_set]
def gTs : Ts → TGs
  | .nil => gNil
  | .cons i _ _ ts => gCons (gName i) (gTs ts)
def gT (K : PySem.W.Frag) : Tt → TG
  | .nm i _ _ => gName i
  | .tp ts _ _ => gTup K ts.len (gTs ts)
theorem ts_each (env : Env) : ∀ ts : Ts, (assignEach ts.em env).length = ts.len ∧ (assignEach ts.em env).findIdx? (·.1) = none
  | .nil => ⟨rfl, rfl⟩
  | .cons i x p ts => by
    obtain ⟨h1, h2⟩ := ts_each env ts
    refine ⟨congrArg (· + 1) h1, ?_⟩
    show List.findIdx? (·.1) ((false, assign (.Name x p) env) :: assignEach ts.em env) = none
    rw [List.findIdx?_cons, h2]
    rfl
theorem pgs_of {sc : Scope} {vs : Option (List Nat)} (hN : X.N.Nodup) (hn : ∀ x, locB sc x = true → Loc X.env.scope x ∧ (X.fn x = true ∨ X.env.scope.names.lookup x = some .local)) : ∀ ts : Ts, ts.ok X.N sc vs = true → PGs X ts.em (gTs ts)
  | .nil, _ => pgs_nil
  | .cons i x p ts, h => by
    unfold Ts.ok at h
    rw [Bool.and_eq_true, Bool.and_eq_true, Bool.and_eq_true] at h
    exact pgs_cons (pg_name hN (slot_of h.1.1.1) (hn x h.1.1.2).1 (hn x h.1.1.2).2) (pgs_of hN hn ts h.2)
theorem pg_of {sc : Scope} {vs : Option (List Nat)} (hc : X.calm = true) (hN : X.N.Nodup) (hn : ∀ x, locB sc x = true → Loc X.env.scope x ∧ (X.fn x = true ∨ X.env.scope.names.lookup x = some .local)) : ∀ t : Tt, t.ok X.N sc vs = true → PG X t.em (gT X.K t)
  | .nm i x p, h => by
    unfold Tt.ok at h
    rw [Bool.and_eq_true, Bool.and_eq_true] at h
    exact pg_name hN (slot_of h.1.1) (hn x h.1.2).1 (hn x h.1.2).2
  | .tp ts k p, h => pg_tup hc (pgs_of hN hn ts h) (ts_each _ ts).1 (ts_each _ ts).2
theorem bindTs_form : ∀ (ts : Ts) (ds : List PyData) (e : En), (∃ e2, bindTs ts ds e = .ret e2) ∨ bindTs ts ds e = .stuck
  | .nil, [], e => .inl ⟨e, rfl⟩
  | .nil, _ :: _, _ => .inr rfl
  | .cons .., [], _ => .inr rfl
  | .cons i _ _ ts, d :: ds, e => bindTs_form ts ds _
theorem bindT_form (t : Tt) (d : PyData) (e : En) : (∃ e2, bindT t d e = .ret e2) ∨ bindT t d e = .stuck := by
  cases t with
  | nm i x p => exact .inl ⟨_, rfl⟩
  | tp ts k p =>
    cases d with
    | tuple ds => exact bindTs_form ts ds e
    | _ => exact .inr rfl
theorem gs_bind {N : List Str} {sc : Scope} {ol : Option (List Nat)} : ∀ {ts : Ts} {ds : List PyData} {e e2 : En} {σ : L2.St} {xs : List V} {Q : L2.St → Hp → Prop}, bindTs ts ds e = .ret e2 → ts.ok N sc ol = true → St C b R G σ H e → DqAll C.K G xs ds →
    (∀ σ2, St C b R G σ2 H e2 → (∀ l, ol = some l → L2.wipe σ2 l = L2.wipe σ l) → Q σ2 H) → gTs ts xs σ H Q ∧ xs.length = ts.len
  | .nil, [], e, e2, σ, xs, Q, h, _, S, r, m => by
    cases r
    injection h with h
    subst h
    exact ⟨⟨rfl, m σ S fun _ _ => rfl⟩, rfl⟩
  | .cons i x p ts, d :: ds, e, e2, σ, xs, Q, h, o, S, r, m => by
    cases r with
    | cons r rs =>
    unfold Ts.ok at o
    rw [Bool.and_eq_true, Bool.and_eq_true, Bool.and_eq_true] at o
    have z := gs_bind (Q := Q) (show bindTs ts ds (e.set i (.fz (.d d))) = .ret e2 from h) o.2 (S.setF (k := i) (w := .d d) r) rs fun σ2 S2 w => m σ2 S2 fun l hl => by
      have oi := o.1.2
      rw [hl] at oi
      rw [w l hl, wipe_set (of_decide_eq_true oi)]
    exact ⟨⟨_, _, rfl, z.1⟩, congrArg (· + 1) z.2⟩
theorem g_bind {N : List Str} {sc : Scope} {ol : Option (List Nat)} {t : Tt} {d : PyData} {e e2 : En} {σ : L2.St} {v : V} {Q : L2.St → Hp → Prop} {K : PySem.W.Frag} (hK : K = C.K) (h : bindT t d e = .ret e2) (o : t.ok N sc ol = true) (S : St C b R G σ H e) (r : Dq C.K G v d)
    (m : ∀ σ2, St C b R G σ2 H e2 → (∀ l, ol = some l → L2.wipe σ2 l = L2.wipe σ l) → Q σ2 H) : gT K t v σ H Q := by
  subst hK
  cases t with
  | nm i x p =>
    unfold Tt.ok at o
    rw [Bool.and_eq_true, Bool.and_eq_true] at o
    injection h with h
    subst h
    exact m _ (S.setF (w := .d d) r) fun l hl => by
      have oi := o.2
      rw [hl] at oi
      exact wipe_set (of_decide_eq_true oi)
  | tp ts k p =>
    cases d with
    | tuple ds =>
      cases r with
      | tup h1 h2 =>
        have z := gs_bind (Q := Q) h o S h2 m
        exact ⟨_, _, rfl, S.bs.sub.sqT h1, z.2, z.1⟩
    | _ => cases h
/-! ### a comprehension -/
theorem wp_nox {α : Type} {Q : Nat → α → Prop} {E : Nat → Exn → Prop} {c : Comp α} {b : Nat} (h : (nox c).wp b Q E) : c.wp b Q fun _ _ => False := Comp.wp_tie.mp h
theorem com_st {H' : Hp} {x : V} {d : PyData} {G0 : Hp} (S : St C b R G σ H e) (s : Sub G0 G) (c : Com C G0 H x H' d) : ∃ G', Stp R G H R G' H' ∧ St C b R G' σ H' e ∧ Dq C.K G' x d := by
  rcases c with ⟨rfl, r⟩ | ⟨p, vs, es, n, rfl, rfl, rfl, r⟩
  · exact ⟨G, .refl, S, s.dp r⟩
  · have st := Stp.new (R := R) (o := .tup vs) n S.bs.sub
    exact ⟨_, st, S.new n, Dq.tup (.inl (.inl upd_same)) (st.g.dps (s.dps r))⟩
theorem Stp.but {R' : List Addr} {G' H' H2 : Hp} {p : Addr} (s : Stp R G H R' G' H') (n : H p = none) (h : ∀ a, a ≠ p → H2 a = H' a) : Stp R G H R' G' H2 :=
  ⟨s.g, fun a o q m => by rw [h a (ne_of_none q n)]; exact s.k a o q m, s.r, s.o, fun a q => by
    by_cases c : a = p
    · rw [c]
      exact n
    · rw [h a c] at q
      exact s.h a q⟩
def tYs (C : Ctx) (W : WX) (ev : En → Comp Bool) : TT := fun σ H Q => ∃ b R G e, St C b R G σ H e ∧ Run C W σ e b R G H (ev e) fun _ _ _ H' t => Q t H'
theorem ys_no : PTs X Eo.no.ems (tYs C W (Eo.no.evT C.cl)) :=
  ⟨fun pins s σ H Q I ⟨b, R, G, e, S, h⟩ => pts_nil.run pins s σ H Q I (Run.ret S h)⟩
theorem ys_so {a : Ee} (h : PT X a.em (tT C W (a.ev C.cl))) : PTs X (Eo.so a).ems (tYs C W ((Eo.so a).evT C.cl)) :=
  ⟨fun pins s σ H Q I ⟨b, R, G, e, S, hr⟩ => (pts_one h).run pins s σ H Q I ⟨b, R, G, e, S, (Run.dB hr).mono fun _ _ _ _ w _ _ ⟨x, ew, q⟩ => ⟨x, ew, q⟩⟩⟩
def noW : WX := fun _ _ _ _ => False
/-- what stays true from turn to turn -/
structure LcI (C : Ctx) (σ : L2.St) (e : En) (f : PyData → Comp (Option PyData)) (Q : VK) (R1 : List Addr) (G1 H1 : Hp) (ds : List PyData) (D : Addr) (i : Nat) (H : Hp) : Prop where
  go : ∃ b R G acc as, St C b R G σ H e ∧ Stp R1 G1 H1 R G H ∧ H D = some (.lst acc) ∧ G D = none ∧ D ∉ R ∧ DqAll C.K G acc as ∧ acc.length ≤ i ∧
    (mapC f (ds.drop i)).wp b (fun b2 rs => ∀ R2 G2 H2, Stp R1 G1 H1 R2 G2 H2 → St C b2 R2 G2 σ H2 e → KF C σ e Q b2 R2 G2 H2 (as ++ rs)) fun _ _ => False
theorem lc_red (hX : XOk C W X) {a : Ee} {t : Tt} {it : Ei} {o : Eo} {own : List (Str × Nat)} {sc2 : Scope} {p : Pos} {N : List Str} (ht : t.ok N sc2 (some (own.map (·.2))) = true) {σ : L2.St} {H : Hp} {Q : VK}
    (h : tF C W ((Ef.lc a t it o own sc2 p).ev C.cl) σ H Q) : tLc (tI C W (it.ev C.cl)) (gT X.K t) (tYs C noW (o.evT C.cl)) (tX C noW (a.ev C.cl)) (own.map (·.2)) σ H Q := by
  obtain ⟨b, R, G, e, S, h⟩ := h
  refine ⟨b, R, G, e, S, (Run.bind h).mono fun b1 R1 G1 H1 ds s1 S1 q _ J wk D n => ?_⟩
  obtain ⟨hl, q⟩ := limL_run (Run.bind q)
  have q := wp_nox (Run.ret S1 q)
  generalize hf : (fun d => (bindT t d (wipeE e (own.map (·.2)))).bind fun e2 => (o.evT C.cl e2).bind fun b => if b then (dD (a.ev C.cl e2)).bind fun y => .ret (some y) else .ret none) = f at q
  have noD : ∀ i, ¬ Opn σ e i D := fun i op => by
    obtain ⟨⟨u, hu⟩, _⟩ := S1.opn_some op
    rw [n] at hu
    cases hu
  refine ⟨fun i m H => m = ds.length - i ∧ i ≤ ds.length ∧ LcI C σ e f Q R1 G1 H1 ds D i H, ⟨ds.length, by simp, Nat.zero_le _, ⟨b1, R1, G1, [], [], S1.opened n, Stp.open n, upd_same, S1.bs.gnone n, S1.bs.rnone n, .nil, Nat.le_refl _, ?_⟩⟩, ?_⟩
  · exact q
  · rintro i m Hc ⟨rfl, hi, ⟨b', R', G', acc, as, S', s', hD, gD, rD, r, la, w⟩⟩
    by_cases hlt : i < ds.length
    · refine .inr ⟨wk.go i Hc hlt fun a o z => S'.bs.sub a o (s'.g a o z), fun H' => LcI C σ e f Q R1 G1 H1 ds D (i + 1) H', fun H' z => ⟨ds.length - (i + 1), by omega, rfl, hlt, z⟩, fun x H' y => ?_⟩
      have hd : ds[i]? = some ds[i] := List.getElem?_eq_getElem hlt
      obtain ⟨G2, s2, S2, rx⟩ := com_st S' s'.g (wk.yld i Hc x H' _ hd (fun a o z => S'.bs.sub a o (s'.g a o z)) y)
      rw [List.drop_eq_getElem_cons hlt] at w
      have w := Comp.wp_bind.mp (show ((f ds[i]).bind fun r => (mapC f (ds.drop (i + 1))).bind fun rs => .ret (consO r rs)).wp _ _ _ from w)
      subst hf
      rcases bindT_form t ds[i] (wipeE e (own.map (·.2))) with ⟨e2, hb⟩ | hb
      · refine g_bind hX.m.hK hb ht (S2.wipe (own.map (·.2))) rx fun σ2 S3 hw => ⟨?_, ?_⟩
        · rw [hw _ rfl]
          generalize own.map (·.2) = vs
          have : ∀ us vs : List Nat, (∀ u ∈ us, u ∈ vs) → L2.wipe (L2.wipe σ us) vs = L2.wipe σ vs := fun us => by
            induction us with
            | nil => exact fun _ _ => rfl
            | cons u us ih =>
              intro vs h
              show L2.wipe ((L2.wipe σ us).set u none) vs = _
              rw [wipe_set (h u List.mem_cons_self), ih vs fun z hz => h z (List.mem_cons_of_mem _ hz)]
          exact this vs vs fun _ h => h
        · have w : ((bindT t ds[i] (wipeE e (own.map (·.2)))).bind fun e2 => (o.evT C.cl e2).bind fun b => if b then (dD (a.ev C.cl e2)).bind fun y => .ret (some y) else .ret none).wp _ _ _ := w
          rw [hb] at w
          have w : Run C noW σ2 e2 b' R' G2 H' ((o.evT C.cl e2).bind fun b => if b then (dD (a.ev C.cl e2)).bind fun y => .ret (some y) else .ret none) _ := Comp.wp_mono (show Comp.wp _ _ _ _ from w) (fun b2 a q R2 G2 H2 _ _ => q) fun _ _ z => z.elim
          refine ⟨b', R', G2, e2, S3, w.bind.mono fun b3 R3 G3 H3 tt s3 S4 w2 => ?_⟩
          have kD : ∀ {R4 G4 H4}, Stp R' G2 H' R4 G4 H4 → H4 D = some (.lst acc) ∧ G4 D = none ∧ D ∉ R4 := fun {R4 G4 H4} s4 => by
            have z := s2.trans s4
            exact ⟨z.k D _ hD rD, z.o D _ hD rD gD, z.notin hD rD⟩
          have back : ∀ {b4 R4 G4 H4 e4 σ4}, Stp R' G2 H' R4 G4 H4 → St C b4 R4 G4 σ4 H4 e4 → St C b4 R4 G4 σ H4 e := fun {b4 R4 G4 H4 e4 σ4} s4 S5 => S'.stp (s2.trans s4) S5.bs
          cases tt with
          | true =>
            rw [if_pos rfl] at w2
            show ite _ _ _
            rw [if_pos rfl]
            refine tX.of S4 w2.bind.dD fun b4 R4 G4 H4 w4 v4 s4 S5 r4 ⟨y, ew, q4⟩ => ?_
            subst ew
            obtain ⟨d1, d2, d3⟩ := kD (s3.trans s4)
            refine ⟨acc, d1, by have := lim_line hl; omega, ⟨b4, R4, G4, acc ++ [v4], as ++ [y], (back (s3.trans s4) S5).write d2 d3 noD, (s'.trans (s2.trans (s3.trans s4))).but n fun a ha => upd_ne ha, upd_same, d2, d3, dps_append ((s2.trans (s3.trans s4)).g.dps r) (.cons r4 .nil), by
              rw [List.length_append]
              exact Nat.succ_le_succ la, ?_⟩⟩
            refine Comp.wp_mono (Comp.wp_bind.mp (Run.ret S5 q4)) (fun b5 rs z R5 G5 H5 s5 S6 => ?_) fun _ _ z => z
            have := z R5 G5 H5 s5 S6
            rw [List.append_assoc]
            exact this
          | false =>
            rw [if_neg (by decide)] at w2
            show ite _ _ _
            rw [if_neg (by decide)]
            obtain ⟨d1, d2, d3⟩ := kD s3
            exact ⟨b3, R3, G3, acc, as, back s3 S4, s'.trans (s2.trans s3), d1, d2, d3, (s2.trans s3).g.dps r, Nat.le_succ_of_le la, Comp.wp_bind.mp (Run.ret S4 w2)⟩
      · have w : ((bindT t ds[i] (wipeE e (own.map (·.2)))).bind fun e2 => (o.evT C.cl e2).bind fun b => if b then (dD (a.ev C.cl e2)).bind fun y => .ret (some y) else .ret none).wp _ _ _ := w
        rw [hb] at w
        exact w.elim
    · have ei : i = ds.length := by omega
      subst ei
      refine .inl ⟨wk.stop _ Hc (Nat.le_refl _) fun a o z => S'.bs.sub a o (s'.g a o z), ?_⟩
      rw [List.drop_length] at w
      obtain ⟨S3, s3, st, _⟩ := hid S1 s' S' n ⟨⟨acc, hD, r⟩, gD, rD⟩ hD
      have z := w R' G' _ s3 S3 D Hc hide_self st S' ⟨acc, hD, ?_⟩
      · exact z
      · rw [List.append_nil]
        exact r
theorem rel_keep {sc sc2 : Scope} {x : Str} {k : NameKind} (hk : k ≠ .free) : sc2.names.lookup x = some k → (relS sc2 sc).names.lookup x = some k := by
  unfold relS
  generalize sc2.names = ns
  induction ns with
  | nil => exact fun h => by cases h
  | cons y ns ih =>
    obtain ⟨n, k'⟩ := y
    intro h
    rw [List.map_cons]
    rw [List.lookup_cons] at h
    cases hx : x == n with
    | true =>
      rw [hx] at h
      injection h with h
      subst h
      have c : (k' == NameKind.free && sc.kind == .function && sc.names.lookup n == some .cell) = false := by
        cases k' <;> first | rfl | exact absurd rfl hk
      show List.lookup x ((if (k' == NameKind.free && sc.kind == .function && sc.names.lookup n == some .cell) = true then (n, NameKind.cell) else (n, k')) :: _) = _
      rw [c, if_neg (by decide), List.lookup_cons, hx]
    | false =>
      rw [hx] at h
      have q := ih h
      show List.lookup x ((if (k' == NameKind.free && sc.kind == .function && sc.names.lookup n == some .cell) = true then (n, NameKind.cell) else (n, k')) :: _) = _
      split <;> (rw [List.lookup_cons, hx]; exact q)
theorem XOk.blk (hX : XOk C W X) (s : Shared) (H : Hp) (D : Addr) (cl : List (Str × Addr)) (fp : List Addr) (sc2 : Scope) : XOk C noW (X.blk s H sc2 (compEnvC sc2 cl D X.env) fp) where
  m := hX.m
  calm := hX.calm
  gu := hX.gu
  room := hX.room
  nd := hX.nd
  tk := fun _ _ ⟨_, _, _, _, _, _, _, _, _, _, _, _, _, _, _, _, z⟩ => z
  own := .never
theorem blk_nm {s : Shared} {H : Hp} {D : Addr} {cl : List (Str × Addr)} {fp : List Addr} {sc2 : Scope} (x : Str) (h : locB sc2 x = true) : Loc (X.blk s H sc2 (compEnvC sc2 cl D X.env) fp).env.scope x ∧ ((X.blk s H sc2 (compEnvC sc2 cl D X.env) fp).fn x = true ∨ (X.blk s H sc2 (compEnvC sc2 cl D X.env) fp).env.scope.names.lookup x = some .local) := by
  have z := loc_of h
  rcases z with z | z
  · have q : (relS sc2 X.env.scope).names.lookup x = some .local := rel_keep (by decide) z
    exact ⟨.inl q, .inr q⟩
  · have q : (relS sc2 X.env.scope).names.lookup x = some .cell := rel_keep (by decide) z
    refine ⟨.inr q, .inl ?_⟩
    show (sc2.names.lookup x == some .cell) = true
    rw [z]
    rfl
end
end TC

set_option Elab.async false
set_option linter.all false
set_option maxRecDepth 100000
set_option maxHeartbeats 2000000
namespace TC
open PySem L2 PySem.Spec
section
variable {C : Ctx} {W : WX} {X : Cx} {σ : L2.St} {e : En} {b : Nat} {R : List Addr} {G H : Hp}
/-- the parts of a comprehension's block -/
structure LcB (C : Ctx) (X : Cx) (a : Ee) (o : Eo) (sc2 : Scope) : Prop where
  te : ∀ (s : Shared) (H : Hp) (D : Addr) (cl : List (Str × Addr)) (fp : List Addr), PE (X.blk s H sc2 (compEnvC sc2 cl D X.env) fp) a.em (tX C noW (a.ev C.cl))
  tt : ∀ (s : Shared) (H : Hp) (D : Addr) (cl : List (Str × Addr)) (fp : List Addr), PTs (X.blk s H sc2 (compEnvC sc2 cl D X.env) fp) o.ems (tYs C noW (o.evT C.cl))
theorem fold_of {it : Ei} (x : Value) (env : Env) : foldedSetIterable it.em env x = pure x := by
  cases it with
  | seq a => cases a <;> first | rfl | (rename_i f; cases f <;> rfl)
  | _ => rfl
theorem f_lc (hX : XOk C W X) {a : Ee} {t : Tt} {it : Ei} {o : Eo} {own : List (Str × Nat)} {sc2 : Scope} {p : Pos} (hb : blkC X.N X.env.scope sc2 own = true) (hi : PI X t.em it.em (tI C W (it.ev C.cl))) (ht : t.ok X.N sc2 (some (own.map (·.2))) = true) (B : LcB C X a o sc2) :
    PE X (Ef.lc a t it o own sc2 p).em (tF C W ((Ef.lc a t it o own sc2 p).ev C.cl)) :=
  peM (pe_lc hX.calm hX.nd hi (blkOk_by hb) (fun s H D cl fp => pg_of (X := X.blk s H sc2 (compEnvC sc2 cl D X.env) fp) hX.calm hX.nd blk_nm t ht) B.tt B.te (fun x => fold_of x _)) fun _ _ _ h => lc_red hX ht h
theorem s_setLc (hX : XOk C W X) {i : Nat} {y : Str} {py : Pos} {a : Ee} {t : Tt} {it : Ei} {o : Eo} {own : List (Str × Nat)} {sc2 : Scope} {p pos : Pos} (hy : X.N[i]? = some y) (hyl : X.env.scope.names.lookup y = some .local)
    (hsw : swapsWith (Ef.lc a t it o own sc2 p).em (some (.Name y py)) pos.line X.env = pure true) (hb : blkC X.N X.env.scope sc2 own = true) (hi : PI X t.em it.em (tI C W (it.ev C.cl))) (ht : t.ok X.N sc2 (some (own.map (·.2))) = true) (B : LcB C X a o sc2) :
    PS X (.Assign [.Name y py] (Ef.lc a t it o own sc2 p).em pos) (fun D σ H => tF C W ((Ef.lc a t it o own sc2 p).ev C.cl) σ H fun x H1 => gName i x σ H1 D.nx) :=
  ⟨fun pins s σ H D I h => (ps_setLc hX.calm hX.nd hy hyl hsw hi (blkOk_by hb) (fun s H D cl fp => pg_of (X := X.blk s H sc2 (compEnvC sc2 cl D X.env) fp) hX.calm hX.nd blk_nm t ht) B.tt B.te (fun x => fold_of x _)).run pins s σ H D I (lc_red hX ht h)⟩
/-! ### how many texts are unlike -/
theorem e_lsc (hX : XOk C W X) {a : Ee} {i : Nat} {x : Str} {pf px pe ps p : Pos} {sc2 : Scope} (hb : blkC X.N X.env.scope sc2 [(x, i)] = true) (hi : slotB X.N i x = true) (hl : locB sc2 x = true) (hv : visB (relS sc2 X.env.scope) x = true) (ha : PE X a.em (tX C W (a.ev C.cl)))
    (hg : glB X.env.scope "len" = true) : PE X (Ee.lsc pf a i x px pe sc2 ps p).em (tX C W ((Ee.lsc pf a i x px pe sc2 ps p).ev C.cl)) := by
  have n := plainNm_of (nm_vis hv)
  refine peM (pe_callB TS.len_met (gl_of hg) (blt_none hX (by decide +kernel)) boot_len (pa_1 (TS.pe_scT hX.calm hX.nd ha (blkOk_by hb) (fun x => fold_of (it := .seq a) x _)
    (fun s H D cl fp => pg_name (X := X.blk s H sc2 (compEnvC sc2 cl D X.env) fp) hX.nd (slot_of hi) (blk_nm x hl).1 (blk_nm x hl).2)
    (fun s H D cl fp => pe_var (X := X.blk s H sc2 (compEnvC sc2 cl D X.env) fp) (slot_of hi) (vis_of hv) n.1 n.2.1)) rfl) (nmB hg).1 (nmB hg).2 rfl (by rfl)) fun σ H Q ⟨b, R, G, e, S, h⟩ => tX.of S (Run.bind h).dD fun b1 R1 G1 H1 w v s1 S1 r1 ⟨d, ew, q⟩ => ?_
  subst ew
  rw [hX.m.hK]
  cases d with
  | tuple ds =>
    have q : Run C W σ e b1 R1 G1 H1 (retD (match strsP ds with | some ys => (if ys.length ≤ 1000 then .ret (.int (TS.cnt ys)) else .stuck) | none => .stuck)) (KW C Q) := q
    cases r1 with
    | tup h1 h2 =>
    cases ez : strsP ds with
    | none => rw [ez] at q; exact q.elim
    | some ys =>
      rw [ez] at q
      rw [dps_strs h2 ez] at h1
      have hq := S1.bs.sub.sqT h1
      have q : Run C W σ e b1 R1 G1 H1 (retD (if ys.length ≤ 1000 then .ret (.int (TS.cnt ys)) else .stuck)) (KW C Q) := q
      by_cases c : ys.length ≤ 1000
      · rw [if_pos c] at q
        exact ⟨_, rfl, ⟨_, hq⟩, _, ys, rfl, hq, c, fun D nD => ⟨D, ys, rfl, upd_same, c, q R1 G1 _ (Stp.open nD) (S1.opened nD) (.int _) (.int _)⟩⟩
      · rw [if_neg c] at q
        exact q.elim
  | _ => exact q.elim
/-- a list that is read, so many times -/
theorem op_repR : OpR X (binaryOp .Mult) (fun x y H Q => ∃ l k xs, x = .ref l ∧ y = .int k ∧ Rd H l (.lst xs) ∧ 0 ≤ k ∧ k < 2 ^ 63 ∧ xs.length * k.toNat ≤ sizeLine ∧ ∀ p, H p = none → Q (.ref p) (upd H p (.lst (List.replicate k.toNat xs).flatten))) := by
  intro pins s σ H x y v u Q I rx ry h
  obtain ⟨l, k, xs, rfl, rfl, hH, k0, k1, kz, q⟩ := h
  cases rx
  obtain ⟨tk, rfl⟩ := ry
  obtain ⟨us, m, rv, el, _, ob⟩ := rd_obj I hH
  have z1 : us.toArray.size * k.toNat ≤ sizeLine := by rw [List.size_toArray, ← el]; exact kz
  have z2 : ¬ us.toArray.size * k.toNat > (2 ^ 63 - 1) / 8 := by
    have z3 : (sizeLine : Nat) ≤ (2 ^ 63 - 1) / 8 := by decide
    omega
  have z4 : ¬ (!Builtin.List.listFitsIndex k) = true := by rw [fitsIndex_both (by omega) k1]; exact nofun
  have z5 : ¬ Builtin.List.listTooLong (us.toArray.size * k.toNat) = true := by rw [notLongL z1]; exact nofun
  have z6 : List.foldl (fun x1 x2 => x1 ++ x2) #[] (List.replicate (if us.toArray.isEmpty = true then 0 else k.toNat) us.toArray) = (List.replicate k.toNat us).flatten.toArray := by
    have z7 : ∀ j : Nat, List.foldl (fun x1 x2 => x1 ++ x2) #[] (List.replicate j us.toArray) = (List.replicate j us).flatten.toArray := fun j => by
      have z8 := foldl_rep us j []
      rwa [List.nil_append] at z8
    rw [z7]
    cases us with
    | nil => simp
    | cons a r => rw [if_neg (by simp)]
  refine wpAny_binaryOp_repeat_ref (T := "list") (U := "int") (by decide) ⟨_, ob, rfl⟩ (fun s' => typeIs_int s' k tk) noFill_list_mul F.fills_int_mul F.slot_int_rmul repeat_list F.slot_int_index.lookup
    (call_meets F.slot_int_rmul (typeIs_int s k tk) F.entry_int_rmul (F.args_int_rmul_2 _ _) (int___rmul___int_list k tk l us.toArray m)
      ⟨ob, rfl, ⟨_, ob, rfl⟩, call_meets F.slot_list_mul ⟨_, ob, rfl⟩ F.entry_list_mul (F.args_list_mul_2 _ _) (AutoListH.list___mul___list_int_3 l us.toArray m k tk z4 z2 z5) ⟨ob, ?_⟩⟩)
  rw [z6]
  refine ⟨.ref _, _, I.lnew (t' := s.toks) (rv.rep k.toNat) ?_, rfl, q _ I.fresh⟩
  rw [PyProof.Rows.lm_len_rep_flat, Nat.mul_comm]
  exact kz
theorem f_rep (hX : XOk C W X) {a : Eb} {n : Ee} {p : Pos} (ha : PE X a.em (tB C W (a.ev C.cl))) (hn : PE X n.em (tX C W (n.ev C.cl))) : PE X (Ef.rep a n p).em (tF C W ((Ef.rep a n p).ev C.cl)) :=
  peM (pe_op op_repR ha hn) fun σ H Q ⟨b, R, G, e, S, h⟩ => tB.of S (Run.bind h) fun b1 R1 G1 H1 d v s1 S1 r1 q => tX.of S1 q.bind.dD fun b2 R2 G2 H2 w v2 s2 S2 r2 ⟨y, ew, q2⟩ => by
    subst ew
    have r1 := r1.sub s2.g
    cases d with
    | list xs =>
      cases y with
      | int k =>
        have q2 : Run C W σ e b2 R2 G2 H2 (if decide (0 ≤ k) && decide (k ≤ 1000) && decide (xs.length ≤ 100) then .ret (List.replicate k.toNat xs).flatten else .stuck) (KF C σ e Q) := q2
        by_cases c : (decide (0 ≤ k) && decide (k ≤ 1000) && decide (xs.length ≤ 100)) = true
        · rw [if_pos c] at q2
          rw [Bool.and_eq_true, Bool.and_eq_true, decide_eq_true_eq, decide_eq_true_eq, decide_eq_true_eq] at c
          obtain ⟨l, vs, rfl, h1, d1⟩ := r1.lst S2
          cases r2
          refine ⟨l, k, vs, rfl, rfl, h1, c.1.1, by omega, ?_, fun l hl => endF S2 q2 (dps_rep d1 _) l hl⟩
          rw [dps_length d1]
          have : xs.length * k.toNat ≤ 100 * 1000 := Nat.mul_le_mul c.2 (by omega)
          have := line_num
          omega
        · rw [if_neg c] at q2
          exact q2.elim
      | _ => exact q2.elim
    | _ => exact q2.elim
end
end TC

set_option Elab.async false
set_option linter.all false
set_option maxRecDepth 100000
set_option maxHeartbeats 4000000
namespace TC
open PySem L2 PySem.Spec PyProof.Rows
/-! ### comprehensions of many clauses -/
section
variable {elt : Expr} {gs : List Comprehension} {scope : Scope} {pos : Pos} {it acc : Value} {env : Env} {d : Nat} {t0 i0 t1 i1 : Expr} {f0 f1 : List Expr}
theorem turn_mid (h : gs[d]? = some ⟨t0, i0, f0, 0⟩) (h1 : gs[d + 1]? = some ⟨t1, i1, f1, 0⟩) : compTurn (.ListComp elt gs scope pos) d it acc env = (do
    standAt i0.pos
    match ← pyNext it with
    | none => pure (.done .next)
    | some u =>
      letOwnedTupleGo t0 it u
      assign t0 env u
      let mut go := true
      for c in f0 do
        if go then go ← isTrue c env (eval c env)
      if go then
        let src ← eval i1 env
        standAt i1.pos
        let src ← foldedSetIterable i1 env src
        let _ ← runOwn (.compStart (.ListComp elt gs scope pos) (d + 1) (← holding [src] (pyIter src)) acc env) env
      again (.compLoop (.ListComp elt gs scope pos) d it acc env)) := by
  unfold compTurn
  simp only [h, h1]
  rfl
theorem turn_last (h : gs[d]? = some ⟨t0, i0, f0, 0⟩) (h1 : gs[d + 1]? = none) : compTurn (.ListComp elt gs scope pos) d it acc env = (do
    standAt i0.pos
    match ← pyNext it with
    | none => pure (.done .next)
    | some u =>
      letOwnedTupleGo t0 it u
      assign t0 env u
      let mut go := true
      for c in f0 do
        if go then go ← isTrue c env (eval c env)
      if go then
        (do let _ ← call (.builtin "list.append") [acc, ← eval elt env])
      again (.compLoop (.ListComp elt gs scope pos) d it acc env)) := by
  unfold compTurn
  simp only [h, h1]
  rfl
variable {prog : Program} {w : World} {A : Around} {R : Result → Shared → Prop} {s : Shared}
abbrev noX : Value → Shared → Prop := fun _ _ => False
abbrev testsOf (ifs : List Expr) (env : Env) : Sem Bool := forIn ifs true fun c r => if r = true then do let ok ← isTrue c env (eval c env); pure (ForInStep.yield ok) else pure (ForInStep.yield r)
/-- one turn, up to what follows the tests -/
def TurnOf (prog : Program) (w : World) (A : Around) (R : Result → Shared → Prop) (t0 : Expr) (f0 : List Expr) (it : Value) (env : Env) (next : Shared → Prop) (again : Shared → Prop) (s : Shared) : Prop :=
  wpAny (model prog w) A (pyNext it) (fun r s1 => match r with
    | none => R (.ok .next) s1
    | some u => wpAny (model prog w) A (letOwnedTupleGo t0 it u) (fun _ s2 => wpAny (model prog w) A (assign t0 env u) (fun _ s3 => wpAny (model prog w) A (testsOf f0 env) (fun ok s4 => if ok = true then next s4 else again s4) noX s3) noX s2) noX s1) noX s
theorem loop_mid (h : gs[d]? = some ⟨t0, i0, f0, 0⟩) (h1 : gs[d + 1]? = some ⟨t1, i1, f1, 0⟩) (hs : ∀ x, foldedSetIterable i1 env x = pure x) (I : Nat → Shared → Prop)
    (turn : ∀ n s, I n s → TurnOf prog w A R t0 f0 it env (fun s4 => wpAny (model prog w) A (eval i1 env) (fun x s5 => wpAny (model prog w) A (pyIter x) (fun it1 s6 =>
      codeAny (model prog w) A (.compStart (.ListComp elt gs scope pos) (d + 1) it1 acc env) (fun r s' => match r with
        | .ok _ => ∃ m, m < n ∧ I m s'
        | .error _ => False) s6) noX s5) noX s4) (fun s4 => ∃ m, m < n ∧ I m s4) s) (n : Nat) (hI : I n s) : codeAny (model prog w) A (.compLoop (.ListComp elt gs scope pos) d it acc env) R s := by
  refine codeAny_loop rfl I (fun n s hI => ?_) n hI
  show wpAny _ A ((compTurn (.ListComp elt gs scope pos) d it acc env).onRaise (fun x => do noteFrame x env; theTreesLotGoes x)) _ _ s
  refine wpAny_noted ?_
  rw [turn_mid h h1]
  refine wpAny_bind (wpAny_standAt (wpAny_bind (thnF (turn n s hI) fun r s1 k1 => ?_)))
  cases r with
  | none => exact wpAny_pure k1
  | some u =>
    refine wpAny_bind (thnF k1 fun _ s2 k2 => wpAny_bind (thnF k2 fun _ s3 k3 => wpAny_bind (thnF k3 fun ok s4 k4 => ?_)))
    cases ok with
    | false => exact wpAny_pure ⟨rfl, k4⟩
    | true =>
      refine wpAny_bind (thnF k4 fun src s5 k5 => ?_)
      refine wpAny_bind (wpAny_standAt (wpAny_bind (wpAny_of_eq (hs src) (wpAny_bind (wpAny_holding (thnF k5 fun it1 s6 k6 => ?_))))))
      refine wpAny_bind (wpAny_runOwn ?_)
      rw [Around.mark_none]
      refine codeAny_mono k6 fun r s7 k7 => ?_
      cases r with
      | error e => exact k7.elim
      | ok f => first | exact wpAny_pure ⟨rfl, k7⟩ | exact wpAny_bind (wpAny_pure (wpAny_pure ⟨rfl, k7⟩))
theorem loop_last (h : gs[d]? = some ⟨t0, i0, f0, 0⟩) (h1 : gs[d + 1]? = none) (I : Nat → Shared → Prop)
    (turn : ∀ n s, I n s → TurnOf prog w A R t0 f0 it env (fun s4 => wpAny (model prog w) A (eval elt env) (fun x s5 => wpAny (model prog w) A (call (.builtin "list.append") [acc, x]) (fun _ s6 => ∃ m, m < n ∧ I m s6) noX s5) noX s4) (fun s4 => ∃ m, m < n ∧ I m s4) s)
    (n : Nat) (hI : I n s) : codeAny (model prog w) A (.compLoop (.ListComp elt gs scope pos) d it acc env) R s := by
  refine codeAny_loop rfl I (fun n s hI => ?_) n hI
  show wpAny _ A ((compTurn (.ListComp elt gs scope pos) d it acc env).onRaise (fun x => do noteFrame x env; theTreesLotGoes x)) _ _ s
  refine wpAny_noted ?_
  rw [turn_last h h1]
  refine wpAny_bind (wpAny_standAt (wpAny_bind (thnF (turn n s hI) fun r s1 k1 => ?_)))
  cases r with
  | none => exact wpAny_pure k1
  | some u =>
    refine wpAny_bind (thnF k1 fun _ s2 k2 => wpAny_bind (thnF k2 fun _ s3 k3 => wpAny_bind (thnF k3 fun ok s4 k4 => ?_)))
    cases ok with
    | false => exact wpAny_pure ⟨rfl, k4⟩
    | true => exact wpAny_bind (wpAny_bind (thnF k4 fun x s5 k5 => wpAny_bind (thnF k5 fun _ s6 k6 => wpAny_pure (wpAny_pure ⟨rfl, k6⟩))))
theorem start_mid (h : gs[d]? = some ⟨t0, i0, f0, 0⟩) (h0 : codeAny (model prog w) A (.compLoop (.ListComp elt gs scope pos) d it acc env) R s)
    (hi : wpAny (model prog w) A (pyIter it) (fun it' s' => codeAny (model prog w) A (.compLoop (.ListComp elt gs scope pos) d it' acc env) R s') (notedBy (model prog w) A env fun x s' => R (.error x) s') s) :
    codeAny (model prog w) A (.compStart (.ListComp elt gs scope pos) d it acc env) R s := by
  have hc : (clausesOf (.ListComp elt gs scope pos))[d]? = some ⟨t0, i0, f0, 0⟩ := h
  refine codeAny_of_tree ?_
  show wpAny _ _ ((compStart (.ListComp elt gs scope pos) d it acc env).onRaise (fun x => do noteFrame x env; standAt theWindowsPlace)) _ _ s
  refine wpAny_notedAt ?_
  unfold compStart
  rw [hc]
  show wpAny _ _ (ask >>= _) _ _ s
  refine wpAny_bind (wpAny_askSetting (wpAny_ite ?_))
  split
  · first
      | exact wpAny_bind (wpAny_pure (wpAny_pure (And.intro rfl h0)))
      | exact wpAny_pure (And.intro rfl h0)
  · refine wpAny_bind (wpAny_rule ?_)
    show wpAny _ _ (standAt i0.pos >>= _) _ _ s
    exact wpAny_bind (wpAny_standAt (wpAny_bind (wpAny_mono hi (fun it' s' k => wpAny_pure (And.intro rfl k)) fun _ _ x => x)))
end
end TC

set_option Elab.async false
set_option linter.all false
set_option maxRecDepth 100000
set_option maxHeartbeats 4000000
namespace TC
open PySem L2 PySem.Spec PyProof.Rows
/-- a clause with its readings -/
structure Cr where
  t : Expr
  i : Expr
  ifs : List Expr
  wi : TI
  g : TG
  tt : TT
  vs : List Nat
def Cr.c (c : Cr) : Comprehension := ⟨c.t, c.i, c.ifs, 0⟩
def allV : List Cr → List Nat
  | [] => []
  | c :: cs => c.vs ++ allV cs
structure CrOk (X : Cx) (c : Cr) : Prop where
  pi : PI X c.t c.i c.wi
  pg : PG X c.t c.g
  pt : PTs X c.ifs c.tt
  hs : ∀ x, foldedSetIterable c.i X.env x = pure x
/-- the loop of clause c: V the slots that it and what is within it set, Nx what it is to reach, bd what a turn does -/
def LoopR (c : Cr) (V : List Nat) (bd : L2.St → Hp → (Hp → Prop) → Prop) (J : It) (σ : L2.St) (H : Hp) (Nx : Hp → Prop) : Prop :=
  ∃ W1 : Nat → Nat → Hp → Prop, (∃ m, W1 0 m H) ∧ ∀ j k H, W1 j k H → (J.stop j H ∧ Nx H) ∨ (J.go j H ∧ ∃ N1 : Hp → Prop, (∀ H', N1 H' → ∃ k', k' < k ∧ W1 (j + 1) k' H') ∧
    ∀ x H', J.yld j H x H' → c.g x (L2.wipe σ V) H' fun σ3 H5 => L2.wipe σ3 V = L2.wipe σ V ∧ c.tt σ3 H5 fun b H6 => if b = true then bd σ3 H6 N1 else N1 H6)
/-- what stands within the clauses cs -/
def tIn (te : TE) (D : Addr) : List Cr → L2.St → Hp → (Hp → Prop) → Prop
  | [], σ, H, Nx => te σ H fun y H7 => ∃ acc, H7 D = some (.lst acc) ∧ acc.length < sizeLine ∧ Nx (upd H7 D (.lst (acc ++ [y])))
  | c :: cs, σ, H, Nx => c.wi σ H fun J H4 => LoopR c (c.vs ++ allV cs) (tIn te D cs) J σ H4 Nx
theorem pin_add {X : Cx} {pins : List (Addr × Obj)} {σ : L2.St} {H : Hp} {s : Shared} {fp : List Addr} {s7 : Shared} (I : Inv X (pins ++ pinsAt fp s7.heap) σ H s) {b : Addr} (hb : b ∈ fp) {o : Obj} (e : s7.heap.get? b = some o) : s.heap.get? b = some o ∧ H b = none :=
  have z := I.pin (b, o) (List.mem_append_right _ (List.mem_append_right _ (mem_pinsAt hb e)))
  ⟨z.1, z.2.1⟩
theorem loopC {X : Cx} (hc : X.calm = true) {elt : Expr} {gs : List Comprehension} {scope : Scope} {pos : Pos} {D : Addr} {te : TE} (he : PE X.nox elt te) : ∀ (cs : List Cr) (c : Cr) (d : Nat), gs[d]? = some c.c → gs.drop (d + 1) = cs.map Cr.c → (∀ z ∈ c :: cs, CrOk X.nox z) →
    ∀ {R : Result → Shared → Prop} {it : Addr} {fp : List Addr} {tn : Nat → Heap → Prop} {J : It} {pins : List (Addr × Obj)} {s : Shared} {σ : L2.St} {H : Hp} {Nx : Hp → Prop}, Turn X.prog X.w X.K c.t J fp it tn → Inv X.nox pins (L2.wipe σ (c.vs ++ allV cs)) H s → tn 0 s.heap → (∀ b ∈ fp, FpOk X.nox pins H b) →
    LoopR c (c.vs ++ allV cs) (tIn te D cs) J σ H Nx → (∀ H' s', Inv X.nox pins (L2.wipe σ (c.vs ++ allV cs)) H' s' → Nx H' → R (.ok .next) s') →
    codeAny (model X.prog X.w) X.A (.compLoop (.ListComp elt gs scope pos) d (.ref it) (.ref D) X.env) R s := by
  intro cs
  induction cs with
  | nil =>
    intro c d h0 h1 ok R it fp tn J pins s σ H Nx T I st fr ⟨W1, ⟨m0, w0⟩, turn⟩ fin
    have cok := ok c List.mem_cons_self
    have h1 : gs[d + 1]? = none := by
      have z := congrArg List.length h1
      rw [List.length_drop] at z
      have z2 : gs.length - (d + 1) = 0 := z
      exact List.getElem?_eq_none (by omega)
    have fr2 : ∀ {H' : Hp}, (∀ b ∈ fp, H' b = none) → ∀ b ∈ fp, FpOk X.nox pins H' b := fun hn b hb => ⟨hn b hb, (fr b hb).2⟩
    refine loop_last h0 h1 (fun k s' => ∃ j H', Inv X.nox pins (L2.wipe σ (c.vs ++ allV [])) H' s' ∧ tn j s'.heap ∧ (∀ b ∈ fp, H' b = none) ∧ W1 j k H') ?_ m0 ⟨0, H, I, st, fun b hb => (fr b hb).1, w0⟩
    rintro k s1 ⟨j, H1, I1, st1, n1, w1⟩
    rcases turn j k H1 w1 with ⟨stop, nx⟩ | ⟨go, N1, hN1, step⟩
    · refine thnF (T.done X.nox rfl rfl rfl hc j pins s1 _ H1 noX I1 (fr2 n1) st1 stop) fun r s2 ⟨hr, I2⟩ => ?_
      subst hr
      exact fin H1 s2 I2 nx
    · refine thnF (T.item X.nox rfl rfl rfl hc j pins s1 _ H1 noX I1 (fr2 n1) st1 go) fun r s2 ⟨u, hr, k2⟩ => ?_
      subst hr
      refine thnF k2 fun _ s3 ⟨x, H3, I3, r3, y3, st3, n3⟩ => ?_
      have P3 := I3.pinned (fr2 n3) (T.obj _ _ st3)
      refine thnF (cok.pg.run _ s3 _ H3 x u _ P3 r3 (step x H3 y3)) fun _ s4 ⟨σ4, H4, I4, hw, q4⟩ => ?_
      refine thnF (cok.pt.run _ s4 σ4 H4 _ I4 q4) fun b s5 ⟨H5, I5, q5⟩ => ?_
      have on : ∀ {s' : Shared} {H' : Hp}, Inv X.nox (pins ++ pinsAt fp s3.heap) σ4 H' s' → N1 H' → ∃ m, m < k ∧ ∃ j H', Inv X.nox pins (L2.wipe σ (c.vs ++ allV [])) H' s' ∧ tn j s'.heap ∧ (∀ b ∈ fp, H' b = none) ∧ W1 j m H' := fun {s' H'} I' nx => by
        obtain ⟨m', hm, w'⟩ := hN1 H' nx
        refine ⟨m', hm, j + 1, H', I'.unpinned.weak (by rw [← hw, wipe_length]) (fun j v z => by rw [← hw] at z; exact (wipe_some z).1), T.keep _ _ _ st3 fun b hb o z => (pin_add I' hb z).1, fun b hb => ?_, w'⟩
        obtain ⟨o, z, _⟩ := T.obj _ _ st3 b hb
        exact (pin_add I' hb z).2
      cases b with
      | false =>
        show ∃ m, _
        exact on I5 q5
      | true =>
        show wpAny _ _ (eval elt X.env) _ _ _
        have q5 : te σ4 H5 fun y H7 => ∃ acc, H7 D = some (.lst acc) ∧ acc.length < sizeLine ∧ N1 (upd H7 D (.lst (acc ++ [y]))) := q5
        refine thnF (he.run _ s5 σ4 H5 _ I5 q5) fun z s6 ⟨yv, H6, I6, r6, ac, hD, hz, nx⟩ => ?_
        exact app_ok (X := X.nox) I6 hD hz r6 fun s7 I7 => on I7 nx
  | cons c1 cs ih =>
    intro c d h0 h1 ok R it fp tn J pins s σ H Nx T I st fr ⟨W1, ⟨m0, w0⟩, turn⟩ fin
    have cok := ok c List.mem_cons_self
    have cok1 := ok c1 (List.mem_cons_of_mem _ List.mem_cons_self)
    have g1 : gs[d + 1]? = some c1.c := by
      have z := congrArg (·[0]?) h1
      simpa [List.getElem?_drop] using z
    have g2 : gs.drop (d + 1 + 1) = cs.map Cr.c := by
      have z := congrArg (List.drop 1) h1
      simpa [List.drop_drop] using z
    have fr2 : ∀ {H' : Hp}, (∀ b ∈ fp, H' b = none) → ∀ b ∈ fp, FpOk X.nox pins H' b := fun hn b hb => ⟨hn b hb, (fr b hb).2⟩
    refine loop_mid h0 g1 cok1.hs (fun k s' => ∃ j H', Inv X.nox pins (L2.wipe σ (c.vs ++ allV (c1 :: cs))) H' s' ∧ tn j s'.heap ∧ (∀ b ∈ fp, H' b = none) ∧ W1 j k H') ?_ m0 ⟨0, H, I, st, fun b hb => (fr b hb).1, w0⟩
    rintro k s1 ⟨j, H1, I1, st1, n1, w1⟩
    rcases turn j k H1 w1 with ⟨stop, nx⟩ | ⟨go, N1, hN1, step⟩
    · refine thnF (T.done X.nox rfl rfl rfl hc j pins s1 _ H1 noX I1 (fr2 n1) st1 stop) fun r s2 ⟨hr, I2⟩ => ?_
      subst hr
      exact fin H1 s2 I2 nx
    · refine thnF (T.item X.nox rfl rfl rfl hc j pins s1 _ H1 noX I1 (fr2 n1) st1 go) fun r s2 ⟨u, hr, k2⟩ => ?_
      subst hr
      refine thnF k2 fun _ s3 ⟨x, H3, I3, r3, y3, st3, n3⟩ => ?_
      have P3 := I3.pinned (fr2 n3) (T.obj _ _ st3)
      refine thnF (cok.pg.run _ s3 _ H3 x u _ P3 r3 (step x H3 y3)) fun _ s4 ⟨σ4, H4, I4, hw, q4⟩ => ?_
      refine thnF (cok.pt.run _ s4 σ4 H4 _ I4 q4) fun b s5 ⟨H5, I5, q5⟩ => ?_
      have on : ∀ {σ' : L2.St} {s' : Shared} {H' : Hp}, Inv X.nox (pins ++ pinsAt fp s3.heap) σ' H' s' → σ'.length = σ4.length → (∀ (j : Nat) v, (L2.wipe σ4 (allV (c1 :: cs)))[j]? = some (some v) → σ'[j]? = some (some v)) → N1 H' →
          ∃ m, m < k ∧ ∃ j H', Inv X.nox pins (L2.wipe σ (c.vs ++ allV (c1 :: cs))) H' s' ∧ tn j s'.heap ∧ (∀ b ∈ fp, H' b = none) ∧ W1 j m H' := fun {σ' s' H'} I' hl hk nx => by
        obtain ⟨m', hm, w'⟩ := hN1 H' nx
        refine ⟨m', hm, j + 1, H', I'.unpinned.weak (by rw [← hw, wipe_length, hl]) (fun j v z => ?_), T.keep _ _ _ st3 fun b hb o z => (pin_add I' hb z).1, fun b hb => ?_, w'⟩
        · rw [← hw] at z
          obtain ⟨z1, z2⟩ := wipe_some z
          refine hk j v ?_
          rw [wipe_out fun q => z2 (List.mem_append_right _ q)]
          exact z1
        · obtain ⟨o, z, _⟩ := T.obj _ _ st3 b hb
          exact (pin_add I' hb z).2
      cases b with
      | false =>
        show ∃ m, _
        exact on I5 rfl (fun j v z => (wipe_some z).1) q5
      | true =>
        show wpAny _ _ (eval c1.i X.env) _ _ _
        have q5 : c1.wi σ4 H5 fun J H4 => LoopR c1 (c1.vs ++ allV cs) (tIn te D cs) J σ4 H4 N1 := q5
        refine thnF (cok1.pi.run _ s5 σ4 H5 _ I5 q5) fun xv s6 k6 => thnF k6 fun iv s7 ⟨it1, fp1, tn1, J1, H7, e7, I7, T1, st7, f7, lr⟩ => ?_
        subst e7
        have inner := ih c1 (d + 1) g1 g2 (fun z hz => ok z (List.mem_cons_of_mem _ hz)) (R := fun r s' => match r with
          | .ok _ => ∃ m, m < k ∧ ∃ j H', Inv X.nox pins (L2.wipe σ (c.vs ++ allV (c1 :: cs))) H' s' ∧ tn j s'.heap ∧ (∀ b ∈ fp, H' b = none) ∧ W1 j m H'
          | .error _ => False) T1 (I7.weak (wipe_length _ _) fun j v z => (wipe_some z).1) st7 f7 lr fun H' s' I' nx => on I' (wipe_length _ _) (fun j v z => z) nx
        exact start_mid g1 inner (T1.self X.A 0 _ _ _ st7 inner)
end TC

set_option Elab.async false
set_option linter.all false
set_option maxRecDepth 100000
set_option maxHeartbeats 4000000
namespace TC
open PySem L2 PySem.Spec PyProof.Rows
def tLcN (te : TE) (c0 : Cr) (cs : List Cr) : TE := fun σ H Q => c0.wi σ H fun J H1 => ∀ D, H1 D = none → LoopR c0 (c0.vs ++ allV cs) (tIn te D cs) J σ (upd H1 D (.lst [])) fun H' => Q (.ref D) H'
/-- what is asked of the clauses within the block -/
structure NestOk (X : Cx) (elt : Expr) (scope : Scope) (te : TE) (c0 : Cr) (cs : List Cr) : Prop where
  pg : ∀ (s : Shared) (H : Hp) (D : Addr) (cl : List (Str × Addr)) (fp : List Addr), PG (X.blk s H scope (compEnvC scope cl D X.env) fp) c0.t c0.g
  pt : ∀ (s : Shared) (H : Hp) (D : Addr) (cl : List (Str × Addr)) (fp : List Addr), PTs (X.blk s H scope (compEnvC scope cl D X.env) fp) c0.ifs c0.tt
  cs : ∀ (s : Shared) (H : Hp) (D : Addr) (cl : List (Str × Addr)) (fp : List Addr), ∀ c ∈ cs, CrOk (X.blk s H scope (compEnvC scope cl D X.env) fp) c
  te : ∀ (s : Shared) (H : Hp) (D : Addr) (cl : List (Str × Addr)) (fp : List Addr), PE (X.blk s H scope (compEnvC scope cl D X.env) fp) elt te
  hs : ∀ env x, foldedSetIterable c0.i env x = pure x
section
variable {X : Cx} {elt : Expr} {scope : Scope} {own : List (Str × Nat)} {pos : Pos} {te : TE} {c0 : Cr} {cs : List Cr}
theorem nest_core {pins : List (Addr × Obj)} {s : Shared} {σ : L2.St} {H : Hp} {Q : VK} {pos' : Pos} {use : Option (Value → Sem Unit)} {Qf : Value → Shared → Prop} (hc : X.calm = true) (hN : X.N.Nodup) (I : Inv X pins σ H s) (hi : PI X c0.t c0.i c0.wi) (ok : BlkOk X.N X.env.scope scope own)
    (hV : own.map (·.2) = c0.vs ++ allV cs) (B : NestOk X elt scope te c0 cs) (h : tLcN te c0 cs σ H Q)
    (hRR : ∀ D C s' m H', Inv X pins σ H' s' → Q (.ref D) H' → s'.heap.Ns C m → FpOk X pins H' C → compPost (model X.prog X.w) X.A X.xe use Qf (.ref D) C (.ok .next) s') :
    wpAny (model X.prog X.w) X.A (comprehension (.ListComp elt (c0.c :: cs.map Cr.c) scope pos) scope X.env pos' (newList []) false (eval c0.i X.env) use) Qf X.xe s := by
  have free : ∀ y ∈ scope.names, y.2 = .free → ∃ c, X.env.cells.lookup y.1 = some c := fun y hy e => (ok.free y hy e).elim (fun k => I.ok.has _ (.inl k)) fun k => I.ok.has _ (.inr k)
  refine wpAny_comprehension_free (g := c0.c) (gs := cs.map Cr.c) (use := use) rfl (fun x => B.hs _ x) (closure_ok free) ok.kind (fun y hy e => by rw [ok.uniq y hy, e]) (thn (hi.run pins s σ H _ I h) fun xv s1 k1 => thn k1 fun iv s2 ⟨it, fp, tn, J, H2, e2, I2, T, st2, f2, q⟩ => ?_)
  subst e2
  refine wpAny_newObj_type (newEnv_comp ?_) (by show 0 ≤ sizeLine; decide)
  generalize eD : s2.heap.objs.size = D
  have nD : H2 D = none := I2.hok.fresh (Nat.le_of_eq eD)
  have lr := q D nD
  generalize e3 : ({ s2 with heap := s2.heap.push { cls := .type "list", data := .seq ([] : List Value).toArray } } : Shared) = s3
  have h3 : s3.heap = s2.heap.push { cls := .type "list", data := .seq ([] : List Value).toArray } := by rw [← e3]
  have at3 : ∀ b u, s2.heap.get? b = some u → s3.heap.get? b = some u := fun b u z => by
    rw [h3]
    exact Heap.get?_push_of_some _ z
  have I3 : Inv X pins σ (upd H2 D (.lst [])) s3 := by
    have z := I2.laid (h' := s3.heap) (t' := s2.toks) (o := .lst []) at3 (Nat.le_of_eq eD) ⟨Nat.zero_le _, [], 0, .nil, by
      rw [h3, ← eD]
      exact Heap.get?_push_size _ rfl⟩
    rw [← e3] at z ⊢
    exact z
  have lt : ∀ b ∈ fp, b < s2.heap.objs.size := fun b hb => by
    obtain ⟨o, z, _⟩ := T.obj _ _ st2 b hb
    exact Heap.lt_size z
  have f3 : ∀ b ∈ fp, FpOk X pins (upd H2 D (.lst [])) b ∧ b < s3.heap.objs.size := fun b hb => by
    have l1 := lt b hb
    refine ⟨⟨?_, (f2 b hb).2⟩, ?_⟩
    · rw [upd_ne (fun z => absurd l1 (by rw [z, eD]; exact Nat.lt_irrefl _))]
      exact (f2 b hb).1
    · rw [h3, Heap.size_push]
      exact Nat.lt_succ_of_lt l1
  have st3 : tn 0 s3.heap := T.keep _ _ _ st2 fun b _ o z => at3 b o z
  have I4 := block_start I3 ok hN f3
  generalize e4 : cellsFrom (s3.heap.objs.size + 1) scope.names (cloFrom X.env.cells scope.names []) = cl at I4
  show codeAny _ _ (.compStart (.ListComp elt (c0.c :: cs.map Cr.c) scope pos) 0 (.ref it) (.ref D) (compEnvC scope cl s3.heap.objs.size X.env)) (compPost (model X.prog X.w) X.A X.xe use Qf (.ref D) s3.heap.objs.size) { s3 with heap := pushCells (s3.heap.push { cls := .type "dict", data := .dict #[] }) scope.names }
  have b1 := B.pg s3 (upd H2 D (.lst [])) s3.heap.objs.size cl fp
  have b2 := B.pt s3 (upd H2 D (.lst [])) s3.heap.objs.size cl fp
  have b3 := B.cs s3 (upd H2 D (.lst [])) s3.heap.objs.size cl fp
  have b4 := B.te s3 (upd H2 D (.lst [])) s3.heap.objs.size cl fp
  generalize eE : compEnvC scope cl s3.heap.objs.size X.env = ce at I4 b1 b2 b3 b4 ⊢
  have cL : ce.locals = s3.heap.objs.size := by rw [← eE]; rfl
  generalize e5 : ({ s3 with heap := pushCells (s3.heap.push { cls := .type "dict", data := .dict #[] }) scope.names } : Shared) = s4 at I4 ⊢
  have st4 : tn 0 s4.heap := T.keep _ _ _ st3 fun b _ o z => by
    rw [← e5]
    exact pushCells_keeps _ _ _ _ (Heap.get?_push_of_some _ z)
  rw [hV] at I4
  have fr : ∀ b ∈ fp, FpOk (X.blk s3 (upd H2 D (.lst [])) scope ce fp) [] (upd H2 D (.lst [])) b := fun b hb =>
    ⟨(f3 b hb).1.1, (I4.ok.exf b hb).1, I4.ok.exfs b hb, .inl hb, fun x c z => (I4.ok.exf b hb).2 x c z, fun p hp => (List.not_mem_nil (show p ∈ ([] : List (Addr × Obj)) from hp)).elim⟩
  have loop : codeAny (model X.prog X.w) X.A (.compLoop (.ListComp elt (c0.c :: cs.map Cr.c) scope pos) 0 (.ref it) (.ref D) ce) (compPost (model X.prog X.w) X.A X.xe use Qf (.ref D) s3.heap.objs.size) s4 := by
    refine loopC (X := X.blk s3 (upd H2 D (.lst [])) scope ce fp) hc b4 cs { c0 with wi := fun _ _ _ => False } 0 rfl rfl (fun z hz => ?_) T I4 st4 fr lr fun H' s' I' q' => ?_
    · rcases List.mem_cons.mp hz with hz | hz
      · rw [hz]
        exact ⟨⟨fun _ _ _ _ _ _ z => z.elim⟩, b1, b2, fun x => B.hs _ x⟩
      · exact b3 z hz
    · have I7 : Inv X pins σ H' s' := I3.call' (ch := fp) I'.os I'.base I'.hok I'.bare fun b hb => ⟨(f3 b hb).1.2.2.2.1, (f3 b hb).1.2.1, (f3 b hb).1.2.2.2.2.1, (f3 b hb).1.2.2.2.2.2⟩
      have nC : H' s3.heap.objs.size = none := by
        have z : H' ce.locals = none := I'.free
        rwa [cL] at z
      obtain ⟨m, hn, _⟩ := I'.loc
      have hn : s'.heap.Ns ce.locals m := hn
      rw [cL] at hn
      exact hRR D _ s' m H' I7 q' hn (I3.fpOk (Nat.le_refl _) nC)
  exact codeAny_compStart_list loop (T.self X.A 0 _ _ _ st4 loop)
theorem pe_nest (hc : X.calm = true) (hN : X.N.Nodup) (hi : PI X c0.t c0.i c0.wi) (ok : BlkOk X.N X.env.scope scope own) (hV : own.map (·.2) = c0.vs ++ allV cs) (B : NestOk X elt scope te c0 cs) : PE X (.ListComp elt (c0.c :: cs.map Cr.c) scope pos) (tLcN te c0 cs) := by
  refine ⟨fun pins s σ H Q I h => ?_⟩
  rw [eval_ListComp]
  refine nest_core hc hN I hi ok hV B h fun D C s' m H' I' q hn f => ⟨m, hn, fun h2 sb => ?_⟩
  obtain ⟨k0, k1, k2, k3, k4, k5⟩ := f
  exact ⟨.ref D, H', I'.turned (t' := s'.toks) (fun b o hb z => (sb.2 b hb).trans z) k0 k1 k3 k4 k5, rfl, q⟩
theorem ps_nest {i : Nat} {y : Str} {py spos : Pos} (hc : X.calm = true) (hN : X.N.Nodup) (hy : X.N[i]? = some y) (hyl : X.env.scope.names.lookup y = some .local) (hsw : swapsWith (.ListComp elt (c0.c :: cs.map Cr.c) scope pos) (some (.Name y py)) spos.line X.env = pure true)
    (hi : PI X c0.t c0.i c0.wi) (ok : BlkOk X.N X.env.scope scope own) (hV : own.map (·.2) = c0.vs ++ allV cs) (B : NestOk X elt scope te c0 cs) : PS X (.Assign [.Name y py] (.ListComp elt (c0.c :: cs.map Cr.c) scope pos) spos) (tAsg (tLcN te c0 cs) (gName i)) := by
  refine ⟨fun pins s σ H D I h => ?_⟩
  rw [exec_Assign_Name_used _ _ _ _ hsw]
  refine wpAny_bind (wpAny_standAt (wpAny_bind ?_))
  show wpAny _ X.A (do let _ ← comprehension (.ListComp elt (c0.c :: cs.map Cr.c) scope pos) scope X.env (firstIterPos (c0.c :: cs.map Cr.c) pos) (newList []) false (eval c0.i X.env) (some (assign (.Name y py) X.env))) _ _ s
  have h : tLcN te c0 cs σ H (fun x H1 => gName i x σ H1 D.nx) := h
  refine wpAny_bind (thn (nest_core (Qf := fun _ s' => SP X pins D .next s') hc hN I hi ok hV B h fun L C s' m H' I' q hn f => ?_) fun _ s' hq => wpAny_pure (wpAny_pure hq))
  show wpAny _ _ (assign (.Name y py) X.env (.ref L)) _ _ _
  obtain ⟨k0, k1, k2, k3, k4, k5⟩ := f
  refine wpAny_assign_Name (store_ok2 (v := V.ref L) I' hN hy (.inl hyl) rfl (fun s2 I2 ⟨a, sb, ha⟩ => ?_) (.inr hyl))
  have ne : C ≠ a := ha.elim (fun z => by rw [z]; exact k1) fun z e => k4 y a z e.symm
  exact ⟨m, hn.sameBut sb ne, fun h3 sb3 => ⟨_, H', I2.turned (t' := s2.toks) (fun b o hb z => (sb3.2 b hb).trans z) k0 k1 k3 k4 k5, q⟩⟩
end
end TC

set_option Elab.async false
set_option linter.all false
set_option maxRecDepth 100000
set_option maxHeartbeats 4000000
namespace TC
open PySem L2 PySem.Spec
section
variable {C : Ctx} {W : WX} {X : Cx} {σ : L2.St} {e : En} {b : Nat} {R : List Addr} {G H : Hp} {D : Addr}
/-- a target takes a value, whatever is known of the slots -/
theorem gs_any {N : List Str} {sc : Scope} {ol : Option (List Nat)} {P : L2.St → En → Prop} (hP : ∀ σ e i v d, P σ e → Dq C.K G v d → P (σ.set i (some v)) (e.set i (.fz (.d d)))) : ∀ {ts : Ts} {ds : List PyData} {e e2 : En} {σ : L2.St} {xs : List V} {Q : L2.St → Hp → Prop},
    bindTs ts ds e = .ret e2 → ts.ok N sc ol = true → P σ e → DqAll C.K G xs ds → (∀ σ2, P σ2 e2 → (∀ l, ol = some l → ∀ m, (∀ i ∈ l, i ∈ m) → L2.wipe σ2 m = L2.wipe σ m) → Q σ2 H) → gTs ts xs σ H Q ∧ xs.length = ts.len
  | .nil, [], e, e2, σ, xs, Q, h, _, S, r, m => by
    cases r
    injection h with h
    subst h
    exact ⟨⟨rfl, m σ S fun _ _ _ _ => rfl⟩, rfl⟩
  | .cons i x p ts, d :: ds, e, e2, σ, xs, Q, h, o, S, r, m => by
    cases r with
    | cons r rs =>
    unfold Ts.ok at o
    rw [Bool.and_eq_true, Bool.and_eq_true, Bool.and_eq_true] at o
    have z := gs_any hP (Q := Q) (show bindTs ts ds (e.set i (.fz (.d d))) = .ret e2 from h) o.2 (hP σ e i _ d S r) rs fun σ2 S2 w => m σ2 S2 fun l hl k hk => by
      have oi := o.1.2
      rw [hl] at oi
      rw [w l hl k hk, wipe_set (hk _ (of_decide_eq_true oi))]
    exact ⟨⟨_, _, rfl, z.1⟩, congrArg (· + 1) z.2⟩
theorem g_any {N : List Str} {sc : Scope} {ol : Option (List Nat)} {P : L2.St → En → Prop} (hP : ∀ σ e i v d, P σ e → Dq C.K G v d → P (σ.set i (some v)) (e.set i (.fz (.d d)))) {t : Tt} {d : PyData} {e e2 : En} {σ : L2.St} {v : V} {Q : L2.St → Hp → Prop}
    (sub : Sub G H) (h : bindT t d e = .ret e2) (o : t.ok N sc ol = true) (S : P σ e) (r : Dq C.K G v d) (m : ∀ σ2, P σ2 e2 → (∀ l, ol = some l → ∀ m, (∀ i ∈ l, i ∈ m) → L2.wipe σ2 m = L2.wipe σ m) → Q σ2 H) : gT C.K t v σ H Q := by
  cases t with
  | nm i x p =>
    unfold Tt.ok at o
    rw [Bool.and_eq_true, Bool.and_eq_true] at o
    injection h with h
    subst h
    exact m _ (hP σ e i v d S r) fun l hl k hk => by
      have oi := o.2
      rw [hl] at oi
      exact wipe_set (hk _ (of_decide_eq_true oi))
  | tp ts k p =>
    cases d with
    | tuple ds =>
      cases r with
      | tup h1 h2 =>
        have z := gs_any hP (H := H) (Q := Q) h o S h2 m
        exact ⟨_, _, rfl, sub.sqT h1, z.2, z.1⟩
    | _ => cases h
/-! ### a frame beside a list that is being filled -/
structure LS (C : Ctx) (σ : L2.St) (e : En) (D : Addr) (b : Nat) (R : List Addr) (G H : Hp) (acc : List V) (as : List PyData) : Prop where
  st : St C b R G σ (hide H D) e
  at_ : H D = some (.lst acc)
  d : DqAll C.K G acc as
variable {acc : List V} {as : List PyData}
theorem LS.g (S : LS C σ e D b R G H acc as) : G D = none := S.st.bs.gnone hide_self
theorem LS.r (S : LS C σ e D b R G H acc as) : D ∉ R := S.st.bs.rnone hide_self
theorem unhide_bs (B : Bs C b R G (hide H D)) : Bs C b R G H := by
  have k : ∀ a u, hide H D a = some u → H a = some u := fun a u h => by
    have ne : a ≠ D := ne_of_none h hide_self
    rwa [hide_ne ne] at h
  refine ⟨fun a u h => k a u (B.sub a u h), C.rg.fr B.rg fun a ha => ?_, B.dis⟩
  have ne : a ≠ D := fun z => C.rg.hv B.rg a ha (by rw [z]; exact hide_self)
  rw [hide_ne ne]
theorem stp_un : Stp R G (hide H D) R G H := by
  refine ⟨fun _ _ z => z, fun a u h _ => ?_, fun _ z => .inl z, fun _ _ _ _ z => z, fun a z => ?_⟩
  · have ne : a ≠ D := ne_of_none h hide_self
    rwa [hide_ne ne] at h
  · unfold TC.hide
    split
    · rfl
    · exact z
theorem LS.open (S : LS C σ e D b R G H acc as) : St C b R G σ H e := S.st.stp stp_un (unhide_bs S.st.bs)
theorem stp_hide {R' : List Addr} {G' H' : Hp} (s : Stp R G H R' G' H') (r : D ∉ R) (h : H D ≠ none) : Stp R G (hide H D) R' G' (hide H' D) := by
  refine ⟨s.g, fun a u z n => ?_, fun a z => ?_, fun a u z n g => ?_, fun a z => ?_⟩
  · have ne : a ≠ D := ne_of_none z hide_self
    rw [hide_ne ne] at z ⊢
    exact s.k a u z n
  · rcases s.r a z with q | q
    · exact .inl q
    · have ne : a ≠ D := fun c => h (c ▸ q)
      rw [hide_ne ne]
      exact .inr q
  · have ne : a ≠ D := ne_of_none z hide_self
    rw [hide_ne ne] at z
    exact s.o a u z n g
  · by_cases c : a = D
    · rw [c]
      exact hide_self
    · rw [hide_ne c] at z ⊢
      exact s.h a z
theorem LS.step {b' : Nat} {R' : List Addr} {G' H' : Hp} (S : LS C σ e D b R G H acc as) (s : Stp R G H R' G' H') (B : Bs C b' R' G' H') : LS C σ e D b' R' G' H' acc as ∧ Stp R G (hide H D) R' G' (hide H' D) := by
  have hs := stp_hide s S.r (by rw [S.at_]; exact nofun)
  have a' := s.k D _ S.at_ S.r
  refine ⟨⟨S.st.stp hs (B.hide (s.o D _ S.at_ S.r S.g) (s.notin S.at_ S.r)), a', s.g.dps S.d⟩, hs⟩
theorem hide_upd {o : HO} : hide (upd H D o) D = hide H D := by
  funext a
  by_cases c : a = D
  · rw [c, hide_self, hide_self]
  · rw [hide_ne c, hide_ne c, upd_ne c]
/-! ### the clauses within -/
def Ecs.crs (C : Ctx) : Ecs → List Cr
  | .nil => []
  | .cons t it o vs cs => ⟨t.em, it.em, o.ems, tI C noW (it.ev C.cl), gT C.K t, tYs C noW (o.evT C.cl), vs⟩ :: cs.crs C
theorem crs_allV (C : Ctx) : ∀ cs : Ecs, TC.allV (cs.crs C) = cs.allV
  | .nil => rfl
  | .cons t it o vs cs => by
    show vs ++ TC.allV (cs.crs C) = vs ++ cs.allV
    rw [crs_allV C cs]
theorem crs_em (C : Ctx) : ∀ cs : Ecs, (cs.crs C).map Cr.c = cs.em
  | .nil => rfl
  | .cons t it o vs cs => by
    show _ :: (cs.crs C).map Cr.c = _ :: cs.em
    rw [crs_em C cs]
    rfl
/-- checks on the targets within -/
def Ecs.tok (N : List Str) (sc2 : Scope) : Ecs → Prop
  | .nil => True
  | .cons t _ _ vs cs => t.ok N sc2 (some vs) = true ∧ cs.tok N sc2
/-- behind the clauses: rs has been put to the list -/
def Put (C : Ctx) (D : Addr) (R : List Addr) (G H : Hp) (acc : List V) (as : List PyData) (k : Nat) (Nx : Hp → Prop) (b2 : Nat) (rs : List PyData) : Prop :=
  ∀ R2 G2 H2 vs, Stp R G (hide H D) R2 G2 (hide H2 D) → Bs C b2 R2 G2 (hide H2 D) → H2 D = some (.lst (acc ++ vs)) → DqAll C.K G2 (acc ++ vs) (as ++ rs) → vs.length ≤ k → Nx H2
theorem limS_run {ds : List PyData} {α : Type} {f : List PyData → Comp α} {P : Nat → α → Prop} (h : ((limS ds).bind f).wp b P fun _ _ => False) : ds.length ≤ 20 ∧ (f ds).wp b P fun _ _ => False := by
  unfold limS at h
  by_cases c : ds.length ≤ 20
  · rw [if_pos c] at h
    exact ⟨c, h⟩
  · rw [if_neg c] at h
    exact h.elim
/-- one clause's loop; bd: what is within it -/
theorem loop_red {N : List Str} {sc2 : Scope} {t : Tt} {o : Eo} {V vs : List Nat} (hV : ∀ i ∈ vs, i ∈ V) (ht : t.ok N sc2 (some vs) = true) {k : Nat} {fb : En → Comp (List PyData)} {bd : L2.St → Hp → (Hp → Prop) → Prop}
    (red : ∀ {σ e b R G H acc as} {Nx : Hp → Prop}, LS C σ e D b R G H acc as → acc.length + k ≤ sizeLine → (fb e).wp b (Put C D R G H acc as k Nx) (fun _ _ => False) → bd σ H Nx)
    {c : Cr} (cg : c.g = gT C.K t) (ct : c.tt = tYs C noW (o.evT C.cl)) {J : It} {ds : List PyData} (wk : Wk C J G ds) (S : LS C (L2.wipe σ V) (wipeE e V) D b R G H acc as) (hl : ds.length ≤ 20) (room : acc.length + 20 * k ≤ sizeLine) {Nx : Hp → Prop}
    (h : (flatC (fun d => (bindT t d (wipeE e V)).bind fun e2 => (o.evT C.cl e2).bind fun b => if b then fb e2 else .ret []) ds).wp b (Put C D R G H acc as (20 * k) Nx) fun _ _ => False) : LoopR c V bd J σ H Nx := by
  generalize hf : (fun d => (bindT t d (wipeE e V)).bind fun e2 => (o.evT C.cl e2).bind fun b => if b then fb e2 else .ret []) = f at h
  refine ⟨fun j m H1 => m = ds.length - j ∧ j ≤ ds.length ∧ ∃ b1 R1 G1 us rs, LS C (L2.wipe σ V) (wipeE e V) D b1 R1 G1 H1 (acc ++ us) (as ++ rs) ∧ Stp R G (hide H D) R1 G1 (hide H1 D) ∧ us.length ≤ j * k ∧
    (flatC f (ds.drop j)).wp b1 (fun b2 r2 => Put C D R G H acc as (20 * k) Nx b2 (rs ++ r2)) fun _ _ => False, ⟨ds.length, by simp, Nat.zero_le _, b, R, G, [], [], by rw [List.append_nil, List.append_nil]; exact S, .refl, by simp, h⟩, ?_⟩
  rintro j m H1 ⟨rfl, hj, b1, R1, G1, us, rs, S1, s1, lu, w⟩
  have sub : Sub G H1 := fun a u z => S1.open.bs.sub a u (s1.g a u z)
  by_cases hlt : j < ds.length
  · refine .inr ⟨wk.go j H1 hlt sub, fun H' => ∃ b1 R1 G1 us rs, LS C (L2.wipe σ V) (wipeE e V) D b1 R1 G1 H' (acc ++ us) (as ++ rs) ∧ Stp R G (hide H D) R1 G1 (hide H' D) ∧ us.length ≤ (j + 1) * k ∧
      (flatC f (ds.drop (j + 1))).wp b1 (fun b2 r2 => Put C D R G H acc as (20 * k) Nx b2 (rs ++ r2)) fun _ _ => False, fun H' z => ⟨ds.length - (j + 1), by omega, rfl, hlt, z⟩, fun x H' y => ?_⟩
    obtain ⟨G2, s2, S2, rx⟩ := com_st S1.open s1.g (wk.yld j H1 x H' _ (List.getElem?_eq_getElem hlt) sub y)
    obtain ⟨L2', hs2⟩ := S1.step s2 S2.bs
    rw [List.drop_eq_getElem_cons hlt] at w
    have w := Comp.wp_bind.mp (show ((f ds[j]).bind fun r => (flatC f (ds.drop (j + 1))).bind fun rs => .ret (r ++ rs)).wp _ _ _ from w)
    subst hf
    have w : ((bindT t ds[j] (wipeE e V)).bind fun e2 => (o.evT C.cl e2).bind fun b => if b then fb e2 else .ret []).wp _ _ _ := w
    rw [cg, ct]
    rcases bindT_form t ds[j] (wipeE e V) with ⟨e2, hb⟩ | hb
    · rw [hb] at w
      refine g_any (P := fun σ e => St C b1 R1 G2 σ (hide H' D) e) (fun σ e i v d z r => z.setF (w := .d d) r) S2.bs.sub hb ht L2'.st rx fun σ2 S3 hw => ⟨?_, ?_⟩
      · rw [hw _ rfl V hV]
        have : ∀ us vs : List Nat, (∀ u ∈ us, u ∈ vs) → L2.wipe (L2.wipe σ us) vs = L2.wipe σ vs := fun us => by
          induction us with
          | nil => exact fun _ _ => rfl
          | cons u us ih =>
            intro vs h
            show L2.wipe ((L2.wipe σ us).set u none) vs = _
            rw [wipe_set (h u List.mem_cons_self), ih vs fun z hz => h z (List.mem_cons_of_mem _ hz)]
        exact this V V fun _ h => h
      · have L3 : LS C σ2 e2 D b1 R1 G2 H' (acc ++ us) (as ++ rs) := ⟨S3, L2'.at_, L2'.d⟩
        have w := Comp.wp_bind.mp (show Comp.wp ((o.evT C.cl e2).bind fun b => if b then fb e2 else .ret []) _ _ _ from w)
        have w : Run C noW σ2 e2 b1 R1 G2 H' (o.evT C.cl e2) (fun b' _ _ _ t => Comp.wp (if t then fb e2 else .ret []) b' _ _) := Comp.wp_mono w (fun b2 a q _ _ _ _ _ => q) fun _ _ z => z.elim
        refine ⟨b1, R1, G2, e2, L3.open, w.mono fun b3 R3 G3 H3 tt s3 S4 w2 => ?_⟩
        obtain ⟨L4, hs4⟩ := L3.step s3 S4.bs
        have chain := s1.trans (hs2.trans hs4)
        -- back to the slots ahead of the turn
        have back : ∀ {b5 R5 G5 H5}, Stp R3 G3 (hide H3 D) R5 G5 (hide H5 D) → Bs C b5 R5 G5 (hide H5 D) → St C b5 R5 G5 (L2.wipe σ V) (hide H5 D) (wipeE e V) := fun {b5 R5 G5 H5} s5 B5 => S1.st.stp (hs2.trans (hs4.trans s5)) B5
        cases tt with
        | true =>
          rw [if_pos rfl] at w2
          show ite _ _ _
          rw [if_pos rfl]
          refine red L4 ?_ (Comp.wp_mono w2 (fun b5 r5 q5 R5 G5 H5 vs s5 B5 a5 d5 l5 => ?_) fun _ _ z => z)
          · rw [List.length_append]
            have : j * k + k ≤ 20 * k := by
              rw [← Nat.succ_mul]
              exact Nat.mul_le_mul_right _ (by omega)
            omega
          · refine ⟨b5, R5, G5, us ++ vs, rs ++ r5, ⟨back s5 B5, by rw [← List.append_assoc]; exact a5, by rw [← List.append_assoc, ← List.append_assoc]; exact d5⟩, chain.trans s5, by rw [List.length_append, Nat.succ_mul]; omega, ?_⟩
            refine Comp.wp_mono (Comp.wp_bind.mp q5) (fun b6 r6 z => ?_) fun _ _ z => z
            rw [List.append_assoc]
            exact z
        | false =>
          rw [if_neg (by decide)] at w2
          show ite _ _ _
          rw [if_neg (by decide)]
          exact ⟨b3, R3, G3, us, rs, ⟨back .refl L4.st.bs, L4.at_, L4.d⟩, chain, by rw [Nat.succ_mul]; omega, Comp.wp_bind.mp w2⟩
    · rw [hb] at w
      exact w.elim
  · have ej : j = ds.length := by omega
    subst ej
    rw [List.drop_length] at w
    refine .inl ⟨wk.stop _ H1 (Nat.le_refl _) sub, ?_⟩
    have w : Put C D R G H acc as (20 * k) Nx b1 (rs ++ []) := w
    rw [List.append_nil] at w
    exact w R1 G1 H1 us s1 S1.st.bs S1.at_ S1.d (Nat.le_trans lu (Nat.mul_le_mul_right _ hl))
theorem nest_red {N : List Str} {sc2 : Scope} {f : En → Comp Wd} {te : TE} (hte : ∀ σ H Q, tX C noW f σ H Q → te σ H Q) : ∀ (cs : Ecs) {σ : L2.St} {e : En} {b : Nat} {R : List Addr} {G H : Hp} {acc : List V} {as : List PyData} {Nx : Hp → Prop}, cs.tok N sc2 → LS C σ e D b R G H acc as → acc.length + 20 ^ cs.len ≤ sizeLine →
    (cs.ev C.cl f e).wp b (Put C D R G H acc as (20 ^ cs.len) Nx) (fun _ _ => False) → tIn te D (cs.crs C) σ H Nx
  | .nil, σ, e, b, R, G, H, acc, as, Nx, _, S, room, w => by
    have w := Comp.wp_bind.mp (show Comp.wp ((dD (f e)).bind fun y => .ret [y]) _ _ _ from w)
    have w : Run C noW σ e b R G H (dD (f e)) (fun b' _ _ _ y => Put C D R G H acc as (20 ^ Ecs.nil.len) Nx b' [y]) := Comp.wp_mono w (fun b2 a q _ _ _ _ _ => q) fun _ _ z => z.elim
    refine hte _ _ _ (tX.of S.open w.dD fun b2 R2 G2 H2 w2 v s2 S2 r ⟨y, ew, q⟩ => ?_)
    subst ew
    obtain ⟨L2', hs⟩ := S.step s2 S2.bs
    refine ⟨acc, L2'.at_, by show acc.length < sizeLine; have z : acc.length + 1 ≤ sizeLine := room; omega, ?_⟩
    exact q R2 G2 _ [v] (by rw [hide_upd]; exact hs) (by rw [hide_upd]; exact L2'.st.bs) upd_same (dps_append L2'.d (.cons r .nil)) (Nat.le_refl _)
  | .cons t it o vs cs, σ, e, b, R, G, H, acc, as, Nx, ht, S, room, w => by
    have w := Comp.wp_bind.mp (show Comp.wp ((it.ev C.cl e).bind _) _ _ _ from w)
    have w : Run C noW σ e b R G H (it.ev C.cl e) (fun b' _ _ _ ds => Comp.wp _ b' _ _) := Comp.wp_mono w (fun b2 a q _ _ _ _ _ => q) fun _ _ z => z.elim
    refine ⟨b, R, G, e, S.open, w.mono fun b2 R2 G2 H2 ds s2 S2 q _ J wk => ?_⟩
    obtain ⟨hl, q⟩ := limS_run q
    obtain ⟨L2', hs⟩ := S.step s2 S2.bs
    have e20 : 20 * 20 ^ cs.len = 20 ^ (Ecs.cons t it o vs cs).len := by
      show _ = 20 ^ (cs.len + 1)
      rw [Nat.pow_succ, Nat.mul_comm]
    rw [crs_allV]
    have L3 : LS C (L2.wipe σ (vs ++ cs.allV)) (wipeE e (vs ++ cs.allV)) D b2 R2 G2 H2 acc as := ⟨L2'.st.wipe _, L2'.at_, L2'.d⟩
    refine loop_red (N := N) (sc2 := sc2) (vs := vs) (o := o) (t := t) (k := 20 ^ cs.len) (fb := cs.ev C.cl f) (fun i hi => List.mem_append_left _ hi) ht.1 (fun {σ e b R G H acc as Nx} S r w => nest_red hte cs ht.2 S r w) rfl rfl wk L3 hl (by rw [e20]; exact room) ?_
    rw [e20]
    exact Comp.wp_mono q (fun b5 r5 z R5 G5 H5 us s5 B5 a5 d5 l5 => z R5 G5 H5 us (hs.trans s5) B5 a5 d5 l5) fun _ _ z => z
end
end TC

set_option Elab.async false
set_option linter.all false
set_option maxRecDepth 100000
set_option maxHeartbeats 4000000
namespace TC
open PySem L2 PySem.Spec
section
variable {C : Ctx} {W : WX} {X : Cx} {σ : L2.St} {e : En} {b : Nat} {R : List Addr} {G H : Hp} {D : Addr}
theorem hide_new {o : HO} (n : H D = none) : hide (upd H D o) D = H := by
  funext a
  by_cases c : a = D
  · rw [c, hide_self, n]
  · rw [hide_ne c, upd_ne c]
/-- the first clause -/
def cr0 (C : Ctx) (W : WX) (t : Tt) (it : Ei) (o : Eo) (vs : List Nat) : Cr := ⟨t.em, it.em, o.ems, tI C W (it.ev C.cl), gT C.K t, tYs C noW (o.evT C.cl), vs⟩
theorem len20 {n : Nat} (h : n ≤ 3) : 20 * 20 ^ n ≤ sizeLine := by
  have : 20 ^ n ≤ 20 ^ 3 := Nat.pow_le_pow_right (by decide) h
  have e : (20 : Nat) ^ 3 = 8000 := by decide
  have := line_num
  omega
theorem lcs_red {a : Ee} {t : Tt} {it : Ei} {o : Eo} {vs : List Nat} {cs : Ecs} {own : List (Str × Nat)} {sc2 : Scope} {p : Pos} {N : List Str} (ht : t.ok N sc2 (some vs) = true) (hts : cs.tok N sc2) (h3 : cs.len ≤ 3) {Q : VK}
    (h : tF C W ((Ef.lcs a t it o vs cs own sc2 p).ev C.cl) σ H Q) : tLcN (tX C noW (a.ev C.cl)) (cr0 C W t it o vs) (cs.crs C) σ H Q := by
  obtain ⟨b, R, G, e, S, h⟩ := h
  refine ⟨b, R, G, e, S, (Run.bind h).mono fun b1 R1 G1 H1 ds s1 S1 q _ J wk D n => ?_⟩
  have q : Run C W σ e b1 R1 G1 H1 ((limS ds).bind fun ds => nox (flatC _ ds)) _ := q
  have hl : ds.length ≤ 20 := by
    unfold limS at q
    by_cases c : ds.length ≤ 20
    · exact c
    · rw [if_neg c] at q
      exact q.elim
  unfold limS at q
  rw [if_pos hl] at q
  have q := wp_nox (show Comp.wp _ _ _ _ from q)
  have S2 : LS C (L2.wipe σ (vs ++ cs.allV)) (wipeE e (vs ++ cs.allV)) D b1 R1 G1 (upd H1 D (.lst [])) [] [] := ⟨by rw [hide_new n]; exact S1.wipe _, upd_same, .nil⟩
  show LoopR _ (vs ++ allV (cs.crs C)) _ _ _ _ _
  rw [crs_allV]
  refine loop_red (N := N) (sc2 := sc2) (vs := vs) (o := o) (t := t) (k := 20 ^ cs.len) (fb := cs.ev C.cl fun e3 => a.ev C.cl e3) (fun i hi => List.mem_append_left _ hi) ht (fun {σ e b R G H acc as Nx} S r w => nest_red (fun _ _ _ z => z) cs hts S r w) rfl rfl wk S2 hl (by have := len20 h3; simpa using this) ?_
  refine Comp.wp_mono q (fun b5 rs z R2 G2 H2 vs s5 B5 a5 d5 _ => ?_) fun _ _ z => z
  rw [hide_new n] at s5
  have S5 := S1.stp s5 B5
  exact z R2 G2 _ s5 S5 D H2 hide_self stp_un (S5.stp stp_un (unhide_bs B5)) ⟨vs, a5, d5⟩
theorem pg_ofC {X : Cx} {sc : Scope} {vs : Option (List Nat)} {K : PySem.W.Frag} (hK : X.K = K) (hc : X.calm = true) (hN : X.N.Nodup) (hn : ∀ x, locB sc x = true → Loc X.env.scope x ∧ (X.fn x = true ∨ X.env.scope.names.lookup x = some .local)) (t : Tt) (h : t.ok X.N sc vs = true) : PG X t.em (gT K t) := by
  rw [← hK]
  exact pg_of hc hN hn t h
/-- the parts of the block -/
structure LcsB (C : Ctx) (X : Cx) (a : Ee) (o : Eo) (cs : Ecs) (sc2 : Scope) : Prop where
  te : ∀ (s : Shared) (H : Hp) (D : Addr) (cl : List (Str × Addr)) (fp : List Addr), PE (X.blk s H sc2 (compEnvC sc2 cl D X.env) fp) a.em (tX C noW (a.ev C.cl))
  tt : ∀ (s : Shared) (H : Hp) (D : Addr) (cl : List (Str × Addr)) (fp : List Addr), PTs (X.blk s H sc2 (compEnvC sc2 cl D X.env) fp) o.ems (tYs C noW (o.evT C.cl))
  cs : ∀ (s : Shared) (H : Hp) (D : Addr) (cl : List (Str × Addr)) (fp : List Addr), ∀ c ∈ cs.crs C, CrOk (X.blk s H sc2 (compEnvC sc2 cl D X.env) fp) c
theorem nest_ok (hX : XOk C W X) {a : Ee} {t : Tt} {it : Ei} {o : Eo} {vs : List Nat} {cs : Ecs} {sc2 : Scope} (ht : t.ok X.N sc2 (some vs) = true) (B : LcsB C X a o cs sc2) : NestOk X a.em sc2 (tX C noW (a.ev C.cl)) (cr0 C W t it o vs) (cs.crs C) where
  pg := fun s H D cl fp => pg_ofC (X := X.blk s H sc2 (compEnvC sc2 cl D X.env) fp) hX.m.hK hX.calm hX.nd blk_nm t ht
  pt := B.tt
  cs := B.cs
  te := B.te
  hs := fun env x => fold_of x env
theorem f_lcs (hX : XOk C W X) {a : Ee} {t : Tt} {it : Ei} {o : Eo} {vs : List Nat} {cs : Ecs} {own : List (Str × Nat)} {sc2 : Scope} {p : Pos} (hb : blkC X.N X.env.scope sc2 own = true) (hi : PI X t.em it.em (tI C W (it.ev C.cl))) (ht : t.ok X.N sc2 (some vs) = true) (hts : cs.tok X.N sc2)
    (hV : own.map (·.2) = vs ++ cs.allV) (h3 : cs.len ≤ 3) (B : LcsB C X a o cs sc2) : PE X (Ef.lcs a t it o vs cs own sc2 p).em (tF C W ((Ef.lcs a t it o vs cs own sc2 p).ev C.cl)) := by
  have z := pe_nest (pos := p) hX.calm hX.nd (c0 := cr0 C W t it o vs) hi (blkOk_by hb) (by rw [crs_allV]; exact hV) (nest_ok hX ht B)
  rw [crs_em] at z
  exact peM z fun _ _ _ h => lcs_red ht hts h3 h
theorem s_setLcs (hX : XOk C W X) {i : Nat} {y : Str} {py : Pos} {a : Ee} {t : Tt} {it : Ei} {o : Eo} {vs : List Nat} {cs : Ecs} {own : List (Str × Nat)} {sc2 : Scope} {p pos : Pos} (hy : X.N[i]? = some y) (hyl : X.env.scope.names.lookup y = some .local)
    (hsw : swapsWith (Ef.lcs a t it o vs cs own sc2 p).em (some (.Name y py)) pos.line X.env = pure true) (hb : blkC X.N X.env.scope sc2 own = true) (hi : PI X t.em it.em (tI C W (it.ev C.cl))) (ht : t.ok X.N sc2 (some vs) = true) (hts : cs.tok X.N sc2)
    (hV : own.map (·.2) = vs ++ cs.allV) (h3 : cs.len ≤ 3) (B : LcsB C X a o cs sc2) : PS X (.Assign [.Name y py] (Ef.lcs a t it o vs cs own sc2 p).em pos) (fun D σ H => tF C W ((Ef.lcs a t it o vs cs own sc2 p).ev C.cl) σ H fun x H1 => gName i x σ H1 D.nx) := by
  have hsw : swapsWith (.ListComp a.em ((cr0 C W t it o vs).c :: (cs.crs C).map Cr.c) sc2 p) (some (.Name y py)) pos.line X.env = pure true := by
    rw [crs_em]
    exact hsw
  have z := ps_nest (pos := p) hX.calm hX.nd hy hyl hsw (c0 := cr0 C W t it o vs) hi (blkOk_by hb) (by rw [crs_allV]; exact hV) (nest_ok hX ht B)
  rw [crs_em] at z
  exact ⟨fun pins s σ H D I h => z.run pins s σ H D I (lcs_red ht hts h3 h)⟩
end
end TC

set_option Elab.async false
set_option linter.all false
set_option maxRecDepth 100000
set_option maxHeartbeats 2000000
namespace TC
open PySem L2 PySem.Spec
/-! ### what is looked at once, statements -/
def notC : Expr → Bool
  | .ListComp .. => false
  | .SetComp .. => false
  | .DictComp .. => false
  | _ => true
def stN : Expr → Bool
  | .Tuple vs _ _ => vs.all (foldedForSure 8)
  | _ => true
def Ef.swB (sc : Scope) (x : Str) (px : Pos) : Ef → Bool
  | .lc _ _ _ _ _ sc2 p => decide (sc.names.lookup x = some .cell) || (decide (sc.names.lookup x = some .local) && (px.line == p.line) && !(sc2.names.any fun (n, k) => n == x && (k == .local || k == .cell)))
  | .lcs _ _ _ _ _ _ _ sc2 p => decide (sc.names.lookup x = some .local) && (px.line == p.line) && !(sc2.names.any fun (n, k) => n == x && (k == .local || k == .cell))
  | _ => true
def Ea.ok (c : Chk) (N : List Str) : Ea → Scope → Bool
  | .ex e, sc => e.ok c N sc
  | .nw f, sc => f.ok c N sc
def Ts.cellB (sc : Scope) : Ts → Bool
  | .nil => false
  | .cons _ x _ ts => !decide (sc.names.lookup x = some .local) || ts.cellB sc
def Tt.cellB (sc : Scope) : Tt → Bool
  | .tp ts _ _ => ts.cellB sc
  | _ => false
section
variable (c : Chk) (N : List Str)
mutual
def Sm.ok : Sm → Scope → Bool
  | .asg i x _ e _, sc => slotB N i x && locB sc x && e.ok c N sc && notC e.em
  | .asgF i x px f _, sc => slotB N i x && locB sc x && f.ok c N sc && f.swB sc x px
  | .unp t e _, sc => t.ok N sc none && e.ok c N sc && notC e.em && (stN e.em || t.cellB sc)
  | .par i x px j y py a b _ _ _ _ _, sc => slotB N i x && slotB N j y && decide (i ≠ j) && decide (sc.names.lookup x = some .local) && decide (sc.names.lookup y = some .local) && (py.line == px.line) && decide (x ≠ y) && a.ok c N sc && b.ok c N sc
      && !([a.em, b.em].all (foldedForSure 8)) && !([a.em, b.em].all (constantsAlone 8))
  | .par3 i x px j y py l z pz a b u _ _ _ _ _, sc => slotB N i x && slotB N j y && slotB N l z && decide (i ≠ j) && decide (i ≠ l) && decide (j ≠ l) && decide (sc.names.lookup x = some .local) && decide (sc.names.lookup y = some .local) && decide (sc.names.lookup z = some .local)
      && (py.line == px.line) && (pz.line == px.line) && decide (x ≠ y) && decide (x ≠ z) && decide (y ≠ z) && a.ok c N sc && b.ok c N sc && u.ok c N sc && !([a.em, b.em, u.em].all (foldedForSure 8)) && !([a.em, b.em, u.em].all (constantsAlone 8))
  | .put i x _ ix e _ _, sc => slotB N i x && visB sc x && ix.ok c N sc && e.ok c N sc && notC e.em && stN e.em
  | .aug i x _ _ e _, sc => slotB N i x && locB sc x && e.ok c N sc
  | .app i x _ pa e pc _, sc => slotB N i x && visB sc x && e.ok c N sc && (pa.endLine == pc.line)
  | .apo i x _ pa j y _ pb e pq pc _, sc => slotB N i x && visB sc x && (slotB N j y && visB sc y && decide (i ≠ j)) && e.ok c N sc && (pb.endLine == pq.line) && (pa.endLine == pc.line)
  | .iff t a b _, sc => t.ok c N sc && a.ok sc && b.ok sc
  | .forr t it b _, sc => t.ok N sc none && it.ok c N sc && it.tupB t && b.ok sc
  | .whl t b _, sc => t.ok c N sc && b.ok sc
  | .ret e _, sc => e.ok c N sc
  | .retF f _, sc => f.ok c N sc
  | .retO i x _ _, sc => slotB N i x && visB sc x
  | .expr e _, sc => e.ok c N sc && notC e.em
  | .brk _, _ => true
  | .cnt _, _ => true
  | .pass _, _ => true
  | .never _, _ => true
  | .rai k x _ a _ _, sc => (match c.exs[k]? with | some (y, _) => decide (y = x) | none => false) && glB sc x && a.ok c N sc
  | .tr b hs _, sc => b.ok sc && hs.ok c N sc && hs.some
def Sms.ok : Sms → Scope → Bool
  | .nil, _ => true
  | .cons s ss, sc => s.ok sc && ss.ok sc
  | .frz _ ss, sc => ss.ok sc
  | .fgt _ ss, sc => ss.ok sc
end
end

section
variable {C : Ctx} {W : WX} {X : Cx} {σ : L2.St} {e : En} {b : Nat} {R : List Addr} {G H : Hp}
/-! ### a frame between statements -/
structure Fb where
  R : List Addr
  G : Hp
  H : Hp
  /-- what has been frozen so far -/
  Gb : Hp
structure SS (C : Ctx) (F : Fb) (b : Nat) (R : List Addr) (G : Hp) (σ : L2.St) (H : Hp) (e : En) : Prop where
  st : St C b R G σ H e
  stp : Stp F.R F.G F.H R G H
  fr : ∀ i l, Opn σ e i l → F.H l = none
  gb : Sub F.Gb G
def OuP (C : Ctx) (W : WX) (F : Fb) (D : Ends) (b : Nat) : Ou → Prop
  | .nx e => ∀ R G σ H, SS C F b R G σ H e → D.nx σ H
  | .br e => ∀ R G σ H, SS C F b R G σ H e → D.bk σ H
  | .ct e => ∀ R G σ H, SS C F b R G σ H e → D.ct σ H
  | .rt r => ∀ R G H v, Stp F.R F.G F.H R G H → Bs C b R G H → RetOk C F.H R G H v r → D.rt v H
  | .ex x e => ∀ R G σ H cls d, SS C F b R G σ H e → exrOf C x cls d H → W cls d σ H
def noE : Nat → Exn → Prop := fun _ _ => False
def tS (C : Ctx) (W : WX) (ev : En → Comp Ou) : TS := fun D σ H => ∃ F b R G e, SS C F b R G σ H e ∧ (ev e).wp b (OuP C W F D) noE
theorem psM {st : Stmt} {t t' : TS} (h : PS X st t) (m : ∀ D σ H, t' D σ H → t D σ H) : PS X st t' := ⟨fun pins s σ H D I q => h.run pins s σ H D I (m D σ H q)⟩
theorem pssM {st : List Stmt} {t t' : TS} (h : PSs X st t) (m : ∀ D σ H, t' D σ H → t D σ H) : PSs X st t' := ⟨fun pins s σ H D I q => h.run pins s σ H D I (m D σ H q)⟩
variable {F : Fb} {D : Ends}
theorem SS.step {b' : Nat} {R' : List Addr} {G' H' : Hp} (S : SS C F b R G σ H e) (s : Stp R G H R' G' H') (S' : St C b' R' G' σ H' e) : SS C F b' R' G' σ H' e := ⟨S', S.stp.trans s, S.fr, fun a o h => s.g a o (S.gb a o h)⟩
theorem ss_run {α : Type} {c : Comp α} {f : α → Comp Ou} (S : SS C F b R G σ H e) (h : (exO e c f).wp b (OuP C W F D) noE) : Run C W σ e b R G H c fun b' R' G' H' a => SS C F b' R' G' σ H' e ∧ (f a).wp b' (OuP C W F D) noE :=
  Comp.wp_mono (Comp.wp_tie.mp h) (fun b' a q R' G' H' s S' => ⟨S.step s S', q⟩) fun b' x q R' G' H' cls d s S' ex => q R' G' σ H' cls d (S.step s S') ex
theorem SS.setF {k : Nat} {v : V} {w : Wd} (S : SS C F b R G σ H e) (r : Rep C G v w) : SS C F b R G (σ.set k (some v)) H (e.set k (.fz w)) := ⟨S.st.setF r, S.stp, fun i l o => S.fr i l (opn_set (s := .fz w) nofun o).2, S.gb⟩
theorem SS.setO {k : Nat} {l : Addr} {ds : List PyData} (S : SS C F b R G σ H e) (o : Own C R G H l ds) (n : F.H l = none) (no : ∀ i, ¬ Opn σ e i l) : SS C F b R G (σ.set k (some (.ref l))) H (e.set k (.ow ds)) :=
  ⟨S.st.setO o no, S.stp, fun i m q => by
    obtain ⟨⟨es, h1⟩, h2⟩ := q
    by_cases c : i = k
    · subst c
      by_cases c : i < σ.length
      · rw [List.getElem?_set_self c] at h2
        injection h2 with h2
        injection h2 with h2
        injection h2 with h2
        exact h2 ▸ n
      · rw [List.getElem?_eq_none (by rw [List.length_set]; omega)] at h2
        cases h2
    · rw [List.getElem?_set_ne (Ne.symm c)] at h1 h2
      exact S.fr i m ⟨⟨es, h1⟩, h2⟩, S.gb⟩
/-- a new open list: nobody has it yet -/
theorem own_new {l : Addr} {ds : List PyData} {H2 : Hp} {vs : List V} (S : St C b R G σ H e) (n : H l = none) (hv : H2 l = some (.lst vs)) (d : DqAll C.K G vs ds) : Own C R G H2 l ds ∧ ∀ i, ¬ Opn σ e i l :=
  ⟨⟨⟨vs, hv, d⟩, S.bs.gnone n, S.bs.rnone n⟩, fun i o => by
    obtain ⟨⟨u, hu⟩, _⟩ := S.opn_some o
    rw [n] at hu
    cases hu⟩
theorem out_nx {b' : Nat} {e' : En} (h : (Comp.ret (.nx e')).wp b' (OuP C W F D) noE) : ∀ R G σ H, SS C F b' R G σ H e' → D.nx σ H := h
/-! ### assignments -/
theorem sw_not {e : Expr} (h : notC e = true) (t : Option Expr) (l : Nat) (env : Env) : swapsWith e t l env = pure false := by
  cases e <;> first | rfl | cases h
theorem s_asg (hX : XOk C W X) (hn : ∀ x, X.fn x = true) {i : Nat} {x : Str} {px p : Pos} {a : Ee} (hi : slotB X.N i x = true) (hl : locB X.env.scope x = true) (ha : PE X a.em (tX C W (a.ev C.cl))) (hc : notC a.em = true) (wf : Nat) :
    PS X (Sm.asg i x px a p).em (tS C W ((Sm.asg i x px a p).ev C.cl wf)) :=
  psM (ps_set hX.nd (slot_of hi) (loc_of hl) ha (sw_not hc _ _ _) (.inl (hn x))) fun D σ H ⟨F, b, R, G, e, S, h⟩ =>
    ⟨b, R, G, e, S.st, (ss_run S h).mono fun b' R' G' H' w s S' q v r => out_nx q.2 _ _ _ _ (q.1.setF r)⟩
theorem kf_own {Q : VK} {ds : List PyData} (S : SS C F b R G σ H e) (m : ∀ l H2, SS C F b R G σ H2 e → Own C R G H2 l ds → F.H l = none → (∀ i, ¬ Opn σ e i l) → Q (.ref l) H2) : KF C σ e Q b R G H ds :=
  fun l H2 n s S2 ⟨vs, hv, d⟩ => by
    obtain ⟨o, no⟩ := own_new S.st n hv d
    exact m l H2 (S.step s S2) o (S.stp.h l n) no
/-- a name that is captured takes a comprehension like any value -/
theorem sw_cell {X : Cx} {x : Str} {px : Pos} {l : Nat} {a : Ee} {t : Tt} {it : Ei} {o : Eo} {own : List (Str × Nat)} {sc2 : Scope} {q : Pos} (h : X.env.scope.names.lookup x = some .cell) : swapsWith (Ef.lc a t it o own sc2 q).em (some (.Name x px)) l X.env = pure false := by
  have e : X.env.kindOf x = some .cell := h
  show (pure (X.env.blockKind == .function && X.env.kindOf x == some .local && px.line == (Ef.lc a t it o own sc2 q).em.pos.line && !(sc2.names.any fun (n, k) => n == x && (k == .local || k == .cell))) : Sem Bool) = pure false
  rw [e]
  cases X.env.blockKind == .function <;> rfl
theorem asgF_of {i : Nat} {f : Ef} {wf : Nat} {x : Str} {px p : Pos} {D : Ends} {σ : L2.St} {H : Hp} (h : tS C W ((Sm.asgF i x px f p).ev C.cl wf) D σ H) : tF C W (f.ev C.cl) σ H fun x H1 => gName i x σ H1 D.nx := by
  obtain ⟨F, b, R, G, e, S, h⟩ := h
  exact ⟨b, R, G, e, S.st, (ss_run S h).mono fun b' R' G' H' ds s S' q => kf_own q.1 fun l H2 S2 o n no => out_nx q.2 _ _ _ _ (S2.setO o n no)⟩
theorem s_asgF (hX : XOk C W X) (hn : ∀ x, X.fn x = true) {i : Nat} {x : Str} {px p : Pos} {f : Ef} (hi : slotB X.N i x = true) (hl : locB X.env.scope x = true) (hf : PE X f.em (tF C W (f.ev C.cl))) (hc : notC f.em = true) (wf : Nat) :
    PS X (Sm.asgF i x px f p).em (tS C W ((Sm.asgF i x px f p).ev C.cl wf)) :=
  psM (ps_set hX.nd (slot_of hi) (loc_of hl) hf (sw_not hc _ _ _) (.inl (hn x))) fun D σ H h => asgF_of h
theorem bind_ret {t : Tt} {d : PyData} {e : En} {f : En → Comp Ou} {P : Nat → Ou → Prop} (h : ((bindT t d e).bind f).wp b P noE) : ∃ e2, bindT t d e = .ret e2 ∧ (f e2).wp b P noE := by
  rcases bindT_form t d e with ⟨e2, z⟩ | z
  · rw [z] at h
    exact ⟨e2, z, h⟩
  · rw [z] at h
    exact h.elim
/-- what is open after a binding was open before -/
theorem bindTs_opn : ∀ {ts : Ts} {ds : List PyData} {e e2 : En} {i : Nat} {es : List PyData}, bindTs ts ds e = .ret e2 → e2[i]? = some (.ow es) → e[i]? = some (.ow es)
  | .nil, [], e, e2, i, es, h, q => by
    injection h with h
    subst h
    exact q
  | .cons k x p ts, d :: ds, e, e2, i, es, h, q => by
    have z := bindTs_opn (ts := ts) h q
    by_cases c : k = i
    · subst c
      by_cases c : k < e.length
      · rw [List.getElem?_set_self c] at z
        cases z
      · rw [List.getElem?_eq_none (by rw [List.length_set]; omega)] at z
        cases z
    · rwa [List.getElem?_set_ne c] at z
/-- a target takes a value -/
theorem gs_ss {N : List Str} {sc : Scope} : ∀ {ts : Ts} {ds : List PyData} {e e2 : En} {σ : L2.St} {xs : List V} {Q : L2.St → Hp → Prop}, bindTs ts ds e = .ret e2 → SS C F b R G σ H e → DqAll C.K G xs ds →
    (∀ σ2, SS C F b R G σ2 H e2 → Q σ2 H) → gTs ts xs σ H Q ∧ xs.length = ts.len
  | .nil, [], e, e2, σ, xs, Q, h, S, r, m => by
    cases r
    injection h with h
    subst h
    exact ⟨⟨rfl, m σ S⟩, rfl⟩
  | .cons i x p ts, d :: ds, e, e2, σ, xs, Q, h, S, r, m => by
    cases r with
    | cons r rs =>
    have z := gs_ss (N := N) (sc := sc) (Q := Q) (show bindTs ts ds (e.set i (.fz (.d d))) = .ret e2 from h) (S.setF (k := i) (w := .d d) r) rs m
    exact ⟨⟨_, _, rfl, z.1⟩, congrArg (· + 1) z.2⟩
theorem g_ss {t : Tt} {d : PyData} {e e2 : En} {σ : L2.St} {v : V} {Q : L2.St → Hp → Prop} {K : PySem.W.Frag} (hK : K = C.K) (h : bindT t d e = .ret e2) (S : SS C F b R G σ H e) (r : Dq C.K G v d)
    (m : ∀ σ2, SS C F b R G σ2 H e2 → Q σ2 H) : gT K t v σ H Q := by
  subst hK
  cases t with
  | nm i x p =>
    injection h with h
    subst h
    exact m _ (S.setF (w := .d d) r)
  | tp ts k p =>
    cases d with
    | tuple ds =>
      cases r with
      | tup h1 h2 =>
        have z := gs_ss (N := []) (sc := default) (Q := Q) h S h2 m
        exact ⟨_, _, rfl, S.st.bs.sub.sqT h1, z.2, z.1⟩
    | _ => cases h
theorem stores_not {e : Expr} (h : stN e = true) (ts : List Expr) (env : Env) (t : Expr) : swappedStores [t] e env = pure none := by
  unfold swappedStores
  cases e with
  | Tuple vs k p =>
    unfold stN at h
    cases t with
    | Tuple us k2 p2 =>
      simp only []
      repeat (first | rfl | split)
      all_goals first | rfl | (simp_all; done) | skip
    | List us p2 =>
      simp only []
      repeat (first | rfl | split)
      all_goals first | rfl | (simp_all; done) | skip
    | _ => rfl
  | _ => cases t <;> rfl
theorem nm_of {hn : ∀ x, X.fn x = true} (x : Str) (h : locB X.env.scope x = true) : Loc X.env.scope x ∧ (X.fn x = true ∨ X.env.scope.names.lookup x = some .local) := ⟨loc_of h, .inl (hn x)⟩
theorem fm_lt {sc : Scope} {g : Expr → Option Str} (hg : ∀ x p, ¬ sc.names.lookup x = some .local → g (.Name x p) = none) : ∀ ts : Ts, ts.cellB sc = true → (ts.em.filterMap g).length < ts.em.length
  | .nil, h => by cases h
  | .cons i x p ts, h => by
    have le : (ts.em.filterMap g).length ≤ ts.em.length := List.length_filterMap_le _ _
    unfold Ts.cellB at h
    rw [Bool.or_eq_true] at h
    show ((Expr.Name x p :: ts.em).filterMap g).length < (Expr.Name x p :: ts.em).length
    rw [List.filterMap_cons]
    rcases h with h | h
    · have h : ¬ sc.names.lookup x = some .local := by simpa using h
      rw [hg x p h]
      show (ts.em.filterMap g).length < ts.em.length + 1
      omega
    · have ih := fm_lt hg ts h
      cases g (.Name x p) with
      | none =>
        show (ts.em.filterMap g).length < ts.em.length + 1
        omega
      | some y =>
        show (ts.em.filterMap g).length + 1 < ts.em.length + 1
        omega
theorem stores_cell {t : Tt} {env : Env} {e : Expr} (h : t.cellB env.scope = true) : swappedStores [t.em] e env = pure none := by
  cases t with
  | nm i x p => cases h
  | tp ts k p =>
    unfold swappedStores
    cases e with
    | Tuple vs k2 p2 =>
      have key := fun l : Nat => fm_lt (sc := env.scope) (g := fun | .Name id pos => if env.kindOf id == some .local && pos.line == l then some id else none | _ => none) (fun x p hx => by
        have z : (env.kindOf x == some NameKind.local) = false := by
          show (env.scope.names.lookup x == some NameKind.local) = false
          simpa using hx
        simp [z]) ts h
      have e1 : (Tt.tp ts k p).em = .Tuple ts.em k p := rfl
      rw [e1]
      dsimp only
      split
      · rfl
      · split
        · rfl
        · split
          · rfl
          · rename_i hn
            exfalso
            refine hn ?_
            rw [Bool.or_eq_true]
            refine .inl ?_
            have z := key ((ts.em.head?.map (·.pos.line)).getD 0)
            exact bne_iff_ne.mpr (Nat.ne_of_lt z)
    | _ => rfl
theorem s_unp (hX : XOk C W X) (hn : ∀ x, X.fn x = true) {t : Tt} {a : Ee} {p : Pos} (ht : t.ok X.N X.env.scope none = true) (ha : PE X a.em (tX C W (a.ev C.cl))) (hc : notC a.em = true) (hs : (stN a.em || t.cellB X.env.scope) = true) (wf : Nat) :
    PS X (Sm.unp t a p).em (tS C W ((Sm.unp t a p).ev C.cl wf)) := by
  refine psM (ps_asg ha (pg_of (sc := X.env.scope) hX.calm hX.nd (fun x h => ⟨loc_of h, .inl (hn x)⟩) t ht) (sw_not hc _ _ _) (by
    rcases Bool.or_eq_true_iff.mp hs with z | z
    · exact stores_not z [] _ _
    · exact stores_cell z) ?_) fun D σ H ⟨F, b, R, G, e, S, h⟩ =>
    tX.of S.st (ss_run S h).dD fun b' R' G' H' w v s S' r ⟨d, ew, S2, q⟩ => ?_
  · cases t <;> rfl
  · subst ew
    obtain ⟨e2, hb, q⟩ := bind_ret q
    exact g_ss hX.m.hK hb S2 r fun σ2 S3 => out_nx q _ _ _ _ S3
end
end TC

set_option Elab.async false
set_option linter.all false
set_option maxRecDepth 100000
set_option maxHeartbeats 2000000
namespace TC
open PySem L2 PySem.Spec PyProof.Rows
section
variable {C : Ctx} {W : WX} {X : Cx} {σ : L2.St} {e : En} {b : Nat} {R : List Addr} {G H : Hp} {F : Fb} {D : Ends}
/-! ### two at once -/
/-- what a slot takes -/
def Nw (C : Ctx) (F : Fb) (R : List Addr) (G : Hp) (σ : L2.St) (H : Hp) (e : En) (v : V) : Sl → Prop
  | .un => False
  | .fz w => Rep C G v w
  | .ow ds => ∃ l, v = .ref l ∧ Own C R G H l ds ∧ F.H l = none ∧ ∀ i, ¬ Opn σ e i l
theorem SS.setS {k : Nat} {v : V} {s : Sl} (S : SS C F b R G σ H e) (r : Nw C F R G σ H e v s) : SS C F b R G (σ.set k (some v)) H (e.set k s) := by
  cases s with
  | un => exact r.elim
  | fz w => exact S.setF r
  | ow ds =>
    obtain ⟨l, rfl, o, n, no⟩ := r
    exact S.setO o n no
theorem Nw.stp {R' : List Addr} {G' H' : Hp} {v : V} {s : Sl} (r : Nw C F R G σ H e v s) (st : Stp R G H R' G' H') : Nw C F R' G' σ H' e v s := by
  cases s with
  | un => exact r
  | fz w => exact r.sub st.g
  | ow ds =>
    obtain ⟨l, rfl, o, n, no⟩ := r
    obtain ⟨vs, q, _⟩ := o.at_
    exact ⟨l, rfl, o.stp st (st.o l _ q o.r o.g), n, no⟩
def KS (C : Ctx) (σ : L2.St) (e : En) (Q : VK) : Nat → List Addr → Hp → Hp → Sl → Prop := fun b' R' G' H' s => ∀ v H2, Stp R' G' H' R' G' H2 → St C b' R' G' σ H2 e → (match s with
  | .un => False
  | .fz w => Rep C G' v w
  | .ow ds => ∃ l vs, v = .ref l ∧ H' l = none ∧ H2 l = some (.lst vs) ∧ DqAll C.K G' vs ds) → Q v H2
def tE (C : Ctx) (W : WX) (ev : En → Comp Sl) : TE := fun σ H Q => ∃ b R G e, St C b R G σ H e ∧ Run C W σ e b R G H (ev e) (KS C σ e Q)
theorem a_ex {a : Ee} (h : PE X a.em (tX C W (a.ev C.cl))) : PE X (Ea.ex a).em (tE C W ((Ea.ex a).ev C.cl)) :=
  peM h fun σ H Q ⟨b, R, G, e, S, h⟩ => ⟨b, R, G, e, S, (Run.bind h).mono fun b' R' G' H' w s S' q v r => Run.ret S' q v H' .refl S' r⟩
theorem a_nw {f : Ef} (h : PE X f.em (tF C W (f.ev C.cl))) : PE X (Ea.nw f).em (tE C W ((Ea.nw f).ev C.cl)) :=
  peM h fun σ H Q ⟨b, R, G, e, S, h⟩ => ⟨b, R, G, e, S, (Run.bind h).mono fun b' R' G' H' ds s S' q l H2 n st S2 ⟨vs, hv, d⟩ => Run.ret S' q (.ref l) H2 st S2 ⟨l, vs, rfl, n, hv, d⟩⟩
theorem Ea.head (a : Ea) : headB a.em = true := by
  cases a with
  | ex a => exact a.head
  | nw f => exact f.head
theorem star_no {e : Expr} (h : headB e = true) : (match e with | .Starred .. => true | _ => false) = false := by
  cases e <;> first | rfl | cases h
theorem par_stores {x y : Str} {px py p1 p2 : Pos} {k1 k2 : Nat} {a c : Expr} {env : Env} (hk : env.scope.kind = .function) (hx : env.scope.names.lookup x = some .local) (hy : env.scope.names.lookup y = some .local) (hl : (py.line == px.line) = true) (hn : x ≠ y)
    (ha : headB a = true) (hc : headB c = true) (h1 : ([a, c].all (foldedForSure 8)) = false) (h2 : ([a, c].all (constantsAlone 8)) = false) : swappedStores [.Tuple [.Name x px, .Name y py] k1 p1] (.Tuple [a, c] k2 p2) env = pure (some [x, y]) := by
  have hb : env.blockKind = .function := by unfold Env.blockKind; rw [hk]; rfl
  have kx : env.kindOf x = some .local := hx
  have ky : env.kindOf y = some .local := hy
  have s1 := star_no ha
  have s2 := star_no hc
  have hl2 : py.line = px.line := by simpa using hl
  unfold swappedStores
  simp only [hb, h1, h2, List.any_cons, List.any_nil, s1, s2, List.length_cons, List.length_nil]
  simp [kx, ky, hl2, Expr.pos, List.filterMap, List.eraseDups_cons, hn, Ne.symm hn]
  rintro (z | z)
  · cases a <;> first | (cases ha; done) | (cases z; done)
  · cases c <;> first | (cases hc; done) | (cases z; done)
theorem s_par (hX : XOk C W X) (hk : X.env.scope.kind = .function) {i j : Nat} {x y : Str} {px py p1 p2 p : Pos} {k1 k2 : Nat} {a c : Ea} (hi : slotB X.N i x = true) (hj : slotB X.N j y = true) (hij : i ≠ j)
    (hx : X.env.scope.names.lookup x = some .local) (hy : X.env.scope.names.lookup y = some .local) (hl : (py.line == px.line) = true) (hn : x ≠ y) (ha : PE X a.em (tE C W (a.ev C.cl))) (hc : PE X c.em (tE C W (c.ev C.cl)))
    (h1 : ([a.em, c.em].all (foldedForSure 8)) = false) (h2 : ([a.em, c.em].all (constantsAlone 8)) = false) (wf : Nat) : PS X (Sm.par i x px j y py a c k1 p1 k2 p2 p).em (tS C W ((Sm.par i x px j y py a c k1 p1 k2 p2 p).ev C.cl wf)) := by
  refine psM (ps_par hX.calm hX.nd (slot_of hi) (slot_of hj) hij hx hy (pa_2 ha hc a.head c.head) (par_stores hk hx hy hl hn a.head c.head h1 h2)) fun D σ H ⟨F, b, R, G, e, S, h⟩ => ?_
  refine ⟨b, R, G, e, S.st, (ss_run S h).mono fun b1 R1 G1 H1 s1 st1 S1 q v H2 st2 S2 r => ?_⟩
  have T2 := q.1.step st2 S2
  have nw : Nw C F R1 G1 σ H2 e v s1 := by
    cases s1 with
    | un => exact r.elim
    | fz w => exact r
    | ow ds =>
      obtain ⟨l, vs, rfl, n, hv, d⟩ := r
      obtain ⟨o, no⟩ := own_new S1 n hv d
      exact ⟨l, rfl, o, q.1.stp.h l n, no⟩
  refine ⟨b1, R1, G1, e, S2, (ss_run T2 q.2).mono fun b3 R3 G3 H3 s3 st3 S3 q3 u H4 st4 S4 r3 => ?_⟩
  have T4 := q3.1.step st4 S4
  have nw1 := nw.stp (st3.trans st4)
  refine ⟨v, u, rfl, out_nx q3.2 _ _ _ _ ((T4.setS nw1).setS ?_)⟩
  cases s3 with
  | un => exact r3.elim
  | fz w => exact r3
  | ow ds =>
    obtain ⟨l, vs, rfl, n, hv, d⟩ := r3
    obtain ⟨o, no⟩ := own_new S3 n hv d
    refine ⟨l, rfl, o, q3.1.stp.h l n, fun k op => ?_⟩
    cases s1 with
    | un => exact nw
    | fz w => exact no k (opn_set (s := .fz w) nofun op).2
    | ow ds1 =>
      obtain ⟨l1, rfl, o1, n1, no1⟩ := nw
      obtain ⟨⟨es, g1⟩, g2⟩ := op
      by_cases c : k = i
      · subst c
        by_cases c : k < σ.length
        · rw [List.getElem?_set_self c] at g2
          injection g2 with g2
          injection g2 with g2
          injection g2 with g2
          subst g2
          obtain ⟨vs1, w1, _⟩ := o1.at_
          have w2 := st3.k _ _ w1 o1.r
          rw [n] at w2
          cases w2
        · rw [List.getElem?_eq_none (by rw [List.length_set]; omega)] at g2
          cases g2
      · rw [List.getElem?_set_ne (Ne.symm c)] at g1 g2
        exact no k ⟨⟨es, g1⟩, g2⟩
theorem par3_stores {x y z : Str} {px py pz p1 p2 : Pos} {k1 k2 : Nat} {a b c : Expr} {env : Env} (hk : env.scope.kind = .function) (hx : env.scope.names.lookup x = some .local) (hy : env.scope.names.lookup y = some .local) (hz : env.scope.names.lookup z = some .local) (hl : (py.line == px.line) = true) (hl2 : (pz.line == px.line) = true)
    (n1 : x ≠ y) (n2 : x ≠ z) (n3 : y ≠ z) (ha : headB a = true) (hb : headB b = true) (hc : headB c = true) (h1 : ([a, b, c].all (foldedForSure 8)) = false) (h2 : ([a, b, c].all (constantsAlone 8)) = false) :
    swappedStores [.Tuple [.Name x px, .Name y py, .Name z pz] k1 p1] (.Tuple [a, b, c] k2 p2) env = pure (some [x, y, z]) := by
  have hbk : env.blockKind = .function := by unfold Env.blockKind; rw [hk]; rfl
  have kx : env.kindOf x = some .local := hx
  have ky : env.kindOf y = some .local := hy
  have kz : env.kindOf z = some .local := hz
  have s1 := star_no ha
  have s2 := star_no hb
  have s3 := star_no hc
  have e1 : py.line = px.line := by simpa using hl
  have e2 : pz.line = px.line := by simpa using hl2
  unfold swappedStores
  simp only [hbk, h1, h2, List.any_cons, List.any_nil, s1, s2, s3, List.length_cons, List.length_nil]
  simp [kx, ky, kz, e1, e2, Expr.pos, List.filterMap, List.eraseDups_cons, n1, n2, n3, Ne.symm n1, Ne.symm n2, Ne.symm n3]
  rintro (z | z | z)
  · cases a <;> first | (cases ha; done) | (cases z; done)
  · cases b <;> first | (cases hb; done) | (cases z; done)
  · cases c <;> first | (cases hc; done) | (cases z; done)
theorem star3 {b c : Expr} (h : headB b = true) (h2 : headB c = true) (pos : Pos) (env : Env) : (backTo pos (starEach [b, c] env)).any (·.1) = false := by
  rw [star_of h, star_of h2]
  rfl
theorem s_par3 (hX : XOk C W X) (hk : X.env.scope.kind = .function) {i j l : Nat} {x y z : Str} {px py pz p1 p2 p : Pos} {k1 k2 : Nat} {a b c : Ee} (hi : slotB X.N i x = true) (hj : slotB X.N j y = true) (hl : slotB X.N l z = true) (hij : i ≠ j) (hil : i ≠ l) (hjl : j ≠ l)
    (hx : X.env.scope.names.lookup x = some .local) (hy : X.env.scope.names.lookup y = some .local) (hz : X.env.scope.names.lookup z = some .local) (l1 : (py.line == px.line) = true) (l2 : (pz.line == px.line) = true) (n1 : x ≠ y) (n2 : x ≠ z) (n3 : y ≠ z)
    (ha : PE X a.em (tX C W (a.ev C.cl))) (hb : PE X b.em (tX C W (b.ev C.cl))) (hc : PE X c.em (tX C W (c.ev C.cl))) (h1 : ([a.em, b.em, c.em].all (foldedForSure 8)) = false) (h2 : ([a.em, b.em, c.em].all (constantsAlone 8)) = false) (wf : Nat) :
    PS X (Sm.par3 i x px j y py l z pz a b c k1 p1 k2 p2 p).em (tS C W ((Sm.par3 i x px j y py l z pz a b c k1 p1 k2 p2 p).ev C.cl wf)) := by
  refine psM (ps_par3 hX.calm hX.nd (slot_of hi) (slot_of hj) (slot_of hl) hij hil hjl hx hy hz (pa_cons ha (pa_2 hb hc b.head c.head) (star_of a.head _ _)) (par3_stores hk hx hy hz l1 l2 n1 n2 n3 a.head b.head c.head h1 h2)) fun D σ H ⟨F, n, R, G, e, S, h⟩ => ?_
  refine tX.of S.st (ss_run S h) fun b1 R1 G1 H1 w1 v1 s1 S1 r1 ⟨T1, q⟩ => tX.of S1 (ss_run T1 q) fun b2 R2 G2 H2 w2 v2 s2 S2 r2 ⟨T2, q2⟩ => tX.of S2 (ss_run T2 q2) fun b3 R3 G3 H3 w3 v3 s3 S3 r3 ⟨T3, q3⟩ => ?_
  exact ⟨v1, v2, v3, rfl, out_nx q3 _ _ _ _ (((T3.setF ((r1.sub s2.g).sub s3.g)).setF (r2.sub s3.g)).setF r3)⟩
/-! ### an open list is written -/
theorem SS.wr {i : Nat} {l : Addr} {ds ds' : List PyData} {vs' : List V} (S : SS C F b R G σ H e) (h : e[i]? = some (.ow ds)) (hs : σ[i]? = some (some (.ref l))) (d : DqAll C.K G vs' ds') : SS C F b R G σ (upd H l (.lst vs')) (e.set i (.ow ds')) := by
  have op : Opn σ e i l := ⟨⟨ds, h⟩, hs⟩
  obtain ⟨_, g, r⟩ := S.st.opn_some op
  have back : ∀ {j m}, Opn σ (e.set i (.ow ds')) j m → Opn σ e j m := fun {j m} o => by
    obtain ⟨⟨es, h1⟩, h2⟩ := o
    by_cases c : i = j
    · subst c
      exact ⟨⟨ds, h⟩, h2⟩
    · rw [List.getElem?_set_ne c] at h1
      exact ⟨⟨es, h1⟩, h2⟩
  refine ⟨⟨S.st.bs.put g r, by rw [List.length_set]; exact S.st.len, fun j sl hj => ?_, fun j k m o1 o2 => S.st.ap j k m (back o1) (back o2)⟩, S.stp.but (S.fr i l op) fun a ha => upd_ne ha, fun j m o => S.fr j m (back o), S.gb⟩
  by_cases c : i = j
  · subst c
    rw [List.getElem?_set_self (List.getElem?_eq_some_iff.mp h).1] at hj
    obtain rfl := Option.some.inj hj
    exact ⟨l, hs, ⟨vs', upd_same, d⟩, g, r⟩
  · rw [List.getElem?_set_ne c] at hj
    have z := S.st.sl j sl hj
    cases sl with
    | un => trivial
    | fz w => exact z
    | ow es =>
      obtain ⟨m, e1, o⟩ := z
      obtain ⟨us, q, q2⟩ := o.at_
      refine ⟨m, e1, ⟨us, ?_, q2⟩, o.g, o.r⟩
      have ne : m ≠ l := fun z => c (S.st.ap i j l op ⟨⟨es, hj⟩, z ▸ e1⟩)
      rw [upd_ne ne]
      exact q
theorem isO_run {i : Nat} {c : Comp Ou} {P : Nat → Ou → Prop} (h : (isO e i c).wp b P noE) : (∃ ds, e[i]? = some (.ow ds)) ∧ c.wp b P noE := by
  unfold isO at h
  split at h
  · rename_i ds eq
    exact ⟨⟨ds, eq⟩, h⟩
  · exact h.elim
theorem isF_run {i : Nat} {c : Comp Ou} {P : Nat → Ou → Prop} (h : (isF e i c).wp b P noE) : (∃ w, e[i]? = some (.fz w)) ∧ c.wp b P noE := by
  unfold isF at h
  split at h
  · rename_i w eq
    exact ⟨⟨w, eq⟩, h⟩
  · exact h.elim
theorem set_ix {o i : Expr} {pos : Pos} (h : headB i = true) (env : Env) (v : Value) : assign (.Subscript o i pos) env v = (do
      let ov ← holding [v] (eval o env)
      let iv ← holding [v, ov] (eval i env)
      standAt pos
      holding [v, ov, iv] (setItem ov iv v)
      release [v, ov, iv] []) := by
  cases i <;> first | rfl | cases h
theorem s_put (hX : XOk C W X) {i : Nat} {x : Str} {px pt p : Pos} {ix a : Ee} (hi : slotB X.N i x = true) (hv : visB X.env.scope x = true) (hx : PE X ix.em (tX C W (ix.ev C.cl))) (ha : PE X a.em (tX C W (a.ev C.cl))) (hc : notC a.em = true) (hs : stN a.em = true) (wf : Nat) :
    PS X (Sm.put i x px ix a pt p).em (tS C W ((Sm.put i x px ix a pt p).ev C.cl wf)) := by
  have n := plainNm_of (nm_vis hv)
  refine psM (ps_asg ha (pg_sub (pe_var (slot_of hi) (vis_of hv) n.1 n.2.1) hx set_list (set_ix ix.head _)) (by unfold swapsWithSole; exact sw_not hc _ _ _) (stores_not hs [] _ _) rfl) fun D σ H ⟨F, b, R, G, e, S, h⟩ => ?_
  obtain ⟨⟨ds, he⟩, h⟩ := isO_run h
  refine tX.of S.st (ss_run S h).dD fun b1 R1 G1 H1 w v s1 S1 r1 ⟨d, ew, T1, q⟩ => ?_
  subst ew
  obtain ⟨l, hl, o⟩ := S.st.sl i _ he
  refine ⟨.ref l, hl, tX.of S1 (ss_run T1 q).dI fun b2 R2 G2 H2 w2 v2 s2 S2 r2 ⟨k, ew, T2, q2⟩ => ?_⟩
  subst ew
  cases r2
  obtain ⟨l', hl', o2⟩ := T2.st.sl i _ he
  rw [hl] at hl'
  injection hl' with hl'
  injection hl' with hl'
  injection hl' with hl'
  subst hl'
  obtain ⟨vs, hv, dv⟩ := o2.at_
  have q2 : (match e[i]? with
    | some (.ow ds) => (match L2.ixN ds.length k with | some j => .ret (.nx (e.set i (.ow (ds.set j d)))) | none => .stuck)
    | _ => .stuck : Comp Ou).wp b2 (OuP C W F D) noE := q2
  rw [he] at q2
  have q2 : (match L2.ixN ds.length k with | some j => .ret (.nx (e.set i (.ow (ds.set j d)))) | none => .stuck : Comp Ou).wp b2 (OuP C W F D) noE := q2
  cases ej : L2.ixN ds.length k with
  | none =>
    rw [ej] at q2
    exact q2.elim
  | some j =>
    rw [ej] at q2
    exact ⟨l, vs, k, j, rfl, rfl, hv, by rw [dps_length dv]; exact ej, out_nx q2 _ _ _ _ (T2.wr he hl (dps_set (s2.g.dp r1) j dv))⟩
theorem s_app (hX : XOk C W X) {i : Nat} {x : Str} {px pa pc p : Pos} {a : Ee} (hi : slotB X.N i x = true) (hv : visB X.env.scope x = true) (ha : PE X a.em (tX C W (a.ev C.cl))) (hl : (pa.endLine == pc.line) = true) (wf : Nat) :
    PS X (Sm.app i x px pa a pc p).em (tS C W ((Sm.app i x px pa a pc p).ev C.cl wf)) := by
  have n := plainNm_of (nm_vis hv)
  refine psM (ps_expr (pe_bm F.plainAttrs_list F.slot_list_append F.type_list_append mt_append (pe_var (slot_of hi) (vis_of hv) n.1 n.2.1) (pa_1 ha a.head) (base_of rfl _ _) ?_ hl (star_of a.head _ _))) fun D σ H ⟨F, b, R, G, e, S, h⟩ => ?_
  · rw [star_of a.head]
    rfl
  · obtain ⟨⟨ds, he⟩, h⟩ := isO_run h
    obtain ⟨l, hl, o⟩ := S.st.sl i _ he
    obtain ⟨vs, hv, dv⟩ := o.at_
    refine ⟨.ref l, hl, .inl ⟨rfl, vs, .inl (.inl hv)⟩, tX.of S.st (ss_run S h).dD fun b1 R1 G1 H1 w v s1 S1 r1 ⟨d, ew, T1, q⟩ => ?_⟩
    subst ew
    obtain ⟨l', hl', o2⟩ := T1.st.sl i _ he
    rw [hl] at hl'
    injection hl' with hl'
    injection hl' with hl'
    injection hl' with hl'
    subst hl'
    obtain ⟨vs2, hv2, dv2⟩ := o2.at_
    have q : (match e[i]? with
      | some (.ow ds) => if ds.length < LIM then .ret (.nx (e.set i (.ow (ds ++ [d])))) else .stuck
      | _ => .stuck : Comp Ou).wp b1 (OuP C W F D) noE := q
    rw [he] at q
    have q : (if ds.length < LIM then .ret (.nx (e.set i (.ow (ds ++ [d])))) else .stuck : Comp Ou).wp b1 (OuP C W F D) noE := q
    by_cases c : ds.length < LIM
    · rw [if_pos c] at q
      refine ⟨l, vs2, v, rfl, rfl, hv2, ?_, out_nx q _ _ _ _ (T1.wr he hl (dps_append dv2 (.cons r1 .nil)))⟩
      rw [dps_length dv2]
      have := lim_line (Nat.le_refl LIM)
      omega
    · rw [if_neg c] at q
      exact q.elim
/-! ### x.append(y.pop(e)) -/
theorem dps_erase : ∀ {vs : List V} {ds : List PyData} {n : Nat}, DqAll C.K G vs ds → DqAll C.K G (vs.eraseIdx n) (ds.eraseIdx n)
  | _, _, _, .nil => .nil
  | _, _, 0, .cons r t => t
  | _, _, n + 1, .cons r t => .cons r (dps_erase t)
theorem dps_nth : ∀ {vs : List V} {ds : List PyData} {n : Nat} {d : PyData}, DqAll C.K G vs ds → ds[n]? = some d → ∃ v, vs[n]? = some v ∧ Dq C.K G v d
  | _, _, 0, _, .cons r t, h => by
    obtain rfl := Option.some.inj (by simpa using h)
    exact ⟨_, rfl, r⟩
  | _, _, n + 1, _, .cons r t, h => by
    obtain ⟨v, h1, h2⟩ := dps_nth (n := n) t (by simpa using h)
    exact ⟨v, by simpa using h1, h2⟩
theorem popE_int {e : En} {i j : Nat} {ds es : List PyData} {z : Int} (he : e[i]? = some (.ow ds)) (hf : e[j]? = some (.ow es)) : popE e i j (.int z) = if decide (0 ≤ z) && decide (es.length ≤ LIM) && decide (ds.length < LIM) then (match es[z.toNat]? with | some y => .ret (.nx ((e.set j (.ow (es.eraseIdx z.toNat))).set i (.ow (ds ++ [y])))) | none => .stuck) else .stuck := by
  unfold popE
  rw [he, hf] <;> rfl
theorem seqIx {z : Int} {n : Nat} (h0 : 0 ≤ z) (h1 : z < n) : seqIndex? z n = some z.toNat := by
  have e : seqIndex? z n = if (decide (0 ≤ (if z < 0 then z + n else z)) && decide ((if z < 0 then z + n else z) < n)) = true then some (if z < 0 then z + n else z).toNat else none := rfl
  have e2 : (if z < 0 then z + (n : Int) else z) = z := if_neg (by omega)
  rw [e, e2, decide_eq_true h0, decide_eq_true h1]
  rfl
theorem popE_no {e : En} {i j : Nat} {ds es : List PyData} {d : PyData} {b : Nat} {P : Nat → Ou → Prop} (he : e[i]? = some (.ow ds)) (hf : e[j]? = some (.ow es)) (hd : ∀ z, d ≠ .int z) (h : (popE e i j d).wp b P noE) : False := by
  unfold popE at h
  rw [he, hf] at h
  cases d <;> first | exact h.elim | exact hd _ rfl
theorem s_apo (hX : XOk C W X) {i j : Nat} {x y : Str} {px pa py pb pq pc p : Pos} {a : Ee} (hi : slotB X.N i x = true) (hv : visB X.env.scope x = true) (hj : slotB X.N j y = true) (hw : visB X.env.scope y = true) (ij : i ≠ j) (ha : PE X a.em (tX C W (a.ev C.cl)))
    (hl2 : (pb.endLine == pq.line) = true) (hl : (pa.endLine == pc.line) = true) (wf : Nat) :
    PS X (Sm.apo i x px pa j y py pb a pq pc p).em (tS C W ((Sm.apo i x px pa j y py pb a pq pc p).ev C.cl wf)) := by
  have n := plainNm_of (nm_vis hv)
  have m := plainNm_of (nm_vis hw)
  have pop : PE X (.Call (.Attribute (.Name y py) "pop" pb) [a.em] [] pq) (tBM X.K "list" rPopAt (tVar j) (tCons (tX C W (a.ev C.cl)) tNil)) := by
    refine pe_bm F.plainAttrs_list F.slot_list_pop F.type_list_pop mt_popAt (pe_var (slot_of hj) (vis_of hw) m.1 m.2.1) (pa_1 ha a.head) (base_of rfl _ _) ?_ hl2 (star_of a.head _ _)
    rw [star_of a.head]
    rfl
  refine psM (ps_expr (pe_bm F.plainAttrs_list F.slot_list_append F.type_list_append mt_append (pe_var (slot_of hi) (vis_of hv) n.1 n.2.1) (pa_1 pop rfl) (base_of rfl _ _) (by rfl) hl (by rfl))) fun D σ H ⟨F, b, R, G, e, S, h⟩ => ?_
  obtain ⟨⟨ds, he⟩, h⟩ := isO_run h
  obtain ⟨⟨es, hf⟩, h⟩ := isO_run h
  obtain ⟨l, hl, o⟩ := S.st.sl i _ he
  obtain ⟨vs, hv, dv⟩ := o.at_
  obtain ⟨k, hk, o2⟩ := S.st.sl j _ hf
  obtain ⟨us, hu, du⟩ := o2.at_
  refine ⟨.ref l, hl, .inl ⟨rfl, vs, .inl (.inl hv)⟩, .ref k, hk, .inl ⟨rfl, us, .inl (.inl hu)⟩, tX.of S.st (ss_run S h).dD fun b1 R1 G1 H1 w v s1 S1 r1 ⟨d, ew, T1, q⟩ => ?_⟩
  subst ew
  cases d with
  | int z =>
    have q : (popE e i j (.int z)).wp b1 (OuP C W F D) noE := q
    rw [popE_int he hf] at q
    by_cases c : (decide (0 ≤ z) && decide (es.length ≤ LIM) && decide (ds.length < LIM)) = true
    · rw [if_pos c] at q
      rw [Bool.and_eq_true, Bool.and_eq_true, decide_eq_true_eq, decide_eq_true_eq, decide_eq_true_eq] at c
      cases ey : es[z.toNat]? with
      | none => rw [ey] at q; exact q.elim
      | some yd =>
        rw [ey] at q
        have q : (Comp.ret (.nx ((e.set j (.ow (es.eraseIdx z.toNat))).set i (.ow (ds ++ [yd]))))).wp b1 (OuP C W F D) noE := q
        obtain ⟨k', hk', p2⟩ := T1.st.sl j _ hf
        rw [hk] at hk'
        obtain rfl : k = k' := by
          injection hk' with hk'
          injection hk' with hk'
          injection hk'
        obtain ⟨us1, hu1, du1⟩ := p2.at_
        obtain ⟨u, hu2, ru⟩ := dps_nth du1 ey
        have T2 := T1.wr hf hk (dps_erase (n := z.toNat) du1)
        have he2 : (e.set j (.ow (es.eraseIdx z.toNat)))[i]? = some (.ow ds) := by
          rw [List.getElem?_set_ne (Ne.symm ij)]
          exact he
        obtain ⟨l', hl', p3⟩ := T2.st.sl i _ he2
        rw [hl] at hl'
        obtain rfl : l = l' := by
          injection hl' with hl'
          injection hl' with hl'
          injection hl'
        obtain ⟨vs2, hv2, dv2⟩ := p3.at_
        have lz : z.toNat < es.length := (List.getElem?_eq_some_iff.mp ey).1
        have lu := dps_length du1
        have ll := lim_line (Nat.le_refl LIM)
        cases r1
        refine ⟨k, us1, z, z.toNat, u, rfl, rfl, hu1, by omega, ?_, ?_, hu2, l, vs2, u, rfl, rfl, hv2, ?_, out_nx q _ _ _ _ (T2.wr he2 hl (dps_append dv2 (.cons ru .nil)))⟩
        · have := c.1.2
          unfold LIM at this
          omega
        · exact seqIx c.1.1 (by omega)
        · rw [dps_length dv2]
          have := c.2
          omega
    · rw [if_neg c] at q
      exact q.elim
  | _ => exact (popE_no he hf (by nofun) q).elim
/-! ### name op= e -/
def ipB (o : BO) : TIp := fun x y H Q => ∃ i j z, x = .int i ∧ y = .int j ∧ augB o i j = .ret z ∧ Q (.int z) H
theorem ip_any (o : BO) : PIp X o.op (ipB o) := by
  intro pins s σ H x y v u Q I r1 r2 h
  obtain ⟨i, j, z, rfl, rfl, h, q⟩ := h
  obtain ⟨t, rfl⟩ := r1
  obtain ⟨t', rfl⟩ := r2
  have fin : EP X pins σ Q (.int z s.toks) { s with toks := s.toks + 1 } := ⟨.int z, H, I.tok _, ⟨_, rfl⟩, q⟩
  cases o with
  | add =>
    injection h with h
    subst h
    exact iadd_int fin
  | sub =>
    injection h with h
    subst h
    exact isub_int fin
  | mul =>
    have h : (if smallI i || smallI j then .ret (i * j) else .stuck : Comp Int) = .ret z := h
    by_cases c : (smallI i || smallI j) = true
    · rw [if_pos c] at h
      injection h with h
      subst h
      rw [Bool.or_eq_true] at c
      unfold smallI at c
      rw [Bool.and_eq_true, Bool.and_eq_true, decide_eq_true_eq, decide_eq_true_eq, decide_eq_true_eq, decide_eq_true_eq] at c
      exact imul_int fin (CMul.ok (by unfold CMul; omega))
    · rw [if_neg c] at h
      cases h
  | div =>
    have h : (if decide (0 < j) && decide (j.natAbs.log2 < 9000) then .ret (i / j) else .stuck : Comp Int) = .ret z := h
    by_cases c : (decide (0 < j) && decide (j.natAbs.log2 < 9000)) = true
    · rw [if_pos c] at h
      injection h with h
      subst h
      rw [Bool.and_eq_true, decide_eq_true_eq, decide_eq_true_eq] at c
      exact ifloordiv_int (by omega) (by rw [Int.fdiv_eq_ediv_of_nonneg i (by omega)]; exact fin) (.inl (PyProof.noPylong_of_log2 c.2))
    · rw [if_neg c] at h
      cases h
  | mod => cases h
  | pow => cases h
theorem augB_form (o : BO) (i j : Int) : (∃ z, augB o i j = .ret z) ∨ augB o i j = .stuck := by
  cases o with
  | add => exact .inl ⟨_, rfl⟩
  | sub => exact .inl ⟨_, rfl⟩
  | mul =>
    by_cases c : (smallI i || smallI j) = true
    · exact .inl ⟨_, if_pos c⟩
    · exact .inr (if_neg c)
  | div =>
    by_cases c : (decide (0 < j) && decide (j.natAbs.log2 < 9000)) = true
    · exact .inl ⟨_, if_pos c⟩
    · exact .inr (if_neg c)
  | mod => exact .inr rfl
  | pow => exact .inr rfl
theorem s_aug (hX : XOk C W X) (hn : ∀ x, X.fn x = true) {i : Nat} {x : Str} {px p : Pos} {o : BO} {a : Ee} (hi : slotB X.N i x = true) (hl : locB X.env.scope x = true) (ha : PE X a.em (tX C W (a.ev C.cl))) (wf : Nat) :
    PS X (Sm.aug i x px o a p).em (tS C W ((Sm.aug i x px o a p).ev C.cl wf)) :=
  psM (ps_aug hX.nd (slot_of hi) (loc_of hl) ha (ip_any o) (.inl (hn x))) fun D σ H ⟨F, b, R, G, e, S, h⟩ => by
    obtain ⟨⟨w, he⟩, h⟩ := isF_run h
    obtain ⟨u, hu, ru⟩ := S.st.sl i _ he
    refine ⟨u, hu, tX.of S.st (ss_run S h).dI fun b1 R1 G1 H1 w1 v s1 S1 r1 ⟨k, ew, T1, q⟩ => ?_⟩
    subst ew
    cases r1
    have q : ((dI (varE e i)).bind fun x => (augB o x k).bind fun z => .ret (.nx (e.set i (.fz (.d (.int z)))))).wp b1 (OuP C W F D) noE := q
    have ev : varE e i = .ret w := by
      unfold varE
      rw [he]
    rw [ev] at q
    cases w with
    | rng => exact q.elim
    | scr n => exact q.elim
    | d d =>
      cases d with
      | int n =>
        have q : ((augB o n k).bind fun z => .ret (.nx (e.set i (.fz (.d (.int z)))))).wp b1 (OuP C W F D) noE := q
        have ru : Dq C.K G u (.int n) := ru
        cases ru
        rcases augB_form o n k with ⟨z, ez⟩ | ez
        · rw [ez] at q
          exact ⟨n, k, z, rfl, rfl, ez, out_nx q _ _ _ _ (T1.setF (w := .d (.int z)) (.int z))⟩
        · rw [ez] at q
          exact q.elim
      | _ => exact q.elim
end
end TC

set_option Elab.async false
set_option linter.all false
set_option maxRecDepth 100000
set_option maxHeartbeats 2000000
namespace TC
open PySem L2 PySem.Spec
section
variable {C : Ctx} {W : WX} {X : Cx} {σ : L2.St} {e : En} {b : Nat} {R : List Addr} {G H : Hp} {F : Fb} {D : Ends}
/-! ### the way on -/
theorem s_ret {a : Ee} {p : Pos} (ha : PE X a.em (tX C W (a.ev C.cl))) (wf : Nat) : PS X (Sm.ret a p).em (tS C W ((Sm.ret a p).ev C.cl wf)) :=
  psM (ps_ret ha) fun D σ H ⟨F, b, R, G, e, S, h⟩ => tX.of S.st (ss_run S h) fun b1 R1 G1 H1 w v s1 S1 r1 ⟨T1, q⟩ => q R1 G1 H1 v T1.stp S1.bs r1
theorem s_retF {f : Ef} {p : Pos} (hf : PE X f.em (tF C W (f.ev C.cl))) (wf : Nat) : PS X (Sm.retF f p).em (tS C W ((Sm.retF f p).ev C.cl wf)) :=
  psM (ps_ret hf) fun D σ H ⟨F, b, R, G, e, S, h⟩ => ⟨b, R, G, e, S.st, (ss_run S h).mono fun b' R' G' H' ds s S' q => kf_own q.1 fun l H2 S2 o n no => q.2 R' G' H2 (.ref l) S2.stp S2.st.bs ⟨l, rfl, n, o⟩⟩
theorem s_retO (hX : XOk C W X) {i : Nat} {x : Str} {px p : Pos} (hi : slotB X.N i x = true) (hv : visB X.env.scope x = true) (wf : Nat) : PS X (Sm.retO i x px p).em (tS C W ((Sm.retO i x px p).ev C.cl wf)) := by
  have n := plainNm_of (nm_vis hv)
  refine psM (ps_ret (pe_var (slot_of hi) (vis_of hv) n.1 n.2.1)) fun D σ H ⟨F, b, R, G, e, S, h⟩ => ?_
  have h : (match e[i]? with
    | some (.ow ds) => .ret (.rt (.ow ds))
    | _ => .stuck : Comp Ou).wp b (OuP C W F D) noE := h
  split at h
  · rename_i ds ew
    obtain ⟨l, e1, o⟩ := S.st.sl i _ ew
    exact ⟨.ref l, e1, h R G H (.ref l) S.stp S.st.bs ⟨l, rfl, S.fr i l ⟨⟨ds, ew⟩, e1⟩, o⟩⟩
  · exact h.elim
theorem s_expr {a : Ee} {p : Pos} (ha : PE X a.em (tX C W (a.ev C.cl))) (hc : notC a.em = true) (wf : Nat) : PS X (Sm.expr a p).em (tS C W ((Sm.expr a p).ev C.cl wf)) :=
  psM (ps_expr ha (sw_not hc _ _ _)) fun D σ H ⟨F, b, R, G, e, S, h⟩ => tX.of S.st (ss_run S h) fun b1 R1 G1 H1 w v s1 S1 r1 ⟨T1, q⟩ => out_nx q _ _ _ _ T1
theorem s_brk {p : Pos} (wf : Nat) : PS X (Sm.brk p).em (tS C W ((Sm.brk p).ev C.cl wf)) := psM ps_break fun D σ H ⟨F, b, R, G, e, S, h⟩ => h R G σ H S
theorem s_cnt {p : Pos} (wf : Nat) : PS X (Sm.cnt p).em (tS C W ((Sm.cnt p).ev C.cl wf)) := psM ps_continue fun D σ H ⟨F, b, R, G, e, S, h⟩ => h R G σ H S
theorem s_pass {p : Pos} (wf : Nat) : PS X (Sm.pass p).em (tS C W ((Sm.pass p).ev C.cl wf)) := psM ps_pass fun D σ H ⟨F, b, R, G, e, S, h⟩ => h R G σ H S
theorem s_never {st : Stmt} (wf : Nat) : PS X (Sm.never st).em (tS C W ((Sm.never st).ev C.cl wf)) := psM ps_never fun D σ H ⟨F, b, R, G, e, S, h⟩ => h
/-! ### blocks -/
theorem ss_nil (wf : Nat) : PSs X Sms.nil.em (tS C W (Sms.nil.ev C.cl wf)) := pssM pss_nil fun D σ H ⟨F, b, R, G, e, S, h⟩ => h R G σ H S
def goOn (f : En → Comp Ou) : Ou → Comp Ou
  | .nx e2 => f e2
  | o => .ret o
theorem ss_cons {s : Sm} {ss : Sms} {wf : Nat} (h1 : PS X s.em (tS C W (s.ev C.cl wf))) (h2 : PSs X ss.em (tS C W (ss.ev C.cl wf))) : PSs X (Sms.cons s ss).em (tS C W ((Sms.cons s ss).ev C.cl wf)) :=
  pssM (pss_cons h1 h2) fun D σ H ⟨F, b, R, G, e, S, h⟩ => by
    refine ⟨F, b, R, G, e, S, Comp.wp_mono (Comp.wp_bind.mp h) (fun b' o q => ?_) fun _ _ z => z⟩
    cases o with
    | nx e2 => exact fun R' G' σ' H' S' => ⟨F, b', R', G', e2, S', q⟩
    | br e2 => exact q
    | ct e2 => exact q
    | rt r => exact q
    | ex x e2 => exact q
/-- from here on an open list stays as it is -/
theorem SS.freeze {i : Nat} (S : SS C F b R G σ H e) : ∃ G', SS C F b R G' σ H (frzE e i) := by
  unfold frzE
  split
  · rename_i ds he
    obtain ⟨l, hl, o⟩ := S.st.sl i _ he
    have op : Opn σ e i l := ⟨⟨ds, he⟩, hl⟩
    obtain ⟨vs, hv, dv⟩ := o.at_
    have sub : Sub G (upd G l (.lst vs)) := fun a u q => by
      have ne : a ≠ l := ne_of_none q o.g
      rw [upd_ne ne]
      exact q
    have back : ∀ {j m}, Opn σ (e.set i (.fz (.d (.list ds)))) j m → j ≠ i ∧ Opn σ e j m := fun {j m} q => by
      obtain ⟨⟨es, h1⟩, h2⟩ := q
      have ne : j ≠ i := fun z => by
        subst z
        rw [List.getElem?_set_self (List.getElem?_eq_some_iff.mp he).1] at h1
        cases h1
      rw [List.getElem?_set_ne (Ne.symm ne)] at h1
      exact ⟨ne, ⟨es, h1⟩, h2⟩
    have ne_l : ∀ {j m}, j ≠ i → Opn σ e j m → m ≠ l := fun {j m} nj q z => nj (S.st.ap j i l (z ▸ q) op)
    refine ⟨upd G l (.lst vs), ⟨S.st.bs.freeze hv o.r, by rw [List.length_set]; exact S.st.len, fun j sl hj => ?_, fun j k m q1 q2 => S.st.ap j k m (back q1).2 (back q2).2⟩, ⟨fun a u q => sub a u (S.stp.g a u q), S.stp.k, S.stp.r, fun a u h n z => ?_, S.stp.h⟩, fun j m q => S.fr j m (back q).2, fun a u q => sub a u (S.gb a u q)⟩
    · by_cases c : i = j
      · subst c
        rw [List.getElem?_set_self (List.getElem?_eq_some_iff.mp he).1] at hj
        obtain rfl := Option.some.inj hj
        exact ⟨.ref l, hl, Dq.lst (.inl upd_same) (sub.dps dv)⟩
      · rw [List.getElem?_set_ne c] at hj
        have z := S.st.sl j sl hj
        cases sl with
        | un => trivial
        | fz w =>
          obtain ⟨u, e1, r⟩ := z
          exact ⟨u, e1, r.sub sub⟩
        | ow es =>
          obtain ⟨m, e1, o2⟩ := z
          obtain ⟨us, q, q2⟩ := o2.at_
          refine ⟨m, e1, ⟨us, q, sub.dps q2⟩, ?_, o2.r⟩
          rw [upd_ne (ne_l (Ne.symm c) ⟨⟨es, hj⟩, e1⟩)]
          exact o2.g
    · have ne : a ≠ l := fun c => by
        have := S.fr i l op
        rw [c, this] at h
        cases h
      rw [upd_ne ne]
      exact S.stp.o a u h n z
  · exact ⟨G, S⟩
theorem ss_frz {i : Nat} {ss : Sms} {wf : Nat} (h2 : PSs X ss.em (tS C W (ss.ev C.cl wf))) : PSs X (Sms.frz i ss).em (tS C W ((Sms.frz i ss).ev C.cl wf)) :=
  pssM h2 fun D σ H ⟨F, b, R, G, e, S, h⟩ => by
    obtain ⟨G', S'⟩ := S.freeze (i := i)
    exact ⟨F, b, R, G', frzE e i, S', h⟩
theorem opn_un {k i : Nat} {l : Addr} (o : Opn σ (e.set k .un) i l) : Opn σ e i l := by
  obtain ⟨⟨ds, h1⟩, h2⟩ := o
  by_cases c : k = i
  · subst c
    by_cases c : k < e.length
    · rw [List.getElem?_set_self c] at h1
      cases h1
    · rw [List.getElem?_eq_none (by rw [List.length_set]; omega)] at h1
      cases h1
  · rw [List.getElem?_set_ne c] at h1
    exact ⟨⟨ds, h1⟩, h2⟩
theorem SS.setU {k : Nat} (S : SS C F b R G σ H e) : SS C F b R G σ H (e.set k .un) := by
  refine ⟨⟨S.st.bs, by rw [List.length_set]; exact S.st.len, fun i sl h => ?_, fun i j l o1 o2 => S.st.ap i j l (opn_un o1) (opn_un o2)⟩, S.stp, fun i l o => S.fr i l (opn_un o), S.gb⟩
  by_cases c : k = i
  · subst c
    by_cases c : k < e.length
    · rw [List.getElem?_set_self c] at h
      obtain rfl := Option.some.inj h
      exact trivial
    · rw [List.getElem?_eq_none (by rw [List.length_set]; omega)] at h
      cases h
  · rw [List.getElem?_set_ne c] at h
    exact S.st.sl i sl h
theorem SS.fgt (S : SS C F b R G σ H e) : ∀ is : List Nat, SS C F b R G σ H (wipeE e is)
  | [] => S
  | i :: is => (S.fgt is).setU
theorem ss_fgt {is : List Nat} {ss : Sms} {wf : Nat} (h2 : PSs X ss.em (tS C W (ss.ev C.cl wf))) : PSs X (Sms.fgt is ss).em (tS C W ((Sms.fgt is ss).ev C.cl wf)) :=
  pssM h2 fun D σ H ⟨F, b, R, G, e, S, h⟩ => ⟨F, b, R, G, wipeE e is, S.fgt is, h⟩
/-! ### if, for, while -/
theorem s_iff {c : Ee} {a d : Sms} {p : Pos} {wf : Nat} (hc : PT X c.em (tT C W (c.ev C.cl))) (ha : PSs X a.em (tS C W (a.ev C.cl wf))) (hd : PSs X d.em (tS C W (d.ev C.cl wf))) : PS X (Sm.iff c a d p).em (tS C W ((Sm.iff c a d p).ev C.cl wf)) :=
  psM (ps_if hc ha hd) fun D σ H ⟨F, b, R, G, e, S, h⟩ => ⟨b, R, G, e, S.st, (ss_run S h).dB.mono fun b1 R1 G1 H1 w s1 S1 ⟨t, ew, T1, q⟩ => by
    refine ⟨t, ew, ?_⟩
    show (if t = true then _ else _)
    cases t with
    | true =>
      rw [if_pos rfl] at q ⊢
      exact ⟨F, b1, R1, G1, e, T1, q⟩
    | false =>
      rw [if_neg (by decide)] at q ⊢
      exact ⟨F, b1, R1, G1, e, T1, q⟩⟩
/-- what a turn hands on -/
def turnC (f : En → Comp Ou) : Ou → Comp Ou
  | .nx e2 => f e2
  | .ct e2 => f e2
  | .br e2 => .ret (.nx e2)
  | .rt r => .ret (.rt r)
  | .ex x e2 => .ret (.ex x e2)
theorem forC_cons {f : PyData → En → Comp Ou} {d : PyData} {ds : List PyData} {e : En} : forC f (d :: ds) e = (f d e).bind (turnC (forC f ds)) := by
  show (f d e).bind _ = _
  congr 1
theorem whlC_succ {c : En → Comp Bool} {f : En → Comp Ou} {n : Nat} {e : En} : whlC c f (n + 1) e = exO e (c e) fun b => if b then (f e).bind (turnC (whlC c f n)) else .ret (.nx e) := by
  show exO e (c e) _ = _
  congr 1
theorem SS.gbase {F : Fb} {G1 : Hp} (S : SS C { F with Gb := G1 } b R G σ H e) (g : Sub F.Gb G1) : SS C F b R G σ H e := ⟨S.st, S.stp, S.fr, fun a o q => S.gb a o (g a o q)⟩
theorem com_ss {H' : Hp} {x : V} {d : PyData} {G0 : Hp} (S : SS C F b R G σ H e) (s : Sub G0 G) (c : Com C G0 H x H' d) : ∃ G', SS C F b R G' σ H' e ∧ Dq C.K G' x d := by
  obtain ⟨G', st, S', r⟩ := com_st S.st s c
  exact ⟨G', S.step st S', r⟩
theorem s_forr (hX : XOk C W X) (hn : ∀ x, X.fn x = true) {t : Tt} {it : Ei} {d : Sms} {p : Pos} {wf : Nat} (ht : t.ok X.N X.env.scope none = true) (hi : PI X t.em it.em (tI C W (it.ev C.cl))) (hd : PSs X d.em (tS C W (d.ev C.cl wf))) :
    PS X (Sm.forr t it d p).em (tS C W ((Sm.forr t it d p).ev C.cl wf)) := by
  refine psM (ps_for hX.own hX.calm hi (pg_of (sc := X.env.scope) hX.calm hX.nd (fun x h => ⟨loc_of h, .inl (hn x)⟩) t ht) hd (fun x => fold_of x _)) fun D σ H ⟨F, b, R, G, e, S, h⟩ => ?_
  refine ⟨b, R, G, e, S.st, (ss_run S h).mono fun b1 R1 G1 H1 ds s1 S1 ⟨T1, q⟩ _ J wk => ?_⟩
  generalize hf : (fun d1 e1 => (bindT t d1 e1).bind fun e2 => d.ev C.cl wf e2) = f at q
  let F1 : Fb := { F with Gb := G1 }
  have go1 : ∀ {b R G σ H e}, SS C F1 b R G σ H e → SS C F b R G σ H e := fun z => z.gbase T1.gb
  refine ⟨fun i m σ H => m = ds.length - i ∧ i ≤ ds.length ∧ ∃ b R G e, SS C F1 b R G σ H e ∧ (forC f (ds.drop i) e).wp b (OuP C W F D) noE, ⟨ds.length, by simp, Nat.zero_le _, b1, R1, G1, e, ⟨T1.st, T1.stp, T1.fr, fun _ _ z => z⟩, q⟩, ?_⟩
  rintro i m σ Hc ⟨rfl, hi, b, R, G, e, S, w⟩
  have sub : Sub G1 Hc := fun a o z => S.st.bs.sub a o (S.gb a o z)
  by_cases hlt : i < ds.length
  · refine .inr ⟨wk.go i Hc hlt sub, fun σ' H' => ∃ b R G e, SS C F1 b R G σ' H' e ∧ (forC f (ds.drop (i + 1)) e).wp b (OuP C W F D) noE, fun σ' H' z => ⟨ds.length - (i + 1), by omega, rfl, hlt, z⟩, fun x H' y => ?_⟩
    obtain ⟨G', S', rx⟩ := com_ss S S.gb (wk.yld i Hc x H' _ (List.getElem?_eq_getElem hlt) sub y)
    rw [List.drop_eq_getElem_cons hlt, forC_cons] at w
    subst hf
    have w : (((bindT t ds[i] e).bind fun e2 => d.ev C.cl wf e2).bind _).wp b (OuP C W F D) noE := w
    obtain ⟨e2, hb, w⟩ : ∃ e2, bindT t ds[i] e = .ret e2 ∧ ((d.ev C.cl wf e2).bind (turnC (forC (fun d1 e1 => (bindT t d1 e1).bind fun e2 => d.ev C.cl wf e2) (ds.drop (i + 1))))).wp b (OuP C W F D) noE := by
      rcases bindT_form t ds[i] e with ⟨e2, z⟩ | z
      · rw [z] at w
        exact ⟨e2, z, w⟩
      · rw [z] at w
        exact w.elim
    refine g_ss hX.m.hK hb S' rx fun σ2 S2 => ⟨F1, b, R, G', e2, S2, Comp.wp_mono (Comp.wp_bind.mp w) (fun b' o q => ?_) fun _ _ z => z⟩
    cases o with
    | nx e3 => exact fun R3 G3 σ3 H3 S3 => ⟨b', R3, G3, e3, S3, q⟩
    | ct e3 => exact fun R3 G3 σ3 H3 S3 => ⟨b', R3, G3, e3, S3, q⟩
    | br e3 => exact fun R3 G3 σ3 H3 S3 => out_nx q _ _ _ _ (go1 S3)
    | rt r => exact q
    | ex x e3 => exact fun R3 G3 σ3 H3 cls d S3 => q R3 G3 σ3 H3 cls d (go1 S3)
  · have ei : i = ds.length := by omega
    subst ei
    rw [List.drop_length] at w
    exact .inl ⟨wk.stop _ Hc (Nat.le_refl _) sub, out_nx w _ _ _ _ (go1 S)⟩
theorem s_whl (hX : XOk C W X) {c : Ee} {d : Sms} {p : Pos} {wf : Nat} (hc : PT X c.em (tT C W (c.ev C.cl))) (hd : PSs X d.em (tS C W (d.ev C.cl wf))) : PS X (Sm.whl c d p).em (tS C W ((Sm.whl c d p).ev C.cl wf)) := by
  refine psM (ps_while hX.own hc hd) fun D σ H ⟨F, b, R, G, e, S, h⟩ => ?_
  refine ⟨fun m σ H => ∃ b R G e, SS C F b R G σ H e ∧ (whlC (fun e1 => dB (c.ev C.cl e1)) (fun e1 => d.ev C.cl wf e1) m e).wp b (OuP C W F D) noE, ⟨wf, b, R, G, e, S, h⟩, ?_⟩
  rintro m σ H ⟨b, R, G, e, S, w⟩
  cases m with
  | zero => exact w.elim
  | succ m =>
    rw [whlC_succ] at w
    refine ⟨b, R, G, e, S.st, (ss_run S w).dB.mono fun b1 R1 G1 H1 w s1 S1 ⟨t, ew, T1, q⟩ => ⟨t, ew, ?_⟩⟩
    show (if t = true then _ else _)
    cases t with
    | false =>
      rw [if_neg (by decide)] at q ⊢
      exact out_nx q _ _ _ _ T1
    | true =>
      rw [if_pos rfl] at q ⊢
      refine ⟨fun σ' H' => ∃ b R G e, SS C F b R G σ' H' e ∧ (whlC (fun e1 => dB (c.ev C.cl e1)) (fun e1 => d.ev C.cl wf e1) m e).wp b (OuP C W F D) noE, fun σ' H' z => ⟨m, Nat.lt_succ_self m, z⟩, F, b1, R1, G1, e, T1, Comp.wp_mono (Comp.wp_bind.mp q) (fun b' o q => ?_) fun _ _ z => z⟩
      cases o with
      | nx e3 => exact fun R3 G3 σ3 H3 S3 => ⟨b', R3, G3, e3, S3, q⟩
      | ct e3 => exact fun R3 G3 σ3 H3 S3 => ⟨b', R3, G3, e3, S3, q⟩
      | br e3 => exact fun R3 G3 σ3 H3 S3 => out_nx q _ _ _ _ S3
      | rt r => exact q
      | ex x e3 => exact q
end
end TC

set_option Elab.async false
set_option linter.all false
set_option maxRecDepth 100000
set_option maxHeartbeats 4000000
namespace TC
open PySem L2 PySem.Spec TX
theorem and2 {a b : Bool} (h : (a && b) = true) : a = true ∧ b = true := Bool.and_eq_true_iff.mp h
/-- a def's own frame -/
def FrOk (X : Cx) : Prop := X.stack = X.env :: X.outer ∧ X.env.frame = some X.env.locals
section
variable {C : Ctx} {W : WX} {X : Cx} {σ : L2.St} {e : En} {b : Nat} {R : List Addr} {G H : Hp} {F : Fb} {D : Ends}
/-! ### raise -/
theorem exs_at {fs : List (Str × Option Str)} {c : Nat} {x : Str} {ck : Chk} (h : (match ck.exs[c]? with | some (y, _) => decide (y = x) | none => false) = true) (hl : ck.exs = C.exs.map fun q => (q.nm, q.fld)) : ∃ q, C.exs[c]? = some q ∧ q.nm = x := by
  rw [hl, List.getElem?_map] at h
  cases z : C.exs[c]? with
  | none =>
    rw [z] at h
    cases h
  | some q =>
    rw [z] at h
    exact ⟨q, rfl, of_decide_eq_true h⟩
theorem flat_dq {K : PySem.W.Frag} {v : V} {d : PyData} (h : Dq K G v d) (f : flatP d = true) : Dq K (fun _ => none) v d := by
  cases d with
  | none =>
    cases h
    exact .non
  | bool b =>
    cases h
    exact .bl b
  | int i =>
    cases h
    exact .int i
  | str s =>
    cases h
    exact .str s
  | list _ => cases f
  | tuple _ => cases f
  | dict _ => cases f
theorem s_rai (hX : XOk C W X) {c : Nat} {x : Str} {px pc p : Pos} {a : Ee} (hc : (match C.ck.exs[c]? with | some (y, _) => decide (y = x) | none => false) = true) (hg : glB X.env.scope x = true) (ha : PE X a.em (tX C W (a.ev C.cl))) (wf : Nat) :
    PS X (Sm.rai c x px a pc p).em (tS C W ((Sm.rai c x px a pc p).ev C.cl wf)) := by
  obtain ⟨q, hq, rfl⟩ := exs_at (fs := []) hc hX.m.exl
  obtain ⟨B, newId, i, bmB, pn, T⟩ := hX.m.ex c q hq
  refine psM (ps_raise hX.calm hX.tk (pmk_ex T hX.room (pa_1 ha a.head) (gl_of hg) (plainNm_of (nm_gl hg)).1 (star_of a.head _ _))) fun D σ H ⟨F, b, R, G, e, S, h⟩ => ?_
  refine tX.of S.st (ss_run S h).dD fun b1 R1 G1 H1 w v s1 S1 r1 ⟨d, ew, T1, z⟩ => ?_
  subst ew
  have z : (if flatP d then .ret (.ex ⟨c, d⟩ e) else .stuck : Comp Ou).wp b1 (OuP C W F D) noE := z
  by_cases f : flatP d = true
  · rw [if_pos f] at z
    have z : ∀ R G σ H cls d', SS C F b1 R G σ H e → exrOf C ⟨c, d⟩ cls d' H → W cls d' σ H := z
    refine ⟨v, rfl, ?_⟩
    cases hf : q.fld with
    | none => exact z R1 G1 σ H1 (.ref q.C) none T1 ⟨q, v, hq, rfl, flat_dq r1 f, by rw [hf]⟩
    | some g => exact fun dd nd => z R1 G1 σ _ (.ref q.C) (some dd) (T1.step (Stp.open nd) (T1.st.opened nd)) ⟨q, v, hq, rfl, flat_dq r1 f, by rw [hf]; exact ⟨dd, rfl, upd_same⟩⟩
  · rw [if_neg f] at z
    exact z.elim
/-! ### try -/
/-- a slot that is not looked at may hold anything -/
theorem opn_any {k i : Nat} {o : Option V} {l : Addr} (q : Opn (σ.set k o) (e.set k .un) i l) : Opn σ e i l := by
  obtain ⟨⟨ds, h1⟩, h2⟩ := q
  by_cases c : k = i
  · subst c
    by_cases z : k < e.length
    · rw [List.getElem?_set_self z] at h1
      cases h1
    · rw [List.getElem?_eq_none (by rw [List.length_set]; omega)] at h1
      cases h1
  · rw [List.getElem?_set_ne c] at h1 h2
    exact ⟨⟨ds, h1⟩, h2⟩
theorem SS.any {k : Nat} {o : Option V} (S : SS C F b R G σ H e) : SS C F b R G (σ.set k o) H (e.set k .un) := by
  refine ⟨⟨S.st.bs, by rw [List.length_set, List.length_set]; exact S.st.len, fun i sl h => ?_, fun i j l o1 o2 => S.st.ap i j l (opn_any o1) (opn_any o2)⟩, S.stp, fun i l o => S.fr i l (opn_any o), S.gb⟩
  by_cases c : k = i
  · subst c
    by_cases z : k < e.length
    · rw [List.getElem?_set_self z] at h
      obtain rfl := Option.some.inj h
      exact trivial
    · rw [List.getElem?_eq_none (by rw [List.length_set]; omega)] at h
      cases h
  · rw [List.getElem?_set_ne c] at h ⊢
    exact S.st.sl i sl h
/-- what a clause's suite does -/
def hdS (C : Addr) : Hd → HdS
  | .put j _ _ s _ _ _ => fun _ _ _ => tAsg (tC (.str s)) (gName j)
  | .fld i _ j _ _ f _ _ _ => fun a cls d => tAsg (tXf a cls d C f (tVar i)) (gName j)
theorem hd_ok (hX : XOk C W X) (hn : ∀ x, X.fn x = true) {c : Nat} {q : Xc} (hq : C.exs[c]? = some q) : ∀ h : Hd, h.ok X.N q.fld X.env.scope = true → SuOk X [h.em] (hdS q.C h)
  | .put j y py s k pv p, ok => fun a oe cls d pn hz hf => by
    unfold Hd.ok at ok
    exact pss_one (ps_set (X := X.suite a ((a, oe) :: pn)) hX.nd (slot_of (and2 ok).1) (loc_of (and2 ok).2) pe_str rfl (.inl (hn y)))
  | .fld i n j y py f pnn pa p, ok => fun a oe cls d pn hz hf => by
    unfold Hd.ok at ok
    have o1 := and2 ok
    have o2 := and2 o1.1
    have o3 := and2 o2.1
    have o4 := and2 o3.1
    have o5 := and2 o4.1
    have o6 := and2 o5.1
    have o7 := and2 o6.1
    obtain ⟨B, newId, i', bmB, pn', T⟩ := hX.m.ex c q hq
    have n1 := plainNm_of o6.2
    have v : PE (X.suite a ((a, oe) :: pn)) (.Name n pnn) (tVar i) := pe_var (X := X.suite a ((a, oe) :: pn)) (slot_of o7.1) (vis_of o5.2) n1.1 n1.2.1
    exact pss_one (ps_set (X := X.suite a ((a, oe) :: pn)) hX.nd (slot_of o4.2) (loc_of o3.2) (pe_xf ⟨T.ga, T.gg, T.exC, T.hdC⟩ (T.noN f (of_decide_eq_true o2.2)) hz hf v rfl) rfl (.inl (hn y)))
theorem set_any {i j : Nat} {x : Sl} : ((e.set i .un).set j x).set i .un = ((e.set i .un).set j x).set i .un := rfl
theorem hds_mix (hX : XOk C W X) (hn : ∀ x, X.fn x = true) : ∀ hs : Hds, hs.ok C.ck X.N X.env.scope = true → ∃ l, HdMix X hs.em l ∧ ∀ (x : Exn) (e : En) (b : Nat) (D : Ends) (F : Fb), (hs.ev x e).wp b (OuP C W F D) noE →
    ∀ R G σ H cls d, SS C F b R G σ H e → exrOf C x cls d H → wMix X.K W D l cls d σ H
  | .nil, _ => ⟨[], .nil, fun x e b D F h R G σ H cls d S ex => h R G σ H cls d S ex⟩
  | .cons c x px h p hs, ok => by
    unfold Hds.ok at ok
    have o1 := and2 ok
    have o2 := and2 o1.1
    obtain ⟨l, hl, m⟩ := hds_mix hX hn hs o1.2
    obtain ⟨q, hq, hx, hh⟩ : ∃ q, C.exs[c]? = some q ∧ q.nm = x ∧ h.ok X.N q.fld X.env.scope = true := by
      have z := o2.1
      rw [hX.m.exl, List.getElem?_map] at z
      cases y : C.exs[c]? with
      | none =>
        rw [y] at z
        cases z
      | some q =>
        rw [y] at z
        exact ⟨q, rfl, of_decide_eq_true (and2 z).1, (and2 z).2⟩
    subst hx
    obtain ⟨B, newId, i', bmB, pn', T⟩ := hX.m.ex c q hq
    have nms : Names X q.nm (.ref q.C) := ⟨gl_of o2.2, (plainNm_of (nm_gl o2.2)).1, .inl T.gC⟩
    have su := hd_ok hX hn hq h hh
    have test : ∀ {x : Exn} {cls : Value} {d : Option Addr} {H : Hp}, exrOf C x cls d H → PySem.W.exmOne X.K cls (.ref q.C) = some (decide (x.c = c)) := fun {x cls d H} ⟨q', v, h1, h2, _⟩ => by
      rw [h2]
      exact hX.m.exd _ _ _ _ h1 hq
    cases h with
    | put j y py s k pv p2 =>
      refine ⟨(.ref q.C, none, hdS q.C (.put j y py s k pv p2)) :: l, .un nms su hl, fun x e b D F w R G σ H cls d S ex => ⟨_, test ex, fun hb a na => ?_, fun hb => ?_⟩⟩
      · have w : (if x.c = c then (.ret (.nx (e.set j (.fz (.d (.str s))))) : Comp Ou) else hs.ev x e).wp b (OuP C W F D) noE := w
        rw [if_pos (of_decide_eq_true hb)] at w
        exact w R G _ H (S.setF (.str s))
      · have w : (if x.c = c then (.ret (.nx (e.set j (.fz (.d (.str s))))) : Comp Ou) else hs.ev x e).wp b (OuP C W F D) noE := w
        rw [if_neg (of_decide_eq_false hb)] at w
        exact m x e b D F w R G σ H cls d S ex
    | fld i n j y py f pnn pa p2 =>
      have hh' := hh
      unfold Hd.ok at hh
      have o1 := and2 hh
      have o2 := and2 o1.1
      have o3 := and2 o2.1
      have o4 := and2 o3.1
      have o5 := and2 o4.1
      have o6 := and2 o5.1
      have o7 := and2 o6.1
      have hij : i ≠ j := of_decide_eq_true o1.2
      refine ⟨(.ref q.C, some i, hdS q.C (.fld i n j y py f pnn pa p2)) :: l, .nm nms (slot_of o7.1) (of_decide_eq_true o7.2) su hl, fun x e b D F w R G σ H cls d S ex => ⟨_, test ex, fun hb a na => ?_, fun hb => ?_⟩⟩
      · have w : (if x.c = c then (if i < e.length then .ret (.nx (((e.set i .un).set j (.fz (.d x.v))).set i .un)) else .stuck : Comp Ou) else hs.ev x e).wp b (OuP C W F D) noE := w
        have hc : x.c = c := of_decide_eq_true hb
        rw [if_pos hc] at w
        by_cases hlt : i < e.length
        · rw [if_pos hlt] at w
          obtain ⟨q', v, h1, h2, h3, h4⟩ := ex
          rw [hc, hq] at h1
          cases h1
          have hf : q.fld = some f := of_decide_eq_true o2.2
          rw [hf] at h4
          obtain ⟨dd, e1, e2⟩ := h4
          have hs1 : i < σ.length := by rw [← S.st.len]; exact hlt
          refine ⟨.ref a, by rw [List.getElem?_set_self hs1], rfl, h2, dd, [(f, v)], v, e1, e2, by simp [List.lookup], ?_⟩
          have S1 := (S.any (k := i) (o := some (.ref a))).setF (k := j) (v := v) (w := .d x.v) ((show Sub (fun _ => none) G from fun _ _ z => nomatch z).dp h3)
          exact w R G _ H (S1.any (k := i) (o := none))
        · rw [if_neg hlt] at w
          exact w.elim
      · have w : (if x.c = c then (if i < e.length then .ret (.nx (((e.set i .un).set j (.fz (.d x.v))).set i .un)) else .stuck : Comp Ou) else hs.ev x e).wp b (OuP C W F D) noE := w
        rw [if_neg (of_decide_eq_false hb)] at w
        exact m x e b D F w R G σ H cls d S ex
theorem s_tr (hX : XOk C W X) (hn : ∀ x, X.fn x = true) (hS : FrOk X) {bd : Sms} {hs : Hds} {p : Pos} {wf : Nat} (ok : hs.ok C.ck X.N X.env.scope = true) (so : hs.some = true)
    (hb : ∀ (W1 : WX) (pn : List (Addr × Obj)) (xe : Value → Shared → Prop), Takes (X.tr pn xe) W1 → PassesOwn (model X.prog X.w) X.A X.env xe → PSs (X.tr pn xe) bd.em (tS C W1 (bd.ev C.cl wf))) : PS X (Sm.tr bd hs p).em (tS C W ((Sm.tr bd hs p).ev C.cl wf)) := by
  obtain ⟨l, hl, m⟩ := hds_mix hX hn hs ok
  cases hs with
  | nil => cases so
  | cons c x px h p' hs =>
    refine psM (ps_mix (tb := fun W1 => tS C W1 (bd.ev C.cl wf)) hS.1 hS.2 hX.nd hX.tk hb hl) fun D σ H ⟨F, b, R, G, e, S, w⟩ => ?_
    have w : ((bd.ev C.cl wf e).bind (catchC (Hds.ev (.cons c x px h p' hs)))).wp b (OuP C W F D) noE := w
    refine ⟨F, b, R, G, e, S, Comp.wp_mono (Comp.wp_bind.mp w) (fun b' o z => ?_) fun _ _ z => z⟩
    cases o with
    | nx e2 => exact z
    | br e2 => exact z
    | ct e2 => exact z
    | rt r => exact z
    | ex y e2 => exact fun R' G' σ' H' cls d S' ex => m y e2 b' D F z R' G' σ' H' cls d S' ex
end
end TC

set_option Elab.async false
set_option linter.all false
set_option maxRecDepth 100000
set_option maxHeartbeats 4000000
namespace TC
open PySem L2 PySem.Spec
section
variable {C : Ctx}
/-! ### every expression -/
def PB (C : Ctx) (W : WX) (X : Cx) (a : Expr) (ev : En → Comp Wd) : Prop := PE X a (tX C W ev) ∧ PT X a (tT C W ev)
theorem pb {W : WX} {X : Cx} {a : Expr} {ev : En → Comp Wd} (h : PE X a (tX C W ev)) (hp : plainTB a = true) : PB C W X a ev := ⟨h, t_val h hp⟩
structure PEs (C : Ctx) (W : WX) (X : Cx) (es : Es) : Prop where
  as : PA X es.em (tAs C W (es.ev C.cl))
  ws : PA X es.em (tWs C W (es.evW C.cl))
  ae : ∀ p, PE X (.BoolOp .And es.em p) (tX C W (es.evAnd C.cl))
  aw : ∀ p, PW X (.BoolOp .And es.em p) (tT C W (es.evAnd C.cl))
  oe : ∀ p, PE X (.BoolOp .Or es.em p) (tX C W (es.evOr C.cl))
  ow : ∀ p, PW X (.BoolOp .Or es.em p) (tT C W (es.evOr C.cl))
theorem pe_stuck {W : WX} {X : Cx} {a : Expr} : PE X a (tX C W fun _ => .stuck) := ⟨fun _ _ _ _ _ _ ⟨_, _, _, _, _, h⟩ => h.elim⟩
theorem pw_stuck {W : WX} {X : Cx} {a : Expr} : PW X a (tT C W fun _ => .stuck) := ⟨fun _ _ _ _ _ _ _ ⟨_, _, _, _, _, h⟩ => h.elim⟩
theorem Ef.plain (f : Ef) : plainTB f.em = true := by cases f <;> rfl
theorem p_ecs_tok {N : List Str} {sc2 sc : Scope} {ck : Chk} : ∀ (cs : Ecs), cs.ok ck N sc2 sc = true → cs.tok N sc2
  | .nil, _ => trivial
  | .cons t it o vs cs, h => by
    unfold Ecs.ok at h
    have h1 := and2 h
    have h2 := and2 h1.1
    have h3 := and2 h2.1
    exact ⟨h3.2, p_ecs_tok cs h1.2⟩
mutual
theorem p_ee : ∀ (a : Ee) {W : WX} {X : Cx}, XOk C W X → a.ok C.ck X.N X.env.scope = true → PB C W X a.em (a.ev C.cl)
  | .var i x p, W, X, hX, h => by
    unfold Ee.ok at h
    exact pb (e_var hX (slot_of (and2 h).1) (and2 h).2) rfl
  | .con x v p, W, X, hX, h => by
    unfold Ee.ok at h
    exact pb (e_con hX (and2 h).1 (of_decide_eq_true (and2 h).2)) rfl
  | .non k p, W, X, hX, h => pb e_non rfl
  | .bl v k p, W, X, hX, h => pb e_bl rfl
  | .int v k p, W, X, hX, h => pb e_int rfl
  | .str v k p, W, X, hX, h => pb e_str rfl
  | .tup es k p, W, X, hX, h => by
    unfold Ee.ok at h
    exact pb (e_tup (p_es es hX (and2 h).1).as (of_decide_eq_true (and2 h).2)) rfl
  | .bin o a b p, W, X, hX, h => by
    unfold Ee.ok at h
    have ha := (p_ee a hX (and2 h).1).1
    have hb := (p_ee b hX (and2 h).2).1
    refine pb ?_ rfl
    cases o with
    | add => exact e_add hX ha hb
    | sub => exact e_sub hX ha hb
    | mul => exact e_mul hX ha hb
    | div => exact e_div hX ha hb
    | mod => exact e_mod hX ha hb
    | pow => exact e_pow hX ha hb
  | .neg a p, W, X, hX, h => by
    unfold Ee.ok at h
    exact pb (e_neg (p_ee a hX h).1) rfl
  | .nt a p, W, X, hX, h => by
    unfold Ee.ok at h
    have ha := p_ee a hX h
    exact ⟨e_not ha.1, t_not ha.2⟩
  | .andd es p, W, X, hX, h => by
    unfold Ee.ok at h
    have hs := p_es es hX h
    exact ⟨hs.ae p, (hs.aw p).pt⟩
  | .orr es p, W, X, hX, h => by
    unfold Ee.ok at h
    have hs := p_es es hX h
    exact ⟨hs.oe p, (hs.ow p).pt⟩
  | .cmp o a b p, W, X, hX, h => by
    unfold Ee.ok at h
    have ha := p_eb a hX (and2 h).1
    have hb := p_eb b hX (and2 h).2
    exact ⟨e_cmp hX ha hb, t_cmp hX ha hb⟩
  | .chn o1 o2 a b u p, W, X, hX, h => by
    unfold Ee.ok at h
    have ha := (p_ee a hX (and2 (and2 h).1).1).1
    have hb := (p_ee b hX (and2 (and2 h).1).2).1
    have hu := (p_ee u hX (and2 h).2).1
    exact ⟨e_chn hX ha hb hu, t_chn hX ha hb hu⟩
  | .isn n a k pn p, W, X, hX, h => by
    unfold Ee.ok at h
    have ha := (p_ee a hX h).1
    exact ⟨e_isn ha, t_isn ha⟩
  | .ife t a b p, W, X, hX, h => by
    unfold Ee.ok at h
    have ht := p_ee t hX (and2 (and2 h).1).1
    have ha := p_ee a hX (and2 (and2 h).1).2
    have hb := p_ee b hX (and2 h).2
    exact ⟨e_ife ht.2 ha.1 hb.1, t_ife ht.2 ha.2 hb.2⟩
  | .idx a i p, W, X, hX, h => by
    unfold Ee.ok at h
    exact pb (e_idx hX (p_eb a hX (and2 h).1) (p_ee i hX (and2 h).2).1) rfl
  | .slc a lo hi ps p, W, X, hX, h => by
    unfold Ee.ok at h
    exact pb (e_slc hX (p_eb a hX (and2 (and2 h).1).1) (p_eo lo hX (and2 (and2 h).1).2).1 (p_eo hi hX (and2 h).2).1) rfl
  | .f1 f pf a p, W, X, hX, h => by
    unfold Ee.ok at h
    exact pb (e_f1_any hX f (and2 h).1 (p_eb a hX (and2 h).2)) rfl
  | .f2 f pf a b p, W, X, hX, h => by
    unfold Ee.ok at h
    exact pb (e_f2 hX f (and2 (and2 h).1).1 (p_ee a hX (and2 (and2 h).1).2).1 (p_ee b hX (and2 h).2).1) rfl
  | .isi pf a t pt p, W, X, hX, h => by
    unfold Ee.ok at h
    exact pb (e_isi hX (and2 (and2 h).1).1 (and2 (and2 h).1).2 (p_ee a hX (and2 h).2).1) rfl
  | .m1 m o pa a p, W, X, hX, h => by
    unfold Ee.ok at h
    exact pb (e_m1 hX m (p_ee o hX (and2 (and2 (and2 h).1).1).1).1 (p_eb a hX (and2 (and2 (and2 h).1).1).2) (and2 h).2 (and2 (and2 h).1).2) rfl
  | .call f x pf es p, W, X, hX, h => by
    unfold Ee.ok at h
    exact pb (e_call hX (and2 (and2 h).1).1 (of_decide_eq_true (and2 (and2 h).1).2) (p_es es hX (and2 h).2).ws) rfl
  | .drw x pf m e p, W, X, hX, h => by
    unfold Ee.ok at h
    exact pb (e_drw hX (and2 (and2 (and2 (and2 h).1).1).1).1 (of_decide_eq_true (and2 (and2 (and2 (and2 h).1).1).1).2) (p_ee m hX (and2 (and2 h).1).2).1 (p_ee e hX (and2 h).2).1) rfl
  | .frz f, W, X, hX, h => by
    unfold Ee.ok at h
    exact pb (e_frz (p_ef f hX h)) f.plain
  | .lns i x px pf p, W, X, hX, h => by
    unfold Ee.ok at h
    exact pb (e_lns hX (slot_of (and2 (and2 h).1).1) (and2 (and2 h).1).2 (and2 h).2) rfl
  | .lsc pf a i x px pe sc2 ps p, W, X, hX, h => by
    unfold Ee.ok at h
    have h1 := and2 h
    have h2 := and2 h1.1
    have h3 := and2 h2.1
    have h4 := and2 h3.2
    have h5 := and2 h4.1
    exact pb (e_lsc hX h3.1 h5.1 h5.2 h4.2 (p_ee a hX h2.2).1 h1.2) rfl
theorem p_es : ∀ (es : Es) {W : WX} {X : Cx}, XOk C W X → es.ok C.ck X.N X.env.scope = true → PEs C W X es
  | .nil, W, X, hX, h => ⟨as_nil, ws_nil, fun _ => pe_stuck, fun _ => pw_stuck, fun _ => pe_stuck, fun _ => pw_stuck⟩
  | .cons a .nil, W, X, hX, h => by
    unfold Es.ok at h
    have ha := p_ee a hX (and2 h).1
    exact ⟨as_cons ha.1 as_nil, ws_cons ha.1 ws_nil, fun _ => and_one ha.1, fun _ => wand_one ha.2, fun _ => or_one ha.1, fun _ => wor_one ha.2⟩
  | .cons a (.cons a2 es), W, X, hX, h => by
    unfold Es.ok at h
    have ha := p_ee a hX (and2 h).1
    have hs := p_es (.cons a2 es) hX (and2 h).2
    exact ⟨as_cons ha.1 hs.as, ws_cons ha.1 hs.ws, fun p => and_cons ha.1 (hs.ae p), fun p => wand_cons ha.2 (hs.aw p), fun p => or_cons ha.1 (hs.oe p), fun p => wor_cons ha.2 (hs.ow p)⟩
theorem p_eo : ∀ (o : Eo) {W : WX} {X : Cx}, XOk C W X → o.ok C.ck X.N X.env.scope = true → PO X o.em (tO C W (o.ev C.cl)) ∧ PTs X o.ems (tYs C W (o.evT C.cl))
  | .no, W, X, hX, h => ⟨o_no, ys_no⟩
  | .so a, W, X, hX, h => by
    unfold Eo.ok at h
    have ha := p_ee a hX h
    exact ⟨o_so ha.1, ys_so ha.2⟩
theorem p_eb : ∀ (b : Eb) {W : WX} {X : Cx}, XOk C W X → b.ok C.ck X.N X.env.scope = true → PE X b.em (tB C W (b.ev C.cl))
  | .ex a, W, X, hX, h => by
    unfold Eb.ok at h
    exact b_ex (p_ee a hX h).1
  | .ov i x p, W, X, hX, h => by
    unfold Eb.ok at h
    exact b_ov hX (slot_of (and2 h).1) (and2 h).2
theorem p_ef : ∀ (f : Ef) {W : WX} {X : Cx}, XOk C W X → f.ok C.ck X.N X.env.scope = true → PE X f.em (tF C W (f.ev C.cl))
  | .lst es p, W, X, hX, h => by
    unfold Ef.ok at h
    exact f_lst (p_es es hX (and2 h).1).as (of_decide_eq_true (and2 h).2)
  | .lc a t it o own sc2 p, W, X, hX, h => by
    unfold Ef.ok at h
    have h1 := and2 h
    have h2 := and2 h1.1
    have h3 := and2 h2.1
    have h4 := and2 h3.1
    have h5 := and2 h4.1
    exact f_lc hX h5.1 (p_ei it hX t h5.2 h4.2) h3.2 ⟨fun s H D cl fp => (p_ee a (hX.blk s H D cl fp sc2) h1.2).1, fun s H D cl fp => (p_eo o (hX.blk s H D cl fp sc2) h2.2).2⟩
  | .lcs a t it o vs cs own sc2 p, W, X, hX, h => by
    unfold Ef.ok at h
    have h1 := and2 h
    have h2 := and2 h1.1
    have h3 := and2 h2.1
    have h4 := and2 h3.1
    have h5 := and2 h4.1
    have h6 := and2 h5.1
    have h7 := and2 h6.1
    have h8 := and2 h7.1
    exact f_lcs hX h8.1 (p_ei it hX t h8.2 h7.2) h6.2 (p_ecs_tok cs h3.2) (of_decide_eq_true h2.2) (of_decide_eq_true h1.2) ⟨fun s H D cl fp => (p_ee a (hX.blk s H D cl fp sc2) h4.2).1, fun s H D cl fp => (p_eo o (hX.blk s H D cl fp sc2) h5.2).2, fun s H D cl fp => p_ecs cs (hX.blk s H D cl fp sc2) blk_nm h3.2⟩
  | .cat a b p, W, X, hX, h => by
    unfold Ef.ok at h
    exact f_cat hX (p_eb a hX (and2 h).1) (p_eb b hX (and2 h).2)
  | .rep a n p, W, X, hX, h => by
    unfold Ef.ok at h
    exact f_rep hX (p_eb a hX (and2 h).1) (p_ee n hX (and2 h).2).1
  | .lof pf a p, W, X, hX, h => by
    unfold Ef.ok at h
    exact f_lof hX (and2 h).1 (p_eb a hX (and2 h).2)
  | .lofr pf pr e pq p, W, X, hX, h => by
    unfold Ef.ok at h
    exact f_lofr hX (and2 (and2 h).1).1 (and2 (and2 h).1).2 (p_ee e hX (and2 h).2).1
  | .slc a lo hi ps p, W, X, hX, h => by
    unfold Ef.ok at h
    exact f_slc hX (p_eb a hX (and2 (and2 h).1).1) (p_eo lo hX (and2 (and2 h).1).2).1 (p_eo hi hX (and2 h).2).1
  | .split o pa a p, W, X, hX, h => by
    unfold Ef.ok at h
    exact f_split hX (p_ee o hX (and2 (and2 (and2 h).1).1).1).1 (p_ee a hX (and2 (and2 (and2 h).1).1).2).1 (and2 h).2 (and2 (and2 h).1).2
  | .call f x pf es p, W, X, hX, h => by
    unfold Ef.ok at h
    exact f_call hX (and2 (and2 h).1).1 (of_decide_eq_true (and2 (and2 h).1).2) (p_es es hX (and2 h).2).ws
theorem p_ecs : ∀ (cs : Ecs) {X : Cx} {sc2 : Scope}, XOk C noW X → (∀ x, locB sc2 x = true → Loc X.env.scope x ∧ (X.fn x = true ∨ X.env.scope.names.lookup x = some .local)) → cs.ok C.ck X.N sc2 X.env.scope = true → ∀ c ∈ cs.crs C, CrOk X c
  | .nil, X, sc2, hX, hn, h => fun c hc => (List.not_mem_nil hc).elim
  | .cons t it o vs cs, X, sc2, hX, hn, h => fun c hc => by
    unfold Ecs.ok at h
    have h1 := and2 h
    have h2 := and2 h1.1
    have h3 := and2 h2.1
    have h4 := and2 h3.1
    rcases List.mem_cons.mp hc with e | hc
    · rw [e]
      exact ⟨p_ei it hX t h4.1 h4.2, pg_ofC hX.m.hK hX.calm hX.nd hn t h3.2, (p_eo o hX h2.2).2, fun x => fold_of x _⟩
    · exact p_ecs cs hX hn h1.2 c hc
theorem p_ei : ∀ (it : Ei) {W : WX} {X : Cx}, XOk C W X → ∀ t : Tt, it.ok C.ck X.N X.env.scope = true → it.tupB t = true → PI X t.em it.em (tI C W (it.ev C.cl))
  | .seq a, W, X, hX, t, h, _ => by
    unfold Ei.ok at h
    exact i_seq hX (p_ee a hX h).1
  | .rg1 pf a p, W, X, hX, t, h, _ => by
    unfold Ei.ok at h
    exact i_rg1 hX (and2 h).1 (p_ee a hX (and2 h).2).1
  | .rg2 pf a b p, W, X, hX, t, h, _ => by
    unfold Ei.ok at h
    exact i_rg2 hX (and2 (and2 h).1).1 (p_ee a hX (and2 (and2 h).1).2).1 (p_ee b hX (and2 h).2).1
  | .rg3 pf a b d p, W, X, hX, t, h, _ => by
    unfold Ei.ok at h
    exact i_rg3 hX (and2 (and2 (and2 h).1).1).1 (p_ee a hX (and2 (and2 (and2 h).1).1).2).1 (p_ee b hX (and2 (and2 h).1).2).1 (p_ee d hX (and2 h).2).1
  | .enu pf a p, W, X, hX, t, h, ht => by
    unfold Ei.ok at h
    have ha := (p_ee a hX (and2 h).2).1
    cases t with
    | tp ts k q => exact i_enu hX (and2 h).1 ha
    | nm i x q => cases ht
  | .zip pf a b p, W, X, hX, t, h, ht => by
    unfold Ei.ok at h
    have ha := (p_ee a hX (and2 (and2 h).1).2).1
    have hb := (p_ee b hX (and2 h).2).1
    cases t with
    | tp ts k q => exact i_zip hX (and2 (and2 h).1).1 ha hb
    | nm i x q => cases ht
end
theorem p_ea (a : Ea) {W : WX} {X : Cx} (hX : XOk C W X) (h : a.ok C.ck X.N X.env.scope = true) : PE X a.em (tE C W (a.ev C.cl)) := by
  cases a with
  | ex a => exact a_ex (p_ee a hX h).1
  | nw f => exact a_nw (p_ef f hX h)
/-! ### every statement -/
theorem not_of {a : Bool} (h : (!a) = true) : a = false := by cases a <;> first | rfl | cases h
variable {W : WX} {X : Cx}
mutual
theorem p_sm (wf : Nat) : ∀ (s : Sm) {W : WX} {X : Cx}, XOk C W X → (∀ x, X.fn x = true) → X.env.scope.kind = .function → FrOk X → s.ok C.ck X.N X.env.scope = true → PS X s.em (tS C W (s.ev C.cl wf))
  | .asg i x px e p, W, X, hX, hn, hk, hS, h => by
    unfold Sm.ok at h
    exact s_asg hX hn (and2 (and2 (and2 h).1).1).1 (and2 (and2 (and2 h).1).1).2 (p_ee e hX (and2 (and2 h).1).2).1 (and2 h).2 wf
  | .asgF i x px f p, W, X, hX, hn, hk, hS, h => by
    unfold Sm.ok at h
    have h1 := (and2 (and2 (and2 h).1).1).1
    have h2 := (and2 (and2 (and2 h).1).1).2
    have h3 := (and2 (and2 h).1).2
    have h4 := (and2 h).2
    cases f with
    | lc a t it o own sc2 q =>
      unfold Ef.ok at h3
      have k1 := and2 h3
      have k2 := and2 k1.1
      have k3 := and2 k2.1
      have k4 := and2 k3.1
      have k5 := and2 k4.1
      have h4 : (decide (X.env.scope.names.lookup x = some .cell) || (decide (X.env.scope.names.lookup x = some .local) && (px.line == q.line) && !(sc2.names.any fun (n, k) => n == x && (k == .local || k == .cell)))) = true := h4
      rcases (Bool.or_eq_true _ _).mp h4 with h4 | h4
      · exact psM (ps_set hX.nd (slot_of h1) (loc_of h2) (p_ef (.lc a t it o own sc2 q) hX (by unfold Ef.ok; exact h3)) (sw_cell (of_decide_eq_true h4)) (.inl (hn x))) fun D σ H z => asgF_of z
      have j1 := and2 h4
      have j2 := and2 j1.1
      exact psM (s_setLc hX (slot_of h1) (of_decide_eq_true j2.1) (sw_true hk (of_decide_eq_true j2.1) j2.2 (not_of j1.2)) k5.1 (p_ei it hX t k5.2 k4.2) k3.2 ⟨fun s H D cl fp => (p_ee a (hX.blk s H D cl fp sc2) k1.2).1, fun s H D cl fp => (p_eo o (hX.blk s H D cl fp sc2) k2.2).2⟩) fun D σ H z => asgF_of z
    | lcs a t it o vs cs own sc2 q =>
      unfold Ef.ok at h3
      have k1 := and2 h3
      have k2 := and2 k1.1
      have k3 := and2 k2.1
      have k4 := and2 k3.1
      have k5 := and2 k4.1
      have k6 := and2 k5.1
      have k7 := and2 k6.1
      have k8 := and2 k7.1
      have h4 : (decide (X.env.scope.names.lookup x = some .local) && (px.line == q.line) && !(sc2.names.any fun (n, k) => n == x && (k == .local || k == .cell))) = true := h4
      have j1 := and2 h4
      have j2 := and2 j1.1
      exact psM (s_setLcs hX (slot_of h1) (of_decide_eq_true j2.1) (sw_true hk (of_decide_eq_true j2.1) j2.2 (not_of j1.2)) k8.1 (p_ei it hX t k8.2 k7.2) k6.2 (p_ecs_tok cs k3.2) (of_decide_eq_true k2.2) (of_decide_eq_true k1.2)
        ⟨fun s H D cl fp => (p_ee a (hX.blk s H D cl fp sc2) k4.2).1, fun s H D cl fp => (p_eo o (hX.blk s H D cl fp sc2) k5.2).2, fun s H D cl fp => p_ecs cs (hX.blk s H D cl fp sc2) blk_nm k3.2⟩) fun D σ H z => asgF_of z
    | lst es q => exact s_asgF hX hn h1 h2 (p_ef _ hX h3) rfl wf
    | cat a b q => exact s_asgF hX hn h1 h2 (p_ef _ hX h3) rfl wf
    | rep a n q => exact s_asgF hX hn h1 h2 (p_ef _ hX h3) rfl wf
    | lof pf a q => exact s_asgF hX hn h1 h2 (p_ef _ hX h3) rfl wf
    | lofr pf pr e pq q => exact s_asgF hX hn h1 h2 (p_ef _ hX h3) rfl wf
    | slc a lo hi ps q => exact s_asgF hX hn h1 h2 (p_ef _ hX h3) rfl wf
    | split o pa a q => exact s_asgF hX hn h1 h2 (p_ef _ hX h3) rfl wf
    | call f x pf es q => exact s_asgF hX hn h1 h2 (p_ef _ hX h3) rfl wf
  | .unp t e p, W, X, hX, hn, hk, hS, h => by
    unfold Sm.ok at h
    exact s_unp hX hn (and2 (and2 (and2 h).1).1).1 (p_ee e hX (and2 (and2 (and2 h).1).1).2).1 (and2 (and2 h).1).2 (and2 h).2 wf
  | .par i x px j y py a b k1 p1 k2 p2 p, W, X, hX, hn, hk, hS, h => by
    unfold Sm.ok at h
    have g1 := and2 h
    have g2 := and2 g1.1
    have g3 := and2 g2.1
    have g4 := and2 g3.1
    have g5 := and2 g4.1
    have g6 := and2 g5.1
    have g7 := and2 g6.1
    have g8 := and2 g7.1
    have g9 := and2 g8.1
    have g10 := and2 g9.1
    exact s_par hX hk g10.1 g10.2 (of_decide_eq_true g9.2) (of_decide_eq_true g8.2) (of_decide_eq_true g7.2) g6.2 (of_decide_eq_true g5.2) (p_ea a hX g4.2) (p_ea b hX g3.2) (not_of g2.2) (not_of g1.2) wf
  | .par3 i x px j y py l z pz a b u k1 p1 k2 p2 p, W, X, hX, hn, hk, hS, h => by
    unfold Sm.ok at h
    have g1 := and2 h
    have g2 := and2 g1.1
    have g3 := and2 g2.1
    have g4 := and2 g3.1
    have g5 := and2 g4.1
    have g6 := and2 g5.1
    have g7 := and2 g6.1
    have g8 := and2 g7.1
    have g9 := and2 g8.1
    have g10 := and2 g9.1
    have g11 := and2 g10.1
    have g12 := and2 g11.1
    have g13 := and2 g12.1
    have g14 := and2 g13.1
    have g15 := and2 g14.1
    have g16 := and2 g15.1
    have g17 := and2 g16.1
    have g18 := and2 g17.1
    exact s_par3 hX hk g18.1 g18.2 g17.2 (of_decide_eq_true g16.2) (of_decide_eq_true g15.2) (of_decide_eq_true g14.2) (of_decide_eq_true g13.2) (of_decide_eq_true g12.2) (of_decide_eq_true g11.2) g10.2 g9.2 (of_decide_eq_true g8.2) (of_decide_eq_true g7.2) (of_decide_eq_true g6.2)
      (p_ee a hX g5.2).1 (p_ee b hX g4.2).1 (p_ee u hX g3.2).1 (not_of g2.2) (not_of g1.2) wf
  | .put i x px ix e pt p, W, X, hX, hn, hk, hS, h => by
    unfold Sm.ok at h
    have g1 := and2 h
    have g2 := and2 g1.1
    have g3 := and2 g2.1
    have g4 := and2 g3.1
    have g5 := and2 g4.1
    exact s_put hX g5.1 g5.2 (p_ee ix hX g4.2).1 (p_ee e hX g3.2).1 g2.2 g1.2 wf
  | .aug i x px o e p, W, X, hX, hn, hk, hS, h => by
    unfold Sm.ok at h
    exact s_aug hX hn (and2 (and2 h).1).1 (and2 (and2 h).1).2 (p_ee e hX (and2 h).2).1 wf
  | .app i x px pa e pc p, W, X, hX, hn, hk, hS, h => by
    unfold Sm.ok at h
    exact s_app hX (and2 (and2 (and2 h).1).1).1 (and2 (and2 (and2 h).1).1).2 (p_ee e hX (and2 (and2 h).1).2).1 (and2 h).2 wf
  | .apo i x px pa j y py pb e pq pc p, W, X, hX, hn, hk, hS, h => by
    unfold Sm.ok at h
    have h1 := and2 h
    have h2 := and2 h1.1
    have h3 := and2 h2.1
    have h4 := and2 h3.1
    have h5 := and2 h4.1
    have h6 := and2 h4.2
    have h7 := and2 h6.1
    exact s_apo hX h5.1 h5.2 h7.1 h7.2 (of_decide_eq_true h6.2) (p_ee e hX h3.2).1 h2.2 h1.2 wf
  | .iff t a b p, W, X, hX, hn, hk, hS, h => by
    unfold Sm.ok at h
    exact s_iff (p_ee t hX (and2 (and2 h).1).1).2 (p_sms wf a hX hn hk hS (and2 (and2 h).1).2) (p_sms wf b hX hn hk hS (and2 h).2)
  | .forr t it b p, W, X, hX, hn, hk, hS, h => by
    unfold Sm.ok at h
    exact s_forr hX hn (and2 (and2 (and2 h).1).1).1 (p_ei it hX t (and2 (and2 (and2 h).1).1).2 (and2 (and2 h).1).2) (p_sms wf b hX hn hk hS (and2 h).2)
  | .whl t b p, W, X, hX, hn, hk, hS, h => by
    unfold Sm.ok at h
    exact s_whl hX (p_ee t hX (and2 h).1).2 (p_sms wf b hX hn hk hS (and2 h).2)
  | .ret e p, W, X, hX, hn, hk, hS, h => by
    unfold Sm.ok at h
    exact s_ret (p_ee e hX h).1 wf
  | .retF f p, W, X, hX, hn, hk, hS, h => by
    unfold Sm.ok at h
    exact s_retF (p_ef f hX h) wf
  | .retO i x px p, W, X, hX, hn, hk, hS, h => by
    unfold Sm.ok at h
    exact s_retO hX (and2 h).1 (and2 h).2 wf
  | .expr e p, W, X, hX, hn, hk, hS, h => by
    unfold Sm.ok at h
    exact s_expr (p_ee e hX (and2 h).1).1 (and2 h).2 wf
  | .brk p, W, X, hX, hn, hk, hS, _ => s_brk wf
  | .cnt p, W, X, hX, hn, hk, hS, _ => s_cnt wf
  | .pass p, W, X, hX, hn, hk, hS, _ => s_pass wf
  | .never st, W, X, hX, hn, hk, hS, _ => s_never wf
  | .rai c x px a pc p, W, X, hX, hn, hk, hS, h => by
    unfold Sm.ok at h
    exact s_rai hX (and2 (and2 h).1).1 (and2 (and2 h).1).2 (p_ee a hX (and2 h).2).1 wf
  | .tr b hs p, W, X, hX, hn, hk, hS, h => by
    unfold Sm.ok at h
    refine s_tr hX hn hS (and2 (and2 h).1).2 (and2 h).2 (fun W1 pn xe tk own => ?_)
    exact p_sms wf b (W := W1) (X := X.tr pn xe) ⟨hX.m, hX.calm, hX.gu, hX.room, hX.nd, tk, own⟩ hn hk hS (and2 (and2 h).1).1
theorem p_sms (wf : Nat) : ∀ (s : Sms) {W : WX} {X : Cx}, XOk C W X → (∀ x, X.fn x = true) → X.env.scope.kind = .function → FrOk X → s.ok C.ck X.N X.env.scope = true → PSs X s.em (tS C W (s.ev C.cl wf))
  | .nil, W, X, hX, hn, hk, hS, _ => ss_nil wf
  | .cons s ss, W, X, hX, hn, hk, hS, h => by
    unfold Sms.ok at h
    exact ss_cons (p_sm wf s hX hn hk hS (and2 h).1) (p_sms wf ss hX hn hk hS (and2 h).2)
  | .frz i ss, W, X, hX, hn, hk, hS, h => by
    unfold Sms.ok at h
    exact ss_frz (p_sms wf ss hX hn hk hS h)
  | .fgt is ss, W, X, hX, hn, hk, hS, h => by
    unfold Sms.ok at h
    exact ss_fgt (p_sms wf ss hX hn hk hS h)
end
end
end TC

set_option Elab.async false
set_option linter.all false
set_option maxRecDepth 100000
set_option maxHeartbeats 4000000
namespace TC
open PySem L2 PySem.Spec
section
variable {P : Program} {w : World} {K : PySem.W.Frag} {mg : Str → Option Value} {base : Heap}
/-! ### the text's functions -/
/-- what is known of a def that the text's top has made -/
structure FnAt (K : PySem.W.Frag) (mg : Str → Option Value) (ck : Chk) (f : Fd) : Prop where
  ex : ∃ (x qual : Str) (st : Stmt) (fa : Addr) (fd : FuncData) (ps : List Str), Fun K x qual st fa fd ∧ FnScope f.N ps (defScope st) ∧ ps.length = f.np ∧ defBody st = f.body.em ∧ f.body.ok ck f.N (defScope st) = true ∧ mg f.nm = some (.ref fa) ∧ Binds K fd ps []
theorem start_len (N : List Str) {C : Ctx} {G : Hp} {vs : List V} {ws : List Wd} (r : Reps C G vs ws) : (startE N.length ws).length = (L2.start N vs).length := by
  unfold startE L2.start
  rw [List.length_append, List.length_append, List.length_map, List.length_map, List.length_replicate, List.length_replicate, r.len]
theorem start_sl {C : Ctx} {b : Nat} {R : List Addr} {G H : Hp} {N : List Str} {vs : List V} {ws : List Wd} (r : Reps C G vs ws) (i : Nat) (s : Sl) (h : (startE N.length ws)[i]? = some s) : SlOk C R G H (L2.start N vs)[i]? s ∧ ∀ ds, s ≠ .ow ds := by
  unfold startE at h
  unfold L2.start
  by_cases c : i < ws.length
  · rw [List.getElem?_append_left (by rw [List.length_map]; exact c), List.getElem?_map] at h
    obtain ⟨w, h1, h2⟩ := Option.map_eq_some_iff.mp h
    subst h2
    obtain ⟨v, h3, h4⟩ := r.get h1
    rw [List.getElem?_append_left (by rw [List.length_map, r.len]; exact c), List.getElem?_map, h3]
    exact ⟨⟨v, rfl, h4⟩, nofun⟩
  · rw [List.getElem?_append_right (by rw [List.length_map]; omega)] at h
    have z := List.mem_of_getElem? h
    have z2 := List.eq_of_mem_replicate z
    subst z2
    exact ⟨trivial, nofun⟩
theorem start_ss {C : Ctx} {b : Nat} {R : List Addr} {G H : Hp} {N : List Str} {vs : List V} {ws : List Wd} (B : Bs C b R G H) (r : Reps C G vs ws) : SS C ⟨R, G, H, G⟩ b R G (L2.start N vs) H (startE N.length ws) := by
  have no : ∀ i l, ¬ Opn (L2.start N vs) (startE N.length ws) i l := fun i l ⟨⟨ds, h1⟩, _⟩ => (start_sl (C := C) (b := b) (R := R) (H := H) (N := N) r i _ h1).2 ds rfl
  exact ⟨⟨B, start_len N r, fun i s h => (start_sl (b := b) r i s h).1, fun i j l h => absurd h (no i l)⟩, .refl, fun i l h => absurd h (no i l), fun _ _ h => h⟩
/-- a def's body does what it computes -/
theorem fn_step {C : Ctx} (hM : ModOk C P w K mg base) {f : Fd} {x qual : Str} {st : Stmt} {fa : Addr} {fd : FuncData} {ps : List Str} (F : Fun K x qual st fa fd) (S : FnScope f.N ps (defScope st)) (hnp : ps.length = f.np) (hb : defBody st = f.body.em)
    (ok : f.body.ok C.ck f.N (defScope st) = true) (wf : Nat) : FnG P w K mg base (C.lv + 1) fa fd ps (spG C (f.run wf C.cl)) := by
  obtain ⟨oc, od, kV, doc, pm, an, cdv, ct, osl, rfl, lk, hcd⟩ := F.ex
  refine fnG_of lk hcd S (fun vs H Q E h => ?_) fun A outer s H vs Q E hg hr h => ?_
  · obtain ⟨b, R, G, ws, B, r, h⟩ := h
    unfold Fd.run at h
    by_cases c : ws.length = f.np
    · rw [r.len, c, hnp]
    · rw [if_neg c] at h
      exact h.elim
  · obtain ⟨b, R, G, ws, B, r, h⟩ := h
    unfold Fd.run at h
    by_cases c : ws.length = f.np
    · rw [if_pos c] at h
      have hX : XOk C (fun cls d _ H => E cls d H) (cxOf (L2.CX P w) P w K mg base f.N qual (defScope st) fa cdv A outer s H E) := ⟨hM, rfl, hg, hr, S.nd, takes_of rfl rfl rfl rfl, passes_of rfl⟩
      rw [hb]
      refine ⟨_, p_sms wf f.body hX (fun _ => rfl) S.kind ⟨rfl, rfl⟩ ok, ⟨R, G, H, G⟩, b, R, G, startE f.N.length ws, start_ss B r, Comp.wp_mono (wp_nox (Comp.wp_bind.mp h)) (fun b' o q => ?_) fun _ _ z => z⟩
      cases o with
      | nx e => exact fun R' G' σ' H' S' => q R' G' H' .non S'.stp S'.st.bs .non
      | br e => exact q.elim
      | ct e => exact q.elim
      | rt r => exact q
      | ex x e => exact fun R' G' σ' H' cls d S' ex => q R' G' H' cls d S'.stp S'.st.bs ex
    · rw [if_neg c] at h
      exact h.elim
/-- the errors' classes stand -/
structure ExsOk (P : Program) (K : PySem.W.Frag) (mg : Str → Option Value) (exs : List Xc) : Prop where
  ex : ∀ (c : Nat) q, exs[c]? = some q → ∃ B newId i bmB pn, TX.ExTx P K mg q.nm q.C B newId i bmB pn q.fld
  exd : ∀ (c c' : Nat) q q', exs[c]? = some q → exs[c']? = some q' → PySem.W.exmOne K (.ref q.C) (.ref q'.C) = some (decide (c = c'))
theorem ExsOk.nil : ExsOk P K mg [] := ⟨fun c q h => by simp at h, fun c c' q q' h => by simp at h⟩
/-- what all functions of a law share -/
structure Base0 where
  K : PySem.W.Frag
  am : Addr
  rg : Rng
  lv : Nat
  cons : List (Str × Cst)
  dn : Str
  exs : List Xc := []
abbrev exm (xs : List Xc) : List (Str × Option Str) := xs.map fun q => (q.nm, q.fld)
def ckOf (cons : List (Str × Cst)) (dn : Str) (fs : List Fd) (exs : List (Str × Option Str) := []) : Chk := ⟨(fs.map (·.nm)).reverse, cons, dn, exs⟩
def ctxOf (B : Base0) (wf : Nat) (fs : List Fd) : Ctx := ⟨B.K, B.am, B.rg, B.lv + fs.length, callT wf fs, ckOf B.cons B.dn fs (exm B.exs), B.exs⟩
def FnsAt (K : PySem.W.Frag) (mg : Str → Option Value) (cons : List (Str × Cst)) (dn : Str) (exs : List (Str × Option Str)) : List Fd → Prop
  | [] => True
  | f :: fs => FnsAt K mg cons dn exs fs ∧ FnAt K mg (ckOf cons dn fs exs) f
/-- the drawing function's promise -/
def spD0 (B : Base0) : Sp := spD (ctxOf B 0 [])
section
variable {B : Base0} {wf wf' : Nat} {fs gs : List Fd} {b : Nat} {R : List Addr} {G H : Hp}
theorem bs_ctx (z : Bs (ctxOf B wf fs) b R G H) : Bs (ctxOf B wf' gs) b R G H := ⟨z.sub, z.rg, z.dis⟩
theorem rep_ctx {v : V} {x : Wd} (z : Rep (ctxOf B wf fs) G v x) : Rep (ctxOf B wf' gs) G v x := by
  cases x with
  | d x => exact z
  | rng => exact z
  | scr n => exact z
theorem reps_ctx : ∀ {vs : List V} {ws : List Wd}, Reps (ctxOf B wf fs) G vs ws → Reps (ctxOf B wf' gs) G vs ws
  | [], [], _ => trivial
  | _ :: _, _ :: _, h => ⟨rep_ctx h.1, reps_ctx h.2⟩
  | [], _ :: _, h => h
  | _ :: _, [], h => h
theorem ret_ctx {H0 : Hp} {v : V} {r : FR} (z : RetOk (ctxOf B wf fs) H0 R G H v r) : RetOk (ctxOf B wf' gs) H0 R G H v r := by
  cases r with
  | fz w => exact rep_ctx z
  | ow ds =>
    obtain ⟨l, e, n, o⟩ := z
    exact ⟨l, e, n, ⟨o.at_, o.g, o.r⟩⟩
theorem spG_ctx {c : List Wd → Comp FR} {vs : List V} {Q : VK} {E : XK} (h : spG (ctxOf B wf fs) c vs H Q E) : spG (ctxOf B wf' gs) c vs H Q E := by
  obtain ⟨b, R, G, ws, hb, r, h⟩ := h
  exact ⟨b, R, G, ws, bs_ctx hb, reps_ctx r, Comp.wp_mono h (fun b' r q R' G' H' v s B' ro => q R' G' H' v s (bs_ctx B') (ret_ctx ro)) fun b' x q R' G' H' cls d s B' ex => q R' G' H' cls d s (bs_ctx B') ex⟩
theorem spD_ctx {vs : List V} {Q : VK} {E : XK} (h : spD (ctxOf B wf fs) vs H Q E) : spD (ctxOf B wf' gs) vs H Q E := by
  obtain ⟨b, R, G, n, hb, e, h1, h2, h⟩ := h
  exact ⟨b, R, G, n, bs_ctx hb, e, h1, h2, fun r R' H' r0 r1 s B' => h r R' H' r0 r1 s (bs_ctx B')⟩
end
theorem FnG.imp {k : Nat} {f : Addr} {fd : FuncData} {ps : List Str} {sp sp' : Sp} (F : FnG P w K mg base k f fd ps sp) (h : ∀ vs H Q E, sp' vs H Q E → sp vs H Q E) : FnG P w K mg base k f fd ps sp' :=
  ⟨fun vs H Q E z => F.len vs H Q E (h vs H Q E z), fun A o s H a us vs Q E g r e b rv z => F.run A o s H a us vs Q E g r e b rv (h vs H Q E z)⟩
theorem fns_ok {B : Base0} (hK : K = B.K) (hb : ∀ x, bltB x = true → mg x = none) (hc : ∀ x v, B.cons.lookup x = some v → ∃ u vv, mg x = some vv ∧ RelV u vv ∧ Dq B.K (fun _ => none) u v.val)
    (hd : ∃ f fd ps, mg B.dn = some (.ref f) ∧ PySem.W.keepIn K (.ref f) = true ∧ Binds K fd ps [] ∧ FnG P w K mg base B.lv f fd ps (spD0 B)) (hx : ExsOk P K mg B.exs) (wf : Nat) : ∀ fs : List Fd, FnsAt K mg B.cons B.dn (exm B.exs) fs → ModOk (ctxOf B wf fs) P w K mg base
  | [], _ => ⟨hK, hb, hc, fun j x h => by
      have h : ([] : List Str)[j]? = some x := h
      simp at h, rfl, hx.ex, hx.exd, hd⟩
  | f :: fs, h => by
    have M := fns_ok hK hb hc hd hx wf fs h.1
    refine ⟨hK, hb, hc, fun j x hj => ?_, rfl, hx.ex, hx.exd, ?_⟩
    · have hj : ((f :: fs).map (·.nm)).reverse[j]? = some x := hj
      rw [List.map_cons, List.reverse_cons] at hj
      by_cases c : j = fs.length
      · have hx : x = f.nm := by
          rw [List.getElem?_append_right (by rw [List.length_reverse, List.length_map]; omega), List.length_reverse, List.length_map, c, Nat.sub_self] at hj
          exact (Option.some.inj hj).symm
        obtain ⟨n, qual, st, fa, fd, ps, F, S, hnp, hbd, ok, hm, bd⟩ := h.2.ex
        have e : (ctxOf B wf (f :: fs)).cl j = f.run wf (ctxOf B wf fs).cl := by
          funext ws
          show (if j = fs.length then f.run wf (callT wf fs) ws else callT wf fs j ws) = _
          rw [if_pos c]
          rfl
        rw [hx]
        refine ⟨fa, fd, ps, hm, F.kp, bd, ?_⟩
        show FnG P w K mg base _ fa fd ps (spG (ctxOf B wf (f :: fs)) ((ctxOf B wf (f :: fs)).cl j))
        rw [e]
        exact (fn_step M F S hnp hbd ok wf).imp fun _ _ _ _ => spG_ctx
      · have hl : j < fs.length := by
          have := (List.getElem?_eq_some_iff.mp hj).1
          rw [List.length_append, List.length_reverse, List.length_map, List.length_singleton] at this
          omega
        rw [List.getElem?_append_left (by rw [List.length_reverse, List.length_map]; exact hl)] at hj
        obtain ⟨fa, fd, ps, h1, h2, h3, h4⟩ := M.fn j x hj
        have e : (ctxOf B wf (f :: fs)).cl j = (ctxOf B wf fs).cl j := by
          funext ws
          show (if j = fs.length then f.run wf (callT wf fs) ws else callT wf fs j ws) = _
          rw [if_neg c]
          rfl
        refine ⟨fa, fd, ps, h1, h2, h3, ?_⟩
        show FnG P w K mg base _ fa fd ps (spG (ctxOf B wf (f :: fs)) ((ctxOf B wf (f :: fs)).cl j))
        rw [e]
        exact (h4.mono (Nat.add_le_add_left (Nat.le_succ _) _)).imp fun _ _ _ _ => spG_ctx
    · obtain ⟨fa, fd, ps, h1, h2, h3, h4⟩ := M.drw
      exact ⟨fa, fd, ps, h1, h2, h3, (h4.mono (Nat.add_le_add_left (Nat.le_succ _) _)).imp fun _ _ _ _ => spD_ctx⟩
end
end TC

set_option Elab.async false
set_option linter.all false
set_option maxRecDepth 100000
set_option maxHeartbeats 4000000
namespace TC
open PySem L2 PySem.Spec PyProof.Rows PySem.W
/-! ### the law's own end -/
/-- what is promised of a law's def: True comes out -/
def spT (K : PySem.W.Frag) : Sp := fun vs H Q _ => ∃ (a : Addr) (ns : List Int), vs = [.ref a] ∧ SqL K H a (ns.map V.int) ∧ ns.length ≤ 63 ∧ (∀ z ∈ ns, Builtin.Int.intBits z ≤ 1048576) ∧ ∀ H', Q (.bl true) H'
/-- the goal of the law's call -/
abbrev LawEnd (P : Program) (w : World) (fa a : Addr) (s₁ : Shared) : Prop := codeAny (model P w) callerA (.call (.ref fa) ⟨[.ref a], []⟩) (fun r s' => r = .ok (.ret (.bool true)) ∧ OldK s₁.heap s'.heap ∧ s'.os = s₁.os ∧ AllBare s'.gens) s₁
section
variable {P : Program} {w : World} {K : PySem.W.Frag} {mg mb : Str → Option Value} {k : Nat} {fa a : Addr} {fd : FuncData} {x : Str} {s₁ : Shared} {vs : List Value} {ns : List Int}
/-- from an abstract heap where the script alone may be tracked -/
theorem law_core (KX : K.In s₁.heap) (hns : s₁.heap.Ns mainGlobals mg) (hb : s₁.heap.Ns builtinsNs mb) (hbb : ∀ x : Str, x ≠ "__name__" → mb x = bootBuiltins x) (hlim : s₁.heap.NoLimit) (hg : s₁.gens = #[])
    (ha : s₁.heap.get? a = some { cls := .type "list", data := .seq vs.toArray }) (hl : ns.length ≤ 63) (hbt : ∀ z ∈ ns, Builtin.Int.intBits z ≤ 1048576) (hr : Room k callerA)
    (F : ∀ base : Heap, K.In base → base.Ns mainGlobals mg → FnG P w K mg base k fa fd [x] (spT K)) (bd : ∀ (s : Shared) (u : Value), BindsTo s fd ⟨[u], []⟩ [(x, u)])
    (H : Hp) (only : Only H) (sq : SqL K H a (ns.map V.int)) (ok : HOk P w H s₁.heap) (at_a : ∀ b, H b ≠ none → b = a) (hK : H a ≠ none → K.lookup a = none) : LawEnd P w fa a s₁ := by
  have nod : ∀ {b : Addr} {o : Obj} {es : Array DictEntry} {n : Nat}, s₁.heap.get? b = some o → o.data = .dict es n → H b = none := fun {b o es n} e1 e2 => Decidable.byContradiction fun z => by
    have c := at_a b z
    rw [c, ha] at e1
    injection e1 with e1
    rw [← e1] at e2
    cases e2
  have ns2 : ∀ {b : Addr} {m : Str → Option Value}, s₁.heap.Ns b m → (hidT s₁.heap H).Ns b m := fun {b m} q => by
    obtain ⟨o, es, n, e1, e2, e3⟩ := q
    exact ⟨o, es, n, hidT_get e1 (nod e1 e2), e2, e3⟩
  have k2 : K.In (hidT s₁.heap H) := fun b o e1 => hidT_get (KX b o e1) (Decidable.byContradiction fun z => by
    have c := at_a b z
    subst c
    rw [hK z] at e1
    cases e1)
  obtain ⟨mc, l1, l2⟩ := hlim
  have md : Mod K mg (hidT s₁.heap H) := ⟨k2, ns2 hns, ⟨mb, ns2 hb, hbb⟩, ⟨mc, ns2 l1, l2⟩⟩
  have env : Env0 P w K mg (hidT s₁.heap H) callerA [] s₁ H := ⟨rfl, md, fun _ _ e => of_hidT e, Nat.le_of_eq (hidT_size _ _), trivial, fun b z => (List.not_mem_nil z).elim, ok, .of_eq hg⟩
  have main := (F _ k2 (ns2 hns)).run callerA [] s₁ H ⟨[.ref a], []⟩ [.ref a] [.ref a] (fun v _ => v = .bl true) (fun _ _ _ => False) rfl hr env (bd s₁ (.ref a)) (.cons rfl .nil) ⟨a, ns, rfl, sq, hl, hbt, fun _ => rfl⟩
  refine codeAny_mono main fun r s' z => ?_
  cases r with
  | error u =>
    obtain ⟨_, _, _, _, _, _, _, _, _, _, _, _, _, _, _, _, bad⟩ := z
  | ok fl =>
    cases fl with
    | ret u =>
      obtain ⟨v, H', os, bare, un, ok', rv, q⟩ := z
      have q : v = .bl true := q
      rw [q] at rv
      have rv : u = Value.bool true := rv
      rw [rv]
      refine ⟨rfl, OldK.of_keep fun b o e => ?_, os, bare⟩
      rcases only b with n | ⟨o2, xs, n⟩
      · exact un.keep b o e n (List.not_mem_nil) (by simp)
      · have e1 := (ok b _ n).1
        have e2 := (ok' b _ (un.frzs b o2 _ n)).1
        rw [e] at e1
        rw [e1]
        exact e2
    | _ => exact False.elim z
theorem law_callG (KX : K.In s₁.heap) (hns : s₁.heap.Ns mainGlobals mg) (hb : s₁.heap.Ns builtinsNs mb) (hbb : ∀ x : Str, x ≠ "__name__" → mb x = bootBuiltins x) (hlim : s₁.heap.NoLimit) (hg : s₁.gens = #[])
    (ha : s₁.heap.get? a = some { cls := .type "list", data := .seq vs.toArray }) (hi : IntsAre vs ns) (hl : ns.length ≤ 63) (hbt : ∀ z ∈ ns, Builtin.Int.intBits z ≤ 1048576) (hr : Room k callerA)
    (F : ∀ base : Heap, K.In base → base.Ns mainGlobals mg → FnG P w K mg base k fa fd [x] (spT K)) (bd : ∀ (s : Shared) (u : Value), BindsTo s fd ⟨[u], []⟩ [(x, u)]) : LawEnd P w fa a s₁ := by
  have rv := vals_ints hi
  have len := hi.length
  have small : ns.length ≤ sizeLine := Nat.le_trans hl (by decide)
  cases hk : K.lookup a with
  | some o =>
    have e := KX a o hk
    rw [ha] at e
    injection e with e
    subst e
    have sz : vs.toArray.size ≤ sizeLine := by
      rw [List.size_toArray, len]
      exact small
    exact law_core KX hns hb hbb hlim hg ha hl hbt hr F bd (fun _ => none) (fun _ => .inl rfl) (.inr ⟨_, vs.toArray, _, hk, rfl, rfl, rfl, sz, by simpa using rv⟩) (fun b u z => nomatch (show (none : Option HO) = some u from z)) (fun _ z => absurd rfl z) fun z => absurd rfl z
  | none =>
    let H : Hp := fun b => if b = a then some (.frz { cls := .type "list", data := .seq vs.toArray } (.lst (ns.map V.int))) else none
    have hh : H a = some (.frz { cls := .type "list", data := .seq vs.toArray } (.lst (ns.map V.int))) := if_pos rfl
    have hn : ∀ {b}, b ≠ a → H b = none := fun z => if_neg z
    refine law_core KX hns hb hbb hlim hg ha hl hbt hr F bd H (fun b => ?_) (.inl (.inr ⟨_, hh⟩)) (fun b u z => ?_) (fun b z => Decidable.byContradiction fun c => z (hn c)) fun _ => hk
    · by_cases c : b = a
      · rw [c]
        exact .inr ⟨_, _, hh⟩
      · exact .inl (hn c)
    · by_cases c : b = a
      · subst c
        rw [hh] at z
        injection z with z
        subst z
        exact ⟨ha, by rw [List.length_map]; exact small, vs, _, rv, ha⟩
      · rw [hn c] at z
        cases z
end
/-- what k_head leaves, from the promise of the law's def -/
theorem walkG {l : PySem.W.OpenLaw} {k : Nat} {q : Program} {loose : List Str} {XP : (Str → Option Value) → Heap → Prop} {YP : World → Heap → Prop} {d : DefRec} {K : Params → PySem.W.Frag} {x : Str}
    (hn : l.most = some 63) (hdf : d.params.defaults = []) (hr : Room k callerA) (hY : ∀ (w : World) (h : Heap), YP w h → (K w.params).In h)
    (F : ∀ (w : World) (mg : Str → Option Value) (fa : Addr) (h : Heap), (K w.params).In h → h.Ns mainGlobals mg → mg d.name = some (.ref fa) →
      ∃ fd : FuncData, (∀ (s : Shared) (u : Value), BindsTo s fd ⟨[u], []⟩ [(x, u)]) ∧ ∀ base : Heap, (K w.params).In base → base.Ns mainGlobals mg → FnG l.prog w (K w.params) mg base k fa fd [x] (spT (K w.params))) :
    PySem.W.WalkO q loose XP YP l.row.toRowW d [] (fun f vs => PySem.call f vs) :=
  Att.attach_callB hn hdf fun w s₀ s₁ mg mb fa o pm cd doc a vs ns G Y ho hd hcd hmg hobj hints hlen hbt hg => by
    obtain ⟨fd, bd, hF⟩ := F w mg fa _ (hY w _ Y) G.T.g hmg
    exact law_callG (hY w _ Y) G.T.g G.T.b G.T.builtins G.T.nolimit hg hobj hints hlen hbt hr hF bd
/-! ### the law's def -/
theorem pss_ex {ι : Type} {X : Cx} {st : List Stmt} {t : ι → TS} (h : ∀ i, PSs X st (t i)) : PSs X st (fun D σ H => ∃ i, t i D σ H) := ⟨fun pins s σ H D I ⟨i, q⟩ => (h i).run pins s σ H D I q⟩
/-- the drawing object is made -/
def spS (K : PySem.W.Frag) (rgs : Addr → Rng) (nb : Nat) : Sp := fun vs H Q _ => ∃ (a : Addr) (ns : List Int), vs = [.ref a] ∧ SqL K H a (ns.map V.int) ∧ ns.length ≤ 63 ∧ (∀ z ∈ ns, Builtin.Int.intBits z ≤ 1048576) ∧
  ∀ am R H', (rgs am).I nb R H' → (∀ c o, H c = some o → H' c = some o) → (∀ c ∈ R, H c = none) → Q (.ref am) H'
def lawC (wf : Nat) (fs : List Fd) (lw : Fd) (n : Nat) : Comp FR := (nox (lw.body.ev (callT wf fs) wf ((startE lw.N.length [.scr n]).set 1 (.fz .rng)))).bind endC
def isT : Nat → FR → Prop := fun _ r => r = .fz (.d (.bool true))
def Base0.at_ (B : Base0) (rgs : Addr → Rng) (am : Addr) : Base0 := { B with am := am, rg := rgs am }
theorem law_fn {P : Program} {w : World} {K : PySem.W.Frag} {mg : Str → Option Value} {base : Heap} {B : Base0} {rgs : Addr → Rng} {wf nb : Nat} {fs : List Fd} {lw : Fd} (hM : ∀ am, ModOk (ctxOf (B.at_ rgs am) wf fs) P w K mg base)
    {bg m sc x qual : Str} {p1 p2 p3 p4 p5 : Pos} {st : Stmt} {fa : Addr} {fd : FuncData} (hs : ∃ f fd ps, mg bg = some (.ref f) ∧ PySem.W.keepIn K (.ref f) = true ∧ Binds K fd ps [] ∧ FnG P w K mg base B.lv f fd ps (spS K rgs nb))
    (F : Fun K x qual st fa fd) (S : FnScope lw.N [sc] (defScope st)) (hb : defBody st = .Assign [.Name m p1] (.Call (.Name bg p2) [.Name sc p3] [] p4) p5 :: lw.body.em)
    (h0 : slotB lw.N 0 sc = true) (h1 : slotB lw.N 1 m = true) (v0 : visB (defScope st) sc = true) (v1 : locB (defScope st) m = true) (vg : glB (defScope st) bg = true) (ok : lw.body.ok (ckOf B.cons B.dn fs (exm B.exs)) lw.N (defScope st) = true)
    (hw : ∀ n, n ≤ 63 → (lawC wf fs lw n).wp nb isT noE) : FnG P w K mg base (B.lv + fs.length + 1) fa fd [sc] (spT K) := by
  obtain ⟨oc, od, kV, doc, pm, an, cdv, ct, osl, rfl, lk, hcd⟩ := F.ex
  refine fnG_of lk hcd S (fun vs H Q E h => ?_) fun A outer s H vs Q E hg hr h => ?_
  · obtain ⟨a, ns, rfl, _⟩ := h
    rfl
  · obtain ⟨a, ns, rfl, sq, hl, hbt, hQ⟩ := h
    have hX : ∀ am, XOk (ctxOf (B.at_ rgs am) wf fs) (fun cls d _ H => E cls d H) (cxOf (L2.CX P w) P w K mg base lw.N qual (defScope st) fa cdv A outer s H E) := fun am => ⟨hM am, rfl, hg, hr, S.nd, takes_of rfl rfl rfl rfl, passes_of rfl⟩
    obtain ⟨f, fd, ps, mf, kf, bf, Ff⟩ := hs
    have n := plainNm_of (nm_vis v0)
    rw [hb]
    have e1 : 1 < lw.N.length := (List.getElem?_eq_some_iff.mp (slot_of h1)).1
    have hsl : (L2.start lw.N [V.ref a])[0]? = some (some (.ref a)) := rfl
    refine ⟨_, pss_cons (ps_set S.nd (slot_of h1) (loc_of v1) (pe_callG (W := fun cls d _ H => E cls d H) Ff hg (hr.mono (Nat.le_add_right _ _)) (gl_of vg) mf kf bf (hX 0).tk (pa_1 (pe_var (slot_of h0) (vis_of v0) n.1 n.2.1) rfl) (plainNm_of (nm_gl vg)).1 rfl rfl) rfl (.inl rfl))
      (pss_ex fun am => p_sms wf lw.body (hX am) (fun _ => rfl) S.kind ⟨rfl, rfl⟩ ok), .ref a, hsl, a, ns, rfl, sq, hl, hbt, fun am R H' hI keep fresh => ⟨am, ?_⟩⟩
    let G : Hp := fun c => if c = a then H a else none
    have ga : G a = H a := if_pos rfl
    have gn : ∀ {c}, c ≠ a → G c = none := fun z => if_neg z
    have sg : SqL K G a (ns.map V.int) := by
      rcases sq with (q | ⟨o, q⟩) | q
      · exact .inl (.inl (ga.trans q))
      · exact .inl (.inr ⟨o, ga.trans q⟩)
      · exact .inr q
    have sub : Sub G H' := fun c o z => by
      by_cases q : c = a
      · subst q
        rw [ga] at z
        exact keep _ _ z
      · rw [gn q] at z
        cases z
    have dis : ∀ c ∈ R, G c = none := fun c hc => by
      by_cases q : c = a
      · subst q
        rw [ga]
        exact fresh _ hc
      · exact gn q
    have bs : Bs (ctxOf (B.at_ rgs am) wf fs) nb R G H' := ⟨sub, hI, dis⟩
    have hK : K = B.K := (hM am).hK
    have s0 := start_ss (N := lw.N) (vs := [V.ref a]) (ws := [.scr ns.length]) bs ⟨⟨a, _, rfl, hK ▸ sg, by rw [List.length_map]⟩, trivial⟩
    refine ⟨_, nb, R, G, _, s0.setF (k := 1) (v := .ref am) (w := .rng) rfl, Comp.wp_mono (wp_nox (Comp.wp_bind.mp (hw ns.length hl))) (fun b' o q => ?_) fun _ _ z => z⟩
    cases o with
    | nx e => exact nomatch (show FR.fz (.d .none) = .fz (.d (.bool true)) from q)
    | br e => exact q.elim
    | ct e => exact q.elim
    | rt r =>
      have q : r = .fz (.d (.bool true)) := q
      subst q
      intro R' G' H2 v st B' ro
      have ro : Dq B.K G' v (.bool true) := ro
      cases ro
      exact hQ H2
    | ex x e => exact q.elim
end TC

set_option Elab.async false
set_option linter.all false
set_option maxRecDepth 100000
set_option maxHeartbeats 4000000
namespace TC
open PySem
/-- the blocks within a statement -/
def subS : Stmt → Nat → List Stmt
  | .If _ a b _, k => if k = 0 then a else b
  | .For _ _ b _ _, _ => b
  | .While _ b _ _, _ => b
  | _, _ => []
/-- a statement by its place -/
def atS : List Stmt → List (Nat × Nat) → Nat → Stmt
  | ss, [], j => ss.getD j (.Pass ⟨0, 0, 0, 0⟩)
  | ss, (i, k) :: p, j => atS (subS (ss.getD i (.Pass ⟨0, 0, 0, 0⟩)) k) p j
/-- every draw is the same: a first look -/
def Comp.look {α : Type} (r : Int) : Comp α → Option α
  | .ret a => some a
  | .draw n k => (k (if r < n then r else 0)).look r
  | _ => none
def FR.isTrue : FR → Bool
  | .fz (.d (.bool true)) => true
  | _ => false
/-- every way ends in True, with at most b draws -/
def Comp.allT : Nat → Comp FR → Bool
  | _, .ret r => r.isTrue
  | 0, _ => false
  | b + 1, .draw n k => decide (0 < n) && decide (n < 1073741824) && (List.range n.toNat).all fun i => (k i).allT b
  | _, _ => false
mutual
def sameD : PyData → PyData → Bool
  | .none, .none => true
  | .bool a, .bool b => a == b
  | .int a, .int b => decide (a = b)
  | .str a, .str b => decide (a = b)
  | .list a, .list b => sameL a b
  | .tuple a, .tuple b => sameL a b
  | _, _ => false
def sameL : List PyData → List PyData → Bool
  | [], [] => true
  | a :: as, b :: bs => sameD a b && sameL as bs
  | _, _ => false
end
mutual
theorem sameD_eq : ∀ {a b : PyData}, sameD a b = true → a = b
  | .none, b, h => by cases b <;> first | rfl | (unfold sameD at h; cases h)
  | .bool a, b, h => by cases b <;> first | (unfold sameD at h; exact congrArg _ (eq_of_beq h)) | (unfold sameD at h; cases h)
  | .int a, b, h => by cases b <;> first | (unfold sameD at h; exact congrArg _ (of_decide_eq_true h)) | (unfold sameD at h; cases h)
  | .str a, b, h => by cases b <;> first | (unfold sameD at h; exact congrArg _ (of_decide_eq_true h)) | (unfold sameD at h; cases h)
  | .list a, b, h => by
    cases b with
    | list b =>
      unfold sameD at h
      rw [sameL_eq h]
    | _ => unfold sameD at h; cases h
  | .tuple a, b, h => by
    cases b with
    | tuple b =>
      unfold sameD at h
      rw [sameL_eq h]
    | _ => unfold sameD at h; cases h
  | .dict a, b, h => by cases b <;> (unfold sameD at h; cases h)
theorem sameL_eq : ∀ {a b : List PyData}, sameL a b = true → a = b
  | [], [], _ => rfl
  | a :: as, b :: bs, h => by
    unfold sameL at h
    rw [sameD_eq (and2 h).1, sameL_eq (and2 h).2]
  | [], _ :: _, h => by unfold sameL at h; cases h
  | _ :: _, [], h => by unfold sameL at h; cases h
end
/-- the slot at i holds d | the drawing object -/
def slD (e : En) (i : Nat) (d : PyData) : Bool := match e[i]? with
  | some (.fz (.d x)) => sameD x d
  | _ => false
def slR (e : En) (i : Nat) : Bool := match e[i]? with
  | some (.fz .rng) => true
  | _ => false
/-- every way that a block may take goes on, with slots as told -/
def Comp.allN (P : En → Bool) : Nat → Comp Ou → Bool
  | _, .ret (.nx e) => P e
  | _, .ret (.ct e) => P e
  | b + 1, .draw n k => decide (0 < n) && decide (n < 1073741824) && (List.range n.toNat).all fun i => (k i).allN P b
  | _, _ => false
theorem allN_wp {P : En → Bool} {Q : Nat → Ou → Prop} (hn : ∀ b e, P e = true → Q b (.nx e)) (hc : ∀ b e, P e = true → Q b (.ct e)) : ∀ {b m : Nat} {c : Comp Ou}, c.allN P b = true → (∀ b' e, P e = true → Q b' (.nx e) ∧ Q b' (.ct e)) → c.wp (b + m) Q noE
  | b, m, .ret (.nx e), h, hq => by
    cases b <;> exact (hq _ e h).1
  | b, m, .ret (.ct e), h, hq => by
    cases b <;> exact (hq _ e h).2
  | b + 1, m, .draw n k, h, hq => by
    unfold Comp.allN at h
    have h1 := and2 h
    have h2 := and2 h1.1
    refine ⟨b + m, by omega, of_decide_eq_true h2.1, of_decide_eq_true h2.2, fun r r0 rn => ?_⟩
    have z := List.all_eq_true.mp h1.2 r.toNat (List.mem_range.mpr (by omega))
    have e : ((r.toNat : Nat) : Int) = r := by omega
    rw [e] at z
    exact allN_wp hn hc z hq
  | 0, m, .draw n k, h, hq => by cases h
  | b, m, .raise x, h, hq => by cases b <;> cases h
  | b, m, .stuck, h, hq => by cases b <;> cases h
  | b, m, .ret (.br e), h, hq => by cases b <;> cases h
  | b, m, .ret (.rt r), h, hq => by cases b <;> cases h
  | b, m, .ret (.ex x e), h, hq => by cases b <;> cases h
end TC

set_option Elab.async false
set_option linter.all false
set_option maxRecDepth 100000
set_option maxHeartbeats 4000000
namespace TC
open PySem L2 PySem.Spec PyProof.Rows
/-! ### ints in a list, as data -/
theorem ints_lay : ∀ gs : List Int, PyData.canLayAll0 (gs.map PyData.int) = true
  | [] => by simp [PyData.canLayAll0]
  | z :: zs => by simp [PyData.canLayAll0, PyData.canLay0, ints_lay zs]
theorem ints_depth : ∀ gs : List Int, PyData.depthAll (gs.map PyData.int) ≤ 1
  | [] => by simp [PyData.depthAll]
  | z :: zs => by
    have h := ints_depth zs
    simp only [List.map_cons, PyData.depthAll, PyData.depth]
    omega
theorem ints_shaped (gs : List Int) : SeqAt.shaped (.list (gs.map PyData.int)) = true := by
  have h1 := ints_depth gs
  have h2 : PyData.depth (.list (gs.map PyData.int)) ≤ 64 := by
    simp only [PyData.depth]
    omega
  show (PyData.canLay0 _ && decide (_ ≤ 64)) = true
  rw [Bool.and_eq_true]
  exact ⟨by simp only [PyData.canLay0]; exact ints_lay gs, decide_eq_true h2⟩
theorem eqv_nil (gs : List Int) : PyData.eqv (.list (gs.map PyData.int)) (.list []) = gs.isEmpty := by
  cases gs with
  | nil => simp [PyData.eqv, PyData.eqvAll]
  | cons z zs => simp [PyData.eqv, PyData.eqvAll]
theorem dq_ints {K : PySem.W.Frag} {G : Hp} : ∀ gs : List Int, DqAll K G (gs.map V.int) (gs.map PyData.int)
  | [] => .nil
  | z :: zs => .cons (.int z) (dq_ints zs)
/-- some list of ints is not [] -/
theorem some_red {K : PySem.W.Frag} {v : V} {g : Addr} {gs : List Int} {σ : L2.St} {H : Hp} {Q : Bool → Hp → Prop} (e : v = .ref g) (hg : H g = some (.lst (gs.map V.int))) (q : ∀ p, H p = none → Q (!gs.isEmpty) (upd H p (.lst []))) :
    tLst tNil σ H fun y H2 => rNeD K v y H2 fun x H' => ∃ k, x = .bl k ∧ Q k H' := by
  subst e
  refine ⟨Nat.zero_le _, fun p n => ⟨.list (gs.map PyData.int), .list [], ?_, ?_, ints_shaped gs, rfl, _, rfl, ?_⟩⟩
  · have hg2 : (upd H p (.lst [])) g = some (.lst (gs.map V.int)) := by
      rw [upd_ne (ne_of_none hg n)]
      exact hg
    exact .lst (.inl (.inl hg2)) (dq_ints (G := upd H p (.lst [])) gs).dp
  · exact .lst (.inl (.inl upd_same)) .nil
  · rw [eqv_nil]
    exact q p n
/-! ### family B: cells, great, spot -/
def kvB (cl g : Addr) (t : Int) : List (Key × V) := [(.inr "cells", .ref cl), (.inr "great", .ref g), (.inr "spot", .int t)]
theorem neK {a b : Str} (h : a ≠ b) : ¬ (Sum.inr a : Key) = Sum.inr b := fun z => h (Sum.inr.inj z)
theorem kvB_c (cl g : Addr) (t : Int) : valV (kvB cl g t) (.inr "cells") = some (.ref cl) := by
  unfold kvB
  rw [valV_pos rfl]
theorem kvB_g (cl g : Addr) (t : Int) : valV (kvB cl g t) (.inr "great") = some (.ref g) := by
  unfold kvB
  rw [valV_neg (neK (by decide +kernel)), valV_pos rfl]
theorem kvB_t (cl g : Addr) (t : Int) : valV (kvB cl g t) (.inr "spot") = some (.int t) := by
  unfold kvB
  rw [valV_neg (neK (by decide +kernel)), valV_neg (neK (by decide +kernel)), valV_pos rfl]
theorem kvB_pg (cl g g' : Addr) (t : Int) : putK (kvB cl g t) (.inr "great") (.ref g') = kvB cl g' t := by
  have h1 : ¬ ("cells" : Str) = "great" := by decide +kernel
  have h2 : ¬ ("spot" : Str) = "great" := by decide +kernel
  simp [putK, kvB, h1, h2]
theorem kvB_pt (cl g : Addr) (t t' : Int) : putK (kvB cl g t) (.inr "spot") (.int t') = kvB cl g t' := by
  have h1 : ¬ ("cells" : Str) = "spot" := by decide +kernel
  have h2 : ¬ ("great" : Str) = "spot" := by decide +kernel
  simp [putK, kvB, h1, h2]
/-- the object stands at am; since H0 nothing else was changed -/
structure DB (am : Addr) (H0 : Hp) (R0 : List Addr) (cl g : Addr) (t : Int) (cs gs : List Int) (H : Hp) : Prop where
  hm : H am = some (.dK (kvB cl g t))
  hc : H cl = some (.lst (cs.map V.int))
  hg : H g = some (.lst (gs.map V.int))
  cg : cl ≠ g
  lc : cs.length ≤ 63
  lg : gs.length ≤ 63
  k : ∀ a o, H0 a = some o → a ∉ R0 → H a = some o
  n : ∀ a, H a = none → H0 a = none
  ra : am ∈ R0
  rc : cl ∈ R0 ∨ H0 cl = none
  rg : g ∈ R0 ∨ H0 g = none
section
variable {am : Addr} {H0 : Hp} {R0 : List Addr} {cl g : Addr} {t : Int} {cs gs : List Int} {H : Hp}
theorem DB.mc (D : DB am H0 R0 cl g t cs gs H) : am ≠ cl := fun z => by
  have := D.hc
  rw [← z, D.hm] at this
  cases this
theorem DB.mg (D : DB am H0 R0 cl g t cs gs H) : am ≠ g := fun z => by
  have := D.hg
  rw [← z, D.hm] at this
  cases this
theorem DB.get_g (D : DB am H0 R0 cl g t cs gs H) : DGet H am (.str "great") (some (.ref g)) := by
  have z := DGet.k (k := Sum.inr "great") D.hm
  rw [kvB_g] at z
  exact z
theorem DB.get_c (D : DB am H0 R0 cl g t cs gs H) : DGet H am (.str "cells") (some (.ref cl)) := by
  have z := DGet.k (k := Sum.inr "cells") D.hm
  rw [kvB_c] at z
  exact z
theorem DB.get_t (D : DB am H0 R0 cl g t cs gs H) : DGet H am (.str "spot") (some (.int t)) := by
  have z := DGet.k (k := Sum.inr "spot") D.hm
  rw [kvB_t] at z
  exact z
theorem DB.put_g {p : Addr} (D : DB am H0 R0 cl g t cs gs H) : DPut H am (.str "great") (.ref p) (upd H am (.dK (kvB cl p t))) := by
  have z := DPut.k (k := Sum.inr "great") (v := .ref p) D.hm (by show 3 < sizeLine; decide)
  rw [kvB_pg] at z
  exact z
theorem DB.put_t {t' : Int} (D : DB am H0 R0 cl g t cs gs H) : DPut H am (.str "spot") (.int t') (upd H am (.dK (kvB cl g t'))) := by
  have z := DPut.k (k := Sum.inr "spot") (v := .int t') D.hm (by show 3 < sizeLine; decide)
  rw [kvB_pt] at z
  exact z
theorem DB.junk {p : Addr} {o : HO} (D : DB am H0 R0 cl g t cs gs H) (n : H p = none) : DB am H0 R0 cl g t cs gs (upd H p o) := by
  have k : ∀ {a u}, H a = some u → upd H p o a = some u := fun {a u} h => by
    rw [upd_ne (ne_of_none h n)]
    exact h
  exact ⟨k D.hm, k D.hc, k D.hg, D.cg, D.lc, D.lg, fun a u h q => k (D.k a u h q), fun a h => D.n a (upd_none h), D.ra, D.rc, D.rg⟩
theorem DB.setG {gs' : List Int} (D : DB am H0 R0 cl g t cs gs H) (hl : gs'.length ≤ 63) : DB am H0 R0 cl g t cs gs' (upd H g (.lst (gs'.map V.int))) := by
  refine ⟨by rw [upd_ne D.mg]; exact D.hm, by rw [upd_ne D.cg]; exact D.hc, upd_same, D.cg, D.lc, hl, fun a u h q => ?_, fun a h => D.n a (upd_none h), D.ra, D.rc, D.rg⟩
  have ne : a ≠ g := fun z => by
    rcases D.rg with r | r
    · exact q (z ▸ r)
    · rw [z, r] at h
      cases h
  rw [upd_ne ne]
  exact D.k a u h q
theorem DB.setT {t' : Int} (D : DB am H0 R0 cl g t cs gs H) : DB am H0 R0 cl g t' cs gs (upd H am (.dK (kvB cl g t'))) := by
  refine ⟨upd_same, by rw [upd_ne D.mc.symm]; exact D.hc, by rw [upd_ne D.mg.symm]; exact D.hg, D.cg, D.lc, D.lg, fun a u h q => ?_, fun a h => D.n a (upd_none h), D.ra, D.rc, D.rg⟩
  have ne : a ≠ am := fun z => q (z ▸ D.ra)
  rw [upd_ne ne]
  exact D.k a u h q
theorem DB.newG {p : Addr} {gs' : List Int} (D : DB am H0 R0 cl g t cs gs H) (n : H p = none) (hl : gs'.length ≤ 63) : DB am H0 R0 cl p t cs gs' (upd (upd H p (.lst (gs'.map V.int))) am (.dK (kvB cl p t))) := by
  have np : am ≠ p := ne_of_none D.hm n
  have nc : cl ≠ p := ne_of_none D.hc n
  refine ⟨upd_same, ?_, ?_, nc, D.lc, hl, fun a u h q => ?_, fun a h => D.n a (upd_none (upd_none h)), D.ra, D.rc, .inr (D.n p n)⟩
  · rw [upd_ne D.mc.symm, upd_ne nc]
    exact D.hc
  · rw [upd_ne np.symm, upd_same]
  · have ne : a ≠ am := fun z => q (z ▸ D.ra)
    have z := D.k a u h q
    rw [upd_ne ne, upd_ne (ne_of_none z n)]
    exact z
end
def IB (am : Addr) (b : Nat) (R : List Addr) (H : Hp) : Prop := ∃ cl g t cs gs, R = [am, cl, g] ∧ DB am H R cl g t cs gs H ∧ 0 ≤ t ∧ t + b ≤ 1000000
theorem DB.at_ {am : Addr} {H0 H : Hp} {R0 R : List Addr} {cl g : Addr} {t : Int} {cs gs : List Int} (D : DB am H0 R0 cl g t cs gs H) : DB am H [am, cl, g] cl g t cs gs H :=
  ⟨D.hm, D.hc, D.hg, D.cg, D.lc, D.lg, fun _ _ h _ => h, fun _ h => h, by simp, .inl (by simp), .inl (by simp)⟩
def rgB (am : Addr) : Rng where
  I := IB am
  fr := fun {b R H H'} ⟨cl, g, t, cs, gs, e, D, t0, tb⟩ h => by
    subst e
    refine ⟨cl, g, t, cs, gs, rfl, ⟨?_, ?_, ?_, D.cg, D.lc, D.lg, fun _ _ h _ => h, fun _ h => h, by simp, .inl (by simp), .inl (by simp)⟩, t0, tb⟩
    · rw [h am (by simp)]
      exact D.hm
    · rw [h cl (by simp)]
      exact D.hc
    · rw [h g (by simp)]
      exact D.hg
  hv := fun {b R H} ⟨cl, g, t, cs, gs, e, D, _⟩ a ha => by
    subst e
    simp only [List.mem_cons, List.not_mem_nil, or_false] at ha
    rcases ha with rfl | rfl | rfl
    · rw [D.hm]; exact nofun
    · rw [D.hc]; exact nofun
    · rw [D.hg]; exact nofun
/-- what a draw leaves behind -/
theorem DB.fin {C : Ctx} {am : Addr} (hr : C.rg = rgB am) {b : Nat} {R0 : List Addr} {G H0 H : Hp} {cl g : Addr} {t : Int} {cs gs : List Int} (B : Bs C (b + 1) R0 G H0) (D : DB am H0 R0 cl g t cs gs H) (t0 : 0 ≤ t) (tb : t + b ≤ 1000000) :
    Stp R0 G H0 [am, cl, g] G H ∧ Bs C b [am, cl, g] G H := by
  have old : ∀ a ∈ [am, cl, g], a ∈ R0 ∨ H0 a = none := fun a ha => by
    simp only [List.mem_cons, List.not_mem_nil, or_false] at ha
    rcases ha with rfl | rfl | rfl
    · exact .inl D.ra
    · exact D.rc
    · exact D.rg
  have dis : ∀ a ∈ [am, cl, g], G a = none := fun a ha => (old a ha).elim (B.dis a) B.gnone
  refine ⟨⟨fun _ _ h => h, D.k, old, fun _ _ _ _ h => h, D.n⟩, ⟨fun a u h => ?_, by rw [hr]; exact ⟨cl, g, t, cs, gs, rfl, D.at_ (R := R0), t0, tb⟩, dis⟩⟩
  refine D.k a u (B.sub a u h) fun z => ?_
  rw [B.dis a z] at h
  cases h
end TC

set_option Elab.async false
set_option linter.all false
set_option maxRecDepth 100000
set_option maxHeartbeats 4000000
namespace TC
open PySem L2 PySem.Spec PyProof.Rows
/-- a function of the text, from what the top's written part says of it -/
theorem fnAt_of {K : PySem.W.Frag} {h : Heap} {mg : Str → Option Value} {ck : Chk} {f : Fd} {st : Stmt} {x qual : Str} {ps : List Str} {fa : Addr} {oc : Value} {od an : Option Addr} {osl : Array (Option Value)} {kV doc pm cdv ct : Value} (X : K.In h) (G : h.Ns mainGlobals mg)
    (S : FnScope f.N ps (defScope st)) (hnp : ps.length = f.np) (hb : defBody st = f.body.em) (ok : f.body.ok ck f.N (defScope st) = true)
    (bd : ∀ (kV doc pm : Value) (an : Option Addr) (cdv ct : Value) (us : List Value), us.length = ps.length → bindArgs (PySem.W.fnOf x qual (defArgs st) (defBody st) (defScope st) .none kV doc pm an cdv ct) ⟨us, []⟩ = pure (ps.zip us))
    (a : PySem.W.nsIn K mainGlobals f.nm = some (some (.ref fa))) (l : K.lookup fa = some ⟨oc, od, .func (PySem.W.fnOf x qual (defArgs st) (defBody st) (defScope st) .none kV doc pm an cdv ct), osl⟩)
    (c : PySem.W.codeIn K cdv qual = true) (k : PySem.W.keepIn K (.ref fa) = true) : FnAt K mg ck f := by
  have F := fun_mk l c k
  exact ⟨x, qual, st, fa, _, ps, F, S, hnp, hb, ok, PySem.W.mg_of X G a, F.binds bd⟩
theorem con_int {K : PySem.W.Frag} {h : Heap} {mg : Str → Option Value} {x : Str} {i : Int} {t : Tok} (X : K.In h) (G : h.Ns mainGlobals mg) (a : PySem.W.nsIn K mainGlobals x = some (some (.int i t))) :
    ∃ u vv, mg x = some vv ∧ RelV u vv ∧ Dq K (fun _ => none) u (Cst.int i).val := ⟨.int i, _, PySem.W.mg_of X G a, ⟨t, rfl⟩, .int i⟩
theorem con_str {K : PySem.W.Frag} {h : Heap} {mg : Str → Option Value} {x i : Str} {t : Tok} (X : K.In h) (G : h.Ns mainGlobals mg) (a : PySem.W.nsIn K mainGlobals x = some (some (.str i t))) :
    ∃ u vv, mg x = some vv ∧ RelV u vv ∧ Dq K (fun _ => none) u (Cst.str i).val := ⟨.str i, _, PySem.W.mg_of X G a, ⟨t, rfl⟩, .str i⟩
end TC

set_option Elab.async false
set_option linter.all false
set_option maxRecDepth 100000
set_option maxHeartbeats 4000000
namespace TC
open PySem L2 PySem.Spec PyProof.Rows
/-! ### family A: cells, left, at -/
def kvA (cl g : Addr) (t : Int) : List (Key × V) := [(.inr "cells", .ref cl), (.inr "left", .ref g), (.inr "at", .int t)]
theorem kvA_c (cl g : Addr) (t : Int) : valV (kvA cl g t) (.inr "cells") = some (.ref cl) := by
  unfold kvA
  rw [valV_pos rfl]
theorem kvA_g (cl g : Addr) (t : Int) : valV (kvA cl g t) (.inr "left") = some (.ref g) := by
  unfold kvA
  rw [valV_neg (neK (by decide +kernel)), valV_pos rfl]
theorem kvA_t (cl g : Addr) (t : Int) : valV (kvA cl g t) (.inr "at") = some (.int t) := by
  unfold kvA
  rw [valV_neg (neK (by decide +kernel)), valV_neg (neK (by decide +kernel)), valV_pos rfl]
theorem kvA_pg (cl g g' : Addr) (t : Int) : putK (kvA cl g t) (.inr "left") (.ref g') = kvA cl g' t := by
  have h1 : ¬ ("cells" : Str) = "left" := by decide +kernel
  have h2 : ¬ ("at" : Str) = "left" := by decide +kernel
  simp [putK, kvA, h1, h2]
theorem kvA_pt (cl g : Addr) (t t' : Int) : putK (kvA cl g t) (.inr "at") (.int t') = kvA cl g t' := by
  have h1 : ¬ ("cells" : Str) = "at" := by decide +kernel
  have h2 : ¬ ("left" : Str) = "at" := by decide +kernel
  simp [putK, kvA, h1, h2]
/-- the object stands at am; since H0 nothing else was changed -/
structure DA (am : Addr) (H0 : Hp) (R0 : List Addr) (cl g : Addr) (t : Int) (cs gs : List Int) (H : Hp) : Prop where
  hm : H am = some (.dK (kvA cl g t))
  hc : H cl = some (.lst (cs.map V.int))
  hg : H g = some (.lst (gs.map V.int))
  cg : cl ≠ g
  lc : cs.length ≤ 63
  lg : gs.length ≤ 63
  k : ∀ a o, H0 a = some o → a ∉ R0 → H a = some o
  n : ∀ a, H a = none → H0 a = none
  ra : am ∈ R0
  rc : cl ∈ R0 ∨ H0 cl = none
  rg : g ∈ R0 ∨ H0 g = none
section
variable {am : Addr} {H0 : Hp} {R0 : List Addr} {cl g : Addr} {t : Int} {cs gs : List Int} {H : Hp}
theorem DA.mc (D : DA am H0 R0 cl g t cs gs H) : am ≠ cl := fun z => by
  have := D.hc
  rw [← z, D.hm] at this
  cases this
theorem DA.mg (D : DA am H0 R0 cl g t cs gs H) : am ≠ g := fun z => by
  have := D.hg
  rw [← z, D.hm] at this
  cases this
theorem DA.get_g (D : DA am H0 R0 cl g t cs gs H) : DGet H am (.str "left") (some (.ref g)) := by
  have z := DGet.k (k := Sum.inr "left") D.hm
  rw [kvA_g] at z
  exact z
theorem DA.get_c (D : DA am H0 R0 cl g t cs gs H) : DGet H am (.str "cells") (some (.ref cl)) := by
  have z := DGet.k (k := Sum.inr "cells") D.hm
  rw [kvA_c] at z
  exact z
theorem DA.get_t (D : DA am H0 R0 cl g t cs gs H) : DGet H am (.str "at") (some (.int t)) := by
  have z := DGet.k (k := Sum.inr "at") D.hm
  rw [kvA_t] at z
  exact z
theorem DA.put_g {p : Addr} (D : DA am H0 R0 cl g t cs gs H) : DPut H am (.str "left") (.ref p) (upd H am (.dK (kvA cl p t))) := by
  have z := DPut.k (k := Sum.inr "left") (v := .ref p) D.hm (by show 3 < sizeLine; decide)
  rw [kvA_pg] at z
  exact z
theorem DA.put_t {t' : Int} (D : DA am H0 R0 cl g t cs gs H) : DPut H am (.str "at") (.int t') (upd H am (.dK (kvA cl g t'))) := by
  have z := DPut.k (k := Sum.inr "at") (v := .int t') D.hm (by show 3 < sizeLine; decide)
  rw [kvA_pt] at z
  exact z
theorem DA.junk {p : Addr} {o : HO} (D : DA am H0 R0 cl g t cs gs H) (n : H p = none) : DA am H0 R0 cl g t cs gs (upd H p o) := by
  have k : ∀ {a u}, H a = some u → upd H p o a = some u := fun {a u} h => by
    rw [upd_ne (ne_of_none h n)]
    exact h
  exact ⟨k D.hm, k D.hc, k D.hg, D.cg, D.lc, D.lg, fun a u h q => k (D.k a u h q), fun a h => D.n a (upd_none h), D.ra, D.rc, D.rg⟩
theorem DA.setG {gs' : List Int} (D : DA am H0 R0 cl g t cs gs H) (hl : gs'.length ≤ 63) : DA am H0 R0 cl g t cs gs' (upd H g (.lst (gs'.map V.int))) := by
  refine ⟨by rw [upd_ne D.mg]; exact D.hm, by rw [upd_ne D.cg]; exact D.hc, upd_same, D.cg, D.lc, hl, fun a u h q => ?_, fun a h => D.n a (upd_none h), D.ra, D.rc, D.rg⟩
  have ne : a ≠ g := fun z => by
    rcases D.rg with r | r
    · exact q (z ▸ r)
    · rw [z, r] at h
      cases h
  rw [upd_ne ne]
  exact D.k a u h q
theorem DA.setT {t' : Int} (D : DA am H0 R0 cl g t cs gs H) : DA am H0 R0 cl g t' cs gs (upd H am (.dK (kvA cl g t'))) := by
  refine ⟨upd_same, by rw [upd_ne D.mc.symm]; exact D.hc, by rw [upd_ne D.mg.symm]; exact D.hg, D.cg, D.lc, D.lg, fun a u h q => ?_, fun a h => D.n a (upd_none h), D.ra, D.rc, D.rg⟩
  have ne : a ≠ am := fun z => q (z ▸ D.ra)
  rw [upd_ne ne]
  exact D.k a u h q
theorem DA.newG {p : Addr} {gs' : List Int} (D : DA am H0 R0 cl g t cs gs H) (n : H p = none) (hl : gs'.length ≤ 63) : DA am H0 R0 cl p t cs gs' (upd (upd H p (.lst (gs'.map V.int))) am (.dK (kvA cl p t))) := by
  have np : am ≠ p := ne_of_none D.hm n
  have nc : cl ≠ p := ne_of_none D.hc n
  refine ⟨upd_same, ?_, ?_, nc, D.lc, hl, fun a u h q => ?_, fun a h => D.n a (upd_none (upd_none h)), D.ra, D.rc, .inr (D.n p n)⟩
  · rw [upd_ne D.mc.symm, upd_ne nc]
    exact D.hc
  · rw [upd_ne np.symm, upd_same]
  · have ne : a ≠ am := fun z => q (z ▸ D.ra)
    have z := D.k a u h q
    rw [upd_ne ne, upd_ne (ne_of_none z n)]
    exact z
end
def IA (am : Addr) (b : Nat) (R : List Addr) (H : Hp) : Prop := ∃ cl g t cs gs, R = [am, cl, g] ∧ DA am H R cl g t cs gs H ∧ 0 ≤ t ∧ t + b ≤ 1000000
theorem DA.at_ {am : Addr} {H0 H : Hp} {R0 R : List Addr} {cl g : Addr} {t : Int} {cs gs : List Int} (D : DA am H0 R0 cl g t cs gs H) : DA am H [am, cl, g] cl g t cs gs H :=
  ⟨D.hm, D.hc, D.hg, D.cg, D.lc, D.lg, fun _ _ h _ => h, fun _ h => h, by simp, .inl (by simp), .inl (by simp)⟩
def rgA (am : Addr) : Rng where
  I := IA am
  fr := fun {b R H H'} ⟨cl, g, t, cs, gs, e, D, t0, tb⟩ h => by
    subst e
    refine ⟨cl, g, t, cs, gs, rfl, ⟨?_, ?_, ?_, D.cg, D.lc, D.lg, fun _ _ h _ => h, fun _ h => h, by simp, .inl (by simp), .inl (by simp)⟩, t0, tb⟩
    · rw [h am (by simp)]
      exact D.hm
    · rw [h cl (by simp)]
      exact D.hc
    · rw [h g (by simp)]
      exact D.hg
  hv := fun {b R H} ⟨cl, g, t, cs, gs, e, D, _⟩ a ha => by
    subst e
    simp only [List.mem_cons, List.not_mem_nil, or_false] at ha
    rcases ha with rfl | rfl | rfl
    · rw [D.hm]; exact nofun
    · rw [D.hc]; exact nofun
    · rw [D.hg]; exact nofun
/-- what a draw leaves behind -/
theorem DA.fin {C : Ctx} {am : Addr} (hr : C.rg = rgA am) {b : Nat} {R0 : List Addr} {G H0 H : Hp} {cl g : Addr} {t : Int} {cs gs : List Int} (B : Bs C (b + 1) R0 G H0) (D : DA am H0 R0 cl g t cs gs H) (t0 : 0 ≤ t) (tb : t + b ≤ 1000000) :
    Stp R0 G H0 [am, cl, g] G H ∧ Bs C b [am, cl, g] G H := by
  have old : ∀ a ∈ [am, cl, g], a ∈ R0 ∨ H0 a = none := fun a ha => by
    simp only [List.mem_cons, List.not_mem_nil, or_false] at ha
    rcases ha with rfl | rfl | rfl
    · exact .inl D.ra
    · exact D.rc
    · exact D.rg
  have dis : ∀ a ∈ [am, cl, g], G a = none := fun a ha => (old a ha).elim (B.dis a) B.gnone
  refine ⟨⟨fun _ _ h => h, D.k, old, fun _ _ _ _ h => h, D.n⟩, ⟨fun a u h => ?_, by rw [hr]; exact ⟨cl, g, t, cs, gs, rfl, D.at_ (R := R0), t0, tb⟩, dis⟩⟩
  refine D.k a u (B.sub a u h) fun z => ?_
  rw [B.dis a z] at h
  cases h
end TC

set_option Elab.async false
set_option linter.all false
set_option maxRecDepth 100000
set_option maxHeartbeats 4000000
namespace TX
open PySem PySem.W PyProof.Rows
/-- a class of errors, from what the top's written part says of it -/
theorem ex_of {P : Program} {K : Frag} {h : Heap} {mg : Str → Option Value} {x : Str} {C fI cda cc : Addr} {B newId i : String} {bmB : List Value} {pn : Str} {fld : Option Str} (FB : ExcBaseFacts B newId i bmB) (KF : KxsFacts B i) (SF : StoreFacts B bmB "object.__setattr__" "object") (al : ∀ K : Frag, alongIn K "__init__" bmB = some (some (.builtin i))) (X : K.In h) (G : h.Ns mainGlobals mg)
    {nm q : Str} {N : Addr} {bs : List Value} {sn : List Str} {sub : List Value} {ab : Bool} {col : Option Bool} {dd : Option Addr} {k0 k1 k2 k3 k5 : Option Value} {oc doc pm ct ccl cl : Value} {od an cdd cld : Option Addr} {osl ccs csl : Array (Option Value)} {qn : Str} {arg : Expr} {a1 a2 p0 p1 p2 p3 p4 q1 q2 q3 q4 : Pos} {vs : Array Value} {file : Str} {tf : Tok}
    (hpn : pn = "part" ∨ pn = "line" ∨ pn = "most" ∨ pn = "text") (hf : fld = none ∨ fld = some pn) (ok : ArgOk pn arg) (hl : (p2.endLine == p3.line) = true) (top : (P.main.scope.names.lookup ("super" : Str)).isSome = false)
    (gC : nsIn K mainGlobals x = some (some (.ref C))) (gS : nsIn K mainGlobals "super" = some none) (xL : K.lookup C = some (excClassObj nm q C N bs bmB true sn sub ab col dd k0 k1 k2 k3 k5 newId))
    (sa : findIn K (.ref C) "__setattr__" = some (some (.builtin "object.__setattr__"))) (ga : findIn K (.ref C) "__getattribute__" = some (some (.builtin "BaseException.__getattribute__"))) (gg : findIn K (.ref C) "__getattr__" = some none) (no : findIn K (.ref C) pn = some none)
    (iC : findIn K (.ref C) "__init__" = some (some (.ref fI))) (tI : typeIn K (.ref fI) = some (.type "function")) (lI : K.lookup fI = some ⟨oc, od, .func (ksFn "__init__" qn (iniA pn a1 a2) (iniB arg fld p0 p1 p2 p3 p4 q1 q2 q3 q4) (iniS pn) .none .none doc pm an (.ref cda) ct cc), osl⟩)
    (cI : codeIn K (.ref cda) qn = true) (hI : K.lookup cda = some ⟨ccl, cdd, .fields vs, ccs⟩) (vI : vs[2]? = some (.str file tf)) (pI : ((P.main.file : Str) == file) = true) (wI : K.lookup cc = some ⟨cl, cld, .cell (some (.ref C)), csl⟩)
    (op : nsIn K cStatics "thirdparty.any" = some none) (mC : mroIn K C (.ref C) = some true) (sB : subIn K (.ref C) (.type B) = some true) (kC : keepIn K (.ref C) = true) (eC : subIn K (.ref C) (.type "BaseException") = some true)
    (tC : typeIn K (.ref C) = some (.type "type")) (hC : hasDictIn K C = true) : ∃ B newId i bmB pn, ExTx P K mg x C B newId i bmB pn fld :=
  ⟨B, newId, i, bmB, pn, {
    gC := mg_of X G gC, gS := mg_none_of X G gS, fb := FB, kf := KF, sf := SF, cls := ⟨nm, q, N, bs, bmB, sn, sub, ab, col, dd, k0, k1, k2, k3, k5, xL, rfl⟩, sa := sa, ga := ga, gg := gg,
    noN := fun f e => by
      rcases hf with z | z
      · rw [z] at e
        cases e
      · rw [z] at e
        cases e
        exact no
    iC := ⟨fI, iC, tI, oc, od, doc, pm, an, cda, cc, ct, osl, qn, arg, a1, a2, p0, p1, p2, p3, p4, q1, q2, q3, q4, vs, file, tf, ccl, cdd, ccs, cl, cld, csl, lI, cI, ok, hl, hI, vI, pI, wI⟩,
    su := by
      have hcl : clsIn K C = some { name := nm, bases := bs, mro := .ref C :: bmB, ns := N, qualname := q, hasDict := true, slotNames := sn, subclasses := sub, abstract := ab, collection := col, hasDel := false } := by
        unfold clsIn
        rw [xL] <;> rfl
      unfold ks_superIn
      rw [hcl]
      show alongIn K "__init__" (((Value.ref C :: bmB).dropWhile (· != .ref C)).drop 1) = _
      have z : ((Value.ref C :: bmB).dropWhile (· != .ref C)).drop 1 = bmB := by simp [List.dropWhile_cons]
      rw [z]
      exact al K
    op := op, mC := mC, subB := sB, kC := kC, exC := eC, tyC := tC, hdC := hC, fp := hf, pns := hpn, top := top }⟩
theorem al_V (K : Frag) : alongIn K "__init__" [.type "ValueError", .type "Exception", .type "BaseException", .type "object"] = some (some (.builtin "ValueError.__init__")) := by kernel_rfl
theorem al_O (K : Frag) : alongIn K "__init__" [.type "OverflowError", .type "ArithmeticError", .type "Exception", .type "BaseException", .type "object"] = some (some (.builtin "OverflowError.__init__")) := by kernel_rfl
theorem al_L (K : Frag) : alongIn K "__init__" [.type "LookupError", .type "Exception", .type "BaseException", .type "object"] = some (some (.builtin "LookupError.__init__")) := by kernel_rfl
/-- whether an error of one class is what an except clause names -/
theorem exm_of {K : Frag} {C D : Addr} {b : Bool} (h1 : subIn K (.ref D) (.type "BaseException") = some true) (h2 : isClsIn K D = true) (h3 : typeIn K (.ref D) = some (.type "type")) (h4 : subIn K (.ref C) (.ref D) = some b) : exmOne K (.ref C) (.ref D) = some b := by
  have g1 : (subIn K (.ref D) (.type "BaseException") == some true) = true := by rw [h1] <;> rfl
  have g2 : ((clsIn K D).isSome && typeIn K (.ref D) == some (.type "type")) = true := by
    have z : (clsIn K D).isSome = true := h2
    rw [z, h3] <;> rfl
  unfold exmOne
  rw [if_pos g1]
  show (if ((clsIn K D).isSome && typeIn K (.ref D) == some (.type "type")) = true then subIn K (.ref C) (.ref D) else none) = some b
  rw [if_pos g2]
  exact h4
end TX
namespace TC
open PySem L2 PySem.Spec PyProof.Rows
theorem dq_strs {K : PySem.W.Frag} {G : Hp} : ∀ ss : List Str, DqAll K G (ss.map V.str) (ss.map PyData.str)
  | [] => .nil
  | s :: ss => .cons (.str s) (dq_strs ss)
/-- a constant that is a tuple of texts -/
theorem con_strs {K : PySem.W.Frag} {h : Heap} {mg : Str → Option Value} {x : Str} {a : Addr} {o : Obj} {its : Array Value} {n : Nat} {ss : List Str} (X : K.In h) (G : h.Ns mainGlobals mg) (g : PySem.W.nsIn K mainGlobals x = some (some (.ref a))) (l : K.lookup a = some o) (c : o.cls = .type "tuple") (d : o.data = .seq its n)
    (hz : its.size ≤ sizeLine) (v : Vals (ss.map V.str) its.toList) : ∃ u vv, mg x = some vv ∧ RelV u vv ∧ Dq K (fun _ => none) u (Cst.strs ss).val := by
  exact ⟨.ref a, _, PySem.W.mg_of X G g, rfl, .tup (.inr ⟨o, its, n, l, c, d, hz, v⟩) (dq_strs ss)⟩
end TC

set_option Elab.async false
set_option linter.all false
set_option maxRecDepth 100000
set_option maxHeartbeats 4000000
namespace TC
open PySem
/-- the functions behind the one at j -/
def tlC (fs : List Fd) (j : Nat) : Nat → List Wd → Comp FR := callT 100 (fs.drop (fs.length - j))
theorem callT_app {wf : Nat} : ∀ {gs hs : List Fd} {j : Nat} {ws : List Wd}, j < hs.length → callT wf (gs ++ hs) j ws = callT wf hs j ws
  | [], _, _, _, _ => rfl
  | g :: gs, hs, j, ws, h => by
    show (if j = (gs ++ hs).length then _ else callT wf (gs ++ hs) j ws) = _
    rw [if_neg (by rw [List.length_append]; omega), callT_app h]
theorem tl_lt {fs : List Fd} {i j : Nat} {ws : List Wd} (h : i < j) (hj : j ≤ fs.length) : tlC fs j i ws = callT 100 fs i ws := by
  unfold tlC
  have e : fs = fs.take (fs.length - j) ++ fs.drop (fs.length - j) := (List.take_append_drop _ _).symm
  conv => rhs; rw [e]
  rw [callT_app (by rw [List.length_drop]; omega)]
theorem cl_at {fs : List Fd} {j : Nat} {f : Fd} {ws : List Wd} (h : fs[fs.length - 1 - j]? = some f) (hj : j < fs.length) : callT 100 fs j ws = f.run 100 (tlC fs j) ws := by
  obtain ⟨hl, e⟩ := List.getElem?_eq_some_iff.mp h
  have e1 : fs = fs.take (fs.length - (j + 1)) ++ fs.drop (fs.length - (j + 1)) := (List.take_append_drop _ _).symm
  have e2 : fs.drop (fs.length - (j + 1)) = f :: fs.drop (fs.length - j) := by
    rw [List.drop_eq_getElem_cons (by omega)]
    have z : fs.length - (j + 1) = fs.length - 1 - j := by omega
    have z2 : fs.length - (j + 1) + 1 = fs.length - j := by omega
    rw [z2]
    congr 1
    simp only [z]
    exact e
  conv => lhs; rw [e1]
  rw [callT_app (by rw [List.length_drop]; omega), e2]
  show (if j = (fs.drop (fs.length - j)).length then f.run 100 (callT 100 (fs.drop (fs.length - j))) ws else _) = _
  rw [if_pos (by rw [List.length_drop]; omega)]
  rfl
@[simp] theorem sbind_ret {α β : Type} {a : α} {f : α → Comp β} : (Comp.ret a).bind f = f a := rfl
@[simp] theorem sbind_raise {α β : Type} {a : Exn} {f : α → Comp β} : (Comp.raise a).bind f = .raise a := rfl
@[simp] theorem sbind_stuck {α β : Type} {f : α → Comp β} : (Comp.stuck).bind f = .stuck := rfl
@[simp] theorem stie_ret {α β : Type} {a : α} {g : Exn → Comp β} {f : α → Comp β} : (Comp.ret a).tie g f = f a := rfl
@[simp] theorem stie_raise {α β : Type} {a : Exn} {g : Exn → Comp β} {f : α → Comp β} : (Comp.raise a).tie g f = g a := rfl
@[simp] theorem exO_ret {α : Type} {e : En} {a : α} {f : α → Comp Ou} : exO e (.ret a) f = f a := rfl
@[simp] theorem nox_ret {α : Type} {a : α} : nox (.ret a) = .ret a := rfl
@[simp] theorem sdD_ret {x : PyData} : dD (.ret (.d x)) = .ret x := rfl
@[simp] theorem sdB_ret {x : Bool} : dB (.ret (.d (.bool x))) = .ret x := rfl
@[simp] theorem sdI_ret {x : Int} : dI (.ret (.d (.int x))) = .ret x := rfl
@[simp] theorem asD_d {x : PyData} : asD (.d x) = .ret x := rfl
@[simp] theorem asB_d {x : Bool} : asB (.d (.bool x)) = .ret x := rfl
@[simp] theorem retD_ret {x : PyData} : retD (.ret x) = .ret (.d x) := rfl
@[simp] theorem retB_ret {x : Bool} : retB (.ret x) = .ret (.d (.bool x)) := rfl
@[simp] theorem endC_rt {r : FR} : endC (.rt r) = .ret r := rfl
@[simp] theorem frC_fz {w : Wd} : frC (.fz w) = .ret w := rfl
@[simp] theorem slen_list {ds : List PyData} : f1E .len (.list ds) = .ret (.int ds.length) := rfl
@[simp] theorem slen_tuple {ds : List PyData} : f1E .len (.tuple ds) = .ret (.int ds.length) := rfl
@[simp] theorem stup_list {ds : List PyData} : f1E .tuple (.list ds) = .ret (.tuple ds) := rfl
@[simp] theorem stup_tuple {ds : List PyData} : f1E .tuple (.tuple ds) = .ret (.tuple ds) := rfl
@[simp] theorem sint_int {i : Int} : f1E .int (.int i) = .ret (.int i) := rfl
@[simp] theorem sint_bool {b : Bool} : f1E .int (.bool b) = .ret (.int (if b then 1 else 0)) := rfl
@[simp] theorem sadd_int {i j : Int} : binE .add (.int i) (.int j) = .ret (.int (i + j)) := rfl
@[simp] theorem ssub_int {i j : Int} : binE .sub (.int i) (.int j) = .ret (.int (i - j)) := rfl
@[simp] theorem smul_int {i j : Int} : binE .mul (.int i) (.int j) = okB (smallI i || smallI j) (.int (i * j)) := rfl
@[simp] theorem sdiv_int {i j : Int} : binE .div (.int i) (.int j) = okB (decide (0 < j) && decide (j.natAbs.log2 < 9000)) (.int (i / j)) := rfl
@[simp] theorem smod_int {i j : Int} : binE .mod (.int i) (.int j) = okB (decide (0 < j)) (.int (i % j)) := rfl
@[simp] theorem slt_int {i j : Int} : cmpE .lt (.int i) (.int j) = .ret (decide (i < j)) := rfl
@[simp] theorem sle_int {i j : Int} : cmpE .le (.int i) (.int j) = .ret (decide (i ≤ j)) := rfl
@[simp] theorem sgt_int {i j : Int} : cmpE .gt (.int i) (.int j) = .ret (decide (j < i)) := rfl
@[simp] theorem sge_int {i j : Int} : cmpE .ge (.int i) (.int j) = .ret (decide (j ≤ i)) := rfl
@[simp] theorem scmp_eq {a b : PyData} : cmpE .eq a b = eqE a b := by cases a <;> cases b <;> rfl
@[simp] theorem scmp_ne {a b : PyData} : cmpE .ne a b = (eqE a b).bind fun b => .ret (!b) := by cases a <;> cases b <;> rfl
@[simp] theorem scmp_in {a b : PyData} : cmpE .inn a b = inE a b := by cases a <;> cases b <;> rfl
@[simp] theorem scmp_nin {a b : PyData} : cmpE .nin a b = (inE a b).bind fun b => .ret (!b) := by cases a <;> cases b <;> rfl
@[simp] theorem seq_int {i j : Int} : eqE (.int i) (.int j) = .ret (decide (i = j)) := rfl
@[simp] theorem seq_str {i j : Str} : eqE (.str i) (.str j) = .ret (decide (i = j)) := rfl
@[simp] theorem seq_bool {i j : Bool} : eqE (.bool i) (.bool j) = .ret (decide (i = j)) := rfl
@[simp] theorem smin_int {i j : Int} : f2E .min (.int i) (.int j) = .ret (.int (if j < i then j else i)) := rfl
@[simp] theorem smax_int {i j : Int} : f2E .max (.int i) (.int j) = .ret (.int (if j > i then j else i)) := rfl
section
variable {α β : Type} {c : Prop} [Decidable c]
@[simp] theorem sbind_ite {a b : Comp α} {f : α → Comp β} : (if c then a else b).bind f = if c then a.bind f else b.bind f := by split <;> rfl
@[simp] theorem sexO_ite {e : En} {a b : Comp α} {f : α → Comp Ou} : exO e (if c then a else b) f = if c then exO e a f else exO e b f := by split <;> rfl
@[simp] theorem snox_ite {a b : Comp α} : nox (if c then a else b) = if c then nox a else nox b := by split <;> rfl
@[simp] theorem sdD_ite {a b : Comp Wd} : dD (if c then a else b) = if c then dD a else dD b := by split <;> rfl
@[simp] theorem sdB_ite {a b : Comp Wd} : dB (if c then a else b) = if c then dB a else dB b := by split <;> rfl
@[simp] theorem sdI_ite {a b : Comp Wd} : dI (if c then a else b) = if c then dI a else dI b := by split <;> rfl
@[simp] theorem sretD_ite {a b : CP} : retD (if c then a else b) = if c then retD a else retD b := by split <;> rfl
@[simp] theorem sretB_ite {a b : Comp Bool} : retB (if c then a else b) = if c then retB a else retB b := by split <;> rfl
end
end TC

set_option Elab.async false
set_option linter.all false
set_option maxRecDepth 100000
set_option maxHeartbeats 4000000
namespace TC
open PySem
/-! ### how long a repr can be -/
def plS (x : Str) : Bool := x.cps.toList.all fun c => decide (c < 65536)
mutual
def szD : PyData → Nat
  | .none => 4
  | .bool _ => 5
  | .int _ => 1921
  | .str x => if plS x then 10 * x.length + 2 else 100000000
  | .list xs => szL xs + 3
  | .tuple xs => szL xs + 3
  | .dict _ => 100000000
def szL : List PyData → Nat
  | [] => 0
  | x :: xs => szD x + 2 + szL xs
end
theorem tupText_le (ts : List Str) : (tupleText ts).length ≤ piled ts + 3 := by
  unfold tupleText
  rw [strLen_append, strLen_append]
  have e1 : (("(" : String) : Str).length = 1 := rfl
  have e3 : (((if ts.length == 1 then ",)" else ")" : String) : Str)).length ≤ 2 := by split <;> decide
  by_cases h : ts = []
  · subst h
    have e2 : (Str.join ", " []).length = 0 := rfl
    rw [e1, e2]
    omega
  · have := join_length_add ts h
    omega
theorem lstText_le (ts : List Str) : (listText ts).length ≤ piled ts + 3 := by
  unfold listText
  rw [strLen_append]
  have e3 : (("]" : String) : Str).length = 1 := rfl
  have e1 : (("[" : String) : Str).length = 1 := rfl
  have e0 : (("" : String) : Str).length = 0 := rfl
  cases ts with
  | nil =>
    show (("[" : String) : Str).length + _ ≤ _
    omega
  | cons t r =>
    show (textFrom (0 + 1) (("[" : String) ++ (("" : String) : Str) ++ t) r).length + _ ≤ _
    rw [textFrom_length_pos r (0 + 1) _ (by decide), strLen_append, strLen_append, piled_cons]
    omega
mutual
theorem shown_le : ∀ d : PyData, d.showable = true → d.hasDict = false → d.shown.length ≤ szD d ∨ 100000000 ≤ szD d
  | .none, _, _ => .inl (by decide)
  | .bool b, _, _ => .inl (by cases b <;> decide)
  | .int i, h, _ => .inl (by
    have h : decide (i.natAbs.log2 < 1920) = true := by simpa [PyData.showable] using h
    simp only [PyData.shown, szD]
    rw [PySem.ofString_length]
    exact PySem.int_text_length_le (by decide) (of_decide_eq_true h))
  | .str x, _, _ => by
    unfold szD
    by_cases c : plS x = true
    · rw [if_pos c]
      refine .inl (StrLaws.reprText_len x fun d hd => ?_)
      have z := of_decide_eq_true (List.all_eq_true.mp c d hd)
      omega
    · rw [if_neg c]
      exact .inr (Nat.le_refl _)
  | .list xs, h, h2 => by
    rcases shownAll_le xs (by simpa [PyData.showable] using h) (by simpa [PyData.hasDict] using h2) with z | z
    · have e := lstText_le (PyData.shownAll xs)
      refine .inl ?_
      simp only [PyData.shown, szD]
      omega
    · refine .inr ?_
      simp only [szD]
      omega
  | .tuple xs, h, h2 => by
    rcases shownAll_le xs (by simpa [PyData.showable] using h) (by simpa [PyData.hasDict] using h2) with z | z
    · have e := tupText_le (PyData.shownAll xs)
      refine .inl ?_
      simp only [PyData.shown, szD]
      omega
    · refine .inr ?_
      simp only [szD]
      omega
  | .dict _, _, h => by simp [PyData.hasDict] at h
theorem shownAll_le : ∀ xs : List PyData, PyData.showableAll xs = true → PyData.hasDictAll xs = false → piled (PyData.shownAll xs) ≤ szL xs ∨ 100000000 ≤ szL xs
  | [], _, _ => .inl (Nat.le_refl _)
  | x :: xs, h, h2 => by
    simp only [PyData.showableAll, Bool.and_eq_true] at h
    simp only [PyData.hasDictAll, Bool.or_eq_false_iff] at h2
    simp only [PyData.shownAll, szL, piled_cons]
    rcases shown_le x h.1 h2.1 with z | z
    · rcases shownAll_le xs h.2 h2.2 with z2 | z2
      · exact .inl (by omega)
      · exact .inr (by omega)
    · exact .inr (by omega)
end
/-- what repr asks of data -/
def repOk (d : PyData) : Bool := d.showable && !d.hasDict && decide (d.depth ≤ 60) && decide (szD d ≤ 10000000)
theorem f1_repr {d : PyData} (h : repOk d = true) : f1E .repr d = .ret (.str d.shown) := by
  unfold repOk at h
  have h1 := and2 h
  have h2 := and2 h1.1
  have h3 := and2 h2.1
  have hd : d.hasDict = false := by simpa using h3.2
  have z : d.shown.length ≤ 10000000 := by
    have := of_decide_eq_true h1.2
    rcases shown_le d h3.1 hd with z | z <;> omega
  show okB (d.showable && !d.hasDict && decide (d.depth ≤ 60) && decide (d.shown.length ≤ 10000000)) (.str d.shown) = _
  rw [h2.1, h2.2, decide_eq_true z]
  rfl
theorem mapC_some {α : Type} {f : α → Comp (Option PyData)} {g : α → PyData} : ∀ {l : List α}, (∀ a ∈ l, f a = .ret (some (g a))) → mapC f l = .ret (l.map g)
  | [], _ => rfl
  | a :: as, h => by
    show (f a).bind _ = _
    rw [h a (List.mem_cons_self ..)]
    show (mapC f as).bind _ = _
    rw [mapC_some fun b hb => h b (List.mem_cons_of_mem _ hb)]
    rfl
theorem mapC_map {α : Type} {h : α → PyData} {f : PyData → Comp (Option PyData)} {g : α → PyData} {l : List α} (z : ∀ a ∈ l, f (h a) = .ret (some (g a))) : mapC f (l.map h) = .ret (l.map g) := by
  induction l with
  | nil => rfl
  | cons a as ih =>
    show (f (h a)).bind _ = _
    rw [z a (List.mem_cons_self ..)]
    show (mapC f (as.map h)).bind _ = _
    rw [ih fun b hb => z b (List.mem_cons_of_mem _ hb)]
    rfl
theorem strs_map {α : Type} {g : α → Str} : ∀ {l : List α}, strsP (l.map fun a => .str (g a)) = some (l.map g)
  | [] => rfl
  | a :: as => by
    show (strsP (as.map fun a => .str (g a))).map _ = _
    rw [strs_map]
    rfl
theorem bools_map {α : Type} {g : α → Bool} : ∀ {l : List α}, boolsP (l.map fun a => .bool (g a)) = some (l.map g)
  | [] => rfl
  | a :: as => by
    show (boolsP (as.map fun a => .bool (g a))).map _ = _
    rw [bools_map]
    rfl
/-! ### split behind join -/
theorem split_join {c : Nat} (hc : c < 256) {ws : List Str} (hne : ws ≠ []) (h : ∀ w ∈ ws, c ∉ w.cps.toList) : Txt.split (Txt.join ⟨#[c]⟩ ws) ⟨#[c]⟩ = ws := by
  have e : ws = (ws.map TL.tl).map SX.S := by
    rw [List.map_map]
    have : (SX.S ∘ TL.tl) = id := by
      funext x
      exact TL.mk_tl x
    rw [this, List.map_id]
  have hs : (⟨#[c]⟩ : Str) = SX.S [c] := rfl
  rw [hs]
  conv => lhs; rw [e]
  rw [SX.join_S, SX.split_S (by simp) (by simp [hc]), SX.spl_join (by simpa using hne) (fun p hp => ?_)]
  · exact e.symm
  · obtain ⟨w, hw, rfl⟩ := List.mem_map.mp hp
    exact h w hw
theorem mem_join {c d : Nat} : ∀ {ws : List Str}, d ∈ (Txt.join ⟨#[c]⟩ ws).cps.toList → d = c ∨ ∃ w ∈ ws, d ∈ w.cps.toList := by
  intro ws h0
  have key : ∀ ws : List Str, d ∈ (Str.join ⟨#[c]⟩ ws).cps.toList → d = c ∨ ∃ w ∈ ws, d ∈ w.cps.toList := by
   intro ws h
   induction ws with
   | nil => cases h
   | cons x xs ih =>
     cases xs with
     | nil => exact .inr ⟨x, List.mem_cons_self .., h⟩
     | cons y r =>
       have h : d ∈ (x ++ (⟨#[c]⟩ : Str) ++ Str.join ⟨#[c]⟩ (y :: r)).cps.toList := h
       simp only [Str.cps_append, Array.toList_append, List.mem_append] at h
       rcases h with (h | h) | h
       · exact .inr ⟨x, List.mem_cons_self .., h⟩
       · exact .inl (by simpa using h)
       · rcases ih h with z | ⟨w, hw, z⟩
         · exact .inl z
         · exact .inr ⟨w, List.mem_cons_of_mem _ hw, z⟩
  exact key ws (by rw [← StrLaws.glued_eq_join]; exact h0)
theorem join_len_le {sep : Str} {ws : List Str} : (Txt.join sep ws).length ≤ (ws.map (·.length)).sum + ws.length * sep.length := by
  show (Builtin.Str.glued sep ws).length ≤ _
  rw [StrLaws.glued_eq_join]
  exact StrLaws.join_length_le sep ws
theorem join_two {sep a b : Str} : a ++ sep ++ b = Txt.join sep [a, b] := by
  show _ = Builtin.Str.glued sep [a, b]
  rw [StrLaws.glued_eq_join]
  rfl
theorem join_one {sep a : Str} : Txt.join sep [a] = a := by
  show Builtin.Str.glued sep [a] = _
  rw [StrLaws.glued_eq_join]
  rfl
theorem splitE_ok {a b : Str} (h : b.length ≠ 0) (h2 : a.length ≤ LIM) : splitE a (.str b) = .ret ((Txt.split a b).map .str) := by
  show (if (b.length != 0 && decide (a.length ≤ LIM)) = true then _ else _) = _
  rw [decide_eq_true h2, show (b.length != 0) = true by simpa using h]
  rfl
theorem limL_ok {ds : List PyData} (h : ds.length ≤ LIM) : limL ds = .ret ds := if_pos h
end TC

set_option Elab.async false
set_option linter.all false
set_option maxRecDepth 100000
set_option maxHeartbeats 4000000
namespace TC
open PySem
/-! ### all ways end well, with at most b draws -/
def Comp.okZ {α : Type} : Comp α → Nat → (α → Prop) → (Exn → Prop) → Prop
  | .ret a, _, P, _ => P a
  | .raise x, _, _, E => E x
  | .draw n k, b, P, E => ∃ c, b = c + 1 ∧ 0 < n ∧ n < 1073741824 ∧ ∀ r, 0 ≤ r → r < n → (k r).okZ c P E
  | .stuck, _, _, _ => False
namespace Comp
variable {α β : Type}
theorem okZ_mono : ∀ {c : Comp α} {b b' : Nat} {P P' : α → Prop} {E E' : Exn → Prop}, c.okZ b P E → b ≤ b' → (∀ a, P a → P' a) → (∀ x, E x → E' x) → c.okZ b' P' E'
  | .ret _, _, _, _, _, _, _, h, _, m, _ => m _ h
  | .raise _, _, _, _, _, _, _, h, _, _, m => m _ h
  | .stuck, _, _, _, _, _, _, h, _, _, _ => h
  | .draw n k, b, b', _, _, _, _, h, hb, m, m2 => by
    obtain ⟨c, e, h1, h2, h3⟩ := h
    exact ⟨b' - 1, by omega, h1, h2, fun r r0 r1 => okZ_mono (h3 r r0 r1) (by omega) m m2⟩
theorem okZ_wp : ∀ {c : Comp α} {b : Nat} {P : α → Prop} {E : Exn → Prop}, c.okZ b P E → c.wp b (fun _ a => P a) (fun _ x => E x)
  | .ret _, _, _, _, h => h
  | .raise _, _, _, _, h => h
  | .stuck, _, _, _, h => h
  | .draw n k, _, _, _, h => by
    obtain ⟨c, e, h1, h2, h3⟩ := h
    exact ⟨c, e, h1, h2, fun r r0 r1 => okZ_wp (h3 r r0 r1)⟩
theorem okZ_tie : ∀ {c : Comp α} {g : Exn → Comp β} {f : α → Comp β} {b b2 : Nat} {P : α → Prop} {X : Exn → Prop} {Q : β → Prop} {E : Exn → Prop}, c.okZ b P X → (∀ a, P a → (f a).okZ b2 Q E) → (∀ x, X x → (g x).okZ b2 Q E) → (c.tie g f).okZ (b + b2) Q E
  | .ret a, _, _, b, b2, _, _, _, _, h, m, _ => okZ_mono (m a h) (by omega) (fun _ z => z) fun _ z => z
  | .raise a, _, _, b, b2, _, _, _, _, h, _, m => okZ_mono (m a h) (by omega) (fun _ z => z) fun _ z => z
  | .stuck, _, _, _, _, _, _, _, _, h, _, _ => h
  | .draw n k, g, f, b, b2, _, _, _, _, h, m, m2 => by
    obtain ⟨c, e, h1, h2, h3⟩ := h
    exact ⟨c + b2, by omega, h1, h2, fun r r0 r1 => okZ_tie (h3 r r0 r1) m m2⟩
theorem okZ_bind : ∀ {c : Comp α} {f : α → Comp β} {b b2 : Nat} {P : α → Prop} {Q : β → Prop} {E : Exn → Prop}, c.okZ b P E → (∀ a, P a → (f a).okZ b2 Q E) → (c.bind f).okZ (b + b2) Q E
  | .ret a, _, b, b2, _, _, _, h, m => okZ_mono (m a h) (by omega) (fun _ z => z) fun _ z => z
  | .raise a, _, b, b2, _, _, _, h, m => h
  | .stuck, _, _, _, _, _, _, h, _ => h
  | .draw n k, f, b, b2, _, _, _, h, m => by
    obtain ⟨c, e, h1, h2, h3⟩ := h
    exact ⟨c + b2, by omega, h1, h2, fun r r0 r1 => okZ_bind (h3 r r0 r1) m⟩
theorem okZ_draw {n : Int} {k : Int → Comp α} {b : Nat} {P : α → Prop} {E : Exn → Prop} (h1 : 0 < n) (h2 : n < 1073741824) (h : ∀ r, 0 ≤ r → r < n → (k r).okZ b P E) : (Comp.draw n k).okZ (b + 1) P E := ⟨b, rfl, h1, h2, h⟩
end Comp
@[irreducible] def Comp.okW {α : Type} (c : Comp α) (b : Nat) (P : α → Prop) (E : Exn → Prop) : Prop := c.okZ b P E
namespace Comp
variable {α β : Type}
theorem okW_def {c : Comp α} {b : Nat} {P : α → Prop} {E : Exn → Prop} : c.okW b P E = c.okZ b P E := by unfold okW; rfl
theorem okW_mono {c : Comp α} {b b' : Nat} {P P' : α → Prop} {E E' : Exn → Prop} (h : c.okW b P E) (hb : b ≤ b') (m : ∀ a, P a → P' a) (m2 : ∀ x, E x → E' x) : c.okW b' P' E' := by
  rw [okW_def] at *
  exact okZ_mono h hb m m2
theorem okW_wp {c : Comp α} {b : Nat} {P : α → Prop} {E : Exn → Prop} (h : c.okW b P E) : c.wp b (fun _ a => P a) (fun _ x => E x) := by
  rw [okW_def] at h
  exact okZ_wp h
theorem okW_tie {c : Comp α} {g : Exn → Comp β} {f : α → Comp β} {b b2 : Nat} {P : α → Prop} {X : Exn → Prop} {Q : β → Prop} {E : Exn → Prop} (h : c.okW b P X) (m : ∀ a, P a → (f a).okW b2 Q E) (m2 : ∀ x, X x → (g x).okW b2 Q E) : (c.tie g f).okW (b + b2) Q E := by
  simp only [okW_def] at *
  exact okZ_tie h m m2
theorem okW_bind {c : Comp α} {f : α → Comp β} {b b2 : Nat} {P : α → Prop} {Q : β → Prop} {E : Exn → Prop} (h : c.okW b P E) (m : ∀ a, P a → (f a).okW b2 Q E) : (c.bind f).okW (b + b2) Q E := by
  simp only [okW_def] at *
  exact okZ_bind h m
theorem okW_draw {n : Int} {k : Int → Comp α} {b : Nat} {P : α → Prop} {E : Exn → Prop} (h1 : 0 < n) (h2 : n < 1073741824) (h : ∀ r, 0 ≤ r → r < n → (k r).okW b P E) : (Comp.draw n k).okW (b + 1) P E := by
  simp only [okW_def] at *
  exact okZ_draw h1 h2 h
theorem okW_ret {a : α} {b : Nat} {P : α → Prop} {E : Exn → Prop} (h : P a) : (Comp.ret a).okW b P E := by
  rw [okW_def]
  exact h
theorem okW_raise {x : Exn} {b : Nat} {P : α → Prop} {E : Exn → Prop} (h : E x) : (Comp.raise x : Comp α).okW b P E := by
  rw [okW_def]
  exact h
theorem okW_ite {c : Prop} [Decidable c] {a d : Comp α} {b : Nat} {P : α → Prop} {E : Exn → Prop} (h1 : c → a.okW b P E) (h2 : ¬c → d.okW b P E) : (if c then a else d).okW b P E := by
  by_cases z : c
  · rw [if_pos z]
    exact h1 z
  · rw [if_neg z]
    exact h2 z
end Comp
def nEx : Exn → Prop := fun _ => False
theorem okW_nox {α : Type} {c : Comp α} {b : Nat} {P : α → Prop} {E : Exn → Prop} (h : c.okW b P nEx) : (nox c).okW b P E := by
  have z := Comp.okW_tie (b2 := 0) (g := fun _ => .stuck) (f := .ret) h (Q := P) (E := E) (fun _ q => Comp.okW_ret q) (fun _ z => z.elim)
  exact z
@[simp] theorem sbind_draw {α β : Type} {n : Int} {k : Int → Comp α} {f : α → Comp β} : (Comp.draw n k).bind f = .draw n fun r => (k r).bind f := rfl
@[simp] theorem stie_draw {α β : Type} {n : Int} {k : Int → Comp α} {g : Exn → Comp β} {f : α → Comp β} : (Comp.draw n k).tie g f = .draw n fun r => (k r).tie g f := rfl
@[simp] theorem sexO_draw {α : Type} {n : Int} {k : Int → Comp α} {e : En} {f : α → Comp Ou} : exO e (.draw n k) f = .draw n fun r => exO e (k r) f := rfl
@[simp] theorem snox_draw {α : Type} {n : Int} {k : Int → Comp α} : nox (.draw n k) = .draw n fun r => nox (k r) := rfl
@[simp] theorem sdD_draw {n : Int} {k : Int → Comp Wd} : dD (.draw n k) = .draw n fun r => dD (k r) := rfl
@[simp] theorem sdB_draw {n : Int} {k : Int → Comp Wd} : dB (.draw n k) = .draw n fun r => dB (k r) := rfl
@[simp] theorem sdI_draw {n : Int} {k : Int → Comp Wd} : dI (.draw n k) = .draw n fun r => dI (k r) := rfl
@[simp] theorem sretD_draw {n : Int} {k : Int → CP} : retD (.draw n k) = .draw n fun r => retD (k r) := rfl
@[simp] theorem sretB_draw {n : Int} {k : Int → Comp Bool} : retB (.draw n k) = .draw n fun r => retB (k r) := rfl
@[simp] theorem sdrwE {k : Int} : drwE .rng (.int k) = .draw k fun r => .ret (.d (.int r)) := rfl
@[simp] theorem slnsE {k : Nat} : lnsE (.scr k) = .ret (.d (.int k)) := rfl
/-- a loop whose turns keep P -/
theorem okW_for {f : PyData → En → Comp Ou} {P : En → Prop} {c : Nat} : ∀ {ds : List PyData} {e : En} {Q : Ou → Prop} (turn : ∀ d ∈ ds, ∀ e, P e → (f d e).okW c (fun o => ∃ e', (o = .nx e' ∨ o = .ct e') ∧ P e') nEx) (fin : ∀ e, P e → Q (.nx e)), P e → (forC f ds e).okW (c * ds.length) Q nEx
  | [], e, Q, _, fin, h => Comp.okW_ret (fin e h)
  | d :: ds, e, Q, turn, fin, h => by
    have z := Comp.okW_bind (b2 := c * ds.length) (Q := Q) (turn d (List.mem_cons_self ..) e h) (f := fun o => match o with
      | .nx e2 => forC f ds e2
      | .ct e2 => forC f ds e2
      | .br e2 => .ret (.nx e2)
      | .rt r => .ret (.rt r)
      | .ex x e2 => .ret (.ex x e2)) (fun o ⟨e', ho, he⟩ => by
        rcases ho with rfl | rfl
        · exact okW_for (fun d hd => turn d (List.mem_cons_of_mem _ hd)) fin he
        · exact okW_for (fun d hd => turn d (List.mem_cons_of_mem _ hd)) fin he)
    have e1 : c + c * ds.length = c * (d :: ds).length := by
      rw [List.length_cons, Nat.mul_succ]
      omega
    rw [e1] at z
    exact z
def isT0 : FR → Prop := fun r => r = .fz (.d (.bool true))
theorem law_of {fs : List Fd} {lw : Fd} {n b : Nat} (h : (lawC 100 fs lw n).okW b isT0 nEx) : (lawC 100 fs lw n).wp b isT noE := Comp.wp_mono (Comp.okW_wp h) (fun _ _ z => z) fun _ _ z => z
theorem lawC_ok {fs : List Fd} {lw : Fd} {n b : Nat} (h : (lw.body.ev (callT 100 fs) 100 ((startE lw.N.length [.scr n]).set 1 (.fz .rng))).okW b (fun o => o = .rt (.fz (.d (.bool true)))) nEx) : (lawC 100 fs lw n).okW b isT0 nEx := by
  have z := Comp.okW_bind (b2 := 0) (Q := isT0) (E := nEx) (f := endC) (okW_nox (E := nEx) h) (fun o ho => by
    subst ho
    exact Comp.okW_ret rfl)
  exact z
theorem ev_fgt {cl : Nat → List Wd → Comp FR} {wf : Nat} {is : List Nat} {ss : Sms} {e : En} : (Sms.fgt is ss).ev cl wf e = ss.ev cl wf (wipeE e is) := by rw [Sms.ev]
theorem ev_forr {cl : Nat → List Wd → Comp FR} {wf : Nat} {t : Tt} {it : Ei} {b : Sms} {p : Pos} {e : En} : (Sm.forr t it b p).ev cl wf e = exO e (it.ev cl e) fun ds => forC (fun d e1 => (bindT t d e1).bind fun e2 => b.ev cl wf e2) ds e := by rw [Sm.ev]
theorem ev_cons {cl : Nat → List Wd → Comp FR} {wf : Nat} {s : Sm} {ss : Sms} {e : En} : (Sms.cons s ss).ev cl wf e = (s.ev cl wf e).bind (goOn (ss.ev cl wf)) := by
  rw [Sms.ev]
  congr 1
theorem ev_nil {cl : Nat → List Wd → Comp FR} {wf : Nat} {e : En} : Sms.nil.ev cl wf e = .ret (.nx e) := by rw [Sms.ev]
theorem goOn_nx {f : En → Comp Ou} {e : En} : goOn f (.nx e) = f e := rfl
theorem goOn_rt {f : En → Comp Ou} {r : FR} : goOn f (.rt r) = .ret (.rt r) := rfl
/-- statements one after the other -/
theorem okW_cons {cl : Nat → List Wd → Comp FR} {wf : Nat} {s : Sm} {ss : Sms} {e : En} {b b2 : Nat} {P : Ou → Prop} {Q : Ou → Prop} (h : (s.ev cl wf e).okW b P nEx) (m : ∀ o, P o → (goOn (ss.ev cl wf) o).okW b2 Q nEx) : ((Sms.cons s ss).ev cl wf e).okW (b + b2) Q nEx :=
  ev_cons ▸ Comp.okW_bind h m
theorem okW_exO {α : Type} {c : Comp α} {f : α → Comp Ou} {e : En} {b b2 : Nat} {P : α → Prop} {Q : Ou → Prop} (h : c.okW b P nEx) (m : ∀ a, P a → (f a).okW b2 Q nEx) : (exO e c f).okW (b + b2) Q nEx :=
  Comp.okW_tie h m fun _ z => z.elim
theorem rngP_len {a b : Int} : (rngP a b).length = (b - a).toNat := by simp [rngP]
theorem bigI_ok {i : Int} (h1 : -1000000 ≤ i) (h2 : i ≤ 1000000) : bigI i = true := by
  unfold bigI
  rw [decide_eq_true (by omega), decide_eq_true (by omega)]
  rfl
/-- range(a + min(len(script), b)) -/
theorem rg_len {cl : Nat → List Wd → Comp FR} {n : Nat} (h : n ≤ 63) {a b : Int} (ha : 0 ≤ a) (ha2 : a ≤ 1000) (hb : 0 ≤ b) (hb2 : b ≤ 1000) {e : En} (he : e[0]? = some (.fz (.scr n))) {k1 k2 : Nat} {x : Str} {p1 p2 p3 p4 p5 p6 p7 p8 p9 p10 : Pos} :
    ∃ m : Int, 0 ≤ m ∧ m ≤ b ∧ (Ei.rg1 p1 (.bin .add (.int a k1 p2) (.f2 .min p3 (.lns 0 x p4 p5 p6) (.int b k2 p7) p8) p9) p10).ev cl e = .ret (rngP 0 (a + m)) := by
  refine ⟨if b < n then b else n, ?_, ?_, ?_⟩
  · split <;> omega
  · split <;> omega
  · have hv : varE e 0 = .ret (.scr n) := by
      unfold varE
      rw [he]
    have z : bigI (a + if b < (n : Int) then b else n) = true := bigI_ok (by split <;> omega) (by split <;> omega)
    simp only [Ei.ev, Ee.ev, hv, sbind_ret, slnsE, sdD_ret, smin_int, retD_ret, sadd_int, sdI_ret, z, if_true]
theorem eqv_ints : ∀ (xs ys : List Int), PyData.eqvAll (xs.map .int) (ys.map .int) = decide (xs = ys)
  | [], [] => by simp [PyData.eqvAll]
  | [], y :: ys => by simp [PyData.eqvAll]
  | x :: xs, [] => by simp [PyData.eqvAll]
  | x :: xs, y :: ys => by
    have ih := eqv_ints xs ys
    simp only [List.map_cons, PyData.eqvAll, ih, PyData.eqv, List.cons.injEq, Bool.decide_and]
    congr 1
end TC

set_option Elab.async false
set_option linter.all false
set_option maxRecDepth 100000
set_option maxHeartbeats 4000000
namespace TC
open PySem
/-! ### laws whose draws are few: by computation -/
theorem allN_okW {P : En → Bool} : ∀ {b : Nat} {c : Comp Ou}, c.allN P b = true → c.okW b (fun o => ∃ e', (o = .nx e' ∨ o = .ct e') ∧ P e' = true) nEx
  | b, .ret (.nx e), h => Comp.okW_ret ⟨e, .inl rfl, by cases b <;> exact h⟩
  | b, .ret (.ct e), h => Comp.okW_ret ⟨e, .inr rfl, by cases b <;> exact h⟩
  | b + 1, .draw n k, h => by
    unfold Comp.allN at h
    have h1 := and2 h
    have h2 := and2 h1.1
    refine Comp.okW_draw (of_decide_eq_true h2.1) (of_decide_eq_true h2.2) fun r r0 rn => ?_
    have z := List.all_eq_true.mp h1.2 r.toNat (List.mem_range.mpr (by omega))
    have e : ((r.toNat : Nat) : Int) = r := by omega
    rw [e] at z
    exact allN_okW z
  | 0, .draw n k, h => by cases h
  | b, .raise x, h => by cases b <;> cases h
  | b, .stuck, h => by cases b <;> cases h
  | b, .ret (.br e), h => by cases b <;> cases h
  | b, .ret (.rt r), h => by cases b <;> cases h
  | b, .ret (.ex x e), h => by cases b <;> cases h
/-- a function's answer is True -/
def trueC (c : Comp FR) : Bool := match c with
  | .ret (.fz (.d (.bool true))) => true
  | _ => false
theorem trueC_eq {c : Comp FR} (h : trueC c = true) : c = .ret (.fz (.d (.bool true))) := by
  unfold trueC at h
  split at h
  · rfl
  · cases h
/-- a block's end is: return True -/
def trueO (c : Comp Ou) : Bool := match c with
  | .ret (.rt (.fz (.d (.bool true)))) => true
  | _ => false
theorem trueO_eq {c : Comp Ou} (h : trueO c = true) : c = .ret (.rt (.fz (.d (.bool true)))) := by
  unfold trueO at h
  split at h
  · rfl
  · cases h
/-- the drawing object stands where it is to stand -/
def rngE (n : Nat) (e : En) : Bool := slR e 1 && (e.length == n)
theorem rngE_of {n : Nat} {e : En} (h : rngE n e = true) : e.length = n ∧ e[1]? = some (.fz .rng) := by
  unfold rngE slR at h
  have h2 := and2 h
  refine ⟨by simpa using h2.2, ?_⟩
  have z := h2.1
  split at z
  · assumption
  · cases z
end TC

set_option Elab.async false
set_option linter.all false
set_option maxRecDepth 100000
set_option maxHeartbeats 4000000
namespace TC
open PySem
/-- a loop whose turns keep P, counted from i on -/
theorem okW_fori {f : PyData → En → Comp Ou} {P : Nat → En → Prop} {c : Nat} : ∀ {ds : List PyData} {i : Nat} {e : En} {Q : Ou → Prop} (turn : ∀ (j : Nat) (d : PyData), ds[j]? = some d → ∀ e, P (i + j) e → (f d e).okW c (fun o => ∃ e', (o = .nx e' ∨ o = .ct e') ∧ P (i + j + 1) e') nEx) (fin : ∀ e, P (i + ds.length) e → Q (.nx e)), P i e → (forC f ds e).okW (c * ds.length) Q nEx
  | [], i, e, Q, _, fin, h => Comp.okW_ret (fin e h)
  | d :: ds, i, e, Q, turn, fin, h => by
    have z := Comp.okW_bind (b2 := c * ds.length) (Q := Q) (turn 0 d rfl e h) (f := fun o => match o with
      | .nx e2 => forC f ds e2
      | .ct e2 => forC f ds e2
      | .br e2 => .ret (.nx e2)
      | .rt r => .ret (.rt r)
      | .ex x e2 => .ret (.ex x e2)) (fun o ⟨e', ho, he⟩ => by
        have w : (forC f ds e').okW (c * ds.length) Q nEx := by
          refine okW_fori (P := P) (i := i + 1) (fun j d2 hj e2 h2 => ?_) (fun e2 h2 => fin e2 ?_) he
          · have y := turn (j + 1) d2 hj e2 (by rw [show i + (j + 1) = i + 1 + j by omega]; exact h2)
            rw [show i + (j + 1) + 1 = i + 1 + j + 1 by omega] at y
            exact y
          · rw [show i + (d :: ds).length = i + 1 + ds.length by rw [List.length_cons]; omega]
            exact h2
        rcases ho with rfl | rfl
        · exact w
        · exact w)
    have e1 : c + c * ds.length = c * (d :: ds).length := by
      rw [List.length_cons, Nat.mul_succ]
      omega
    rw [e1] at z
    exact z
theorem okW_for0 {f : PyData → En → Comp Ou} {P : Nat → En → Prop} {ds : List PyData} {e : En} {Q : Ou → Prop} (turn : ∀ (j : Nat) (d : PyData), ds[j]? = some d → ∀ e, P j e → (f d e).okW 0 (fun o => ∃ e', (o = .nx e' ∨ o = .ct e') ∧ P (j + 1) e') nEx) (fin : ∀ e, P ds.length e → Q (.nx e)) (h : P 0 e) : (forC f ds e).okW 0 Q nEx := by
  have z := okW_fori (i := 0) (c := 0) (P := P) (f := f) (ds := ds) (Q := Q) (fun j d hj e he => by
    rw [Nat.zero_add] at he ⊢
    exact turn j d hj e he) (fun e he => fin e (by rw [Nat.zero_add] at he; exact he)) h
  rw [Nat.zero_mul] at z
  exact z
theorem rngP_at {a b : Int} {j : Nat} {d : PyData} (h : (rngP a b)[j]? = some d) : d = .int (a + j) ∧ a + j < b := by
  unfold rngP at h
  rw [List.getElem?_map, Option.map_eq_some_iff] at h
  obtain ⟨x, h1, rfl⟩ := h
  obtain ⟨hl, h2⟩ := List.getElem?_eq_some_iff.mp h1
  rw [List.length_range] at hl
  rw [List.getElem_range] at h2
  subst h2
  exact ⟨rfl, by omega⟩
/-- a while that ends: P counts down -/
theorem okW_whl {c : En → Comp Bool} {f : En → Comp Ou} {P : Nat → En → Prop} {Q : Ou → Prop} : ∀ {n k : Nat} {e : En}, k < n → P k e →
    (∀ k e, P k e → (c e).okW 0 (fun b => if b then ∃ m, k = m + 1 ∧ (f e).okW 0 (fun o => ∃ e', (o = .nx e' ∨ o = .ct e') ∧ P m e') nEx else Q (.nx e)) nEx) → (whlC c f n e).okW 0 Q nEx
  | 0, _, _, h, _, _ => by omega
  | n + 1, k, e, h, hp, turn => by
    refine okW_exO (b := 0) (b2 := 0) (turn k e hp) fun b hb => ?_
    cases b with
    | false => exact Comp.okW_ret hb
    | true =>
      obtain ⟨m, rfl, hf⟩ := hb
      refine Comp.okW_bind (b := 0) (b2 := 0) hf ?_
      rintro o ⟨e', rfl | rfl, he⟩
      · exact okW_whl (by omega) he turn
      · exact okW_whl (by omega) he turn
/-- a comprehension's turns -/
theorem okW_map {α : Type} {f : α → Comp (Option PyData)} {P : PyData → Prop} {c : Nat} : ∀ {l : List α}, (∀ a ∈ l, (f a).okW c (fun o => ∀ y, o = some y → P y) nEx) → (mapC f l).okW (c * l.length) (fun ys => (∀ y ∈ ys, P y) ∧ ys.length ≤ l.length) nEx
  | [], _ => Comp.okW_ret ⟨fun _ h => (List.not_mem_nil h).elim, Nat.le_refl _⟩
  | a :: l, h => by
    have e1 : c * (a :: l).length = c + (c * l.length + 0) := by
      rw [List.length_cons, Nat.mul_succ]
      omega
    rw [e1]
    refine Comp.okW_bind (h a (List.mem_cons_self ..)) fun r hr => Comp.okW_bind (okW_map fun a ha => h a (List.mem_cons_of_mem _ ha)) fun rs ⟨h1, h2⟩ => Comp.okW_ret ?_
    cases r with
    | none => exact ⟨h1, Nat.le_succ_of_le h2⟩
    | some y =>
      refine ⟨fun z hz => ?_, Nat.succ_le_succ h2⟩
      rcases List.mem_cons.mp hz with rfl | hz
      · exact hr _ rfl
      · exact h1 z hz
theorem okW_map0 {α : Type} {f : α → Comp (Option PyData)} {P : PyData → Prop} {l : List α} (h : ∀ a ∈ l, (f a).okW 0 (fun o => ∀ y, o = some y → P y) nEx) : (mapC f l).okW 0 (fun ys => (∀ y ∈ ys, P y) ∧ ys.length ≤ l.length) nEx := by
  have z := okW_map h
  rw [Nat.zero_mul] at z
  exact z
/-- a call's body -/
theorem okW_run {f : Fd} {wf : Nat} {cl : Nat → List Wd → Comp FR} {ws : List Wd} {b : Nat} {P : FR → Prop} {E : Exn → Prop} (hw : ws.length = f.np) (h : (f.body.ev cl wf (startE f.N.length ws)).okW b (fun o => (endC o).okW 0 P E) nEx) : (f.run wf cl ws).okW b P E := by
  unfold Fd.run
  rw [if_pos hw]
  exact Comp.okW_bind (b2 := 0) (okW_nox h) fun o ho => ho
/-! ### lists of numbers -/
def iL (is : List Int) : List PyData := is.map .int
theorem iL_lay : ∀ is : List Int, PyData.canLayAll0 (iL is) = true
  | [] => rfl
  | i :: is => by
    have z := iL_lay is
    simp only [iL, List.map_cons, PyData.canLayAll0, PyData.canLay0, Bool.true_and] at *
    exact z
theorem iL_dep : ∀ is : List Int, PyData.depthAll (iL is) ≤ 1
  | [] => by simp [iL, PyData.depthAll]
  | i :: is => by
    have z := iL_dep is
    simp only [iL, List.map_cons, PyData.depthAll, PyData.depth] at *
    omega
theorem iL_shp (is : List Int) : SeqAt.shaped (.list (iL is)) = true := by
  have h := iL_lay is
  have h2 := iL_dep is
  have h3 : PyData.depth (.list (iL is)) ≤ 64 := by
    simp only [PyData.depth]
    omega
  have h4 : PyData.canLay0 (.list (iL is)) = true := by
    simp only [PyData.canLay0, h]
  exact Bool.and_eq_true_iff.mpr ⟨h4, decide_eq_true h3⟩
theorem iL_shpT (is : List Int) : SeqAt.shaped (.tuple (iL is)) = true := by
  have h := iL_lay is
  have h2 := iL_dep is
  have h3 : PyData.depth (.tuple (iL is)) ≤ 64 := by
    simp only [PyData.depth]
    omega
  have h4 : PyData.canLay0 (.tuple (iL is)) = true := by
    simp only [PyData.canLay0, h]
  exact Bool.and_eq_true_iff.mpr ⟨h4, decide_eq_true h3⟩
theorem eqE_l {is js : List Int} : eqE (.list (iL is)) (.list (iL js)) = .ret (decide (is = js)) := by
  have e : eqE (.list (iL is)) (.list (iL js)) = if SeqAt.shaped (.list (iL is)) && SeqAt.shaped (.list (iL js)) then .ret (PyData.eqv (.list (iL is)) (.list (iL js))) else .stuck := rfl
  rw [e, iL_shp, iL_shp]
  simp only [Bool.and_self, if_true, PyData.eqv]
  rw [iL, iL, eqv_ints]
theorem eqE_nil {is : List Int} : eqE (.list (iL is)) (.list []) = .ret (decide (is = [])) := eqE_l (js := [])
theorem atI_iL {is : List Int} {k : Nat} (h : k < is.length) : L2.atI (iL is) k = some (.int is[k]) := by
  unfold iL L2.atI L2.ixN
  rw [if_pos (by omega), if_pos (by rw [List.length_map]; omega)]
  simp [h]
end TC

set_option Elab.async false
set_option linter.all false
set_option maxRecDepth 100000
set_option maxHeartbeats 4000000
namespace N07
open PySem TC
/-! words of signs, plainly -/
def H (f : Nat → Bool) : Nat → List Bool
  | 0 => []
  | k + 1 => f k :: H f k
theorem H_range (f : Nat → Bool) : ∀ w, (List.range w).map (fun p => f (w - 1 - p)) = H f w
  | 0 => rfl
  | w + 1 => by
    rw [List.range_succ_eq_map, List.map_cons, List.map_map, H, ← H_range f w]
    refine List.cons_eq_cons.mpr ⟨by simp, List.map_congr_left fun p hp => ?_⟩
    show f (w + 1 - 1 - (p + 1)) = f (w - 1 - p)
    rw [show w + 1 - 1 - (p + 1) = w - 1 - p by omega]
@[simp] theorem H_len {f : Nat → Bool} : ∀ {w}, (H f w).length = w
  | 0 => rfl
  | w + 1 => by rw [H, List.length_cons, H_len]
theorem H_get {f : Nat → Bool} : ∀ {w p : Nat}, p < w → (H f w)[p]? = some (f (w - 1 - p))
  | w + 1, 0, _ => by simp [H]
  | w + 1, p + 1, h => by
    rw [H, List.getElem?_cons_succ, H_get (by omega), show w + 1 - 1 - (p + 1) = w - 1 - p by omega]
theorem H_congr {f g : Nat → Bool} : ∀ {w}, (∀ i, i < w → f i = g i) → H f w = H g w
  | 0, _ => rfl
  | w + 1, h => by rw [H, H, h w (by omega), H_congr fun i hi => h i (by omega)]
def g (y i : Nat) : Bool := y.testBit i ^^ y.testBit (i + 1)
def tb (b : Bool) : Int := (b.toNat : Int)
@[simp] theorem tb_t : tb true = 1 := rfl
@[simp] theorem tb_f : tb false = 0 := rfl
def P2 (k : Nat) : Int := ((2 ^ k : Nat) : Int)
theorem P2_succ {k : Nat} : P2 (k + 1) = P2 k * 2 := by
  unfold P2
  rw [Nat.pow_succ]
  omega
theorem P2_0 : P2 0 = 1 := rfl
theorem P2_pos {k : Nat} : 0 < P2 k := by
  have := Nat.two_pow_pos k
  unfold P2
  omega
theorem P2_log {k : Nat} (h : k ≤ 200) : (P2 k).natAbs.log2 < 9000 := by
  unfold P2
  rw [Int.natAbs_natCast, Nat.log2_two_pow]
  omega
theorem bit_eq {x k : Nat} : ((x : Int) / P2 k) % 2 = tb (x.testBit k) := by
  unfold P2 tb
  rw [Nat.toNat_testBit]
  omega
theorem div_P2 {x k : Nat} : ((x : Int) / P2 k) = ((x / 2 ^ k : Nat) : Int) := by
  unfold P2
  omega
theorem xor_eq {a b : Bool} : (tb a + tb b) % 2 = tb (a ^^ b) := by cases a <;> cases b <;> rfl
theorem step_eq {x k : Nat} : 2 * (x / 2 ^ (k + 1)) + (x.testBit k).toNat = x / 2 ^ k := by
  rw [Nat.toNat_testBit, Nat.pow_succ, ← Nat.div_div_eq_div_mul]
  omega
/-- the least number of signs, from 1 on -/
def cg (p : Nat) : Nat := (p - 1).log2 + 1
theorem cg_pos {p : Nat} : 1 ≤ cg p := by unfold cg; omega
theorem cg_le {p : Nat} : p ≤ 2 ^ cg p := by
  have := Nat.lt_log2_self (n := p - 1)
  unfold cg
  omega
theorem cg_gt {p s : Nat} (h0 : 1 ≤ s) (h : s < cg p) : 2 ^ s < p := by
  unfold cg at h
  by_cases z : p - 1 = 0
  · rw [z] at h
    have e : Nat.log2 0 = 0 := by decide
    omega
  · have h1 := Nat.log2_self_le z
    have h2 : 2 ^ s ≤ 2 ^ (p - 1).log2 := Nat.pow_le_pow_right (by decide) (by omega)
    omega
theorem cg_eq {p k : Nat} (h0 : 1 ≤ k) (h1 : p ≤ 2 ^ k) (h2 : 2 ^ (k - 1) < p) : cg p = k := by
  rcases Nat.lt_trichotomy (cg p) k with h | h | h
  · have h3 : 2 ^ cg p ≤ 2 ^ (k - 1) := Nat.pow_le_pow_right (by decide) (by omega)
    have := cg_le (p := p)
    omega
  · exact h
  · have := cg_gt h0 h
    omega
theorem cg_max {p : Nat} (h : p ≤ 2000000000000000000000000000000) : cg p ≤ 101 := by
  rcases Nat.lt_or_ge 101 (cg p) with z | z
  · have := cg_gt (s := 101) (by decide) z
    have e : (2 : Nat) ^ 101 = 2535301200456458802993406410752 := by decide
    omega
  · exact z
theorem cg_half {d : Nat} (h : 1 ≤ d) : d ≤ 2 ^ (cg (2 * d) - 1) := by
  have h1 := cg_le (p := 2 * d)
  have h2 := cg_pos (p := 2 * d)
  obtain ⟨k, hk⟩ : ∃ k, cg (2 * d) = k + 1 := ⟨cg (2 * d) - 1, by omega⟩
  rw [hk, Nat.pow_succ] at h1
  rw [hk]
  show d ≤ 2 ^ (k + 1 - 1)
  rw [Nat.add_sub_cancel]
  omega
def isP (d : Nat) : Bool := decide (2 ^ cg d = d)
theorem isP_two {d : Nat} (h : isP d = true) (hd : 2 ≤ d) : 2 ^ cg (2 * d) = 2 * d := by
  have h1 : 2 ^ cg d = d := of_decide_eq_true h
  have e : 2 * d = 2 ^ (cg d + 1) := by rw [Nat.pow_succ, h1]; omega
  have h2 : cg (2 * d) = cg d + 1 := cg_eq (by omega) (Nat.le_of_eq e) (by
    rw [Nat.add_sub_cancel, h1]
    omega)
  rw [h2, ← e]
/-! neighbours differ in one sign -/
theorem tz (x : Nat) : ∃ t, ∀ i, (x.testBit i != (x + 1).testBit i) = decide (i ≤ t) := by
  induction x using Nat.strongRecOn with
  | ind x ih =>
    rcases Nat.mod_two_eq_zero_or_one x with h | h
    · refine ⟨0, fun i => ?_⟩
      cases i with
      | zero =>
        rw [Nat.testBit_zero, Nat.testBit_zero]
        have h2 : (x + 1) % 2 = 1 := by omega
        rw [h, h2]
        rfl
      | succ i =>
        rw [Nat.testBit_succ, Nat.testBit_succ, show (x + 1) / 2 = x / 2 by omega]
        simp
    · obtain ⟨t, ht⟩ := ih (x / 2) (by omega)
      refine ⟨t + 1, fun i => ?_⟩
      cases i with
      | zero =>
        rw [Nat.testBit_zero, Nat.testBit_zero]
        have h2 : (x + 1) % 2 = 0 := by omega
        rw [h, h2]
        simp
      | succ i =>
        rw [Nat.testBit_succ, Nat.testBit_succ, show (x + 1) / 2 = x / 2 + 1 by omega, ht i]
        simp
theorem g_next (x : Nat) : ∃ t, ∀ i, (g x i != g (x + 1) i) = decide (i = t) := by
  obtain ⟨t, ht⟩ := tz x
  refine ⟨t, fun i => ?_⟩
  have h1 := ht i
  have h2 := ht (i + 1)
  unfold g
  generalize x.testBit i = a at *
  generalize (x + 1).testBit i = b at *
  generalize x.testBit (i + 1) = c at *
  generalize (x + 1).testBit (i + 1) = d at *
  by_cases z : i = t
  · have e1 : decide (i ≤ t) = true := decide_eq_true (by omega)
    have e2 : decide (i + 1 ≤ t) = false := decide_eq_false (by omega)
    have e3 : decide (i = t) = true := decide_eq_true z
    rw [e1] at h1
    rw [e2] at h2
    rw [e3]
    revert h1 h2
    cases a <;> cases b <;> cases c <;> cases d <;> decide
  · have e3 : decide (i = t) = false := decide_eq_false z
    rw [e3]
    by_cases y : i ≤ t
    · have e1 : decide (i ≤ t) = true := decide_eq_true y
      have e2 : decide (i + 1 ≤ t) = true := decide_eq_true (by omega)
      rw [e1] at h1
      rw [e2] at h2
      revert h1 h2
      cases a <;> cases b <;> cases c <;> cases d <;> decide
    · have e1 : decide (i ≤ t) = false := decide_eq_false y
      have e2 : decide (i + 1 ≤ t) = false := decide_eq_false (by omega)
      rw [e1] at h1
      rw [e2] at h2
      revert h1 h2
      cases a <;> cases b <;> cases c <;> cases d <;> decide
theorem next_lt {x t w : Nat} (h : x + 1 < 2 ^ w) (ht : ∀ i, (g x i != g (x + 1) i) = decide (i = t)) : t < w := by
  rcases Nat.lt_or_ge t w with z | z
  · exact z
  · have e := ht t
    have k1 : 2 ^ w ≤ 2 ^ t := Nat.pow_le_pow_right (by decide) z
    have k2 : 2 ^ w ≤ 2 ^ (t + 1) := Nat.pow_le_pow_right (by decide) (by omega)
    unfold g at e
    rw [Nat.testBit_lt_two_pow (i := t) (by omega), Nat.testBit_lt_two_pow (i := t) (by omega), Nat.testBit_lt_two_pow (i := t + 1) (by omega), Nat.testBit_lt_two_pow (i := t + 1) (by omega)] at e
    simp at e
theorem g_mirror {x y w : Nat} (hx : x < 2 ^ w) (h : y = 2 ^ w - 1 - x) : ∀ i, i < w → (g x i != g y i) = decide (i = w - 1) := by
  intro i hi
  have hb : ∀ j, j < w → y.testBit j = !x.testBit j := fun j hj => by
    rw [h, show 2 ^ w - 1 - x = 2 ^ w - (x + 1) by omega, Nat.testBit_two_pow_sub_succ hx]
    simp [hj]
  have hy : y < 2 ^ w := by omega
  unfold g
  rw [hb i hi]
  by_cases z : i = w - 1
  · rw [show i + 1 = w by omega, Nat.testBit_lt_two_pow hx, Nat.testBit_lt_two_pow hy, decide_eq_true z]
    cases x.testBit i <;> rfl
  · rw [hb (i + 1) (by omega), decide_eq_false z]
    cases x.testBit i <;> cases x.testBit (i + 1) <;> rfl
/-- where one place alone differs, one is found -/
theorem one_of {f : Nat → Bool} {w t : Nat} (ht : t < w) (h : ∀ i, i < w → f i = decide (i = t)) : ((List.range w).filter fun p => f (w - 1 - p)).length = 1 := by
  have e : (List.range w).filter (fun p => f (w - 1 - p)) = (List.range w).filter (fun p => decide (p = w - 1 - t)) := by
    refine List.filter_congr fun p hp => ?_
    have hp2 := List.mem_range.mp hp
    rw [h _ (by omega)]
    by_cases z : p = w - 1 - t
    · rw [decide_eq_true z, decide_eq_true (by omega)]
    · rw [decide_eq_false z, decide_eq_false (by omega)]
  rw [e, ← List.countP_eq_length_filter]
  have k : ∀ n s, (List.range n).countP (fun p => decide (p = s)) = if s < n then 1 else 0 := by
    intro n s
    induction n with
    | zero => rfl
    | succ n ih =>
      rw [List.range_succ, List.countP_append, ih, List.countP_cons, List.countP_nil]
      by_cases z : s < n
      · have y : ¬ n = s := by omega
        have v : s < n + 1 := by omega
        simp [z, y, v]
      · by_cases y : n = s
        · subst y
          simp
        · have v : ¬ s < n + 1 := by omega
          simp [z, y, v]
  rw [k, if_pos (by omega)]
end N07

set_option Elab.async false
set_option linter.all false
set_option maxRecDepth 100000
set_option maxHeartbeats 4000000
namespace WD
open PySem TC N07
theorem okW_zero {α : Type} {c : Comp α} {P : α → Prop} (h : c.okW 0 P nEx) : ∃ a, c = .ret a ∧ P a := by
  rw [Comp.okW_def] at h
  cases c with
  | ret a => exact ⟨a, rfl, h⟩
  | raise x => exact h.elim
  | stuck => exact h.elim
  | draw n k =>
    obtain ⟨c, e, _⟩ := h
    omega
theorem okW_eq {α : Type} {c : Comp α} {o : α} {b : Nat} {P : α → Prop} {E : Exn → Prop} (h : c = .ret o) (h2 : P o) : c.okW b P E := h ▸ Comp.okW_ret h2
theorem eq_of {c : Comp FR} {r : FR} (h : c.okW 0 (fun o => o = r) nEx) : c = .ret r := by
  obtain ⟨a, e, rfl⟩ := okW_zero h
  exact e
theorem ex_of {c : Comp FR} {P : FR → Prop} (h : c.okW 0 P nEx) : ∃ o, c = .ret o ∧ P o := okW_zero h
@[simp] theorem endC_nx {e : En} : endC (.nx e) = .ret (.fz (.d .none)) := rfl
@[simp] theorem exO_raise {α : Type} {e : En} {x : Exn} {f : α → Comp Ou} : exO e (.raise x) f = .ret (.ex x e) := rfl
@[simp] theorem endC_ex {x : Exn} {e : En} : endC (.ex x e) = .raise x := rfl
@[simp] theorem frC_ow {ds : List PyData} : frC (.ow ds) = .ret (.d (.list ds)) := rfl
theorem sm2 : smallI 2 = true := rfl
/-! words as strings -/
def ch (b : Bool) : Nat := if b then 49 else 48
def wd (bs : List Bool) : Str := ⟨(bs.map ch).toArray⟩
theorem ch_inj {a b : Bool} (h : ch a = ch b) : a = b := by cases a <;> cases b <;> first | rfl | cases h
theorem wd_len {bs : List Bool} : (wd bs).length = bs.length := by
  show (bs.map ch).toArray.size = _
  simp
theorem wd_list {bs : List Bool} : (wd bs).cps.toList = bs.map ch := rfl
theorem wd_app {a b : List Bool} : wd a ++ wd b = wd (a ++ b) := by
  show Str.mk ((a.map ch).toArray ++ (b.map ch).toArray) = Str.mk ((a ++ b).map ch).toArray
  simp
theorem wd_inj1 {a b : Bool} : (wd [a] = wd [b]) = (a = b) := propext ⟨fun h => by
  have z : (wd [a]).cps.toList = (wd [b]).cps.toList := by rw [h]
  rw [wd_list, wd_list] at z
  simp at z
  exact ch_inj z, fun h => by rw [h]⟩
theorem e01 : ("01" : Str) = wd [false, true] := by decide
theorem e0 : ("0" : Str) = wd [false] := by decide
theorem e1 : ("1" : Str) = wd [true] := by decide
theorem eE : ("" : Str) = wd [] := by decide
theorem wd_join (bs : List Bool) : Txt.join "" (bs.map fun b => wd [b]) = wd bs := by
  show Builtin.Str.glued "" _ = _
  rw [StrLaws.glued_eq_join, eE]
  induction bs with
  | nil => rfl
  | cons b bs ih =>
    cases bs with
    | nil => rfl
    | cons a r =>
      show wd [b] ++ wd [] ++ Str.join (wd []) ((a :: r).map fun b => wd [b]) = _
      rw [ih, wd_app, wd_app]
      rfl
theorem sum_ones {α : Type} {f : α → Nat} (h : ∀ a, f a = 1) : ∀ l : List α, (l.map f).sum = l.length
  | [] => rfl
  | a :: l => by
    rw [List.map_cons, List.sum_cons, h, sum_ones h l, List.length_cons]
    omega
theorem joinW {bs : List Bool} (h : bs.length ≤ 1000) : m1E .join "" (.list (bs.map fun b => .str (wd [b]))) = .ret (.str (wd bs)) := by
  have e : m1E .join "" (.list (bs.map fun b => .str (wd [b]))) = match strsP (bs.map fun b => .str (wd [b])) with | some ys => joinE "" ys | none => .stuck := rfl
  rw [e, strs_map]
  show okB (decide _) _ = _
  rw [wd_join, decide_eq_true]
  · rfl
  · rw [List.map_map, sum_ones (fun a => wd_len), List.length_map]
    have z : ("" : Str).length = 0 := by decide
    rw [z]
    unfold LIM
    omega
theorem addW {a b : List Bool} (h : a.length + b.length ≤ 1000) : binE .add (.str (wd a)) (.str (wd b)) = .ret (.str (wd (a ++ b))) := by
  have e : binE .add (.str (wd a)) (.str (wd b)) = okB (decide ((wd a).length + (wd b).length ≤ LIM)) (.str (wd a ++ wd b)) := rfl
  rw [e, wd_len, wd_len, decide_eq_true (by unfold LIM; omega), wd_app]
  rfl
theorem i01 {b : Bool} : idxE (.str "01") (.int (tb b)) = .ret (.str (wd [b])) := by
  rw [e01]
  cases b <;> rfl
theorem idxW {bs : List Bool} {j : Nat} {b : Bool} (hl : bs.length ≤ 1000) (h : bs[j]? = some b) : idxE (.str (wd bs)) (.int j) = .ret (.str (wd [b])) := by
  have e : idxE (.str (wd bs)) (.int j) = if (wd bs).length ≤ LIM then (match L2.atI (wd bs).cps.toList j with | some c => .ret (.str ⟨#[c]⟩) | none => .stuck) else .stuck := rfl
  have a : L2.atI (wd bs).cps.toList j = some (ch b) := by
    obtain ⟨hl, h2⟩ := List.getElem?_eq_some_iff.mp h
    rw [wd_list]
    unfold L2.atI L2.ixN
    rw [if_pos (by omega), if_pos (by rw [List.length_map]; omega)]
    simp [h]
  rw [e, if_pos (by rw [wd_len]; unfold LIM; omega), a]
  rfl
theorem rng_nat {K : Int} {w : Nat} (h : K = w) : rngP 0 K = (List.range w).map fun (i : Nat) => .int (i : Int) := by
  subst h
  unfold rngP
  simp
theorem lim_rng {K : Int} {w : Nat} (h : K = w) (h2 : w ≤ 1000) : limL (rngP 0 K) = .ret (rngP 0 K) := limL_ok (by
  rw [rngP_len]
  unfold LIM
  omega)
theorem hide {w : Nat} (h : w ≤ 1000) : ∃ K : Int, K = w ∧ bigI K = true := ⟨w, rfl, bigI_ok (by omega) (by omega)⟩
theorem mulR2 {i : Int} : binE .mul (.int i) (.int 2) = .ret (.int (i * 2)) := by
  have e : binE .mul (.int i) (.int 2) = okB (smallI i || smallI 2) (.int (i * 2)) := rfl
  rw [e, sm2, Bool.or_true]
  rfl
theorem mulL2 {i : Int} : binE .mul (.int 2) (.int i) = .ret (.int (2 * i)) := by
  have e : binE .mul (.int 2) (.int i) = okB (smallI 2 || smallI i) (.int (2 * i)) := rfl
  rw [e, sm2, Bool.true_or]
  rfl
theorem half_eq {x j : Nat} : (((x / 2 ^ j : Nat) : Int)) / 2 = ((x / 2 ^ (j + 1) : Nat) : Int) := by
  rw [Nat.pow_succ, ← Nat.div_div_eq_div_mul]
  omega
theorem mod_eq {x j : Nat} : (((x / 2 ^ j : Nat) : Int)) % 2 = tb (x.testBit j) := by
  rw [← bit_eq, div_P2]
theorem l2 : Nat.log2 2 < 9000 := by decide
theorem eqW {a b : Bool} : eqE (.str (wd [a])) (.str (wd [b])) = .ret (a == b) := by
  show Comp.ret (decide (wd [a] = wd [b])) = _
  have e : decide (wd [a] = wd [b]) = (a == b) := by
    rw [decide_eq_decide.mpr (Iff.of_eq (wd_inj1 (a := a) (b := b)))]
    cases a <;> cases b <;> rfl
  rw [e]
theorem sEq {z : Str} : eqE (.str z) (.str z) = .ret true := by
  show Comp.ret (decide (z = z)) = _
  rw [decide_eq_true rfl]
theorem sNe {z w : Str} (h : z ≠ w) : eqE (.str z) (.str w) = .ret false := by
  show Comp.ret (decide (z = w)) = _
  rw [decide_eq_false h]
theorem seqW {bs : List Bool} : seqE (.str (wd bs)) = .ret (bs.map fun b => .str (wd [b])) := by
  show Comp.ret ((wd bs).cps.toList.map fun c => PyData.str ⟨#[c]⟩) = _
  rw [wd_list, List.map_map]
  rfl
theorem lenW {bs : List Bool} {K : Int} (hK : K = bs.length) (h : bs.length ≤ 1000) : f1E .len (.str (wd bs)) = .ret (.int K) := by
  have e : f1E .len (.str (wd bs)) = okB (decide ((wd bs).length ≤ LIM)) (.int (wd bs).length) := rfl
  rw [e, wd_len, decide_eq_true (by unfold LIM; omega), hK]
  rfl
theorem at_wd {bs : List Bool} {j : Nat} {d : PyData} (h : (bs.map fun b => PyData.str (wd [b]))[j]? = some d) : ∃ b, bs[j]? = some b ∧ d = .str (wd [b]) := by
  rw [List.getElem?_map, Option.map_eq_some_iff] at h
  obtain ⟨b, h1, h2⟩ := h
  exact ⟨b, h1, h2.symm⟩
theorem eq_one {b : Bool} : eqE (.str (wd [b])) (.str "1") = .ret b := by
  rw [e1, eqW]
  cases b <;> rfl
theorem int_b {b : Bool} : f1E .int (.bool b) = .ret (.int (tb b)) := by cases b <;> rfl
theorem in01 {b : Bool} : inE (.str (wd [b])) (.str "01") = .ret true := by
  rw [e01]
  cases b <;> rfl
theorem all_t {l : List Bool} : f1E .all (.list (l.map fun _ => .bool true)) = .ret (.bool true) := by
  have e : f1E .all (.list (l.map fun _ => .bool true)) = match boolsP (l.map fun _ => .bool true) with | some bs => .ret (.bool (bs.all id)) | none => .stuck := rfl
  have e2 : (l.map fun _ => true).all id = true := by simp
  rw [e, bools_map]
  show Comp.ret (PyData.bool _) = _
  rw [e2]
theorem iL_of {Q : Int → Prop} : ∀ {ys : List PyData}, (∀ y ∈ ys, ∃ i, y = .int i ∧ Q i) → ∃ is, ys = iL is ∧ ∀ i ∈ is, Q i
  | [], _ => ⟨[], rfl, fun _ h => (List.not_mem_nil h).elim⟩
  | y :: ys, h => by
    obtain ⟨is, rfl, h2⟩ := iL_of fun y hy => h y (List.mem_cons_of_mem _ hy)
    obtain ⟨i, rfl, h3⟩ := h y (List.mem_cons_self ..)
    exact ⟨i :: is, rfl, fun z hz => by rcases List.mem_cons.mp hz with rfl | hz; exact h3; exact h2 z hz⟩
/-- a comprehension without a condition -/
theorem okW_mapS {α : Type} {f : α → Comp (Option PyData)} {P : PyData → Prop} {c : Nat} : ∀ {l : List α}, (∀ a ∈ l, (f a).okW c (fun o => ∃ y, o = some y ∧ P y) nEx) → (mapC f l).okW (c * l.length) (fun ys => (∀ y ∈ ys, P y) ∧ ys.length = l.length) nEx
  | [], _ => Comp.okW_ret ⟨fun _ h => (List.not_mem_nil h).elim, rfl⟩
  | a :: l, h => by
    have e1 : c * (a :: l).length = c + (c * l.length + 0) := by
      rw [List.length_cons, Nat.mul_succ]
      omega
    rw [e1]
    refine Comp.okW_bind (h a (List.mem_cons_self ..)) fun r ⟨y, hr, hy⟩ => Comp.okW_bind (okW_mapS fun a ha => h a (List.mem_cons_of_mem _ ha)) fun rs ⟨h1, h2⟩ => Comp.okW_ret ?_
    subst hr
    refine ⟨fun z hz => ?_, by rw [consO, List.length_cons, List.length_cons, h2]⟩
    rcases List.mem_cons.mp hz with rfl | hz
    · exact hy
    · exact h1 z hz
theorem iL_ix {is : List Int} {i : Int} (h0 : 0 ≤ i) (h : i < is.length) : ∃ d, L2.atI (iL is) i = some (.int d) ∧ d ∈ is := by
  obtain ⟨k, rfl⟩ := Int.eq_ofNat_of_zero_le h0
  exact ⟨_, atI_iL (by omega), List.getElem_mem _⟩
@[simp] theorem iL_len {is : List Int} : (iL is).length = is.length := by simp [iL]
theorem okW_mapS0 {α : Type} {f : α → Comp (Option PyData)} {P : PyData → Prop} {l : List α} (h : ∀ a ∈ l, (f a).okW 0 (fun o => ∃ y, o = some y ∧ P y) nEx) : (mapC f l).okW 0 (fun ys => (∀ y ∈ ys, P y) ∧ ys.length = l.length) nEx := by
  have z := okW_mapS h
  rw [Nat.zero_mul] at z
  exact z
theorem idx_T {xs : List PyData} {i : Int} {d : PyData} (h : L2.atI xs i = some d) : idxE (.tuple xs) (.int i) = .ret d := by
  have e : idxE (.tuple xs) (.int i) = match L2.atI xs i with | some d => .ret d | none => .stuck := rfl
  rw [e, h]
theorem idx_L {xs : List PyData} {i : Int} {d : PyData} (h : L2.atI xs i = some d) : idxE (.list xs) (.int i) = .ret d := by
  have e : idxE (.list xs) (.int i) = match L2.atI xs i with | some d => .ret d | none => .stuck := rfl
  rw [e, h]
theorem at_map {α : Type} {g : α → PyData} {l : List α} {i : Int} (h0 : 0 ≤ i) (h : i < l.length) : ∃ a ∈ l, L2.atI (l.map g) i = some (g a) := by
  obtain ⟨k, rfl⟩ := Int.eq_ofNat_of_zero_le h0
  have hk : k < l.length := by omega
  refine ⟨l[k], List.getElem_mem _, ?_⟩
  unfold L2.atI L2.ixN
  rw [if_pos (by omega), if_pos (by rw [List.length_map]; omega)]
  simp [hk]
theorem map_of {α : Type} {g : α → PyData} {Q : α → Prop} : ∀ {ys : List PyData}, (∀ y ∈ ys, ∃ a, y = g a ∧ Q a) → ∃ as : List α, ys = as.map g ∧ ∀ a ∈ as, Q a
  | [], _ => ⟨[], rfl, fun _ h => (List.not_mem_nil h).elim⟩
  | y :: ys, h => by
    obtain ⟨as, rfl, h2⟩ := map_of fun y hy => h y (List.mem_cons_of_mem _ hy)
    obtain ⟨a, rfl, h3⟩ := h y (List.mem_cons_self ..)
    exact ⟨a :: as, rfl, fun z hz => by rcases List.mem_cons.mp hz with rfl | hz; exact h3; exact h2 z hz⟩
theorem wd_ok {bs : List Bool} : PyData.strOk (wd bs) = true := by
  show (wd bs).cps.all _ = true
  rw [← Array.all_toList, wd_list, List.all_map, List.all_eq_true]
  intro b _
  cases b <;> rfl
theorem strs_lay : ∀ {ys : List Str}, (∀ y ∈ ys, PyData.strOk y = true) → PyData.canLayAll0 (ys.map .str) = true
  | [], _ => rfl
  | y :: ys, h => by
    have z := strs_lay fun y hy => h y (List.mem_cons_of_mem _ hy)
    simp only [List.map_cons, PyData.canLayAll0, PyData.canLay0, h y (List.mem_cons_self ..), Bool.true_and]
    exact z
theorem strs_dep : ∀ ys : List Str, PyData.depthAll (ys.map .str) ≤ 1
  | [] => by simp [PyData.depthAll]
  | y :: ys => by
    have z := strs_dep ys
    simp only [List.map_cons, PyData.depthAll, PyData.depth]
    omega
theorem strs_shp {ys : List Str} (h : ∀ y ∈ ys, PyData.strOk y = true) : SeqAt.shaped (.list (ys.map .str)) = true := by
  have h := strs_lay h
  have h2 := strs_dep ys
  have h3 : PyData.depth (.list (ys.map .str)) ≤ 64 := by
    simp only [PyData.depth]
    omega
  have h4 : PyData.canLay0 (.list (ys.map .str)) = true := by simp only [PyData.canLay0, h]
  exact Bool.and_eq_true_iff.mpr ⟨h4, decide_eq_true h3⟩
theorem str_shp {y : Str} (h : PyData.strOk y = true) : SeqAt.shaped (.str y) = true := by
  refine Bool.and_eq_true_iff.mpr ⟨?_, rfl⟩
  simp only [PyData.canLay0, h]
/-- whether a text is one of some -/
theorem inL {x : Str} {ys : List Str} (hx : PyData.strOk x = true) (hy : ∀ y ∈ ys, PyData.strOk y = true) : inE (.str x) (.list (ys.map .str)) = .ret (ys.any fun z => decide (z = x)) := by
  have e : inE (.str x) (.list (ys.map .str)) = if SeqAt.shaped (.str x) && SeqAt.shaped (.list (ys.map .str)) then .ret ((ys.map PyData.str).any fun z => PyData.eqv z (.str x)) else .stuck := by cases x; rfl
  rw [e, strs_shp hy, str_shp hx, List.any_map]
  simp only [Bool.and_self, if_true]
  rfl
theorem inWd {b : List Bool} {bs : List (List Bool)} : inE (.str (wd b)) (.list (bs.map fun b => .str (wd b))) = .ret (bs.any fun z => decide (wd z = wd b)) := by
  have z := inL (x := wd b) (ys := bs.map wd) wd_ok (fun y hy => by
    obtain ⟨w, _, rfl⟩ := List.mem_map.mp hy
    exact wd_ok)
  rw [List.map_map, List.any_map] at z
  exact z
theorem int_shp (i : Int) : SeqAt.shaped (.int i) = true := rfl
theorem inI {i : Int} {is : List Int} : ∃ r, inE (.int i) (.list (iL is)) = .ret r := by
  have e : inE (.int i) (.list (iL is)) = if SeqAt.shaped (.int i) && SeqAt.shaped (.list (iL is)) then .ret ((iL is).any fun z => PyData.eqv z (.int i)) else .stuck := rfl
  rw [e, iL_shp, int_shp]
  exact ⟨_, rfl⟩
theorem rngP_at' {a b : Int} {d : PyData} (h : d ∈ rngP a b) : ∃ i, d = .int i ∧ a ≤ i ∧ i < b := by
  obtain ⟨j, hj⟩ := List.getElem?_of_mem h
  obtain ⟨rfl, hb⟩ := rngP_at hj
  exact ⟨_, rfl, by omega, hb⟩
theorem enu_mem {ds : List PyData} {d : PyData} (h : d ∈ enuP ds) : ∃ (i : Nat) (x : PyData), d = .tuple [.int i, x] ∧ i < ds.length ∧ x ∈ ds := by
  obtain ⟨k, hk⟩ := List.getElem?_of_mem h
  unfold enuP at hk
  rw [List.getElem?_zipWith] at hk
  split at hk
  · rename_i a b h1 h2
    cases hk
    obtain ⟨hl, h3⟩ := List.getElem?_eq_some_iff.mp h1
    rw [List.length_range] at hl
    rw [List.getElem_range] at h3
    subst h3
    exact ⟨_, b, rfl, hl, List.mem_of_getElem? h2⟩
  · cases hk
theorem zip_mem {ds es : List PyData} {d : PyData} (h : d ∈ zipP ds es) : ∃ x y, d = .tuple [x, y] ∧ x ∈ ds ∧ y ∈ es := by
  obtain ⟨k, hk⟩ := List.getElem?_of_mem h
  unfold zipP at hk
  rw [List.getElem?_zipWith] at hk
  split at hk
  · rename_i a b h1 h2
    cases hk
    exact ⟨a, b, rfl, List.mem_of_getElem? h1, List.mem_of_getElem? h2⟩
  · cases hk
theorem enu_len {ds : List PyData} : (enuP ds).length = ds.length := by simp [enuP]
end WD

set_option maxRecDepth 100000
set_option maxHeartbeats 4000000
namespace Tk02
open PySem TC
def top (i : Nat) : Stmt := PySem.Challenge.pw_twoclocks_k02_codes_refused.main.body.getD i (.Pass ⟨0, 0, 0, 0⟩)
abbrev dB (i : Nat) : List Stmt := L2.defBody (top i)
def f0 : Fd := ⟨"_law_text", ["_law_number", "_law_total", "_law_found", "_law_k"], 2, .cons (.asg 2 "_law_found" ⟨140, 4, 140, 14⟩ (.str "" 0 ⟨140, 17, 140, 19⟩) ⟨140, 4, 140, 19⟩) (.cons (.forr (.nm 3 "_law_k" ⟨141, 8, 141, 14⟩) (.rg1 ⟨141, 18, 141, 23⟩ (.var 1 "_law_total" ⟨141, 24, 141, 34⟩) ⟨141, 18, 141, 35⟩) (.cons (.asg 2 "_law_found" ⟨142, 8, 142, 18⟩ (.bin .add (.idx (.ex (.str "01" 0 ⟨142, 21, 142, 25⟩)) (.bin .mod (.f1 .int ⟨142, 26, 142, 29⟩ (.ex (.var 0 "_law_number" ⟨142, 30, 142, 41⟩)) ⟨142, 26, 142, 42⟩) (.int 2 0 ⟨142, 45, 142, 46⟩) ⟨142, 26, 142, 46⟩) ⟨142, 21, 142, 47⟩) (.var 2 "_law_found" ⟨142, 50, 142, 60⟩) ⟨142, 21, 142, 60⟩) ⟨142, 8, 142, 60⟩) (.cons (.asg 0 "_law_number" ⟨143, 8, 143, 19⟩ (.bin .div (.var 0 "_law_number" ⟨143, 22, 143, 33⟩) (.int 2 0 ⟨143, 37, 143, 38⟩) ⟨143, 22, 143, 38⟩) ⟨143, 8, 143, 38⟩) (.nil))) ⟨141, 4, 143, 38⟩) (.cons (.ret (.var 2 "_law_found" ⟨144, 11, 144, 21⟩) ⟨144, 4, 144, 21⟩) (.nil)))⟩
def f1 : Fd := ⟨"_law_code", ["_law_m", "_law_signs", "_law_total", "_law_high", "_law_k", "_law_some", "_law_found", "_law_number"], 2, .cons (.asg 2 "_law_total" ⟨146, 4, 146, 14⟩ (.bin .add (.int 1 0 ⟨146, 17, 146, 18⟩) (.drw "_law_next" ⟨146, 21, 146, 30⟩ (.var 0 "_law_m" ⟨146, 31, 146, 37⟩) (.var 1 "_law_signs" ⟨146, 39, 146, 49⟩) ⟨146, 21, 146, 50⟩) ⟨146, 17, 146, 50⟩) ⟨146, 4, 146, 50⟩) (.cons (.asg 3 "_law_high" ⟨147, 4, 147, 13⟩ (.int 1 0 ⟨147, 16, 147, 17⟩) ⟨147, 4, 147, 17⟩) (.cons (.forr (.nm 4 "_law_k" ⟨148, 8, 148, 14⟩) (.rg1 ⟨148, 18, 148, 23⟩ (.var 2 "_law_total" ⟨148, 24, 148, 34⟩) ⟨148, 18, 148, 35⟩) (.cons (.asg 3 "_law_high" ⟨149, 8, 149, 17⟩ (.bin .mul (.var 3 "_law_high" ⟨149, 20, 149, 29⟩) (.int 2 0 ⟨149, 32, 149, 33⟩) ⟨149, 20, 149, 33⟩) ⟨149, 8, 149, 33⟩) (.nil)) ⟨148, 4, 149, 33⟩) (.cons (.asgF 5 "_law_some" ⟨150, 4, 150, 13⟩ (.lc (.call 0 "_law_text" ⟨150, 17, 150, 26⟩ (.cons (.var 7 "_law_number" ⟨150, 27, 150, 38⟩) (.cons (.var 2 "_law_total" ⟨150, 40, 150, 50⟩) .nil)) ⟨150, 17, 150, 51⟩) (.nm 7 "_law_number" ⟨150, 56, 150, 67⟩) (.rg1 ⟨150, 71, 150, 76⟩ (.var 3 "_law_high" ⟨150, 77, 150, 86⟩) ⟨150, 71, 150, 87⟩) .no [("_law_number", 7)] ⟨.function, [(".0", .local), ("_law_number", .local), ("_law_text", .globalImplicit), ("_law_total", .free)], false, false, []⟩ ⟨150, 16, 150, 88⟩) ⟨150, 4, 150, 88⟩) (.cons (.asgF 6 "_law_found" ⟨151, 4, 151, 14⟩ (.lst .nil ⟨151, 17, 151, 19⟩) ⟨151, 4, 151, 19⟩) (.cons (.forr (.nm 4 "_law_k" ⟨152, 8, 152, 14⟩) (.rg1 ⟨152, 18, 152, 23⟩ (.bin .add (.int 2 0 ⟨152, 24, 152, 25⟩) (.drw "_law_next" ⟨152, 28, 152, 37⟩ (.var 0 "_law_m" ⟨152, 38, 152, 44⟩) (.bin .sub (.f2 .min ⟨152, 46, 152, 49⟩ (.f1 .len ⟨152, 50, 152, 53⟩ (.ov 5 "_law_some" ⟨152, 54, 152, 63⟩) ⟨152, 50, 152, 64⟩) (.int 10 0 ⟨152, 66, 152, 68⟩) ⟨152, 46, 152, 69⟩) (.int 1 0 ⟨152, 72, 152, 73⟩) ⟨152, 46, 152, 73⟩) ⟨152, 28, 152, 74⟩) ⟨152, 24, 152, 74⟩) ⟨152, 18, 152, 75⟩) (.cons (.apo 6 "_law_found" ⟨153, 8, 153, 18⟩ ⟨153, 8, 153, 25⟩ 5 "_law_some" ⟨153, 26, 153, 35⟩ ⟨153, 26, 153, 39⟩ (.drw "_law_next" ⟨153, 40, 153, 49⟩ (.var 0 "_law_m" ⟨153, 50, 153, 56⟩) (.f1 .len ⟨153, 58, 153, 61⟩ (.ov 5 "_law_some" ⟨153, 62, 153, 71⟩) ⟨153, 58, 153, 72⟩) ⟨153, 40, 153, 73⟩) ⟨153, 26, 153, 74⟩ ⟨153, 8, 153, 75⟩ ⟨153, 8, 153, 75⟩) (.nil)) ⟨152, 4, 153, 75⟩) (.cons (.ret (.f1 .tuple ⟨154, 11, 154, 16⟩ (.ov 6 "_law_found" ⟨154, 17, 154, 27⟩) ⟨154, 11, 154, 28⟩) ⟨154, 4, 154, 28⟩) (.nil)))))))⟩
def f2 : Fd := ⟨"is_word", ["thing", "most", "sign"], 2, .cons (.ret (.andd (.cons (.isi ⟨20, 11, 20, 21⟩ (.var 0 "thing" ⟨20, 22, 20, 27⟩) .str ⟨20, 29, 20, 32⟩ ⟨20, 11, 20, 33⟩) (.cons (.chn .le .le (.int 1 0 ⟨20, 38, 20, 39⟩) (.f1 .len ⟨20, 43, 20, 46⟩ (.ex (.var 0 "thing" ⟨20, 47, 20, 52⟩)) ⟨20, 43, 20, 53⟩) (.var 1 "most" ⟨20, 57, 20, 61⟩) ⟨20, 38, 20, 61⟩) (.cons (.f1 .all ⟨20, 66, 20, 69⟩ (.ex (.frz (.lc (.cmp .inn (.ex (.var 2 "sign" ⟨20, 71, 20, 75⟩)) (.ex (.con "BINARY" (.str "01") ⟨20, 79, 20, 85⟩)) ⟨20, 71, 20, 85⟩) (.nm 2 "sign" ⟨20, 90, 20, 94⟩) (.seq (.var 0 "thing" ⟨20, 98, 20, 103⟩)) .no [("sign", 2)] ⟨.function, [(".0", .local), ("sign", .local), ("BINARY", .globalImplicit)], false, false, []⟩ ⟨20, 70, 20, 104⟩))) ⟨20, 66, 20, 105⟩) .nil))) ⟨20, 11, 20, 105⟩) ⟨20, 4, 20, 105⟩) (.nil)⟩
def f3 : Fd := ⟨"need_code", ["thing", "word"], 1, .cons (.iff (.orr (.cons (.nt (.isi ⟨22, 11, 22, 21⟩ (.var 0 "thing" ⟨22, 22, 22, 27⟩) .tuple ⟨22, 29, 22, 34⟩ ⟨22, 11, 22, 35⟩) ⟨22, 7, 22, 35⟩) (.cons (.nt (.chn .le .le (.int 2 0 ⟨22, 43, 22, 44⟩) (.f1 .len ⟨22, 48, 22, 51⟩ (.ex (.var 0 "thing" ⟨22, 52, 22, 57⟩)) ⟨22, 48, 22, 58⟩) (.con "MOST_PERIOD" (.int 64) ⟨22, 62, 22, 73⟩) ⟨22, 43, 22, 73⟩) ⟨22, 39, 22, 73⟩) .nil)) ⟨22, 7, 22, 73⟩) (.cons (.rai 0 "BadCode" ⟨23, 14, 23, 21⟩ (.str "form" 0 ⟨23, 22, 23, 28⟩) ⟨23, 14, 23, 29⟩ ⟨23, 8, 23, 29⟩) (.nil)) (.nil) ⟨22, 4, 23, 29⟩) (.cons (.iff (.nt (.f1 .all ⟨24, 11, 24, 14⟩ (.ex (.frz (.lc (.call 2 "is_word" ⟨24, 16, 24, 23⟩ (.cons (.var 1 "word" ⟨24, 24, 24, 28⟩) (.cons (.con "MOST_SIGNS" (.int 64) ⟨24, 30, 24, 40⟩) .nil)) ⟨24, 16, 24, 41⟩) (.nm 1 "word" ⟨24, 46, 24, 50⟩) (.seq (.var 0 "thing" ⟨24, 54, 24, 59⟩)) .no [("word", 1)] ⟨.function, [(".0", .local), ("word", .local), ("is_word", .globalImplicit), ("MOST_SIGNS", .globalImplicit)], false, false, []⟩ ⟨24, 15, 24, 60⟩))) ⟨24, 11, 24, 61⟩) ⟨24, 7, 24, 61⟩) (.cons (.rai 0 "BadCode" ⟨25, 14, 25, 21⟩ (.str "word" 0 ⟨25, 22, 25, 28⟩) ⟨25, 14, 25, 29⟩ ⟨25, 8, 25, 29⟩) (.nil)) (.nil) ⟨24, 4, 25, 29⟩) (.cons (.iff (.nt (.f1 .all ⟨26, 11, 26, 14⟩ (.ex (.frz (.lc (.cmp .eq (.ex (.f1 .len ⟨26, 16, 26, 19⟩ (.ex (.var 1 "word" ⟨26, 20, 26, 24⟩)) ⟨26, 16, 26, 25⟩)) (.ex (.f1 .len ⟨26, 29, 26, 32⟩ (.ex (.idx (.ex (.var 0 "thing" ⟨26, 33, 26, 38⟩)) (.int 0 0 ⟨26, 39, 26, 40⟩) ⟨26, 33, 26, 41⟩)) ⟨26, 29, 26, 42⟩)) ⟨26, 16, 26, 42⟩) (.nm 1 "word" ⟨26, 47, 26, 51⟩) (.seq (.var 0 "thing" ⟨26, 55, 26, 60⟩)) .no [("word", 1)] ⟨.function, [(".0", .local), ("word", .local), ("len", .globalImplicit), ("thing", .free)], false, false, []⟩ ⟨26, 15, 26, 61⟩))) ⟨26, 11, 26, 62⟩) ⟨26, 7, 26, 62⟩) (.cons (.rai 0 "BadCode" ⟨27, 14, 27, 21⟩ (.str "length" 0 ⟨27, 22, 27, 30⟩) ⟨27, 14, 27, 31⟩ ⟨27, 8, 27, 31⟩) (.nil)) (.nil) ⟨26, 4, 27, 31⟩) (.cons (.iff (.cmp .lt (.ex (.lsc ⟨28, 7, 28, 10⟩ (.var 0 "thing" ⟨28, 29, 28, 34⟩) 1 "word" ⟨28, 21, 28, 25⟩ ⟨28, 12, 28, 16⟩ ⟨.function, [(".0", .local), ("word", .local)], false, false, []⟩ ⟨28, 11, 28, 35⟩ ⟨28, 7, 28, 36⟩)) (.ex (.f1 .len ⟨28, 39, 28, 42⟩ (.ex (.var 0 "thing" ⟨28, 43, 28, 48⟩)) ⟨28, 39, 28, 49⟩)) ⟨28, 7, 28, 49⟩) (.cons (.rai 0 "BadCode" ⟨29, 14, 29, 21⟩ (.str "same" 0 ⟨29, 22, 29, 28⟩) ⟨29, 14, 29, 29⟩ ⟨29, 8, 29, 29⟩) (.nil)) (.nil) ⟨28, 4, 29, 29⟩) (.cons (.ret (.var 0 "thing" ⟨30, 11, 30, 16⟩) ⟨30, 4, 30, 16⟩) (.nil)))))⟩
def f4 : Fd := ⟨"window_of", ["code", "elder", "steps", "step"], 3, .cons (.retF (.lc (.bin .mod (.f1 .int ⟨43, 12, 43, 15⟩ (.ex (.bin .add (.var 1 "elder" ⟨43, 16, 43, 21⟩) (.var 3 "step" ⟨43, 24, 43, 28⟩) ⟨43, 16, 43, 28⟩)) ⟨43, 12, 43, 29⟩) (.f1 .len ⟨43, 32, 43, 35⟩ (.ex (.var 0 "code" ⟨43, 36, 43, 40⟩)) ⟨43, 32, 43, 41⟩) ⟨43, 12, 43, 41⟩) (.nm 3 "step" ⟨43, 46, 43, 50⟩) (.rg1 ⟨43, 54, 43, 59⟩ (.bin .add (.var 2 "steps" ⟨43, 60, 43, 65⟩) (.int 1 0 ⟨43, 68, 43, 69⟩) ⟨43, 60, 43, 69⟩) ⟨43, 54, 43, 70⟩) .no [("step", 3)] ⟨.function, [(".0", .local), ("step", .local), ("int", .globalImplicit), ("len", .globalImplicit), ("code", .free), ("elder", .free)], false, false, []⟩ ⟨43, 11, 43, 71⟩) ⟨43, 4, 43, 71⟩) (.nil)⟩
def f5 : Fd := ⟨"choices_of", ["code", "elder", "steps", "words", "found", "place", "count", "sign", "word"], 3, .cons (.asgF 3 "words" ⟨45, 4, 45, 9⟩ (.lc (.idx (.ex (.var 0 "code" ⟨45, 13, 45, 17⟩)) (.var 6 "count" ⟨45, 18, 45, 23⟩) ⟨45, 13, 45, 24⟩) (.nm 6 "count" ⟨45, 29, 45, 34⟩) (.seq (.call 4 "window_of" ⟨45, 38, 45, 47⟩ (.cons (.var 0 "code" ⟨45, 48, 45, 52⟩) (.cons (.var 1 "elder" ⟨45, 54, 45, 59⟩) (.cons (.var 2 "steps" ⟨45, 61, 45, 66⟩) .nil))) ⟨45, 38, 45, 67⟩)) .no [("count", 6)] ⟨.function, [(".0", .local), ("count", .local), ("code", .free)], false, false, []⟩ ⟨45, 12, 45, 68⟩) ⟨45, 4, 45, 68⟩) (.frz 3 (.cons (.asgF 4 "found" ⟨46, 4, 46, 9⟩ (.lst .nil ⟨46, 12, 46, 14⟩) ⟨46, 4, 46, 14⟩) (.cons (.forr (.nm 5 "place" ⟨47, 8, 47, 13⟩) (.rg1 ⟨47, 17, 47, 22⟩ (.f1 .len ⟨47, 23, 47, 26⟩ (.ex (.idx (.ex (.var 0 "code" ⟨47, 27, 47, 31⟩)) (.int 0 0 ⟨47, 32, 47, 33⟩) ⟨47, 27, 47, 34⟩)) ⟨47, 23, 47, 35⟩) ⟨47, 17, 47, 36⟩) (.cons (.app 4 "found" ⟨48, 8, 48, 13⟩ ⟨48, 8, 48, 20⟩ (.frz (.lc (.var 7 "sign" ⟨48, 22, 48, 26⟩) (.nm 7 "sign" ⟨48, 31, 48, 35⟩) (.seq (.con "BINARY" (.str "01") ⟨48, 39, 48, 45⟩)) (.so (.cmp .inn (.ex (.var 7 "sign" ⟨48, 49, 48, 53⟩)) (.ex (.frz (.lc (.idx (.ex (.var 8 "word" ⟨48, 58, 48, 62⟩)) (.var 5 "place" ⟨48, 63, 48, 68⟩) ⟨48, 58, 48, 69⟩) (.nm 8 "word" ⟨48, 74, 48, 78⟩) (.seq (.var 3 "words" ⟨48, 82, 48, 87⟩)) .no [("word", 8)] ⟨.function, [(".0", .local), ("word", .local), ("place", .free)], false, false, []⟩ ⟨48, 57, 48, 88⟩))) ⟨48, 49, 48, 88⟩)) [("sign", 7)] ⟨.function, [(".0", .local), ("sign", .local), ("place", .free), ("words", .free)], false, false, []⟩ ⟨48, 21, 48, 89⟩)) ⟨48, 8, 48, 90⟩ ⟨48, 8, 48, 90⟩) (.nil)) ⟨47, 4, 48, 90⟩) (.cons (.retO 4 "found" ⟨49, 11, 49, 16⟩ ⟨49, 4, 49, 16⟩) (.nil)))))⟩
def f6 : Fd := ⟨"is_among", ["choices", "word", "some", "sign"], 2, .cons (.ret (.f1 .all ⟨51, 11, 51, 14⟩ (.ex (.frz (.lc (.cmp .inn (.ex (.var 3 "sign" ⟨51, 16, 51, 20⟩)) (.ex (.var 2 "some" ⟨51, 24, 51, 28⟩)) ⟨51, 16, 51, 28⟩) (.tp (.cons 2 "some" ⟨51, 33, 51, 37⟩ (.cons 3 "sign" ⟨51, 39, 51, 43⟩ .nil)) 0 ⟨51, 33, 51, 43⟩) (.zip ⟨51, 47, 51, 50⟩ (.var 0 "choices" ⟨51, 51, 51, 58⟩) (.var 1 "word" ⟨51, 60, 51, 64⟩) ⟨51, 47, 51, 65⟩) .no [("some", 2), ("sign", 3)] ⟨.function, [(".0", .local), ("some", .local), ("sign", .local)], false, false, []⟩ ⟨51, 15, 51, 66⟩))) ⟨51, 11, 51, 67⟩) ⟨51, 4, 51, 67⟩) (.nil)⟩
def f7 : Fd := ⟨"read_in", ["code", "elder", "steps", "choices", "count", "word"], 3, .cons (.asg 3 "choices" ⟨53, 4, 53, 11⟩ (.call 5 "choices_of" ⟨53, 14, 53, 24⟩ (.cons (.var 0 "code" ⟨53, 25, 53, 29⟩) (.cons (.var 1 "elder" ⟨53, 31, 53, 36⟩) (.cons (.var 2 "steps" ⟨53, 38, 53, 43⟩) .nil))) ⟨53, 14, 53, 44⟩) ⟨53, 4, 53, 44⟩) (.cons (.retF (.lc (.var 4 "count" ⟨54, 12, 54, 17⟩) (.tp (.cons 4 "count" ⟨54, 22, 54, 27⟩ (.cons 5 "word" ⟨54, 29, 54, 33⟩ .nil)) 0 ⟨54, 22, 54, 33⟩) (.enu ⟨54, 37, 54, 46⟩ (.var 0 "code" ⟨54, 47, 54, 51⟩) ⟨54, 37, 54, 52⟩) (.so (.call 6 "is_among" ⟨54, 56, 54, 64⟩ (.cons (.var 3 "choices" ⟨54, 65, 54, 72⟩) (.cons (.var 5 "word" ⟨54, 74, 54, 78⟩) .nil)) ⟨54, 56, 54, 79⟩)) [("count", 4), ("word", 5)] ⟨.function, [(".0", .local), ("count", .local), ("word", .local), ("is_among", .globalImplicit), ("choices", .free)], false, false, []⟩ ⟨54, 11, 54, 80⟩) ⟨54, 4, 54, 80⟩) (.nil))⟩
def f8 : Fd := ⟨"foreign_in", ["code", "elder", "steps", "window", "count"], 3, .cons (.asg 3 "window" ⟨89, 4, 89, 10⟩ (.call 4 "window_of" ⟨89, 13, 89, 22⟩ (.cons (.var 0 "code" ⟨89, 23, 89, 27⟩) (.cons (.var 1 "elder" ⟨89, 29, 89, 34⟩) (.cons (.var 2 "steps" ⟨89, 36, 89, 41⟩) .nil))) ⟨89, 13, 89, 42⟩) ⟨89, 4, 89, 42⟩) (.cons (.retF (.lc (.var 4 "count" ⟨90, 12, 90, 17⟩) (.nm 4 "count" ⟨90, 22, 90, 27⟩) (.seq (.call 7 "read_in" ⟨90, 31, 90, 38⟩ (.cons (.var 0 "code" ⟨90, 39, 90, 43⟩) (.cons (.var 1 "elder" ⟨90, 45, 90, 50⟩) (.cons (.var 2 "steps" ⟨90, 52, 90, 57⟩) .nil))) ⟨90, 31, 90, 58⟩)) (.so (.cmp .nin (.ex (.var 4 "count" ⟨90, 62, 90, 67⟩)) (.ex (.var 3 "window" ⟨90, 75, 90, 81⟩)) ⟨90, 62, 90, 81⟩)) [("count", 4)] ⟨.function, [(".0", .local), ("count", .local), ("window", .free)], false, false, []⟩ ⟨90, 11, 90, 82⟩) ⟨90, 4, 90, 82⟩) (.nil))⟩
def f9 : Fd := ⟨"is_honest_in", ["code", "steps", "elder"], 2, .cons (.ret (.f1 .all ⟨92, 11, 92, 14⟩ (.ex (.frz (.lc (.cmp .eq (.ex (.call 8 "foreign_in" ⟨92, 16, 92, 26⟩ (.cons (.var 0 "code" ⟨92, 27, 92, 31⟩) (.cons (.var 2 "elder" ⟨92, 33, 92, 38⟩) (.cons (.var 1 "steps" ⟨92, 40, 92, 45⟩) .nil))) ⟨92, 16, 92, 46⟩)) (.ex (.frz (.lst .nil ⟨92, 50, 92, 52⟩))) ⟨92, 16, 92, 52⟩) (.nm 2 "elder" ⟨92, 57, 92, 62⟩) (.rg1 ⟨92, 66, 92, 71⟩ (.f1 .len ⟨92, 72, 92, 75⟩ (.ex (.var 0 "code" ⟨92, 76, 92, 80⟩)) ⟨92, 72, 92, 81⟩) ⟨92, 66, 92, 82⟩) .no [("elder", 2)] ⟨.function, [(".0", .local), ("elder", .local), ("foreign_in", .globalImplicit), ("code", .free), ("steps", .free)], false, false, []⟩ ⟨92, 15, 92, 83⟩))) ⟨92, 11, 92, 84⟩) ⟨92, 4, 92, 84⟩) (.nil)⟩
def f10 : Fd := ⟨"reach", ["code", "found"], 1, .cons (.expr (.call 3 "need_code" ⟨109, 4, 109, 13⟩ (.cons (.var 0 "code" ⟨109, 14, 109, 18⟩) .nil) ⟨109, 4, 109, 19⟩) ⟨109, 4, 109, 19⟩) (.cons (.asg 1 "found" ⟨110, 4, 110, 9⟩ (.int 0 0 ⟨110, 12, 110, 13⟩) ⟨110, 4, 110, 13⟩) (.cons (.whl (.andd (.cons (.cmp .lt (.ex (.var 1 "found" ⟨111, 10, 111, 15⟩)) (.ex (.bin .sub (.f1 .len ⟨111, 18, 111, 21⟩ (.ex (.var 0 "code" ⟨111, 22, 111, 26⟩)) ⟨111, 18, 111, 27⟩) (.int 1 0 ⟨111, 30, 111, 31⟩) ⟨111, 18, 111, 31⟩)) ⟨111, 10, 111, 31⟩) (.cons (.call 9 "is_honest_in" ⟨111, 36, 111, 48⟩ (.cons (.var 0 "code" ⟨111, 49, 111, 53⟩) (.cons (.bin .add (.var 1 "found" ⟨111, 55, 111, 60⟩) (.int 1 0 ⟨111, 63, 111, 64⟩) ⟨111, 55, 111, 64⟩) .nil)) ⟨111, 36, 111, 65⟩) .nil)) ⟨111, 10, 111, 65⟩) (.cons (.aug 1 "found" ⟨112, 8, 112, 13⟩ .add (.int 1 0 ⟨112, 17, 112, 18⟩) ⟨112, 8, 112, 18⟩) (.nil)) ⟨111, 4, 112, 18⟩) (.cons (.ret (.var 1 "found" ⟨113, 11, 113, 16⟩) ⟨113, 4, 113, 16⟩) (.nil))))⟩
def f11 : Fd := ⟨"is_whole", ["thing", "least", "most"], 3, .cons (.iff (.orr (.cons (.nt (.isi ⟨16, 11, 16, 21⟩ (.var 0 "thing" ⟨16, 22, 16, 27⟩) .int ⟨16, 29, 16, 32⟩ ⟨16, 11, 16, 33⟩) ⟨16, 7, 16, 33⟩) (.cons (.isi ⟨16, 37, 16, 47⟩ (.var 0 "thing" ⟨16, 48, 16, 53⟩) .bool ⟨16, 55, 16, 59⟩ ⟨16, 37, 16, 60⟩) (.cons (.cmp .lt (.ex (.var 0 "thing" ⟨16, 64, 16, 69⟩)) (.ex (.var 1 "least" ⟨16, 72, 16, 77⟩)) ⟨16, 64, 16, 77⟩) .nil))) ⟨16, 7, 16, 77⟩) (.cons (.ret (.bl false 0 ⟨17, 15, 17, 20⟩) ⟨17, 8, 17, 20⟩) (.nil)) (.nil) ⟨16, 4, 17, 20⟩) (.cons (.ret (.orr (.cons (.isn false (.var 2 "most" ⟨18, 11, 18, 15⟩) 0 ⟨18, 19, 18, 23⟩ ⟨18, 11, 18, 23⟩) (.cons (.cmp .le (.ex (.var 0 "thing" ⟨18, 27, 18, 32⟩)) (.ex (.var 2 "most" ⟨18, 36, 18, 40⟩)) ⟨18, 27, 18, 40⟩) .nil)) ⟨18, 11, 18, 40⟩) ⟨18, 4, 18, 40⟩) (.nil))⟩
def f12 : Fd := ⟨"need_count", ["code", "number"], 2, .cons (.iff (.nt (.call 11 "is_whole" ⟨32, 11, 32, 19⟩ (.cons (.var 1 "number" ⟨32, 20, 32, 26⟩) (.cons (.int 0 0 ⟨32, 28, 32, 29⟩) (.cons (.bin .sub (.f1 .len ⟨32, 31, 32, 34⟩ (.ex (.var 0 "code" ⟨32, 35, 32, 39⟩)) ⟨32, 31, 32, 40⟩) (.int 1 0 ⟨32, 43, 32, 44⟩) ⟨32, 31, 32, 44⟩) .nil))) ⟨32, 11, 32, 45⟩) ⟨32, 7, 32, 45⟩) (.cons (.rai 1 "OutOfPlace" ⟨33, 14, 33, 24⟩ (.str "no count" 0 ⟨33, 25, 33, 35⟩) ⟨33, 14, 33, 36⟩ ⟨33, 8, 33, 36⟩) (.nil)) (.nil) ⟨32, 4, 33, 36⟩) (.nil)⟩
def f13 : Fd := ⟨"code_word", ["code", "number"], 2, .cons (.expr (.call 12 "need_count" ⟨35, 4, 35, 14⟩ (.cons (.call 3 "need_code" ⟨35, 15, 35, 24⟩ (.cons (.var 0 "code" ⟨35, 25, 35, 29⟩) .nil) ⟨35, 15, 35, 30⟩) (.cons (.var 1 "number" ⟨35, 32, 35, 38⟩) .nil)) ⟨35, 4, 35, 39⟩) ⟨35, 4, 35, 39⟩) (.cons (.ret (.idx (.ex (.var 0 "code" ⟨36, 11, 36, 15⟩)) (.var 1 "number" ⟨36, 16, 36, 22⟩) ⟨36, 11, 36, 23⟩) ⟨36, 4, 36, 23⟩) (.nil))⟩
def f14 : Fd := ⟨"count_of", ["code", "word"], 2, .cons (.expr (.call 3 "need_code" ⟨38, 4, 38, 13⟩ (.cons (.var 0 "code" ⟨38, 14, 38, 18⟩) .nil) ⟨38, 4, 38, 19⟩) ⟨38, 4, 38, 19⟩) (.cons (.iff (.nt (.isi ⟨39, 11, 39, 21⟩ (.var 1 "word" ⟨39, 22, 39, 26⟩) .str ⟨39, 28, 39, 31⟩ ⟨39, 11, 39, 32⟩) ⟨39, 7, 39, 32⟩) (.cons (.rai 1 "OutOfPlace" ⟨40, 14, 40, 24⟩ (.str "no string" 0 ⟨40, 25, 40, 36⟩) ⟨40, 14, 40, 37⟩ ⟨40, 8, 40, 37⟩) (.nil)) (.nil) ⟨39, 4, 40, 37⟩) (.cons (.never (atS (dB 12) [] 2)) (.nil)))⟩
def f15 : Fd := ⟨"need_steps", ["code", "steps"], 2, .cons (.iff (.nt (.call 11 "is_whole" ⟨59, 11, 59, 19⟩ (.cons (.var 1 "steps" ⟨59, 20, 59, 25⟩) (.cons (.int 0 0 ⟨59, 27, 59, 28⟩) (.cons (.bin .sub (.f1 .len ⟨59, 30, 59, 33⟩ (.ex (.var 0 "code" ⟨59, 34, 59, 38⟩)) ⟨59, 30, 59, 39⟩) (.int 1 0 ⟨59, 42, 59, 43⟩) ⟨59, 30, 59, 43⟩) .nil))) ⟨59, 11, 59, 44⟩) ⟨59, 7, 59, 44⟩) (.cons (.rai 1 "OutOfPlace" ⟨60, 14, 60, 24⟩ (.str "no number of steps" 0 ⟨60, 25, 60, 45⟩) ⟨60, 14, 60, 46⟩ ⟨60, 8, 60, 46⟩) (.nil)) (.nil) ⟨59, 4, 60, 46⟩) (.nil)⟩
def f16 : Fd := ⟨"need_window", ["code", "elder", "steps"], 3, .cons (.expr (.call 12 "need_count" ⟨56, 4, 56, 14⟩ (.cons (.call 3 "need_code" ⟨56, 15, 56, 24⟩ (.cons (.var 0 "code" ⟨56, 25, 56, 29⟩) .nil) ⟨56, 15, 56, 30⟩) (.cons (.var 1 "elder" ⟨56, 32, 56, 37⟩) .nil)) ⟨56, 4, 56, 38⟩) ⟨56, 4, 56, 38⟩) (.cons (.expr (.call 15 "need_steps" ⟨57, 4, 57, 14⟩ (.cons (.var 0 "code" ⟨57, 15, 57, 19⟩) (.cons (.var 2 "steps" ⟨57, 21, 57, 26⟩) .nil)) ⟨57, 4, 57, 27⟩) ⟨57, 4, 57, 27⟩) (.nil))⟩
def f17 : Fd := ⟨"may_read", ["code", "elder", "steps"], 3, .cons (.expr (.call 16 "need_window" ⟨62, 4, 62, 15⟩ (.cons (.var 0 "code" ⟨62, 16, 62, 20⟩) (.cons (.var 1 "elder" ⟨62, 22, 62, 27⟩) (.cons (.var 2 "steps" ⟨62, 29, 62, 34⟩) .nil))) ⟨62, 4, 62, 35⟩) ⟨62, 4, 62, 35⟩) (.cons (.ret (.f1 .tuple ⟨63, 11, 63, 16⟩ (.ex (.call 7 "read_in" ⟨63, 17, 63, 24⟩ (.cons (.var 0 "code" ⟨63, 25, 63, 29⟩) (.cons (.var 1 "elder" ⟨63, 31, 63, 36⟩) (.cons (.var 2 "steps" ⟨63, 38, 63, 43⟩) .nil))) ⟨63, 17, 63, 44⟩)) ⟨63, 11, 63, 45⟩) ⟨63, 4, 63, 45⟩) (.nil))⟩
def f18 : Fd := ⟨"mixes_in", ["code", "elder", "steps", "found", "some"], 3, .cons (.asg 3 "found" ⟨65, 4, 65, 9⟩ (.int 1 0 ⟨65, 12, 65, 13⟩) ⟨65, 4, 65, 13⟩) (.cons (.forr (.nm 4 "some" ⟨66, 8, 66, 12⟩) (.seq (.call 5 "choices_of" ⟨66, 16, 66, 26⟩ (.cons (.var 0 "code" ⟨66, 27, 66, 31⟩) (.cons (.var 1 "elder" ⟨66, 33, 66, 38⟩) (.cons (.var 2 "steps" ⟨66, 40, 66, 45⟩) .nil))) ⟨66, 16, 66, 46⟩)) (.cons (.aug 3 "found" ⟨67, 8, 67, 13⟩ .mul (.f1 .len ⟨67, 17, 67, 20⟩ (.ex (.var 4 "some" ⟨67, 21, 67, 25⟩)) ⟨67, 17, 67, 26⟩) ⟨67, 8, 67, 26⟩) (.nil)) ⟨66, 4, 67, 26⟩) (.cons (.ret (.var 3 "found" ⟨68, 11, 68, 16⟩) ⟨68, 4, 68, 16⟩) (.nil)))⟩
def f19 : Fd := ⟨"many_mixes", ["code", "elder", "steps"], 3, .cons (.expr (.call 16 "need_window" ⟨70, 4, 70, 15⟩ (.cons (.var 0 "code" ⟨70, 16, 70, 20⟩) (.cons (.var 1 "elder" ⟨70, 22, 70, 27⟩) (.cons (.var 2 "steps" ⟨70, 29, 70, 34⟩) .nil))) ⟨70, 4, 70, 35⟩) ⟨70, 4, 70, 35⟩) (.cons (.ret (.call 18 "mixes_in" ⟨71, 11, 71, 19⟩ (.cons (.var 0 "code" ⟨71, 20, 71, 24⟩) (.cons (.var 1 "elder" ⟨71, 26, 71, 31⟩) (.cons (.var 2 "steps" ⟨71, 33, 71, 38⟩) .nil))) ⟨71, 11, 71, 39⟩) ⟨71, 4, 71, 39⟩) (.nil))⟩
def f20 : Fd := ⟨"first_wild", ["code", "elder", "steps", "choices", "found", "left", "some", "place", "signs", "sign", "rest", "count", "word"], 3, .cons (.expr (.call 16 "need_window" ⟨73, 4, 73, 15⟩ (.cons (.var 0 "code" ⟨73, 16, 73, 20⟩) (.cons (.var 1 "elder" ⟨73, 22, 73, 27⟩) (.cons (.var 2 "steps" ⟨73, 29, 73, 34⟩) .nil))) ⟨73, 4, 73, 35⟩) ⟨73, 4, 73, 35⟩) (.cons (.par 3 "choices" ⟨74, 4, 74, 11⟩ 4 "found" ⟨74, 13, 74, 18⟩ (.ex (.call 5 "choices_of" ⟨74, 22, 74, 32⟩ (.cons (.var 0 "code" ⟨74, 33, 74, 37⟩) (.cons (.var 1 "elder" ⟨74, 39, 74, 44⟩) (.cons (.var 2 "steps" ⟨74, 46, 74, 51⟩) .nil))) ⟨74, 22, 74, 52⟩)) (.ex (.str "" 0 ⟨74, 54, 74, 56⟩)) 0 ⟨74, 4, 74, 18⟩ 0 ⟨74, 21, 74, 57⟩ ⟨74, 4, 74, 57⟩) (.cons (.asg 5 "left" ⟨75, 4, 75, 8⟩ (.call 18 "mixes_in" ⟨75, 11, 75, 19⟩ (.cons (.var 0 "code" ⟨75, 20, 75, 24⟩) (.cons (.var 1 "elder" ⟨75, 26, 75, 31⟩) (.cons (.var 2 "steps" ⟨75, 33, 75, 38⟩) .nil))) ⟨75, 11, 75, 39⟩) ⟨75, 4, 75, 39⟩) (.cons (.asgF 6 "some" ⟨76, 4, 76, 8⟩ (.lc (.idx (.ex (.var 0 "code" ⟨76, 12, 76, 16⟩)) (.var 11 "count" ⟨76, 17, 76, 22⟩) ⟨76, 12, 76, 23⟩) (.nm 11 "count" ⟨76, 28, 76, 33⟩) (.seq (.call 7 "read_in" ⟨76, 37, 76, 44⟩ (.cons (.var 0 "code" ⟨76, 45, 76, 49⟩) (.cons (.var 1 "elder" ⟨76, 51, 76, 56⟩) (.cons (.var 2 "steps" ⟨76, 58, 76, 63⟩) .nil))) ⟨76, 37, 76, 64⟩)) .no [("count", 11)] ⟨.function, [(".0", .local), ("count", .local), ("code", .free)], false, false, []⟩ ⟨76, 11, 76, 65⟩) ⟨76, 4, 76, 65⟩) (.frz 6 (.cons (.iff (.cmp .eq (.ex (.f1 .len ⟨77, 7, 77, 10⟩ (.ex (.var 6 "some" ⟨77, 11, 77, 15⟩)) ⟨77, 7, 77, 16⟩)) (.ex (.var 5 "left" ⟨77, 20, 77, 24⟩)) ⟨77, 7, 77, 24⟩) (.cons (.ret (.non 0 ⟨78, 15, 78, 19⟩) ⟨78, 8, 78, 19⟩) (.nil)) (.nil) ⟨77, 4, 78, 19⟩) (.cons (.forr (.tp (.cons 7 "place" ⟨79, 8, 79, 13⟩ (.cons 8 "signs" ⟨79, 15, 79, 20⟩ .nil)) 0 ⟨79, 8, 79, 20⟩) (.enu ⟨79, 24, 79, 33⟩ (.var 3 "choices" ⟨79, 34, 79, 41⟩) ⟨79, 24, 79, 42⟩) (.cons (.aug 5 "left" ⟨80, 8, 80, 12⟩ .div (.f1 .len ⟨80, 17, 80, 20⟩ (.ex (.var 8 "signs" ⟨80, 21, 80, 26⟩)) ⟨80, 17, 80, 27⟩) ⟨80, 8, 80, 27⟩) (.cons (.forr (.nm 9 "sign" ⟨81, 12, 81, 16⟩) (.seq (.var 8 "signs" ⟨81, 20, 81, 25⟩)) (.cons (.asgF 10 "rest" ⟨82, 12, 82, 16⟩ (.lc (.var 12 "word" ⟨82, 20, 82, 24⟩) (.nm 12 "word" ⟨82, 29, 82, 33⟩) (.seq (.var 6 "some" ⟨82, 37, 82, 41⟩)) (.so (.cmp .eq (.ex (.idx (.ex (.var 12 "word" ⟨82, 45, 82, 49⟩)) (.var 7 "place" ⟨82, 50, 82, 55⟩) ⟨82, 45, 82, 56⟩)) (.ex (.var 9 "sign" ⟨82, 60, 82, 64⟩)) ⟨82, 45, 82, 64⟩)) [("word", 12)] ⟨.function, [(".0", .local), ("word", .local), ("place", .free), ("sign", .free)], false, false, []⟩ ⟨82, 19, 82, 65⟩) ⟨82, 12, 82, 65⟩) (.frz 10 (.cons (.iff (.cmp .lt (.ex (.f1 .len ⟨83, 15, 83, 18⟩ (.ex (.var 10 "rest" ⟨83, 19, 83, 23⟩)) ⟨83, 15, 83, 24⟩)) (.ex (.var 5 "left" ⟨83, 27, 83, 31⟩)) ⟨83, 15, 83, 31⟩) (.cons (.par 4 "found" ⟨84, 16, 84, 21⟩ 6 "some" ⟨84, 23, 84, 27⟩ (.ex (.bin .add (.var 4 "found" ⟨84, 31, 84, 36⟩) (.var 9 "sign" ⟨84, 39, 84, 43⟩) ⟨84, 31, 84, 43⟩)) (.ex (.var 10 "rest" ⟨84, 45, 84, 49⟩)) 0 ⟨84, 16, 84, 27⟩ 0 ⟨84, 30, 84, 50⟩ ⟨84, 16, 84, 50⟩) (.cons (.brk ⟨85, 16, 85, 21⟩) (.nil))) (.nil) ⟨83, 12, 85, 21⟩) (.nil)))) ⟨81, 8, 85, 21⟩) (.nil))) ⟨79, 4, 85, 21⟩) (.cons (.ret (.var 4 "found" ⟨86, 11, 86, 16⟩) ⟨86, 4, 86, 16⟩) (.nil))))))))⟩
def f21 : Fd := ⟨"_law_outcome", ["_law_way", "_law_one", "_law_more", "_law_steps", "_law_found", "e"], 4, .cons (.asg 4 "_law_found" ⟨156, 4, 156, 14⟩ (.non 0 ⟨156, 17, 156, 21⟩) ⟨156, 4, 156, 21⟩) (.cons (.tr (.cons (.iff (.cmp .eq (.ex (.var 0 "_law_way" ⟨158, 11, 158, 19⟩)) (.ex (.int 0 0 ⟨158, 23, 158, 24⟩)) ⟨158, 11, 158, 24⟩) (.cons (.expr (.call 3 "need_code" ⟨159, 12, 159, 21⟩ (.cons (.var 1 "_law_one" ⟨159, 22, 159, 30⟩) .nil) ⟨159, 12, 159, 31⟩) ⟨159, 12, 159, 31⟩) (.nil)) (.cons (.iff (.cmp .eq (.ex (.var 0 "_law_way" ⟨160, 13, 160, 21⟩)) (.ex (.int 1 0 ⟨160, 25, 160, 26⟩)) ⟨160, 13, 160, 26⟩) (.cons (.expr (.call 10 "reach" ⟨161, 12, 161, 17⟩ (.cons (.var 1 "_law_one" ⟨161, 18, 161, 26⟩) .nil) ⟨161, 12, 161, 27⟩) ⟨161, 12, 161, 27⟩) (.nil)) (.cons (.iff (.cmp .eq (.ex (.var 0 "_law_way" ⟨162, 13, 162, 21⟩)) (.ex (.int 2 0 ⟨162, 25, 162, 26⟩)) ⟨162, 13, 162, 26⟩) (.cons (.expr (.call 13 "code_word" ⟨163, 12, 163, 21⟩ (.cons (.var 1 "_law_one" ⟨163, 22, 163, 30⟩) (.cons (.var 2 "_law_more" ⟨163, 32, 163, 41⟩) .nil)) ⟨163, 12, 163, 42⟩) ⟨163, 12, 163, 42⟩) (.nil)) (.cons (.iff (.cmp .eq (.ex (.var 0 "_law_way" ⟨164, 13, 164, 21⟩)) (.ex (.int 3 0 ⟨164, 25, 164, 26⟩)) ⟨164, 13, 164, 26⟩) (.cons (.expr (.call 14 "count_of" ⟨165, 12, 165, 20⟩ (.cons (.var 1 "_law_one" ⟨165, 21, 165, 29⟩) (.cons (.var 2 "_law_more" ⟨165, 31, 165, 40⟩) .nil)) ⟨165, 12, 165, 41⟩) ⟨165, 12, 165, 41⟩) (.nil)) (.cons (.iff (.cmp .eq (.ex (.var 0 "_law_way" ⟨166, 13, 166, 21⟩)) (.ex (.int 4 0 ⟨166, 25, 166, 26⟩)) ⟨166, 13, 166, 26⟩) (.cons (.expr (.call 17 "may_read" ⟨167, 12, 167, 20⟩ (.cons (.var 1 "_law_one" ⟨167, 21, 167, 29⟩) (.cons (.var 2 "_law_more" ⟨167, 31, 167, 40⟩) (.cons (.var 3 "_law_steps" ⟨167, 42, 167, 52⟩) .nil))) ⟨167, 12, 167, 53⟩) ⟨167, 12, 167, 53⟩) (.nil)) (.cons (.iff (.cmp .eq (.ex (.var 0 "_law_way" ⟨168, 13, 168, 21⟩)) (.ex (.int 5 0 ⟨168, 25, 168, 26⟩)) ⟨168, 13, 168, 26⟩) (.cons (.expr (.call 19 "many_mixes" ⟨169, 12, 169, 22⟩ (.cons (.var 1 "_law_one" ⟨169, 23, 169, 31⟩) (.cons (.var 2 "_law_more" ⟨169, 33, 169, 42⟩) (.cons (.var 3 "_law_steps" ⟨169, 44, 169, 54⟩) .nil))) ⟨169, 12, 169, 55⟩) ⟨169, 12, 169, 55⟩) (.nil)) (.cons (.expr (.call 20 "first_wild" ⟨171, 12, 171, 22⟩ (.cons (.var 1 "_law_one" ⟨171, 23, 171, 31⟩) (.cons (.var 2 "_law_more" ⟨171, 33, 171, 42⟩) (.cons (.var 3 "_law_steps" ⟨171, 44, 171, 54⟩) .nil))) ⟨171, 12, 171, 55⟩) ⟨171, 12, 171, 55⟩) (.nil)) ⟨168, 8, 171, 55⟩) (.nil)) ⟨166, 8, 171, 55⟩) (.nil)) ⟨164, 8, 171, 55⟩) (.nil)) ⟨162, 8, 171, 55⟩) (.nil)) ⟨160, 8, 171, 55⟩) (.nil)) ⟨158, 8, 171, 55⟩) (.nil)) (.cons 0 "BadCode" ⟨172, 11, 172, 18⟩ (.fld 5 "e" 4 "_law_found" ⟨173, 8, 173, 18⟩ "part" ⟨173, 21, 173, 22⟩ ⟨173, 21, 173, 27⟩ ⟨173, 8, 173, 27⟩) ⟨172, 4, 173, 27⟩ (.cons 1 "OutOfPlace" ⟨174, 11, 174, 21⟩ (.put 4 "_law_found" ⟨175, 8, 175, 18⟩ "place" 0 ⟨175, 21, 175, 28⟩ ⟨175, 8, 175, 28⟩) ⟨174, 4, 175, 28⟩ (.nil))) ⟨157, 4, 175, 28⟩) (.cons (.ret (.var 4 "_law_found" ⟨176, 11, 176, 21⟩) ⟨176, 4, 176, 21⟩) (.nil)))⟩
def f22 : Fd := ⟨"is_honest", ["code", "steps"], 2, .cons (.expr (.call 15 "need_steps" ⟨94, 4, 94, 14⟩ (.cons (.call 3 "need_code" ⟨94, 15, 94, 24⟩ (.cons (.var 0 "code" ⟨94, 25, 94, 29⟩) .nil) ⟨94, 15, 94, 30⟩) (.cons (.var 1 "steps" ⟨94, 32, 94, 37⟩) .nil)) ⟨94, 4, 94, 38⟩) ⟨94, 4, 94, 38⟩) (.cons (.ret (.call 9 "is_honest_in" ⟨95, 11, 95, 23⟩ (.cons (.var 0 "code" ⟨95, 24, 95, 28⟩) (.cons (.var 1 "steps" ⟨95, 30, 95, 35⟩) .nil)) ⟨95, 11, 95, 36⟩) ⟨95, 4, 95, 36⟩) (.nil))⟩
def f23 : Fd := ⟨"is_true", ["code", "steps", "elder"], 2, .cons (.expr (.call 15 "need_steps" ⟨97, 4, 97, 14⟩ (.cons (.call 3 "need_code" ⟨97, 15, 97, 24⟩ (.cons (.var 0 "code" ⟨97, 25, 97, 29⟩) .nil) ⟨97, 15, 97, 30⟩) (.cons (.var 1 "steps" ⟨97, 32, 97, 37⟩) .nil)) ⟨97, 4, 97, 38⟩) ⟨97, 4, 97, 38⟩) (.cons (.iff (.nt (.call 9 "is_honest_in" ⟨98, 11, 98, 23⟩ (.cons (.var 0 "code" ⟨98, 24, 98, 28⟩) (.cons (.var 1 "steps" ⟨98, 30, 98, 35⟩) .nil)) ⟨98, 11, 98, 36⟩) ⟨98, 7, 98, 36⟩) (.cons (.ret (.bl false 0 ⟨99, 15, 99, 20⟩) ⟨99, 8, 99, 20⟩) (.nil)) (.nil) ⟨98, 4, 99, 20⟩) (.cons (.ret (.f1 .all ⟨100, 11, 100, 14⟩ (.ex (.frz (.lc (.cmp .eq (.ex (.call 18 "mixes_in" ⟨100, 16, 100, 24⟩ (.cons (.var 0 "code" ⟨100, 25, 100, 29⟩) (.cons (.var 2 "elder" ⟨100, 31, 100, 36⟩) (.cons (.var 1 "steps" ⟨100, 38, 100, 43⟩) .nil))) ⟨100, 16, 100, 44⟩)) (.ex (.f1 .len ⟨100, 48, 100, 51⟩ (.ex (.call 7 "read_in" ⟨100, 52, 100, 59⟩ (.cons (.var 0 "code" ⟨100, 60, 100, 64⟩) (.cons (.var 2 "elder" ⟨100, 66, 100, 71⟩) (.cons (.var 1 "steps" ⟨100, 73, 100, 78⟩) .nil))) ⟨100, 52, 100, 79⟩)) ⟨100, 48, 100, 80⟩)) ⟨100, 16, 100, 80⟩) (.nm 2 "elder" ⟨100, 85, 100, 90⟩) (.rg1 ⟨100, 94, 100, 99⟩ (.f1 .len ⟨100, 100, 100, 103⟩ (.ex (.var 0 "code" ⟨100, 104, 100, 108⟩)) ⟨100, 100, 100, 109⟩) ⟨100, 94, 100, 110⟩) .no [("elder", 2)] ⟨.function, [(".0", .local), ("elder", .local), ("mixes_in", .globalImplicit), ("len", .globalImplicit), ("read_in", .globalImplicit), ("code", .free), ("steps", .free)], false, false, []⟩ ⟨100, 15, 100, 111⟩))) ⟨100, 11, 100, 112⟩) ⟨100, 4, 100, 112⟩) (.nil)))⟩
def f24 : Fd := ⟨"foreign", ["code", "steps", "elder", "some"], 2, .cons (.expr (.call 15 "need_steps" ⟨102, 4, 102, 14⟩ (.cons (.call 3 "need_code" ⟨102, 15, 102, 24⟩ (.cons (.var 0 "code" ⟨102, 25, 102, 29⟩) .nil) ⟨102, 15, 102, 30⟩) (.cons (.var 1 "steps" ⟨102, 32, 102, 37⟩) .nil)) ⟨102, 4, 102, 38⟩) ⟨102, 4, 102, 38⟩) (.cons (.forr (.nm 2 "elder" ⟨103, 8, 103, 13⟩) (.rg1 ⟨103, 17, 103, 22⟩ (.f1 .len ⟨103, 23, 103, 26⟩ (.ex (.var 0 "code" ⟨103, 27, 103, 31⟩)) ⟨103, 23, 103, 32⟩) ⟨103, 17, 103, 33⟩) (.cons (.asg 3 "some" ⟨104, 8, 104, 12⟩ (.call 8 "foreign_in" ⟨104, 15, 104, 25⟩ (.cons (.var 0 "code" ⟨104, 26, 104, 30⟩) (.cons (.var 2 "elder" ⟨104, 32, 104, 37⟩) (.cons (.var 1 "steps" ⟨104, 39, 104, 44⟩) .nil))) ⟨104, 15, 104, 45⟩) ⟨104, 8, 104, 45⟩) (.cons (.iff (.cmp .ne (.ex (.var 3 "some" ⟨105, 11, 105, 15⟩)) (.ex (.frz (.lst .nil ⟨105, 19, 105, 21⟩))) ⟨105, 11, 105, 21⟩) (.cons (.ret (.tup (.cons (.var 2 "elder" ⟨106, 20, 106, 25⟩) (.cons (.idx (.ex (.var 3 "some" ⟨106, 27, 106, 31⟩)) (.int 0 0 ⟨106, 32, 106, 33⟩) ⟨106, 27, 106, 34⟩) .nil)) 0 ⟨106, 19, 106, 35⟩) ⟨106, 12, 106, 35⟩) (.nil)) (.nil) ⟨105, 8, 106, 35⟩) (.nil))) ⟨103, 4, 106, 35⟩) (.cons (.ret (.non 0 ⟨107, 11, 107, 15⟩) ⟨107, 4, 107, 15⟩) (.nil)))⟩
def f25 : Fd := ⟨"off_by", ["code", "elder", "steps", "count", "ahead", "behind"], 4, .cons (.par 4 "ahead" ⟨115, 4, 115, 9⟩ 5 "behind" ⟨115, 11, 115, 17⟩ (.ex (.bin .mod (.f1 .int ⟨115, 21, 115, 24⟩ (.ex (.bin .sub (.var 1 "elder" ⟨115, 25, 115, 30⟩) (.var 3 "count" ⟨115, 33, 115, 38⟩) ⟨115, 25, 115, 38⟩)) ⟨115, 21, 115, 39⟩) (.f1 .len ⟨115, 42, 115, 45⟩ (.ex (.var 0 "code" ⟨115, 46, 115, 50⟩)) ⟨115, 42, 115, 51⟩) ⟨115, 21, 115, 51⟩)) (.ex (.bin .mod (.f1 .int ⟨115, 53, 115, 56⟩ (.ex (.bin .sub (.bin .sub (.var 3 "count" ⟨115, 57, 115, 62⟩) (.var 1 "elder" ⟨115, 65, 115, 70⟩) ⟨115, 57, 115, 70⟩) (.var 2 "steps" ⟨115, 73, 115, 78⟩) ⟨115, 57, 115, 78⟩)) ⟨115, 53, 115, 79⟩) (.f1 .len ⟨115, 82, 115, 85⟩ (.ex (.var 0 "code" ⟨115, 86, 115, 90⟩)) ⟨115, 82, 115, 91⟩) ⟨115, 53, 115, 91⟩)) 0 ⟨115, 4, 115, 17⟩ 0 ⟨115, 20, 115, 92⟩ ⟨115, 4, 115, 92⟩) (.cons (.ret (.f2 .min ⟨116, 11, 116, 14⟩ (.var 4 "ahead" ⟨116, 15, 116, 20⟩) (.var 5 "behind" ⟨116, 22, 116, 28⟩) ⟨116, 11, 116, 29⟩) ⟨116, 4, 116, 29⟩) (.nil))⟩
def f26 : Fd := ⟨"error", ["code", "steps", "found", "elder", "count"], 2, .cons (.expr (.call 15 "need_steps" ⟨118, 4, 118, 14⟩ (.cons (.call 3 "need_code" ⟨118, 15, 118, 24⟩ (.cons (.var 0 "code" ⟨118, 25, 118, 29⟩) .nil) ⟨118, 15, 118, 30⟩) (.cons (.var 1 "steps" ⟨118, 32, 118, 37⟩) .nil)) ⟨118, 4, 118, 38⟩) ⟨118, 4, 118, 38⟩) (.cons (.asg 2 "found" ⟨119, 4, 119, 9⟩ (.int 0 0 ⟨119, 12, 119, 13⟩) ⟨119, 4, 119, 13⟩) (.cons (.forr (.nm 3 "elder" ⟨120, 8, 120, 13⟩) (.rg1 ⟨120, 17, 120, 22⟩ (.f1 .len ⟨120, 23, 120, 26⟩ (.ex (.var 0 "code" ⟨120, 27, 120, 31⟩)) ⟨120, 23, 120, 32⟩) ⟨120, 17, 120, 33⟩) (.cons (.asg 2 "found" ⟨121, 8, 121, 13⟩ (.f1 .max ⟨121, 16, 121, 19⟩ (.ex (.frz (.cat (.ex (.frz (.lst (.cons (.var 2 "found" ⟨121, 21, 121, 26⟩) .nil) ⟨121, 20, 121, 27⟩))) (.ex (.frz (.lc (.call 25 "off_by" ⟨121, 31, 121, 37⟩ (.cons (.var 0 "code" ⟨121, 38, 121, 42⟩) (.cons (.var 3 "elder" ⟨121, 44, 121, 49⟩) (.cons (.var 1 "steps" ⟨121, 51, 121, 56⟩) (.cons (.var 4 "count" ⟨121, 58, 121, 63⟩) .nil)))) ⟨121, 31, 121, 64⟩) (.nm 4 "count" ⟨121, 69, 121, 74⟩) (.seq (.call 8 "foreign_in" ⟨121, 78, 121, 88⟩ (.cons (.var 0 "code" ⟨121, 89, 121, 93⟩) (.cons (.var 3 "elder" ⟨121, 95, 121, 100⟩) (.cons (.var 1 "steps" ⟨121, 102, 121, 107⟩) .nil))) ⟨121, 78, 121, 108⟩)) .no [("count", 4)] ⟨.function, [(".0", .local), ("count", .local), ("off_by", .globalImplicit), ("code", .free), ("elder", .free), ("steps", .free)], false, false, []⟩ ⟨121, 30, 121, 109⟩))) ⟨121, 20, 121, 109⟩))) ⟨121, 16, 121, 110⟩) ⟨121, 8, 121, 110⟩) (.nil)) ⟨120, 4, 121, 110⟩) (.cons (.ret (.var 2 "found" ⟨122, 11, 122, 16⟩) ⟨122, 4, 122, 16⟩) (.nil))))⟩
def f27 : Fd := ⟨"_law_step_outcome", ["_law_way", "_law_one", "_law_steps", "_law_found", "e"], 3, .cons (.asg 3 "_law_found" ⟨178, 4, 178, 14⟩ (.non 0 ⟨178, 17, 178, 21⟩) ⟨178, 4, 178, 21⟩) (.cons (.tr (.cons (.iff (.cmp .eq (.ex (.var 0 "_law_way" ⟨180, 11, 180, 19⟩)) (.ex (.int 0 0 ⟨180, 23, 180, 24⟩)) ⟨180, 11, 180, 24⟩) (.cons (.expr (.call 22 "is_honest" ⟨181, 12, 181, 21⟩ (.cons (.var 1 "_law_one" ⟨181, 22, 181, 30⟩) (.cons (.var 2 "_law_steps" ⟨181, 32, 181, 42⟩) .nil)) ⟨181, 12, 181, 43⟩) ⟨181, 12, 181, 43⟩) (.nil)) (.cons (.iff (.cmp .eq (.ex (.var 0 "_law_way" ⟨182, 13, 182, 21⟩)) (.ex (.int 1 0 ⟨182, 25, 182, 26⟩)) ⟨182, 13, 182, 26⟩) (.cons (.expr (.call 23 "is_true" ⟨183, 12, 183, 19⟩ (.cons (.var 1 "_law_one" ⟨183, 20, 183, 28⟩) (.cons (.var 2 "_law_steps" ⟨183, 30, 183, 40⟩) .nil)) ⟨183, 12, 183, 41⟩) ⟨183, 12, 183, 41⟩) (.nil)) (.cons (.iff (.cmp .eq (.ex (.var 0 "_law_way" ⟨184, 13, 184, 21⟩)) (.ex (.int 2 0 ⟨184, 25, 184, 26⟩)) ⟨184, 13, 184, 26⟩) (.cons (.expr (.call 24 "foreign" ⟨185, 12, 185, 19⟩ (.cons (.var 1 "_law_one" ⟨185, 20, 185, 28⟩) (.cons (.var 2 "_law_steps" ⟨185, 30, 185, 40⟩) .nil)) ⟨185, 12, 185, 41⟩) ⟨185, 12, 185, 41⟩) (.nil)) (.cons (.expr (.call 26 "error" ⟨187, 12, 187, 17⟩ (.cons (.var 1 "_law_one" ⟨187, 18, 187, 26⟩) (.cons (.var 2 "_law_steps" ⟨187, 28, 187, 38⟩) .nil)) ⟨187, 12, 187, 39⟩) ⟨187, 12, 187, 39⟩) (.nil)) ⟨184, 8, 187, 39⟩) (.nil)) ⟨182, 8, 187, 39⟩) (.nil)) ⟨180, 8, 187, 39⟩) (.nil)) (.cons 0 "BadCode" ⟨188, 11, 188, 18⟩ (.fld 4 "e" 3 "_law_found" ⟨189, 8, 189, 18⟩ "part" ⟨189, 21, 189, 22⟩ ⟨189, 21, 189, 27⟩ ⟨189, 8, 189, 27⟩) ⟨188, 4, 189, 27⟩ (.cons 1 "OutOfPlace" ⟨190, 11, 190, 21⟩ (.put 3 "_law_found" ⟨191, 8, 191, 18⟩ "place" 0 ⟨191, 21, 191, 28⟩ ⟨191, 8, 191, 28⟩) ⟨190, 4, 191, 28⟩ (.nil))) ⟨179, 4, 191, 28⟩) (.cons (.ret (.var 3 "_law_found" ⟨192, 11, 192, 21⟩) ⟨192, 4, 192, 21⟩) (.nil)))⟩
def f28 : Fd := ⟨"_law_codes_right", ["_law_one", "_law_odds", "_law_odd", "_law_part", "_law_way"], 1, .cons (.asg 1 "_law_odds" ⟨194, 4, 194, 13⟩ (.frz (.lst (.cons (.tup (.cons (.non 0 ⟨194, 18, 194, 22⟩) (.cons (.str "form" 0 ⟨194, 24, 194, 30⟩) .nil)) 0 ⟨194, 17, 194, 31⟩) (.cons (.tup (.cons (.tup .nil 0 ⟨194, 34, 194, 36⟩) (.cons (.str "form" 0 ⟨194, 38, 194, 44⟩) .nil)) 0 ⟨194, 33, 194, 45⟩) (.cons (.tup (.cons (.slc (.ex (.var 0 "_law_one" ⟨194, 48, 194, 56⟩)) .no (.so (.int 1 0 ⟨194, 58, 194, 59⟩)) ⟨194, 57, 194, 59⟩ ⟨194, 48, 194, 60⟩) (.cons (.str "form" 0 ⟨194, 62, 194, 68⟩) .nil)) 0 ⟨194, 47, 194, 69⟩) (.cons (.tup (.cons (.frz (.lof ⟨194, 72, 194, 76⟩ (.ex (.var 0 "_law_one" ⟨194, 77, 194, 85⟩)) ⟨194, 72, 194, 86⟩)) (.cons (.str "form" 0 ⟨194, 88, 194, 94⟩) .nil)) 0 ⟨194, 71, 194, 95⟩) (.cons (.tup (.cons (.bin .mul (.tup (.cons (.str "0" 0 ⟨194, 99, 194, 102⟩) .nil) 0 ⟨194, 98, 194, 104⟩) (.int 65 0 ⟨194, 107, 194, 109⟩) ⟨194, 98, 194, 109⟩) (.cons (.str "form" 0 ⟨194, 111, 194, 117⟩) .nil)) 0 ⟨194, 97, 194, 118⟩) (.cons (.tup (.cons (.int 5 0 ⟨194, 121, 194, 122⟩) (.cons (.str "form" 0 ⟨194, 124, 194, 130⟩) .nil)) 0 ⟨194, 120, 194, 131⟩) .nil)))))) ⟨194, 16, 194, 132⟩)) ⟨194, 4, 194, 132⟩) (.cons (.asg 1 "_law_odds" ⟨195, 4, 195, 13⟩ (.frz (.cat (.ex (.var 1 "_law_odds" ⟨195, 16, 195, 25⟩)) (.ex (.frz (.lst (.cons (.tup (.cons (.bin .add (.var 0 "_law_one" ⟨195, 30, 195, 38⟩) (.tup (.cons (.non 0 ⟨195, 42, 195, 46⟩) .nil) 0 ⟨195, 41, 195, 48⟩) ⟨195, 30, 195, 48⟩) (.cons (.str "word" 0 ⟨195, 50, 195, 56⟩) .nil)) 0 ⟨195, 29, 195, 57⟩) (.cons (.tup (.cons (.bin .add (.tup (.cons (.str "" 0 ⟨195, 61, 195, 63⟩) .nil) 0 ⟨195, 60, 195, 65⟩) (.var 0 "_law_one" ⟨195, 68, 195, 76⟩) ⟨195, 60, 195, 76⟩) (.cons (.str "word" 0 ⟨195, 78, 195, 84⟩) .nil)) 0 ⟨195, 59, 195, 85⟩) (.cons (.tup (.cons (.bin .add (.tup (.cons (.str "2" 0 ⟨195, 89, 195, 92⟩) .nil) 0 ⟨195, 88, 195, 94⟩) (.var 0 "_law_one" ⟨195, 97, 195, 105⟩) ⟨195, 88, 195, 105⟩) (.cons (.str "word" 0 ⟨195, 107, 195, 113⟩) .nil)) 0 ⟨195, 87, 195, 114⟩) (.cons (.tup (.cons (.bin .add (.var 0 "_law_one" ⟨195, 117, 195, 125⟩) (.tup (.cons (.bin .mul (.str "0" 0 ⟨195, 129, 195, 132⟩) (.int 65 0 ⟨195, 135, 195, 137⟩) ⟨195, 129, 195, 137⟩) .nil) 0 ⟨195, 128, 195, 139⟩) ⟨195, 117, 195, 139⟩) (.cons (.str "word" 0 ⟨195, 141, 195, 147⟩) .nil)) 0 ⟨195, 116, 195, 148⟩) .nil)))) ⟨195, 28, 195, 149⟩))) ⟨195, 16, 195, 149⟩)) ⟨195, 4, 195, 149⟩) (.cons (.asg 1 "_law_odds" ⟨196, 4, 196, 13⟩ (.frz (.cat (.ex (.var 1 "_law_odds" ⟨196, 16, 196, 25⟩)) (.ex (.frz (.lst (.cons (.tup (.cons (.bin .add (.var 0 "_law_one" ⟨196, 30, 196, 38⟩) (.tup (.cons (.bin .add (.idx (.ex (.var 0 "_law_one" ⟨196, 42, 196, 50⟩)) (.int 0 0 ⟨196, 51, 196, 52⟩) ⟨196, 42, 196, 53⟩) (.str "0" 0 ⟨196, 56, 196, 59⟩) ⟨196, 42, 196, 59⟩) .nil) 0 ⟨196, 41, 196, 61⟩) ⟨196, 30, 196, 61⟩) (.cons (.str "length" 0 ⟨196, 63, 196, 71⟩) .nil)) 0 ⟨196, 29, 196, 72⟩) (.cons (.tup (.cons (.bin .add (.var 0 "_law_one" ⟨196, 75, 196, 83⟩) (.tup (.cons (.idx (.ex (.var 0 "_law_one" ⟨196, 87, 196, 95⟩)) (.int 0 0 ⟨196, 96, 196, 97⟩) ⟨196, 87, 196, 98⟩) .nil) 0 ⟨196, 86, 196, 100⟩) ⟨196, 75, 196, 100⟩) (.cons (.str "same" 0 ⟨196, 102, 196, 108⟩) .nil)) 0 ⟨196, 74, 196, 109⟩) (.cons (.tup (.cons (.tup (.cons (.idx (.ex (.var 0 "_law_one" ⟨196, 113, 196, 121⟩)) (.int 0 0 ⟨196, 122, 196, 123⟩) ⟨196, 113, 196, 124⟩) (.cons (.idx (.ex (.var 0 "_law_one" ⟨196, 126, 196, 134⟩)) (.int 0 0 ⟨196, 135, 196, 136⟩) ⟨196, 126, 196, 137⟩) .nil)) 0 ⟨196, 112, 196, 138⟩) (.cons (.str "same" 0 ⟨196, 140, 196, 146⟩) .nil)) 0 ⟨196, 111, 196, 147⟩) .nil))) ⟨196, 28, 196, 148⟩))) ⟨196, 16, 196, 148⟩)) ⟨196, 4, 196, 148⟩) (.cons (.forr (.tp (.cons 2 "_law_odd" ⟨197, 8, 197, 16⟩ (.cons 3 "_law_part" ⟨197, 18, 197, 27⟩ .nil)) 0 ⟨197, 8, 197, 27⟩) (.seq (.frz (.cat (.ex (.var 1 "_law_odds" ⟨197, 31, 197, 40⟩)) (.ex (.frz (.lst (.cons (.tup (.cons (.tup (.cons (.bin .add (.idx (.ex (.var 0 "_law_one" ⟨197, 46, 197, 54⟩)) (.int 0 0 ⟨197, 55, 197, 56⟩) ⟨197, 46, 197, 57⟩) (.str "1" 0 ⟨197, 60, 197, 63⟩) ⟨197, 46, 197, 63⟩) (.cons (.idx (.ex (.var 0 "_law_one" ⟨197, 65, 197, 73⟩)) (.int 0 0 ⟨197, 74, 197, 75⟩) ⟨197, 65, 197, 76⟩) (.cons (.idx (.ex (.var 0 "_law_one" ⟨197, 78, 197, 86⟩)) (.int 0 0 ⟨197, 87, 197, 88⟩) ⟨197, 78, 197, 89⟩) .nil))) 0 ⟨197, 45, 197, 90⟩) (.cons (.str "length" 0 ⟨197, 92, 197, 100⟩) .nil)) 0 ⟨197, 44, 197, 101⟩) (.cons (.tup (.cons (.tup (.cons (.int 1 0 ⟨197, 105, 197, 106⟩) (.cons (.idx (.ex (.var 0 "_law_one" ⟨197, 108, 197, 116⟩)) (.int 0 0 ⟨197, 117, 197, 118⟩) ⟨197, 108, 197, 119⟩) (.cons (.idx (.ex (.var 0 "_law_one" ⟨197, 121, 197, 129⟩)) (.int 0 0 ⟨197, 130, 197, 131⟩) ⟨197, 121, 197, 132⟩) .nil))) 0 ⟨197, 104, 197, 133⟩) (.cons (.str "word" 0 ⟨197, 135, 197, 141⟩) .nil)) 0 ⟨197, 103, 197, 142⟩) .nil)) ⟨197, 43, 197, 143⟩))) ⟨197, 31, 197, 143⟩))) (.cons (.iff (.cmp .ne (.ex (.frz (.lc (.call 21 "_law_outcome" ⟨198, 12, 198, 24⟩ (.cons (.var 4 "_law_way" ⟨198, 25, 198, 33⟩) (.cons (.var 2 "_law_odd" ⟨198, 35, 198, 43⟩) (.cons (.non 0 ⟨198, 45, 198, 49⟩) (.cons (.non 0 ⟨198, 51, 198, 55⟩) .nil)))) ⟨198, 12, 198, 56⟩) (.nm 4 "_law_way" ⟨198, 61, 198, 69⟩) (.rg1 ⟨198, 73, 198, 78⟩ (.int 7 0 ⟨198, 79, 198, 80⟩) ⟨198, 73, 198, 81⟩) .no [("_law_way", 4)] ⟨.function, [(".0", .local), ("_law_way", .local), ("_law_outcome", .globalImplicit), ("_law_odd", .free)], false, false, []⟩ ⟨198, 11, 198, 82⟩))) (.ex (.frz (.rep (.ex (.frz (.lst (.cons (.var 3 "_law_part" ⟨198, 87, 198, 96⟩) .nil) ⟨198, 86, 198, 97⟩))) (.int 7 0 ⟨198, 100, 198, 101⟩) ⟨198, 86, 198, 101⟩))) ⟨198, 11, 198, 101⟩) (.cons (.ret (.bl false 0 ⟨199, 19, 199, 24⟩) ⟨199, 12, 199, 24⟩) (.nil)) (.nil) ⟨198, 8, 199, 24⟩) (.cons (.iff (.cmp .ne (.ex (.frz (.lc (.call 27 "_law_step_outcome" ⟨200, 12, 200, 29⟩ (.cons (.var 4 "_law_way" ⟨200, 30, 200, 38⟩) (.cons (.var 2 "_law_odd" ⟨200, 40, 200, 48⟩) (.cons (.non 0 ⟨200, 50, 200, 54⟩) .nil))) ⟨200, 12, 200, 55⟩) (.nm 4 "_law_way" ⟨200, 60, 200, 68⟩) (.rg1 ⟨200, 72, 200, 77⟩ (.int 4 0 ⟨200, 78, 200, 79⟩) ⟨200, 72, 200, 80⟩) .no [("_law_way", 4)] ⟨.function, [(".0", .local), ("_law_way", .local), ("_law_step_outcome", .globalImplicit), ("_law_odd", .free)], false, false, []⟩ ⟨200, 11, 200, 81⟩))) (.ex (.frz (.rep (.ex (.frz (.lst (.cons (.var 3 "_law_part" ⟨200, 86, 200, 95⟩) .nil) ⟨200, 85, 200, 96⟩))) (.int 4 0 ⟨200, 99, 200, 100⟩) ⟨200, 85, 200, 100⟩))) ⟨200, 11, 200, 100⟩) (.cons (.ret (.bl false 0 ⟨201, 19, 201, 24⟩) ⟨201, 12, 201, 24⟩) (.nil)) (.nil) ⟨200, 8, 201, 24⟩) (.nil))) ⟨197, 4, 201, 24⟩) (.cons (.ret (.bl true 0 ⟨202, 11, 202, 15⟩) ⟨202, 4, 202, 15⟩) (.nil)))))⟩
def lw0_0 : Sm := .asg 3 "_law_one" ⟨206, 8, 206, 16⟩ (.call 1 "_law_code" ⟨206, 19, 206, 28⟩ (.cons (.var 1 "_law_m" ⟨206, 29, 206, 35⟩) (.cons (.int 5 0 ⟨206, 37, 206, 38⟩) .nil)) ⟨206, 19, 206, 39⟩) ⟨206, 8, 206, 39⟩
def lw0_1 : Sm := .iff (.nt (.call 28 "_law_codes_right" ⟨207, 15, 207, 31⟩ (.cons (.var 3 "_law_one" ⟨207, 32, 207, 40⟩) .nil) ⟨207, 15, 207, 41⟩) ⟨207, 11, 207, 41⟩) (.cons (.ret (.bl false 0 ⟨208, 19, 208, 24⟩) ⟨208, 12, 208, 24⟩) (.nil)) (.nil) ⟨207, 8, 208, 24⟩
def lw0_2 : Sm := .forr (.nm 4 "_law_odd" ⟨209, 12, 209, 20⟩) (.seq (.frz (.lst (.cons (.non 0 ⟨209, 25, 209, 29⟩) (.cons (.neg (.int 1 0 ⟨209, 32, 209, 33⟩) ⟨209, 31, 209, 33⟩) (.cons (.f1 .len ⟨209, 35, 209, 38⟩ (.ex (.var 3 "_law_one" ⟨209, 39, 209, 47⟩)) ⟨209, 35, 209, 48⟩) (.cons (.bl true 0 ⟨209, 50, 209, 54⟩) (.cons (.str "0" 0 ⟨209, 56, 209, 59⟩) .nil))))) ⟨209, 24, 209, 60⟩))) (.cons (.iff (.cmp .ne (.ex (.frz (.lc (.call 21 "_law_outcome" ⟨210, 16, 210, 28⟩ (.cons (.var 5 "_law_way" ⟨210, 29, 210, 37⟩) (.cons (.var 3 "_law_one" ⟨210, 39, 210, 47⟩) (.cons (.var 4 "_law_odd" ⟨210, 49, 210, 57⟩) (.cons (.int 0 0 ⟨210, 59, 210, 60⟩) .nil)))) ⟨210, 16, 210, 61⟩) (.nm 5 "_law_way" ⟨210, 66, 210, 74⟩) (.seq (.tup (.cons (.int 2 0 ⟨210, 79, 210, 80⟩) (.cons (.int 4 0 ⟨210, 82, 210, 83⟩) (.cons (.int 5 0 ⟨210, 85, 210, 86⟩) (.cons (.int 6 0 ⟨210, 88, 210, 89⟩) .nil)))) 0 ⟨210, 78, 210, 90⟩)) .no [("_law_way", 5)] ⟨.function, [(".0", .local), ("_law_way", .local), ("_law_outcome", .globalImplicit), ("_law_odd", .free), ("_law_one", .free)], false, false, []⟩ ⟨210, 15, 210, 91⟩))) (.ex (.frz (.rep (.ex (.frz (.lst (.cons (.str "place" 0 ⟨210, 96, 210, 103⟩) .nil) ⟨210, 95, 210, 104⟩))) (.int 4 0 ⟨210, 107, 210, 108⟩) ⟨210, 95, 210, 108⟩))) ⟨210, 15, 210, 108⟩) (.cons (.ret (.bl false 0 ⟨211, 23, 211, 28⟩) ⟨211, 16, 211, 28⟩) (.nil)) (.nil) ⟨210, 12, 211, 28⟩) (.cons (.iff (.cmp .ne (.ex (.frz (.lc (.call 21 "_law_outcome" ⟨212, 16, 212, 28⟩ (.cons (.var 5 "_law_way" ⟨212, 29, 212, 37⟩) (.cons (.var 3 "_law_one" ⟨212, 39, 212, 47⟩) (.cons (.int 0 0 ⟨212, 49, 212, 50⟩) (.cons (.var 4 "_law_odd" ⟨212, 52, 212, 60⟩) .nil)))) ⟨212, 16, 212, 61⟩) (.nm 5 "_law_way" ⟨212, 66, 212, 74⟩) (.seq (.tup (.cons (.int 4 0 ⟨212, 79, 212, 80⟩) (.cons (.int 5 0 ⟨212, 82, 212, 83⟩) (.cons (.int 6 0 ⟨212, 85, 212, 86⟩) .nil))) 0 ⟨212, 78, 212, 87⟩)) .no [("_law_way", 5)] ⟨.function, [(".0", .local), ("_law_way", .local), ("_law_outcome", .globalImplicit), ("_law_odd", .free), ("_law_one", .free)], false, false, []⟩ ⟨212, 15, 212, 88⟩))) (.ex (.frz (.rep (.ex (.frz (.lst (.cons (.str "place" 0 ⟨212, 93, 212, 100⟩) .nil) ⟨212, 92, 212, 101⟩))) (.int 3 0 ⟨212, 104, 212, 105⟩) ⟨212, 92, 212, 105⟩))) ⟨212, 15, 212, 105⟩) (.cons (.ret (.bl false 0 ⟨213, 23, 213, 28⟩) ⟨213, 16, 213, 28⟩) (.nil)) (.nil) ⟨212, 12, 213, 28⟩) (.cons (.iff (.cmp .ne (.ex (.frz (.lc (.call 27 "_law_step_outcome" ⟨214, 16, 214, 33⟩ (.cons (.var 5 "_law_way" ⟨214, 34, 214, 42⟩) (.cons (.var 3 "_law_one" ⟨214, 44, 214, 52⟩) (.cons (.var 4 "_law_odd" ⟨214, 54, 214, 62⟩) .nil))) ⟨214, 16, 214, 63⟩) (.nm 5 "_law_way" ⟨214, 68, 214, 76⟩) (.rg1 ⟨214, 80, 214, 85⟩ (.int 4 0 ⟨214, 86, 214, 87⟩) ⟨214, 80, 214, 88⟩) .no [("_law_way", 5)] ⟨.function, [(".0", .local), ("_law_way", .local), ("_law_step_outcome", .globalImplicit), ("_law_odd", .free), ("_law_one", .free)], false, false, []⟩ ⟨214, 15, 214, 89⟩))) (.ex (.frz (.rep (.ex (.frz (.lst (.cons (.str "place" 0 ⟨214, 94, 214, 101⟩) .nil) ⟨214, 93, 214, 102⟩))) (.int 4 0 ⟨214, 105, 214, 106⟩) ⟨214, 93, 214, 106⟩))) ⟨214, 15, 214, 106⟩) (.cons (.ret (.bl false 0 ⟨215, 23, 215, 28⟩) ⟨215, 16, 215, 28⟩) (.nil)) (.nil) ⟨214, 12, 215, 28⟩) (.nil)))) ⟨209, 8, 215, 28⟩
def lw0_3 : Sm := .forr (.nm 4 "_law_odd" ⟨216, 12, 216, 20⟩) (.seq (.frz (.lst (.cons (.non 0 ⟨216, 25, 216, 29⟩) (.cons (.int 0 0 ⟨216, 31, 216, 32⟩) (.cons (.tup (.cons (.str "0" 0 ⟨216, 35, 216, 38⟩) .nil) 0 ⟨216, 34, 216, 40⟩) (.cons (.bl true 0 ⟨216, 42, 216, 46⟩) .nil)))) ⟨216, 24, 216, 47⟩))) (.cons (.iff (.cmp .ne (.ex (.call 21 "_law_outcome" ⟨217, 15, 217, 27⟩ (.cons (.int 3 0 ⟨217, 28, 217, 29⟩) (.cons (.var 3 "_law_one" ⟨217, 31, 217, 39⟩) (.cons (.var 4 "_law_odd" ⟨217, 41, 217, 49⟩) (.cons (.non 0 ⟨217, 51, 217, 55⟩) .nil)))) ⟨217, 15, 217, 56⟩)) (.ex (.str "place" 0 ⟨217, 60, 217, 67⟩)) ⟨217, 15, 217, 67⟩) (.cons (.ret (.bl false 0 ⟨218, 23, 218, 28⟩) ⟨218, 16, 218, 28⟩) (.nil)) (.nil) ⟨217, 12, 218, 28⟩) (.nil)) ⟨216, 8, 218, 28⟩
def lw0_4 : Sm := .iff (.cmp .ne (.ex (.frz (.lc (.call 21 "_law_outcome" ⟨219, 12, 219, 24⟩ (.cons (.var 5 "_law_way" ⟨219, 25, 219, 33⟩) (.cons (.var 3 "_law_one" ⟨219, 35, 219, 43⟩) (.cons (.int 0 0 ⟨219, 45, 219, 46⟩) (.cons (.bin .sub (.f1 .len ⟨219, 48, 219, 51⟩ (.ex (.var 3 "_law_one" ⟨219, 52, 219, 60⟩)) ⟨219, 48, 219, 61⟩) (.int 1 0 ⟨219, 64, 219, 65⟩) ⟨219, 48, 219, 65⟩) .nil)))) ⟨219, 12, 219, 66⟩) (.nm 5 "_law_way" ⟨219, 71, 219, 79⟩) (.seq (.tup (.cons (.int 2 0 ⟨219, 84, 219, 85⟩) (.cons (.int 4 0 ⟨219, 87, 219, 88⟩) (.cons (.int 5 0 ⟨219, 90, 219, 91⟩) (.cons (.int 6 0 ⟨219, 93, 219, 94⟩) .nil)))) 0 ⟨219, 83, 219, 95⟩)) .no [("_law_way", 5)] ⟨.function, [(".0", .local), ("_law_way", .local), ("_law_outcome", .globalImplicit), ("len", .globalImplicit), ("_law_one", .free)], false, false, []⟩ ⟨219, 11, 219, 96⟩))) (.ex (.frz (.rep (.ex (.frz (.lst (.cons (.non 0 ⟨219, 101, 219, 105⟩) .nil) ⟨219, 100, 219, 106⟩))) (.int 4 0 ⟨219, 109, 219, 110⟩) ⟨219, 100, 219, 110⟩))) ⟨219, 11, 219, 110⟩) (.cons (.ret (.bl false 0 ⟨220, 19, 220, 24⟩) ⟨220, 12, 220, 24⟩) (.nil)) (.nil) ⟨219, 8, 220, 24⟩
def lw0_5 : Sm := .iff (.cmp .ne (.ex (.frz (.lc (.call 27 "_law_step_outcome" ⟨221, 12, 221, 29⟩ (.cons (.var 5 "_law_way" ⟨221, 30, 221, 38⟩) (.cons (.var 3 "_law_one" ⟨221, 40, 221, 48⟩) (.cons (.bin .sub (.f1 .len ⟨221, 50, 221, 53⟩ (.ex (.var 3 "_law_one" ⟨221, 54, 221, 62⟩)) ⟨221, 50, 221, 63⟩) (.int 1 0 ⟨221, 66, 221, 67⟩) ⟨221, 50, 221, 67⟩) .nil))) ⟨221, 12, 221, 68⟩) (.nm 5 "_law_way" ⟨221, 73, 221, 81⟩) (.rg1 ⟨221, 85, 221, 90⟩ (.int 4 0 ⟨221, 91, 221, 92⟩) ⟨221, 85, 221, 93⟩) .no [("_law_way", 5)] ⟨.function, [(".0", .local), ("_law_way", .local), ("_law_step_outcome", .globalImplicit), ("len", .globalImplicit), ("_law_one", .free)], false, false, []⟩ ⟨221, 11, 221, 94⟩))) (.ex (.frz (.rep (.ex (.frz (.lst (.cons (.non 0 ⟨221, 99, 221, 103⟩) .nil) ⟨221, 98, 221, 104⟩))) (.int 4 0 ⟨221, 107, 221, 108⟩) ⟨221, 98, 221, 108⟩))) ⟨221, 11, 221, 108⟩) (.cons (.ret (.bl false 0 ⟨222, 19, 222, 24⟩) ⟨222, 12, 222, 24⟩) (.nil)) (.nil) ⟨221, 8, 222, 24⟩
def lw_0 : Sm := .forr (.nm 2 "_law_turn" ⟨205, 8, 205, 17⟩) (.rg1 ⟨205, 21, 205, 26⟩ (.bin .add (.int 1 0 ⟨205, 27, 205, 28⟩) (.f2 .min ⟨205, 31, 205, 34⟩ (.lns 0 "_law_script" ⟨205, 39, 205, 50⟩ ⟨205, 35, 205, 38⟩ ⟨205, 35, 205, 51⟩) (.int 4 0 ⟨205, 53, 205, 54⟩) ⟨205, 31, 205, 55⟩) ⟨205, 27, 205, 55⟩) ⟨205, 21, 205, 56⟩) (.fgt [0, 2, 3, 4, 5] (.cons (lw0_0) (.cons (lw0_1) (.cons (lw0_2) (.cons (lw0_3) (.cons (lw0_4) (.cons (lw0_5) (.nil)))))))) ⟨205, 4, 222, 24⟩
def lw_1 : Sm := .ret (.bl true 0 ⟨223, 11, 223, 15⟩) ⟨223, 4, 223, 15⟩
def lw : Fd := ⟨"law", ["_law_script", "_law_m", "_law_turn", "_law_one", "_law_odd", "_law_way"], 1, .cons (lw_0) (.fgt [0, 2, 3, 4, 5] (.cons (lw_1) (.nil)))⟩
def fns : List Fd := [f28, f27, f26, f25, f24, f23, f22, f21, f20, f19, f18, f17, f16, f15, f14, f13, f12, f11, f10, f9, f8, f7, f6, f5, f4, f3, f2, f1, f0]
def cons : List (Str × Cst) := [("BINARY", .str "01"), ("MOST_PERIOD", .int 64), ("MOST_SIGNS", .int 64)]
def exN : List (Str × Option Str) := [("BadCode", some "part"), ("OutOfPlace", none)]
end Tk02

set_option Elab.async false
set_option linter.all false
set_option maxRecDepth 100000
set_option maxHeartbeats 4000000
namespace Tk02
open PySem L2 PySem.Spec PyProof.Rows TC
abbrev sNxt : Stmt := top 34
abbrev nN : List Str := ["_law_m", "_law_total", "_law_rest", "_law_k", "_law_cell", "_law_mixed"]
theorem scN : FnScope nN ["_law_m", "_law_total"] (defScope sNxt) := ⟨rfl, rfl, rfl, by decide +kernel, rfl, by decide +kernel, by decide +kernel⟩
theorem gI : glB (defScope sNxt) "int" = true := by decide +kernel
theorem gL : glB (defScope sNxt) "len" = true := by decide +kernel
theorem at0 {α : Type} (x : α) (xs : List α) : L2.atI (x :: xs) 0 = some x := by
  unfold L2.atI L2.ixN
  simp
theorem cut1 (x : Int) (xs : List Int) : cutV ((x :: xs).map V.int) (some 1) none = xs.map V.int := by
  unfold cutV
  simp [HT.sIx]
  rw [List.take_of_length_le (by rw [List.length_map]; exact Nat.le_refl _)]
theorem at_mod (cs : List Int) (k : Int) (h : cs ≠ []) : ∃ cell, L2.atI (cs.map V.int) (k % ((cs.map V.int).length : Nat)) = some (.int cell) := by
  have hp := List.length_pos_iff.mpr h
  rw [List.length_map]
  have h0 := Int.emod_nonneg k (show ((cs.length : Nat) : Int) ≠ 0 by omega)
  have h1 := Int.emod_lt_of_pos k (show (0 : Int) < ((cs.length : Nat) : Int) by omega)
  generalize k % ((cs.length : Nat) : Int) = i at h0 h1
  unfold L2.atI L2.ixN
  rw [List.length_map, if_pos h0, if_pos (by omega)]
  have h2 : i.toNat < cs.length := by omega
  refine ⟨cs[i.toNat], ?_⟩
  show (cs.map V.int)[i.toNat]? = _
  rw [List.getElem?_map, List.getElem?_eq_getElem h2]
  rfl
section
variable {P : Program} {w : World} {K : PySem.W.Frag} {mg : Str → Option Value} {base : Heap}
theorem ok_next {C : TC.Ctx} (hr : C.rg = rgA C.am) {fa : Addr} {fd : FuncData} {qual : Str} {x : Str} (F : Fun K x qual sNxt fa fd) (hb : ∀ x, bltB x = true → mg x = none) : FnG P w K mg base 2 fa fd ["_law_m", "_law_total"] (spD C) := by
  obtain ⟨oc, od, kV, doc, pm, an, cdv, ct, osl, rfl, lk, hcd⟩ := F.ex
  refine fnG_of lk hcd scN (fun vs H Q E h => ?_) fun A outer s H vs Q E hg hr1 h => ?_
  · obtain ⟨b, R, G, n, _, rfl, _⟩ := h
    rfl
  · obtain ⟨b, R, G, n, B, rfl, n0, n1, hQ⟩ := h
    have hu := hu_of hr1
    have hu64 : (cxOf (L2.CX P w) P w K mg base nN qual (defScope sNxt) fa cdv A outer s H E).A.units + 64 < cLine := hr1.units
    have gi : mg "int" = none := hb _ (by decide +kernel)
    have gl : mg "len" = none := hb _ (by decide +kernel)
    have own : PassesOwn (model P w) (cxOf (L2.CX P w) P w K mg base nN qual (defScope sNxt) fa cdv A outer s H E).A (cxOf (L2.CX P w) P w K mg base nN qual (defScope sNxt) fa cdv A outer s H E).env (cxOf (L2.CX P w) P w K mg base nN qual (defScope sNxt) fa cdv A outer s H E).xe := passes_of rfl
    have hI : IA C.am (b + 1) R H := by
      have z := B.rg
      rw [hr] at z
      exact z
    obtain ⟨cl, g, t, cs, gs, rfl, D0, t0, tb⟩ := hI
    have n9 : n.natAbs.log2 < 9000 := by
      have h : n.natAbs < 2 ^ 30 := by omega
      by_cases z : n.natAbs = 0
      · rw [z]
        decide
      · exact Nat.lt_trans ((Nat.log2_lt z).mpr h) (by decide)
    let σ0 : L2.St := [some (.ref C.am), some (.int n), none, none, none, none]
    -- the rest, once the list of great ones is as it is to be
    let tR : TS := fun D σ H' => σ = σ0 ∧ (∃ g2 gs2, DA C.am H [C.am, cl, g] cl g2 t cs gs2 H') ∧ ∀ r H' g2 t2 gs2, 0 ≤ r → r < n → DA C.am H [C.am, cl, g] cl g2 t2 cs gs2 H' → 0 ≤ t2 → t2 ≤ t + 1 → D.rt (.int r) H'
    let tM : TS := fun D σ H' => ∃ cell, σ = [some (.ref C.am), some (.int n), none, some (.int (t + 1)), some (.int cell), none] ∧ ∀ r, 0 ≤ r → r < n → D.rt (.int r) H'
    have cm : ∀ i j : Int, -(2 ^ 64) < i → i < 2 ^ 64 → CMul i j := fun i j h1 h2 => .inl ⟨h1, h2⟩
    have cm2 : ∀ i j : Int, -(2 ^ 64) < j → j < 2 ^ 64 → CMul i j := fun i j h1 h2 => .inr ⟨h1, h2⟩
    have R3 : PSs (cxOf (L2.CX P w) P w K mg base nN qual (defScope sNxt) fa cdv A outer s H E) ((defBody sNxt).drop 5) tM := by
      refine pssM (pss_cons (ps_set (i := 5) scN.nd rfl (.inl rfl) (pe_op op_mul (pe_callTy call_int1 (gl_of gI) gi (by decide +kernel) (pa_1 (pe_op op_add (pe_op op_add (pe_op op_mod (pe_callTy call_int1 (gl_of gI) gi (by decide +kernel) (pa_1 (pv 4) rfl) (by decide +kernel) (by decide +kernel) rfl rfl) pe_int) (pe_op op_mul pe_int (pv 3)))
          (pe_op op_mul (pe_op op_mul pe_int (pv 3)) (pv 3))) rfl) (by decide +kernel) (by decide +kernel) rfl rfl) pe_int))
      (pss_cons (ps_set (i := 5) scN.nd rfl (.inl rfl) (pe_op op_mul (pe_callTy call_int1 (gl_of gI) gi (by decide +kernel) (pa_1 (pe_op op_add (pe_op op_mod (pe_callTy call_int1 (gl_of gI) gi (by decide +kernel) (pa_1 (pv 5) rfl) (by decide +kernel) (by decide +kernel) rfl rfl) pe_int) (pe_op op_mul pe_int (pv 3))) rfl) (by decide +kernel) (by decide +kernel) rfl rfl) pe_int))
      (pss_one (ps_ret (pe_op op_mod (pe_callTy call_int1 (gl_of gI) gi (by decide +kernel) (pa_1 (pe_op op_fdivW (pe_op op_mod (pe_callTy call_int1 (gl_of gI) gi (by decide +kernel) (pa_1 (pv 5) rfl) (by decide +kernel) (by decide +kernel) rfl rfl) pe_int) pe_int) rfl) (by decide +kernel) (by decide +kernel) rfl rfl) (pv 1)))))) ?_
      rintro D σ H1 ⟨cell, rfl, hq⟩
      refine ⟨.int cell, rfl, .inl ⟨cell, rfl, cell, 2147483629, rfl, rfl, (by decide : (0 : Int) < 2147483629), .int (t + 1), rfl, 7919, t + 1, rfl, rfl, cm _ _ (by decide) (by decide), _, _, rfl, rfl, .int (t + 1), rfl, 19, t + 1, rfl, rfl, cm _ _ (by decide) (by decide), .int (t + 1), rfl, _, t + 1, rfl, rfl, cm2 _ _ (by omega) (by omega), _, _, rfl, rfl, .inl ⟨_, rfl, _, 48271, rfl, rfl, cm2 _ _ (by decide) (by decide), ?_⟩⟩⟩
      refine ⟨_, rfl, .inl ⟨_, rfl, _, 2147483647, rfl, rfl, (by decide : (0 : Int) < 2147483647), .int (t + 1), rfl, 104729, t + 1, rfl, rfl, cm _ _ (by decide) (by decide), _, _, rfl, rfl, .inl ⟨_, rfl, _, 69621, rfl, rfl, cm2 _ _ (by decide) (by decide), ?_⟩⟩⟩
      refine ⟨_, rfl, .inl ⟨_, rfl, _, 2147483587, rfl, rfl, (by decide : (0 : Int) < 2147483587), _, 11, rfl, rfl, ⟨by decide, by decide⟩, .inl ⟨_, rfl, .int n, rfl, _, n, rfl, rfl, n0, ?_⟩⟩⟩
      exact hq _ (Int.emod_nonneg _ (by omega)) (Int.emod_lt_of_pos _ n0)
    have R2 : PSs (cxOf (L2.CX P w) P w K mg base nN qual (defScope sNxt) fa cdv A outer s H E) ((defBody sNxt).drop 2) tR := by
      refine pssM (pss_cons (ps_set (i := 3) scN.nd rfl (.inl rfl) (pe_op op_add (pe_dget hu (pv 0) pe_str (fun _ _ => rfl)) pe_int))
      (pss_cons (ps_dput hu (pv 0) pe_str (pv 3) rfl)
      (pss_cons (ps_set (i := 4) scN.nd rfl (.inl rfl) (pe_ifExp (pt_cmpR (op_neD hu64) (pe_dget hu (pv 0) pe_str (fun _ _ => rfl)) (pe_lst pa_nil) (nomark _))
        (pe_ix ix_seq (pe_dget hu (pv 0) pe_str (fun _ _ => rfl)) (pe_op op_mod (pe_callTy call_int1 (gl_of gI) gi (by decide +kernel) (pa_1 (pv 3) rfl) (by decide +kernel) (by decide +kernel) rfl rfl)
          (pe_callB call_len_seq (gl_of gL) gl boot_len (pa_1 (pe_dget hu (pv 0) pe_str (fun _ _ => rfl)) rfl) (by decide +kernel) (by decide +kernel) rfl rfl)) (plainIx_of rfl)) pe_int)) R3))) ?_
      rintro D σ H1 ⟨rfl, ⟨g2, gs2, D1⟩, hq⟩
      refine ⟨.ref C.am, rfl, C.am, .int t, rfl, D1.get_t, t, 1, rfl, rfl, ?_⟩
      refine ⟨.int (t + 1), rfl, .ref C.am, rfl, C.am, _, rfl, D1.put_t, ?_⟩
      have D2 := D1.setT (t' := t + 1)
      refine ⟨.ref C.am, rfl, C.am, .ref cl, rfl, D2.get_c, some_red rfl D2.hc fun p np => ?_⟩
      have D3 := D2.junk (o := .lst []) np
      have go : ∀ cell : Int, tM { D with nx := D.nx } [some (.ref C.am), some (.int n), none, some (.int (t + 1)), some (.int cell), none] _ := fun cell => ⟨cell, rfl, fun r h0 h1 => hq r _ g2 (t + 1) gs2 h0 h1 D3 (by omega) (by omega)⟩
      by_cases hc : cs = []
      · have e : (!cs.isEmpty) = false := by rw [hc]; rfl
        rw [e]
        show (if (false : Bool) = true then _ else _)
        rw [if_neg (by decide)]
        exact go 3
      · have e : (!cs.isEmpty) = true := by
          cases cs with
          | nil => exact absurd rfl hc
          | cons a b => rfl
        rw [e]
        show (if (true : Bool) = true then _ else _)
        rw [if_pos rfl]
        have pos : (0 : Int) < ((cs.map V.int).length : Nat) := by
          rw [List.length_map]
          have := List.length_pos_iff.mpr hc
          omega
        obtain ⟨cell, hat⟩ := at_mod cs (t + 1) hc
        refine ⟨.ref C.am, rfl, C.am, .ref cl, rfl, D3.get_c, .int (t + 1), rfl, .inl ⟨t + 1, rfl, .ref C.am, rfl, C.am, .ref cl, rfl, D3.get_c, cl, cs.map V.int, rfl, .inl (.inl (.inl D3.hc)), t + 1, _, rfl, rfl, pos, .inl ⟨cl, cs.map V.int, _, .int cell, rfl, rfl, .inl (.inl D3.hc), hat, ?_⟩⟩⟩
        exact go cell
    have R1 : PSs (cxOf (L2.CX P w) P w K mg base nN qual (defScope sNxt) fa cdv A outer s H E) ((defBody sNxt).drop 1) tR := by
      refine pssM (pss_cons (ps_if (pt_cmpR (op_neD hu64) (pe_dget hu (pv 0) pe_str (fun _ _ => rfl)) (pe_lst pa_nil) (nomark _))
        (pss_cons (ps_set (i := 2) scN.nd rfl (.inl rfl) (pe_callTy call_int1 (gl_of gI) gi (by decide +kernel) (pa_1 (pe_ix ix_seq (pe_dget hu (pv 0) pe_str (fun _ _ => rfl)) pe_int (plainIx_of rfl)) rfl) (by decide +kernel) (by decide +kernel) rfl rfl))
        (pss_cons (ps_asg (pe_op op_fdivW (pv 2) (pv 1)) (pg_sub (pe_dget hu (pv 0) pe_str (fun _ _ => rfl)) pe_int set_list))
        (pss_one (ps_ret (pe_op op_mod (pv 2) (pv 1)))))) pss_nil) R2) ?_
      rintro D σ H1 ⟨rfl, ⟨g2, gs2, D1⟩, hq⟩
      refine ⟨.ref C.am, rfl, C.am, .ref g2, rfl, D1.get_g, some_red rfl D1.hg fun p np => ?_⟩
      have D2 := D1.junk (o := .lst []) np
      cases gs2 with
      | nil => exact ⟨rfl, ⟨g2, [], D2⟩, hq⟩
      | cons z zs =>
        show (if (true : Bool) = true then _ else _)
        rw [if_pos rfl]
        refine ⟨.ref C.am, rfl, C.am, .ref g2, rfl, D2.get_g, .inl ⟨g2, (z :: zs).map V.int, 0, .int z, rfl, rfl, .inl (.inl D2.hg), at0 _ _, .inl ⟨z, rfl, ?_⟩⟩⟩
        refine ⟨.int z, rfl, .int n, rfl, z, n, rfl, rfl, ⟨n0, n9⟩, .ref C.am, rfl, C.am, .ref g2, rfl, D2.get_g, g2, (z :: zs).map V.int, 0, 0, rfl, rfl, D2.hg, by simp [ixN], ?_⟩
        have D3 := D2.setG (gs' := (z / n) :: zs) D2.lg
        exact ⟨.int z, rfl, .int n, rfl, z, n, rfl, rfl, n0, hq (z % n) _ g2 t ((z / n) :: zs) (Int.emod_nonneg _ (by omega)) (Int.emod_lt_of_pos _ n0) D3 t0 (by omega)⟩
    refine ⟨_, pss_cons (ps_while own (pw_and (pt_cmpR (op_neD hu64) (pe_dget hu (pv 0) pe_str (fun _ _ => rfl)) (pe_lst pa_nil) (nomark _)) (pw_and1 (pt_cmpR op_eq (pe_ix ix_seq (pe_dget hu (pv 0) pe_str (fun _ _ => rfl)) pe_int (plainIx_of rfl)) pe_int (nomark _)))).pt
        (pss_one (ps_dput hu (pv 0) pe_str (pe_slice sl_list (pe_dget hu (pv 0) pe_str (fun _ _ => rfl)) (po_some pe_int) po_none) rfl))) R1, ?_⟩
    have fin : ∀ {g2 gs2 H2}, DA C.am H [C.am, cl, g] cl g2 t cs gs2 H2 → tR { nx := fun _ H' => Q .non H', rt := Q } σ0 H2 := fun {g2 gs2 H2} D2 => ⟨rfl, ⟨g2, gs2, D2⟩, fun r H' g3 t2 gs3 h0 h1 D3 u0 u1 => by
      obtain ⟨st, B'⟩ := D3.fin hr B u0 (by omega)
      exact hQ r _ H' h0 h1 st B'⟩
    refine ⟨fun m σ H' => ∃ g' gs', σ = σ0 ∧ gs'.length = m ∧ DA C.am H [C.am, cl, g] cl g' t cs gs' H', ⟨gs.length, g, gs, rfl, rfl, D0⟩, ?_⟩
    rintro m σ H1 ⟨g1, gs1, rfl, rfl, D1⟩
    refine ⟨.ref C.am, rfl, C.am, .ref g1, rfl, D1.get_g, some_red rfl D1.hg fun p np => ?_⟩
    have D2 := D1.junk (o := .lst []) np
    -- what follows the loop
    cases gs1 with
    | nil =>
      show (if (false : Bool) = true then _ else _)
      rw [if_neg (by decide)]
      show (if (false : Bool) = true then _ else _)
      rw [if_neg (by decide)]
      exact fin D2
    | cons z zs =>
      show (if (true : Bool) = true then _ else _)
      rw [if_pos rfl]
      refine ⟨.ref C.am, rfl, C.am, .ref g1, rfl, D2.get_g, .inl ⟨g1, (z :: zs).map V.int, 0, .int z, rfl, rfl, .inl (.inl D2.hg), at0 _ _, rfl, _, rfl, ?_⟩⟩
      by_cases hz : z = 0
      · subst hz
        have e : decide (V.int 0 = V.int 0) = true := decide_eq_true rfl
        rw [e]
        show (if (true : Bool) = true then _ else _)
        rw [if_pos rfl]
        refine ⟨fun σ' H' => ∃ g2, σ' = σ0 ∧ DA C.am H [C.am, cl, g] cl g2 t cs zs H', fun σ' H' ⟨g2, e1, D3⟩ => ⟨zs.length, Nat.lt_succ_self _, g2, zs, e1, rfl, D3⟩, ?_⟩
        refine ⟨.ref C.am, rfl, C.am, .ref g1, rfl, D2.get_g, ?_⟩
        refine ⟨1, rfl, g1, (0 :: zs).map V.int, rfl, .inl (.inl D2.hg), fun p2 n2 => ⟨.ref C.am, rfl, C.am, _, rfl, (D2.junk n2).put_g, p2, rfl, ?_⟩⟩
        have z := D2.newG (gs' := zs) n2 (Nat.le_of_succ_le D2.lg)
        rw [← cut1 0 zs] at z
        exact z
      · have e : decide (V.int z = V.int 0) = false := decide_eq_false fun q => hz (V.int.inj q)
        rw [e]
        show (if (false : Bool) = true then _ else _)
        rw [if_neg (by decide)]
        exact fin D2
end
end Tk02

set_option Elab.async false
set_option linter.all false
set_option maxRecDepth 100000
set_option maxHeartbeats 4000000
namespace Tk02
open PySem L2 PySem.Spec PyProof.Rows TC
abbrev sBeg : Stmt := top 33
abbrev bN : List Str := ["_law_script", "_law_cell"]
theorem scB : FnScope bN ["_law_script"] (defScope sBeg) := ⟨rfl, rfl, rfl, by decide +kernel, rfl, by decide +kernel, by decide +kernel⟩
theorem gS : glB (defScope sBeg) "list" = true := by decide +kernel
theorem merge_kvA (cl g : Addr) (t : Int) : mergeK [] (kvA cl g t) = kvA cl g t := by
  have h1 : ¬ ("cells" : Str) = "left" := by decide +kernel
  have h2 : ¬ ("cells" : Str) = "at" := by decide +kernel
  have h3 : ¬ ("left" : Str) = "at" := by decide +kernel
  simp [mergeK, kvA, putK, h1, h2, h3]
theorem bkB : blkC bN (defScope sBeg) ⟨.function, [(".0", .local), ("_law_cell", .local)], false, false, []⟩ [("_law_cell", 1)] = true := by decide +kernel
section
variable {P : Program} {w : World} {K : PySem.W.Frag} {mg : Str → Option Value} {base : Heap}
theorem ok_begun {nb : Nat} (hnb : nb ≤ 1000000) {fa : Addr} {fd : FuncData} {qual : Str} {x : Str} (F : Fun K x qual sBeg fa fd) (hb : ∀ x, bltB x = true → mg x = none) : FnG P w K mg base 2 fa fd ["_law_script"] (spS K rgA nb) := by
  obtain ⟨oc, od, kV, doc, pm, an, cdv, ct, osl, rfl, lk, hcd⟩ := F.ex
  refine fnG_of lk hcd scB (fun vs H Q E h => ?_) fun A outer s H vs Q E hg hr1 h => ?_
  · obtain ⟨a, ns, rfl, _⟩ := h
    rfl
  · obtain ⟨a, ns, rfl, sq, hl, hbt, hQ⟩ := h
    have gl : mg "list" = none := hb _ (by decide +kernel)
    refine ⟨_, pss_one (ps_ret (pe_disp (pps_cons pe_str (pe_callTy call_list_of (gl_of gS) gl (by decide +kernel) (pa_1 (pv 0) rfl) (by decide +kernel) (by decide +kernel) rfl rfl)
        (pps_cons pe_str (pe_lc rfl scB.nd (pi_list (pv 0)) (blkOk_by (own := [("_law_cell", 1)]) bkB) (fun s H D cl fp => pg_name (i := 1) scB.nd rfl (.inl rfl) (.inr rfl))
          (fun s H D cl fp => pts_one (pt_cmpR op_ge (pv 1) (pe_op op_pow pe_int pe_int) (nomark _))) (fun s H D cl fp => pv 1))
        (pps_cons pe_str pe_int pps_nil))) rfl rfl (by simp) (by decide))), ?_⟩
    have sk : ∀ {H' : Hp}, (∀ c o, H c = some o → H' c = some o) → SqL K H' a (ns.map V.int) := fun {H'} k => sq.imp (fun r => r.imp (k _ _) fun ⟨u, z⟩ => ⟨u, k _ _ z⟩) id
    have u1 : ∀ {H1 : Hp} {p : Addr} {o : HO}, (∀ c o, H c = some o → H1 c = some o) → H1 p = none → ∀ c u, H c = some u → upd H1 p o c = some u := fun {H1 p o} k n c u h => by
      have z := k c u h
      rw [upd_ne (ne_of_none z n)]
      exact z
    intro p np
    have k1 := u1 (o := .dK []) (fun _ _ h => h) np
    refine ⟨.ref a, rfl, a, ns.map V.int, rfl, .inl (sk k1), fun l nl => ?_⟩
    have k2 := u1 (o := .lst (ns.map V.int)) k1 nl
    have pl : p ≠ l := fun z => by
      rw [← z, upd_same] at nl
      cases nl
    have hp0 : H p = none := np
    have hl0 : H l = none := upd_none nl
    refine ⟨.ref a, rfl, a, rfl, ⟨_, sk k2⟩, fun D nD => lc_list (K := K) (a := a) (xs := ns.map V.int) (fun i H' => ∃ acc : List Int, H' = upd (upd (upd H p (.dK [])) l (.lst (ns.map V.int))) D (.lst (acc.map V.int)) ∧ acc.length ≤ i) ⟨[], rfl, Nat.le_refl _⟩ (fun i H' _ ⟨acc, e, _⟩ => by rw [e]; exact sk (u1 k2 nD)) ?_ ?_⟩
    · rintro i y H' hi ⟨acc, rfl, la⟩
      obtain ⟨z, rfl⟩ : ∃ z, y = V.int z := by
        rw [List.getElem?_map] at hi
        obtain ⟨z, _, e⟩ := Option.map_eq_some_iff.mp hi
        exact ⟨z, e.symm⟩
      have il : i < (ns.map V.int).length := (List.getElem?_eq_some_iff.mp hi).1
      rw [List.length_map] at il
      refine ⟨rfl, .int z, rfl, 10, 18, rfl, rfl, ⟨by decide, by decide, by decide⟩, z, _, rfl, rfl, _, rfl, ?_⟩
      by_cases c : (10 : Int) ^ (18 : Int).toNat ≤ z
      · rw [decide_eq_true c]
        show ite _ _ _
        rw [if_pos rfl]
        refine ⟨.int z, rfl, acc.map V.int, upd_same, ?_, acc ++ [z], ?_, ?_⟩
        · rw [List.length_map]
          have := line_num
          omega
        · rw [upd_upd, List.map_append]
          rfl
        · rw [List.length_append]
          exact Nat.succ_le_succ la
      · rw [decide_eq_false c]
        show ite _ _ _
        rw [if_neg (by decide)]
        exact ⟨acc, rfl, Nat.le_succ_of_le la⟩
    · rintro H' ⟨acc, rfl, la⟩
      rw [List.length_map] at la
      have k3 := u1 (o := .lst (acc.map V.int)) k2 nD
      have Dl : l ≠ D := fun z => by
        rw [← z, upd_same] at nD
        cases nD
      have Dp : p ≠ D := fun z => by
        rw [← z, upd_ne pl, upd_same] at nD
        cases nD
      have hD0 : H D = none := upd_none (upd_none nD)
      refine ⟨by rw [upd_ne Dp, upd_ne pl]; exact upd_same, kvA l D 0, rfl, by show 3 ≤ 15; decide, ?_⟩
      rw [merge_kvA]
      have fresh : ∀ c ∈ [p, l, D], H c = none := fun c hc => by
        simp only [List.mem_cons, List.not_mem_nil, or_false] at hc
        rcases hc with rfl | rfl | rfl
        · exact hp0
        · exact hl0
        · exact hD0
      refine hQ p [p, l, D] _ ⟨l, D, 0, ns, acc, rfl, ⟨upd_same, by rw [upd_ne pl.symm, upd_ne Dl, upd_same], by rw [upd_ne Dp.symm, upd_same], Dl, hl, by omega, fun _ _ h _ => h, fun _ h => h, by simp, .inl (by simp), .inl (by simp)⟩, by decide, by omega⟩ (fun c u h => ?_) fresh
      rw [upd_ne (ne_of_none h hp0)]
      exact k3 c u h
end
end Tk02

set_option Elab.async false
set_option linter.all false
set_option maxRecDepth 100000
set_option maxHeartbeats 4000000
namespace Tk02
open PySem TC N07 WD
@[irreducible] def cl : Nat → List Wd → Comp FR := callT 100 fns
theorem cl_def : cl = callT 100 fns := by unfold cl; rfl
theorem tl {i j : Nat} {ws : List Wd} (h : i < j) (hj : j ≤ 29) : tlC fns j i ws = cl i ws := cl_def ▸ tl_lt h hj
variable {c : Nat → List Wd → Comp FR}
/-! words -/
def isC (n : Nat) : Bool := decide (n ∈ ("01" : Str).cps.toList)
def isW : PyData → Bool
  | .str x => decide (1 ≤ (x.length : Int)) && decide ((x.length : Int) ≤ 64) && x.cps.toList.all isC
  | _ => false
def okD : PyData → Bool
  | .str x => decide (x.length ≤ 1000)
  | _ => true
theorem lenS {x : Str} {K : Int} (hK : K = x.length) (h : x.length ≤ 1000) : f1E .len (.str x) = .ret (.int K) := by
  have e : f1E .len (.str x) = okB (decide (x.length ≤ LIM)) (.int x.length) := rfl
  rw [e, decide_eq_true (by unfold LIM; omega), hK]
  rfl
theorem in_c {n : Nat} : inE (.str ⟨#[n]⟩) (.str "01") = .ret (isC n) := rfl
theorem all_map {α : Type} {l : List α} {g : α → Bool} : f1E .all (.list (l.map fun a => .bool (g a))) = .ret (.bool (l.all g)) := by
  have e : f1E .all (.list (l.map fun a => .bool (g a))) = match boolsP (l.map fun a => .bool (g a)) with | some bs => .ret (.bool (bs.all id)) | none => .stuck := rfl
  rw [e, bools_map]
  show Comp.ret (PyData.bool _) = _
  rw [List.all_map]
  rfl
def C2 (c : Nat → List Wd → Comp FR) : Prop := ∀ d, okD d = true → c 2 [.d d, .d (.int 64)] = .ret (.fz (.d (.bool (isW d))))
theorem r2 {d : PyData} (h : okD d = true) : f2.run 100 c [.d d, .d (.int 64)] = .ret (.fz (.d (.bool (isW d)))) := by
  cases d with
  | str x =>
    have hl : x.length ≤ 1000 := of_decide_eq_true h
    obtain ⟨K, hK⟩ : ∃ K : Int, K = x.length := ⟨_, rfl⟩
    have e := lenS hK hl
    have hs : seqE (.str x) = .ret (x.cps.toList.map fun n => .str ⟨#[n]⟩) := rfl
    have lim : limL (x.cps.toList.map fun n => PyData.str ⟨#[n]⟩) = .ret (x.cps.toList.map fun n => .str ⟨#[n]⟩) := limL_ok (by
      rw [List.length_map]
      show x.cps.size ≤ _
      have : x.cps.size = x.length := rfl
      unfold LIM
      omega)
    have hw : isW (.str x) = (decide (1 ≤ K) && decide (K ≤ 64) && x.cps.toList.all isC) := by rw [hK]; rfl
    rw [hw]
    have ar : f1E .all (.list (x.cps.toList.map fun n => .bool (isC n))) = .ret (.bool (x.cps.toList.all isC)) := all_map
    unfold f2
    by_cases h1 : 1 ≤ K
    · by_cases h2 : K ≤ 64
      · simp [Fd.run, isiE, e, h1, h2, hs, lim, Cst.val, -seqE]
        rw [mapC_map (g := fun n => .bool (isC n)) (fun n hn => by simp [in_c])]
        simp [ar]
      · simp [Fd.run, isiE, e, h1, h2, Cst.val]
    · simp [Fd.run, isiE, e, h1, Cst.val]
  | _ =>
    unfold f2 isW
    simp [Fd.run, isiE]
theorem s2 : C2 cl := fun d h => by
  rw [cl_def, cl_at (f := f2) rfl (by decide)]
  exact r2 h
/-! codes -/
def bad (s : Str) : Exn := ⟨0, .str s⟩
theorem fp {s : Str} : flatP (.str s) = true := rfl
theorem n_form1 {d : PyData} (h : isiE .tuple d = false) : f3.run 100 c [.d d] = .raise (bad "form") := by
  unfold f3
  simp [Fd.run, h, fp, bad]
theorem it {xs : List PyData} : isiE .tuple (.tuple xs) = true := rfl
theorem n_form2 {ds : List PyData} (h : ¬ (2 ≤ ds.length ∧ ds.length ≤ 64)) : f3.run 100 c [.d (.tuple ds)] = .raise (bad "form") := by
  unfold f3
  by_cases h1 : 2 ≤ (ds.length : Int)
  · have h2 : ¬ ((ds.length : Int) ≤ 64) := by omega
    simp [Fd.run, it, h1, h2, fp, bad, Cst.val]
  · simp [Fd.run, it, h1, fp, bad, Cst.val]
theorem map_w {ds : List PyData} (c2 : C2 c) (hd : ∀ d ∈ ds, okD d = true) : mapC (fun d => Comp.bind (dD ((c 2 [Wd.d d, Wd.d (PyData.int 64)]).bind frC)) fun y => Comp.ret (some y)) ds = .ret (ds.map fun d => .bool (isW d)) :=
  mapC_some fun d h => by rw [c2 d (hd d h)]; rfl
theorem n_word {ds : List PyData} (c2 : C2 c) (h : 2 ≤ ds.length ∧ ds.length ≤ 64) (hd : ∀ d ∈ ds, okD d = true) (hb : ds.all isW = false) : f3.run 100 c [.d (.tuple ds)] = .raise (bad "word") := by
  have m := map_w c2 hd
  have ar : f1E .all (.list (ds.map fun d => .bool (isW d))) = .ret (.bool (ds.all isW)) := all_map
  have lim : limL ds = .ret ds := limL_ok (by unfold LIM; omega)
  obtain ⟨K, hK⟩ : ∃ K : Int, K = ds.length := ⟨_, rfl⟩
  have hl : f1E .len (.tuple ds) = .ret (.int K) := by rw [slen_tuple, hK]
  have h1 : 2 ≤ K := by omega
  have h2 : K ≤ 64 := by omega
  unfold f3
  simp [Fd.run, it, hl, h1, h2, lim, m, ar, hb, fp, bad, Cst.val, -slen_tuple]
def sameL (ys : List Str) : Bool := match ys with
  | [] => true
  | y :: _ => ys.all fun z => decide (z.length = y.length)
theorem idx0 {y : Str} {ys : List Str} : idxE (.tuple (((y :: ys).map .str))) (.int 0) = .ret (.str y) := by
  have e : idxE (.tuple ((y :: ys).map .str)) (.int 0) = match L2.atI ((y :: ys).map .str) 0 with | some d => .ret d | none => .stuck := rfl
  have z : L2.atI ((y :: ys).map PyData.str) 0 = some (.str y) := by
    unfold L2.atI L2.ixN
    simp
  rw [e, z]
theorem lscS {ys : List Str} (h : ys.length ≤ 1000) {K : Int} (hK : K = TS.cnt ys) : lscE (.tuple (ys.map .str)) = .ret (.int K) := by
  have e : lscE (.tuple (ys.map .str)) = match strsP (ys.map .str) with | some ys => (if ys.length ≤ 1000 then .ret (.int (TS.cnt ys)) else .stuck) | none => .stuck := rfl
  have s : strsP (ys.map PyData.str) = some ys := by
    have z := strs_map (g := fun y : Str => y) (l := ys)
    simpa using z
  rw [e, s]
  show (if ys.length ≤ 1000 then _ else _) = _
  rw [if_pos h, hK]
section
variable {y : Str} {ys : List Str}
theorem code_gen (c2 : C2 c) (h : 2 ≤ (y :: ys).length ∧ (y :: ys).length ≤ 64) (hw : ∀ z ∈ y :: ys, isW (.str z) = true) :
    f3.run 100 c [.d (.tuple ((y :: ys).map .str))] = if sameL (y :: ys) = true then (if TS.cnt (y :: ys) < (y :: ys).length then .raise (bad "same") else .ret (.fz (.d (.tuple ((y :: ys).map .str))))) else .raise (bad "length") := by
  have wl : ∀ z ∈ y :: ys, z.length ≤ 64 := fun z hz => by
    have q := hw z hz
    unfold isW at q
    simp only [Bool.and_eq_true, decide_eq_true_eq] at q
    omega
  have hd : ∀ d ∈ (y :: ys).map PyData.str, okD d = true := fun d hd => by
    obtain ⟨z, hz, rfl⟩ := List.mem_map.mp hd
    have := wl z hz
    exact decide_eq_true (by omega)
  have m := map_w c2 hd
  have ha : ((y :: ys).map PyData.str).all isW = true := by
    rw [List.all_map, List.all_eq_true]
    exact hw
  have ar : f1E .all (.list (((y :: ys).map PyData.str).map fun d => .bool (isW d))) = .ret (.bool true) := by rw [all_map, ha]
  obtain ⟨ds, hds⟩ : ∃ ds, ds = (y :: ys).map PyData.str := ⟨_, rfl⟩
  have hlen : ds.length = (y :: ys).length := by rw [hds, List.length_map]
  have lim : limL ds = .ret ds := limL_ok (by unfold LIM; omega)
  obtain ⟨K, hK⟩ : ∃ K : Int, K = (y :: ys).length := ⟨_, rfl⟩
  obtain ⟨N, hN⟩ : ∃ N : Int, N = TS.cnt (y :: ys) := ⟨_, rfl⟩
  obtain ⟨L, hL⟩ : ∃ L : Int, L = y.length := ⟨_, rfl⟩
  have hl : f1E .len (.tuple ds) = .ret (.int K) := by rw [slen_tuple, hK, hlen]
  have hy : f1E .len (.str y) = .ret (.int L) := lenS hL (by have := wl y (List.mem_cons_self ..); omega)
  have i0 : idxE (.tuple ds) (.int 0) = .ret (.str y) := by rw [hds]; exact idx0
  have ls : lscE (.tuple ds) = .ret (.int N) := by rw [hds]; exact lscS (by omega) hN
  have h1 : 2 ≤ K := by omega
  have h2 : K ≤ 64 := by omega
  have m2 : mapC (fun d => Comp.bind (dD (Comp.bind (dD (retD (f1E F1.len d))) fun x => retB (eqE x (PyData.int L)))) fun y => Comp.ret (some y)) ds = .ret ((y :: ys).map fun z => .bool (decide (z.length = y.length))) := by
    rw [hds]
    refine mapC_map fun z hz => ?_
    rw [lenS (K := z.length) rfl (by have := wl z hz; omega)]
    have e : decide ((z.length : Int) = L) = decide (z.length = y.length) := decide_eq_decide.mpr (by omega)
    show Comp.ret (some (PyData.bool (decide ((z.length : Int) = L)))) = _
    rw [e]
  have ar2 : f1E .all (.list ((y :: ys).map fun z => .bool (decide (z.length = y.length)))) = .ret (.bool (sameL (y :: ys))) := all_map
  rw [← hds] at m ar ⊢
  unfold f3
  simp [Fd.run, it, hl, h1, h2, lim, m, ar, i0, hy, Cst.val, -slen_tuple]
  rw [m2]
  obtain ⟨B, hB⟩ : ∃ B, B = (y :: ys).map fun z => PyData.bool (decide (z.length = y.length)) := ⟨_, rfl⟩
  rw [← hB] at ar2 ⊢
  by_cases hc : N < K
  · have hlc : (y :: ys).length = ys.length + 1 := rfl
    have hc2 : TS.cnt (y :: ys) < ys.length + 1 := by omega
    rw [if_pos hc2]
    cases hs : sameL (y :: ys) with
    | false => simp [ar2, hs, fp, bad]
    | true => simp [ar2, hs, fp, bad, ls, hl, hc, -slen_tuple]
  · have hlc : (y :: ys).length = ys.length + 1 := rfl
    have hc2 : ¬ TS.cnt (y :: ys) < ys.length + 1 := by omega
    rw [if_neg hc2]
    cases hs : sameL (y :: ys) with
    | false => simp [ar2, hs, fp, bad]
    | true => simp [ar2, hs, fp, bad, ls, hl, hc, -slen_tuple]
theorem cntR_nodup : ∀ {l : List Str}, l.Nodup → TS.cntR l = l.length
  | [], _ => rfl
  | y :: r, h => by
    obtain ⟨h1, h2⟩ := List.nodup_cons.mp h
    rw [TS.cntR_cons, if_neg h1, cntR_nodup h2, List.length_cons]
theorem nd_rev {l : List Str} : l.reverse.Nodup ↔ l.Nodup := by
  unfold List.Nodup
  rw [List.pairwise_reverse]
  exact ⟨fun h => h.imp Ne.symm, fun h => h.imp Ne.symm⟩
theorem cnt_nodup {l : List Str} (h : l.Nodup) : TS.cnt l = l.length := by
  unfold TS.cnt
  rw [cntR_nodup (nd_rev.mpr h), List.length_reverse]
theorem cntR_dup : ∀ {l : List Str}, ¬ l.Nodup → TS.cntR l < l.length
  | [], h => (h .nil).elim
  | y :: r, h => by
    have z := TS.cntR_le r
    rw [TS.cntR_cons, List.length_cons]
    by_cases q : y ∈ r
    · rw [if_pos q]
      omega
    · have := cntR_dup (l := r) fun w => h (List.nodup_cons.mpr ⟨q, w⟩)
      rw [if_neg q]
      omega
theorem cnt_dup {l : List Str} (h : ¬ l.Nodup) : TS.cnt l < l.length := by
  have z := cntR_dup (l := l.reverse) fun w => h (nd_rev.mp w)
  rw [List.length_reverse] at z
  exact z
end
end Tk02

set_option Elab.async false
set_option linter.all false
set_option maxRecDepth 100000
set_option maxHeartbeats 4000000
namespace Tk02
open PySem TC N07 WD
variable {c : Nat → List Wd → Comp FR}
/-! good codes -/
def wV (w : List Bool) : PyData := .str (wd w)
def cV (ws : List (List Bool)) : PyData := .tuple (ws.map wV)
structure Gd (ws : List (List Bool)) (t : Nat) : Prop where
  lo : 2 ≤ ws.length
  hi : ws.length ≤ 10
  t0 : 1 ≤ t
  t1 : t ≤ 5
  len : ∀ w ∈ ws, w.length = t
  nd : ws.Nodup
theorem wd_inj {a b : List Bool} (h : wd a = wd b) : a = b := by
  have z : (wd a).cps.toList = (wd b).cps.toList := by rw [h]
  rw [wd_list, wd_list] at z
  exact List.map_inj_right (fun x y => ch_inj) |>.mp z
theorem wd_isW {w : List Bool} (h0 : 1 ≤ w.length) (h1 : w.length ≤ 64) : isW (.str (wd w)) = true := by
  show (decide (1 ≤ ((wd w).length : Int)) && decide (((wd w).length : Int) ≤ 64) && (wd w).cps.toList.all isC) = true
  rw [wd_len, decide_eq_true (by omega), decide_eq_true (by omega), wd_list, List.all_map]
  simp only [Bool.true_and, List.all_eq_true]
  intro b _
  cases b <;> rfl
def C3 (c : Nat → List Wd → Comp FR) : Prop := ∀ ws t, Gd ws t → c 3 [.d (cV ws)] = .ret (.fz (.d (cV ws)))
theorem map_wV {ws : List (List Bool)} : ws.map wV = (ws.map wd).map .str := by
  rw [List.map_map]
  rfl
theorem nd_map {ws : List (List Bool)} (h : ws.Nodup) : (ws.map wd).Nodup := by
  unfold List.Nodup at *
  rw [List.pairwise_map]
  exact h.imp fun hab e => hab (wd_inj e)
theorem r3 (c2 : C2 c) {ws : List (List Bool)} {t : Nat} (h : Gd ws t) : f3.run 100 c [.d (cV ws)] = .ret (.fz (.d (cV ws))) := by
  obtain ⟨y, ys, e⟩ : ∃ y ys, ws.map wd = y :: ys := by
    cases q : ws.map wd with
    | nil =>
      have := congrArg List.length q
      rw [List.length_map, List.length_nil] at this
      have := h.lo
      omega
    | cons a b => exact ⟨a, b, rfl⟩
  have hl : (y :: ys).length = ws.length := by rw [← e, List.length_map]
  have lo := h.lo
  have hi := h.hi
  have t0 := h.t0
  have t1 := h.t1
  have hm : ∀ z ∈ y :: ys, ∃ w ∈ ws, z = wd w := fun z hz => by
    rw [← e] at hz
    obtain ⟨w, hw, rfl⟩ := List.mem_map.mp hz
    exact ⟨w, hw, rfl⟩
  have hw : ∀ z ∈ y :: ys, isW (.str z) = true := fun z hz => by
    obtain ⟨w, hw, rfl⟩ := hm z hz
    have := h.len w hw
    exact wd_isW (by omega) (by omega)
  have g := code_gen c2 (y := y) (ys := ys) (by omega) hw
  have sl : sameL (y :: ys) = true := by
    show (y :: ys).all (fun z => decide (z.length = y.length)) = true
    rw [List.all_eq_true]
    intro z hz
    obtain ⟨w, hw, rfl⟩ := hm z hz
    obtain ⟨w2, hw2, e2⟩ := hm y (List.mem_cons_self ..)
    rw [e2]
    exact decide_eq_true (by rw [wd_len, wd_len, h.len w hw, h.len w2 hw2])
  have hn : TS.cnt (y :: ys) = (y :: ys).length := cnt_nodup (e ▸ nd_map h.nd)
  rw [if_pos sl, if_neg (by omega)] at g
  have ec : cV ws = .tuple ((y :: ys).map .str) := by
    unfold cV
    rw [map_wV, e]
  rw [ec]
  exact g
theorem s3 : C3 cl := fun ws t h => by
  rw [cl_def, cl_at (f := f3) rfl (by decide)]
  exact r3 (fun d hd => (tl (by decide) (by decide)).trans (s2 d hd)) h
/-! what can be caught -/
def okL (n : Int) (o : FR) : Prop := ∃ is, o = .ow (iL is) ∧ is ≠ [] ∧ is.length ≤ 64 ∧ ∀ i ∈ is, 0 ≤ i ∧ i < n
def okM (n : Int) (o : FR) : Prop := ∃ is, o = .ow (iL is) ∧ is.length ≤ 64 ∧ ∀ i ∈ is, 0 ≤ i ∧ i < n
def C4 (c : Nat → List Wd → Comp FR) : Prop := ∀ ws t, Gd ws t → ∀ e s : Int, 0 ≤ e → e < 64 → 0 ≤ s → s < 64 → ∃ o, c 4 [.d (cV ws), .d (.int e), .d (.int s)] = .ret o ∧ okL ws.length o
theorem r4 {ws : List (List Bool)} {t : Nat} (h : Gd ws t) {e s : Int} (e0 : 0 ≤ e) (e1 : e < 64) (s0 : 0 ≤ s) (s1 : s < 64) : ∃ o, f4.run 100 c [.d (cV ws), .d (.int e), .d (.int s)] = .ret o ∧ okL ws.length o := by
  refine okW_zero (okW_run (P := okL ws.length) rfl ?_)
  obtain ⟨N, hN⟩ : ∃ N : Int, N = ws.length := ⟨_, rfl⟩
  have lo := h.lo
  have hl : f1E .len (cV ws) = .ret (.int N) := by
    unfold cV
    rw [slen_tuple, List.length_map, hN]
  have np : 0 < N := by omega
  have hb : bigI (s + 1) = true := bigI_ok (by omega) (by omega)
  have lim : limL (rngP 0 (s + 1)) = .ret (rngP 0 (s + 1)) := limL_ok (by
    rw [rngP_len]
    unfold LIM
    omega)
  rw [← hN]
  unfold f4
  generalize hQ : (fun o : Ou => (endC o).okW 0 (okL N) nEx) = Q
  simp [hb, lim, hl]
  refine Comp.okW_bind (b := 0) (b2 := 0) (P := fun o => ∃ is, o = .rt (.ow (iL is)) ∧ is ≠ [] ∧ is.length ≤ 64 ∧ ∀ i ∈ is, 0 ≤ i ∧ i < N) (okW_exO (b := 0) (b2 := 0) (P := fun ys => ∃ is, ys = iL is ∧ is ≠ [] ∧ is.length ≤ 64 ∧ ∀ i ∈ is, 0 ≤ i ∧ i < N) (okW_nox (Comp.okW_mono (okW_mapS0 (P := fun y => ∃ i, y = .int i ∧ 0 ≤ i ∧ i < N) ?_) (Nat.le_refl _) (fun ys hy => ?_) fun _ z => z)) ?_) ?_
  · intro d hd
    obtain ⟨i, rfl, _, _⟩ := rngP_at' hd
    exact okW_eq (o := some (.int ((e + i) % N))) (by simp [hl, np]) ⟨_, rfl, _, rfl, Int.emod_nonneg _ (by omega), Int.emod_lt_of_pos _ np⟩
  · obtain ⟨is, e2, hq⟩ := iL_of hy.1
    have hn := hy.2
    rw [e2, rngP_len, iL_len] at hn
    refine ⟨is, e2, fun z => ?_, by omega, hq⟩
    rw [z, List.length_nil] at hn
    omega
  · rintro ys ⟨is, rfl, hq⟩
    exact Comp.okW_ret ⟨is, rfl, hq⟩
  · rintro o ⟨is, rfl, h1⟩
    subst hQ
    exact Comp.okW_ret (okW_eq (o := FR.ow (iL is)) rfl ⟨is, rfl, h1⟩)
theorem s4 : C4 cl := fun ws t h e s e0 e1 s0 s1 => by
  rw [cl_def, cl_at (f := f4) rfl (by decide)]
  exact r4 h e0 e1 s0 s1
/-- a list of signs -/
def sD (bs : List Bool) : PyData := .list (bs.map fun b => .str (wd [b]))
def okC (t : Nat) (chs : List (List Bool)) : Prop := chs.length = t ∧ ∀ b ∈ chs, 1 ≤ b.length ∧ b.length ≤ 2
def R5 (t : Nat) (o : FR) : Prop := ∃ chs, o = .ow (chs.map sD) ∧ okC t chs
def C5 (c : Nat → List Wd → Comp FR) : Prop := ∀ ws t, Gd ws t → ∀ e s : Int, 0 ≤ e → e < 64 → 0 ≤ s → s < 64 → ∃ o, c 5 [.d (cV ws), .d (.int e), .d (.int s)] = .ret o ∧ R5 t o
def E5 (ws us : List (List Bool)) (e s : Int) (chs : List (List Bool)) (x5 : Sl) : En := [.fz (.d (cV ws)), .fz (.d (.int e)), .fz (.d (.int s)), .fz (.d (.list (us.map wV))), .ow (chs.map sD), x5, .un, .un, .un]
end Tk02

set_option Elab.async false
set_option linter.all false
set_option maxRecDepth 100000
set_option maxHeartbeats 4000000
namespace Tk02
open PySem TC N07 WD
variable {c : Nat → List Wd → Comp FR}
def gb (w : List Bool) (j : Nat) : Bool := w.getD j false
def hasB (us : List (List Bool)) (j : Nat) (b : Bool) : Bool := us.any fun w => decide (gb w j = b)
def ch2 (us : List (List Bool)) (j : Nat) : List Bool := [false, true].filter (hasB us j)
theorem ch2_len {us : List (List Bool)} {j : Nat} (h : us ≠ []) : 1 ≤ (ch2 us j).length ∧ (ch2 us j).length ≤ 2 := by
  cases us with
  | nil => exact (h rfl).elim
  | cons w us =>
    have hp : hasB (w :: us) j (gb w j) = true := by
      unfold hasB
      rw [List.any_cons, decide_eq_true rfl, Bool.true_or]
    unfold ch2
    generalize hasB (w :: us) j = p at hp
    cases e : gb w j <;> rw [e] at hp <;> cases e2 : p true <;> cases e3 : p false <;> simp_all
theorem idx_wV {w : List Bool} {t j : Nat} (hw : w.length = t) (ht : t ≤ 5) (h : j < t) : idxE (wV w) (.int j) = .ret (.str (wd [gb w j])) := by
  refine idxW (by omega) ?_
  have hl : j < w.length := by omega
  unfold gb
  rw [List.getD_eq_getElem?_getD, List.getElem?_eq_getElem hl]
  rfl
theorem in_sg {us : List (List Bool)} {j : Nat} {b : Bool} : inE (.str (wd [b])) (.list (us.map fun w => .str (wd [gb w j]))) = .ret (hasB us j b) := by
  have z := inWd (b := [b]) (bs := us.map fun w => [gb w j])
  rw [List.map_map, List.any_map] at z
  have e : hasB us j b = us.any ((fun z => decide (wd z = wd [b])) ∘ fun w => [gb w j]) := by
    unfold hasB
    congr 1
    funext w
    exact (decide_eq_decide.mpr (Iff.of_eq wd_inj1)).symm
  rw [e]
  exact z
theorem s01 : seqE (.str "01") = .ret [.str (wd [false]), .str (wd [true])] := rfl
theorem mapC_fil {α : Type} {f : PyData → Comp (Option PyData)} {g : α → PyData} {p : α → Bool} : ∀ {l : List α}, (∀ b ∈ l, f (g b) = .ret (if p b then some (g b) else none)) → mapC f (l.map g) = .ret ((l.filter p).map g)
  | [], _ => rfl
  | b :: l, h => by
    have z := mapC_fil fun b hb => h b (List.mem_cons_of_mem _ hb)
    show (f (g b)).bind (fun r => (mapC f (l.map g)).bind fun rs => .ret (consO r rs)) = _
    rw [h b (List.mem_cons_self ..), z]
    cases e : p b with
    | false => rw [List.filter_cons_of_neg (by simp [e])]; rfl
    | true => rw [List.filter_cons_of_pos e]; rfl
theorem r5 (c4 : C4 c) {ws : List (List Bool)} {t : Nat} (h : Gd ws t) {e s : Int} (e0 : 0 ≤ e) (e1 : e < 64) (s0 : 0 ≤ s) (s1 : s < 64) : ∃ o, f5.run 100 c [.d (cV ws), .d (.int e), .d (.int s)] = .ret o ∧ R5 t o := by
  refine okW_zero (okW_run (P := R5 t) rfl ?_)
  obtain ⟨o4, h4, is, rfl, hne, hil, his⟩ := c4 ws t h e s e0 e1 s0 s1
  have lo := h.lo
  have t1 := h.t1
  obtain ⟨us, hm, hus, hul, huw⟩ : ∃ us : List (List Bool), mapC (fun d => (TC.dD (retD (idxE (cV ws) d))).bind fun y => Comp.ret (some y)) (iL is) = .ret (us.map wV) ∧ us ≠ [] ∧ us.length ≤ 64 ∧ ∀ w ∈ us, w.length = t := by
    obtain ⟨ys, e, hy, hl⟩ := okW_zero (okW_mapS0 (P := fun y => ∃ w, y = wV w ∧ w.length = t) (f := fun d => (TC.dD (retD (idxE (cV ws) d))).bind fun y => Comp.ret (some y)) (l := iL is) (by
      intro d hd
      unfold iL at hd
      obtain ⟨i, hi, rfl⟩ := List.mem_map.mp hd
      obtain ⟨i0, i1⟩ := his i hi
      obtain ⟨w, hw, hat⟩ := at_map (g := wV) (l := ws) i0 i1
      exact okW_eq (o := some (wV w)) (by unfold cV; rw [idx_T hat]; rfl) ⟨_, rfl, _, rfl, h.len w hw⟩))
    obtain ⟨us, rfl, hq⟩ := map_of hy
    rw [List.length_map, iL_len] at hl
    refine ⟨us, e, fun z => hne ?_, by omega, hq⟩
    rw [z] at hl
    exact List.eq_nil_of_length_eq_zero hl.symm
  obtain ⟨w0, ws0, hws⟩ : ∃ w0 ws0, ws = w0 :: ws0 := by
    cases ws with
    | nil => simp at lo
    | cons a b => exact ⟨a, b, rfl⟩
  have hw0 : w0.length = t := h.len w0 (by rw [hws]; exact List.mem_cons_self ..)
  obtain ⟨T, hT, bT⟩ := hide (w := t) (by omega)
  have i0 : idxE (cV ws) (.int 0) = .ret (wV w0) := by
    unfold cV
    refine idx_T ?_
    rw [hws]
    unfold L2.atI L2.ixN
    simp
  have l0 : f1E .len (wV w0) = .ret (.int T) := lenW (by rw [hT, hw0]) (by omega)
  have lim : limL (rngP 0 T) = .ret (rngP 0 T) := lim_rng hT (by omega)
  have lim1 : limL (iL is) = .ret (iL is) := limL_ok (by rw [iL_len]; unfold LIM; omega)
  have limU : limL (us.map wV) = .ret (us.map wV) := limL_ok (by rw [List.length_map]; unfold LIM; omega)
  obtain ⟨SG, hSG⟩ : ∃ SG, SG = [false, true].map fun b => PyData.str (wd [b]) := ⟨_, rfl⟩
  have lim2 : limL (List.map (fun c => PyData.str ⟨#[c]⟩) (Str.ofString "01").cps.toList) = .ret SG := by rw [hSG]; rfl
  unfold f5
  generalize hQ : (fun o : Ou => (endC o).okW 0 (R5 t) nEx) = Q
  simp [h4, hm, i0, l0, lim, lim1]
  simp [frzE, i0, l0, lim, bT]
  refine Comp.okW_bind (b := 0) (b2 := 0) (P := fun o => ∃ chs x5, o = .nx (E5 ws us e s chs x5) ∧ okC t chs) (okW_for0 (P := fun j e' => ∃ chs x5, e' = E5 ws us e s chs x5 ∧ okC j chs) ?_ ?_ ?_) ?_
  · rintro j d hd e' ⟨chs, x5, rfl, hc⟩
    obtain ⟨rfl, hj⟩ := rngP_at hd
    have hj : j < t := by omega
    rw [Int.zero_add]
    have m1 : mapC (fun d => Comp.bind (dD (retD (idxE d (.int j)))) fun y => Comp.ret (some y)) (us.map wV) = .ret (us.map fun w => .str (wd [gb w j])) := mapC_map fun w hw => by
      rw [idx_wV (huw w hw) t1 hj]
      rfl
    have m2 : mapC (fun d => (TC.dB (retB (inE d (PyData.list (us.map fun w => PyData.str (wd [gb w j])))))).bind fun b => if b = true then Comp.ret (some d) else Comp.ret none) SG = .ret ((ch2 us j).map fun b => .str (wd [b])) := by
      rw [hSG]
      exact mapC_fil (p := hasB us j) fun b hb => by rw [in_sg]; cases hasB us j b <;> rfl
    have hl : chs.length < LIM := by
      have := hc.1
      unfold LIM
      omega
    refine okW_eq (o := .nx (E5 ws us e s (chs ++ [ch2 us j]) (.fz (.d (.int j))))) (by
      simp [E5, limU, m1, Cst.val, lim2, m2, isO, appE, hl]
      rfl) ⟨_, Or.inl rfl, _, _, rfl, ?_⟩
    obtain ⟨h1, h2⟩ := hc
    refine ⟨by simp [h1], fun b hb => ?_⟩
    rcases List.mem_append.mp hb with hb | hb
    · exact h2 b hb
    · rw [List.mem_singleton.mp hb]
      exact ch2_len hus
  · rintro e' ⟨chs, x5, rfl, hc⟩
    rw [rngP_len] at hc
    exact ⟨chs, x5, rfl, by rw [show (T - 0).toNat = t by omega] at hc; exact hc⟩
  · exact ⟨[], .un, rfl, rfl, fun _ hb => (List.not_mem_nil hb).elim⟩
  · rintro o ⟨chs, x5, rfl, hc⟩
    subst hQ
    refine okW_eq (o := .rt (.ow (chs.map sD))) (by simp [E5, retO]) (okW_eq (o := FR.ow (chs.map sD)) rfl ⟨chs, rfl, hc⟩)
theorem s5 : C5 cl := fun ws t h e s e0 e1 s0 s1 => by
  rw [cl_def, cl_at (f := f5) rfl (by decide)]
  exact r5 (fun ws t h e s e0 e1 s0 s1 => by rw [tl (by decide) (by decide)]; exact s4 ws t h e s e0 e1 s0 s1) h e0 e1 s0 s1
end Tk02

set_option Elab.async false
set_option linter.all false
set_option maxRecDepth 100000
set_option maxHeartbeats 4000000
namespace Tk02
open PySem TC N07 WD
variable {c : Nat → List Wd → Comp FR}
theorem okW_lc {α β : Type} {f : α → Comp (Option PyData)} {l : List α} {K : PyData → Comp β} {P : PyData → Prop} {Q : β → Prop} (h : ∀ a ∈ l, (f a).okW 0 (fun o => ∃ y, o = some y ∧ P y) nEx) (m : ∀ ys, (∀ y ∈ ys, P y) → ys.length = l.length → (K (.list ys)).okW 0 Q nEx) :
    (Comp.bind (dD ((nox (mapC f l)).bind fun ds => Comp.ret (Wd.d (PyData.list ds)))) K).okW 0 Q nEx := by
  obtain ⟨ys, e, h1, h2⟩ := okW_zero (okW_mapS0 h)
  rw [e]
  exact m ys h1 h2
theorem okW_lf {α : Type} {f : α → Comp (Option PyData)} {l : List α} {K : List PyData → Comp Ou} {e0 : En} {P : PyData → Prop} {Q : Ou → Prop} (h : ∀ a ∈ l, (f a).okW 0 (fun o => ∀ y, o = some y → P y) nEx) (m : ∀ ys, (∀ y ∈ ys, P y) → ys.length ≤ l.length → (K ys).okW 0 Q nEx) :
    (exO e0 (nox (mapC f l)) K).okW 0 Q nEx := by
  obtain ⟨ys, e, h1, h2⟩ := okW_zero (okW_map0 h)
  rw [e]
  exact m ys h1 h2
theorem in_sD {bs : List Bool} {b : Bool} : ∃ r, inE (.str (wd [b])) (sD bs) = .ret r := by
  have z := inWd (b := [b]) (bs := bs.map fun b => [b])
  rw [List.map_map] at z
  exact ⟨_, z⟩
theorem all_b {bs : List Bool} : f1E .all (.list (bs.map .bool)) = .ret (.bool (bs.all id)) := all_map (g := id)
def R6 (o : FR) : Prop := ∃ b, o = .fz (.d (.bool b))
def C6 (c : Nat → List Wd → Comp FR) : Prop := ∀ (chs : List (List Bool)) (w : List Bool), chs.length ≤ 5 → ∃ o, c 6 [.d (.list (chs.map sD)), .d (wV w)] = .ret o ∧ R6 o
theorem r6 {chs : List (List Bool)} {w : List Bool} (h : chs.length ≤ 5) : ∃ o, f6.run 100 c [.d (.list (chs.map sD)), .d (wV w)] = .ret o ∧ R6 o := by
  refine okW_zero (okW_run (P := R6) rfl ?_)
  have hz : zipE (.list (chs.map sD)) (wV w) = .ret (zipP (chs.map sD) (w.map fun b => .str (wd [b]))) := by
    show Comp.ret (zipP _ ((wd w).cps.toList.map fun c => PyData.str ⟨#[c]⟩)) = _
    rw [wd_list, List.map_map]
    rfl
  obtain ⟨Z, hZ⟩ : ∃ Z, Z = zipP (chs.map sD) (w.map fun b => .str (wd [b])) := ⟨_, rfl⟩
  have hl : Z.length ≤ 5 := by
    rw [hZ]
    unfold zipP
    rw [List.length_zipWith, List.length_map]
    omega
  have lim : limL Z = .ret Z := limL_ok (by unfold LIM; omega)
  rw [← hZ] at hz
  unfold f6
  generalize hQ : (fun o : Ou => (endC o).okW 0 R6 nEx) = Q
  simp [hz, lim]
  refine Comp.okW_bind (b := 0) (b2 := 0) (P := fun o => ∃ b, o = .rt (.fz (.d (.bool b)))) (okW_exO (b := 0) (b2 := 0) (P := fun w => ∃ b, w = .d (.bool b)) (okW_lc (P := fun y => ∃ b, y = .bool b) ?_ ?_) ?_) ?_
  · intro d hd
    rw [hZ] at hd
    obtain ⟨x, y, rfl, hx, hy⟩ := zip_mem hd
    obtain ⟨bs, _, rfl⟩ := List.mem_map.mp hx
    obtain ⟨b, _, rfl⟩ := List.mem_map.mp hy
    obtain ⟨r, hr⟩ := in_sD (bs := bs) (b := b)
    exact okW_eq (o := some (.bool r)) (by simp [hr]) ⟨_, rfl, r, rfl⟩
  · intro ys hy _
    obtain ⟨bs, rfl, _⟩ := map_of (Q := fun _ => True) fun y h => (hy y h).imp fun b e => ⟨e, trivial⟩
    exact okW_eq (o := .d (.bool (bs.all id))) (by simp [all_b]) ⟨_, rfl⟩
  · rintro w ⟨b, rfl⟩
    exact Comp.okW_ret ⟨b, rfl⟩
  · rintro o ⟨b, rfl⟩
    subst hQ
    exact Comp.okW_ret (okW_eq (o := FR.fz (.d (.bool b))) rfl ⟨b, rfl⟩)
theorem s6 : C6 cl := fun chs w h => by
  rw [cl_def, cl_at (f := f6) rfl (by decide)]
  exact r6 h
end Tk02

set_option Elab.async false
set_option linter.all false
set_option maxRecDepth 100000
set_option maxHeartbeats 4000000
namespace Tk02
open PySem TC N07 WD
variable {c : Nat → List Wd → Comp FR}
/-- the arguments of a good code and numbers -/
def A3 (ws : List (List Bool)) (e s : Int) : List Wd := [.d (cV ws), .d (.int e), .d (.int s)]
structure Go (ws : List (List Bool)) (t : Nat) (e s : Int) : Prop where
  g : Gd ws t
  e0 : 0 ≤ e
  e1 : e < 64
  s0 : 0 ≤ s
  s1 : s < 64
def C7 (c : Nat → List Wd → Comp FR) : Prop := ∀ ws t e s, Go ws t e s → ∃ o, c 7 [.d (cV ws), .d (.int e), .d (.int s)] = .ret o ∧ okM ws.length o
theorem r7 (c5 : C5 c) (c6 : C6 c) {ws : List (List Bool)} {t : Nat} {e s : Int} (h : Go ws t e s) : ∃ o, f7.run 100 c [.d (cV ws), .d (.int e), .d (.int s)] = .ret o ∧ okM ws.length o := by
  refine okW_zero (okW_run (P := okM ws.length) rfl ?_)
  obtain ⟨o5, h5, chs, rfl, hc⟩ := c5 ws t h.g e s h.e0 h.e1 h.s0 h.s1
  have t1 := h.g.t1
  have hi := h.g.hi
  obtain ⟨N, hN⟩ : ∃ N : Int, N = ws.length := ⟨_, rfl⟩
  have he : enuE (cV ws) = .ret (enuP (ws.map wV)) := rfl
  have hl : (enuP (ws.map wV)).length = ws.length := by rw [enu_len, List.length_map]
  obtain ⟨Z, hZ⟩ : ∃ Z, Z = enuP (ws.map wV) := ⟨_, rfl⟩
  rw [← hZ] at he hl
  have lim : limL Z = .ret Z := limL_ok (by unfold LIM; omega)
  rw [← hN]
  unfold f7
  generalize hQ : (fun o : Ou => (endC o).okW 0 (okM N) nEx) = Q
  simp [h5, he, lim]
  refine Comp.okW_bind (b := 0) (b2 := 0) (P := fun o => ∃ is, o = .rt (.ow (iL is)) ∧ is.length ≤ 64 ∧ ∀ i ∈ is, 0 ≤ i ∧ i < N) (okW_lf (P := fun y => ∃ i, y = .int i ∧ 0 ≤ i ∧ i < N) ?_ ?_) ?_
  · intro d hd
    rw [hZ] at hd
    obtain ⟨i, x, rfl, hi, hx⟩ := enu_mem hd
    rw [List.length_map] at hi
    obtain ⟨w, _, rfl⟩ := List.mem_map.mp hx
    obtain ⟨o6, h6, b, rfl⟩ := c6 chs w (by rw [hc.1]; omega)
    cases b with
    | true => exact okW_eq (o := some (.int i)) (by simp [h6]) fun y hy => by cases hy; exact ⟨_, rfl, by omega, by omega⟩
    | false => exact okW_eq (o := none) (by simp [h6]) fun y hy => by cases hy
  · intro ys hy hn
    obtain ⟨is, rfl, hq⟩ := iL_of hy
    rw [iL_len] at hn
    exact Comp.okW_ret ⟨is, rfl, by omega, hq⟩
  · rintro o ⟨is, rfl, h1⟩
    subst hQ
    exact Comp.okW_ret (okW_eq (o := FR.ow (iL is)) rfl ⟨is, rfl, h1⟩)
theorem s7 : C7 cl := fun ws t e s h => by
  rw [cl_def, cl_at (f := f7) rfl (by decide)]
  exact r7 (fun ws t h e s e0 e1 s0 s1 => by rw [tl (by decide) (by decide)]; exact s5 ws t h e s e0 e1 s0 s1) (fun chs w h => by rw [tl (by decide) (by decide)]; exact s6 chs w h) h
def C8 (c : Nat → List Wd → Comp FR) : Prop := ∀ ws t e s, Go ws t e s → ∃ o, c 8 [.d (cV ws), .d (.int e), .d (.int s)] = .ret o ∧ okM ws.length o
theorem r8 (c4 : C4 c) (c7 : C7 c) {ws : List (List Bool)} {t : Nat} {e s : Int} (h : Go ws t e s) : ∃ o, f8.run 100 c [.d (cV ws), .d (.int e), .d (.int s)] = .ret o ∧ okM ws.length o := by
  refine okW_zero (okW_run (P := okM ws.length) rfl ?_)
  obtain ⟨o4, h4, is, rfl, _, _, _⟩ := c4 ws t h.g e s h.e0 h.e1 h.s0 h.s1
  obtain ⟨o7, h7, js, rfl, hjl, hj⟩ := c7 ws t e s h
  have lim : limL (iL js) = .ret (iL js) := limL_ok (by rw [iL_len]; unfold LIM; omega)
  obtain ⟨N, hN⟩ : ∃ N : Int, N = ws.length := ⟨_, rfl⟩
  rw [← hN] at hj ⊢
  unfold f8
  generalize hQ : (fun o : Ou => (endC o).okW 0 (okM N) nEx) = Q
  simp [h4, h7, lim]
  refine Comp.okW_bind (b := 0) (b2 := 0) (P := fun o => ∃ is, o = .rt (.ow (iL is)) ∧ is.length ≤ 64 ∧ ∀ i ∈ is, 0 ≤ i ∧ i < N) (okW_lf (P := fun y => ∃ i, y = .int i ∧ 0 ≤ i ∧ i < N) ?_ ?_) ?_
  · intro d hd
    obtain ⟨i, hi, rfl⟩ := List.mem_map.mp (show d ∈ js.map .int from hd)
    obtain ⟨r, hr⟩ := inI (i := i) (is := is)
    cases r with
    | false => exact okW_eq (o := some (.int i)) (by simp [hr]) fun y hy => by cases hy; exact ⟨_, rfl, hj i hi⟩
    | true => exact okW_eq (o := none) (by simp [hr]) fun y hy => by cases hy
  · intro ys hy hn
    obtain ⟨is, rfl, hq⟩ := iL_of hy
    rw [iL_len, iL_len] at hn
    exact Comp.okW_ret ⟨is, rfl, by omega, hq⟩
  · rintro o ⟨is, rfl, h1⟩
    subst hQ
    exact Comp.okW_ret (okW_eq (o := FR.ow (iL is)) rfl ⟨is, rfl, h1⟩)
theorem s8 : C8 cl := fun ws t e s h => by
  rw [cl_def, cl_at (f := f8) rfl (by decide)]
  exact r8 (fun ws t h e s e0 e1 s0 s1 => by rw [tl (by decide) (by decide)]; exact s4 ws t h e s e0 e1 s0 s1) (fun ws t e s h => by rw [tl (by decide) (by decide)]; exact s7 ws t e s h) h
def C9 (c : Nat → List Wd → Comp FR) : Prop := ∀ ws t s, Go ws t 0 s → ∃ o, c 9 [.d (cV ws), .d (.int s)] = .ret o ∧ R6 o
theorem r9 (c8 : C8 c) {ws : List (List Bool)} {t : Nat} {s : Int} (h : Go ws t 0 s) : ∃ o, f9.run 100 c [.d (cV ws), .d (.int s)] = .ret o ∧ R6 o := by
  refine okW_zero (okW_run (P := R6) rfl ?_)
  have hi := h.g.hi
  obtain ⟨N, hN, bN⟩ := hide (w := ws.length) (by omega)
  have hl : f1E .len (cV ws) = .ret (.int N) := by
    unfold cV
    rw [slen_tuple, List.length_map, hN]
  have lim : limL (rngP 0 N) = .ret (rngP 0 N) := lim_rng hN (by omega)
  unfold f9
  generalize hQ : (fun o : Ou => (endC o).okW 0 R6 nEx) = Q
  simp [hl, lim, bN]
  refine Comp.okW_bind (b := 0) (b2 := 0) (P := fun o => ∃ b, o = .rt (.fz (.d (.bool b)))) (okW_exO (b := 0) (b2 := 0) (P := fun w => ∃ b, w = .d (.bool b)) (okW_lc (P := fun y => ∃ b, y = .bool b) ?_ ?_) ?_) ?_
  · intro d hd
    obtain ⟨i, rfl, i0, i1⟩ := rngP_at' hd
    obtain ⟨o8, h8, is, rfl, _⟩ := c8 ws t i s ⟨h.g, by omega, by omega, h.s0, h.s1⟩
    exact okW_eq (o := some (.bool (decide (is = [])))) (by simp [h8, eqE_nil]) ⟨_, rfl, _, rfl⟩
  · intro ys hy _
    obtain ⟨bs, rfl, _⟩ := map_of (Q := fun _ => True) fun y h => (hy y h).imp fun b e => ⟨e, trivial⟩
    exact okW_eq (o := .d (.bool (bs.all id))) (by simp [all_b]) ⟨_, rfl⟩
  · rintro w ⟨b, rfl⟩
    exact Comp.okW_ret ⟨b, rfl⟩
  · rintro o ⟨b, rfl⟩
    subst hQ
    exact Comp.okW_ret (okW_eq (o := FR.fz (.d (.bool b))) rfl ⟨b, rfl⟩)
theorem s9 : C9 cl := fun ws t s h => by
  rw [cl_def, cl_at (f := f9) rfl (by decide)]
  exact r9 (fun ws t e s h => by rw [tl (by decide) (by decide)]; exact s8 ws t e s h) h
def R18 (o : FR) : Prop := ∃ i : Int, o = .fz (.d (.int i))
def C18 (c : Nat → List Wd → Comp FR) : Prop := ∀ ws t e s, Go ws t e s → ∃ o, c 18 [.d (cV ws), .d (.int e), .d (.int s)] = .ret o ∧ R18 o
theorem r18 (c5 : C5 c) {ws : List (List Bool)} {t : Nat} {e s : Int} (h : Go ws t e s) : ∃ o, f18.run 100 c [.d (cV ws), .d (.int e), .d (.int s)] = .ret o ∧ R18 o := by
  refine okW_zero (okW_run (P := R18) rfl ?_)
  obtain ⟨o5, h5, chs, rfl, hc⟩ := c5 ws t h.g e s h.e0 h.e1 h.s0 h.s1
  unfold f18
  generalize hQ : (fun o : Ou => (endC o).okW 0 R18 nEx) = Q
  simp [h5]
  refine Comp.okW_bind (b := 0) (b2 := 0) (P := fun o => ∃ (m : Int) (x4 : Sl), o = .nx [.fz (.d (cV ws)), .fz (.d (.int e)), .fz (.d (.int s)), .fz (.d (.int m)), x4]) (okW_for0 (P := fun j e' => ∃ (m : Int) (x4 : Sl), e' = [.fz (.d (cV ws)), .fz (.d (.int e)), .fz (.d (.int s)), .fz (.d (.int m)), x4]) ?_ ?_ ?_) ?_
  · rintro j d hd e' ⟨m, x4, rfl⟩
    obtain ⟨bs, hb, rfl⟩ := List.mem_map.mp (List.mem_of_getElem? hd)
    obtain ⟨b0, b1⟩ := hc.2 bs hb
    obtain ⟨k, hk⟩ : ∃ k : Int, k = bs.length := ⟨_, rfl⟩
    have hl : f1E .len (sD bs) = .ret (.int k) := by
      unfold sD
      rw [slen_list, List.length_map, hk]
    have hm : augB .mul m k = .ret (m * k) := by
      have e2 : smallI k = true := by
        rcases (show k = 1 ∨ k = 2 by omega) with rfl | rfl <;> rfl
      simp [augB, e2]
    exact okW_eq (o := .nx [.fz (.d (cV ws)), .fz (.d (.int e)), .fz (.d (.int s)), .fz (.d (.int (m * k))), .fz (.d (sD bs))]) (by simp [hl, hm, -smul_int, isF, augE]) ⟨_, Or.inl rfl, _, _, rfl⟩
  · rintro e' ⟨m, x4, rfl⟩
    exact ⟨m, x4, rfl⟩
  · exact ⟨1, .un, rfl⟩
  · rintro o ⟨m, x4, rfl⟩
    subst hQ
    exact okW_eq (o := .rt (.fz (.d (.int m)))) (by simp) (okW_eq (o := FR.fz (.d (.int m))) rfl ⟨m, rfl⟩)
theorem s18 : C18 cl := fun ws t e s h => by
  rw [cl_def, cl_at (f := f18) rfl (by decide)]
  exact r18 (fun ws t h e s e0 e1 s0 s1 => by rw [tl (by decide) (by decide)]; exact s5 ws t h e s e0 e1 s0 s1) h
end Tk02

set_option Elab.async false
set_option linter.all false
set_option maxRecDepth 100000
set_option maxHeartbeats 4000000
namespace Tk02
open PySem TC N07 WD
variable {c : Nat → List Wd → Comp FR}
def isN (n : Int) : PyData → Bool
  | .int i => decide (0 ≤ i) && decide (i ≤ n)
  | _ => false
def C11 (c : Nat → List Wd → Comp FR) : Prop := ∀ d n, c 11 [.d d, .d (.int 0), .d (.int n)] = .ret (.fz (.d (.bool (isN n d))))
theorem r11 {d : PyData} {n : Int} : f11.run 100 c [.d d, .d (.int 0), .d (.int n)] = .ret (.fz (.d (.bool (isN n d)))) := by
  cases d with
  | int i =>
    unfold f11 isN
    by_cases h : i < 0
    · have h2 : ¬ 0 ≤ i := by omega
      simp [Fd.run, isiE, h, h2]
    · have h2 : 0 ≤ i := by omega
      simp [Fd.run, isiE, h, h2]
  | _ =>
    unfold f11 isN
    simp [Fd.run, isiE]
theorem s11 : C11 cl := fun d n => by
  rw [cl_def, cl_at (f := f11) rfl (by decide)]
  exact r11
def pla (s : Str) : Exn := ⟨1, .str s⟩
def nn : FR := .fz (.d .none)
theorem len_cV {ws : List (List Bool)} {N : Int} (hN : N = ws.length) : f1E .len (cV ws) = .ret (.int N) := by
  unfold cV
  rw [slen_tuple, List.length_map, hN]
/-- what is asked of a number: a good one, or refused -/
def Ask (x : Str) (c : Comp FR) (b : Bool) : Prop := c = if b then .ret nn else .raise (pla x)
def C12 (c : Nat → List Wd → Comp FR) : Prop := ∀ ws d, c 12 [.d (cV ws), .d d] = if isN (ws.length - 1) d then .ret nn else .raise (pla "no count")
theorem r12 (c11 : C11 c) {ws : List (List Bool)} {d : PyData} : f12.run 100 c [.d (cV ws), .d d] = if isN (ws.length - 1) d then .ret nn else .raise (pla "no count") := by
  obtain ⟨N, hN⟩ : ∃ N : Int, N = ws.length := ⟨_, rfl⟩
  have hl := len_cV hN
  rw [← hN]
  unfold f12
  cases e : isN (N - 1) d <;> simp [Fd.run, hl, c11 d (N - 1), e, fp, pla, nn]
theorem s12 : C12 cl := fun ws d => by
  rw [cl_def, cl_at (f := f12) rfl (by decide)]
  exact r12 fun d n => by rw [tl (by decide) (by decide)]; exact s11 d n
def C15 (c : Nat → List Wd → Comp FR) : Prop := ∀ ws d, c 15 [.d (cV ws), .d d] = if isN (ws.length - 1) d then .ret nn else .raise (pla "no number of steps")
theorem r15 (c11 : C11 c) {ws : List (List Bool)} {d : PyData} : f15.run 100 c [.d (cV ws), .d d] = if isN (ws.length - 1) d then .ret nn else .raise (pla "no number of steps") := by
  obtain ⟨N, hN⟩ : ∃ N : Int, N = ws.length := ⟨_, rfl⟩
  have hl := len_cV hN
  rw [← hN]
  unfold f15
  cases e : isN (N - 1) d <;> simp [Fd.run, hl, c11 d (N - 1), e, fp, pla, nn]
theorem s15 : C15 cl := fun ws d => by
  rw [cl_def, cl_at (f := f15) rfl (by decide)]
  exact r15 fun d n => by rw [tl (by decide) (by decide)]; exact s11 d n
/-! refused codes -/
section
variable {d : PyData} {p : Str} (hb : c 3 [.d d] = .raise (bad p))
include hb
theorem b10 : f10.run 100 c [.d d] = .raise (bad p) := by
  unfold f10
  simp [Fd.run, hb]
theorem b13 {x : PyData} : f13.run 100 c [.d d, .d x] = .raise (bad p) := by
  unfold f13
  simp [Fd.run, hb]
theorem b14 {x : PyData} : f14.run 100 c [.d d, .d x] = .raise (bad p) := by
  unfold f14
  simp [Fd.run, hb]
theorem b16 {x y : PyData} : f16.run 100 c [.d d, .d x, .d y] = .raise (bad p) := by
  unfold f16
  simp [Fd.run, hb]
theorem b22 {x : PyData} : f22.run 100 c [.d d, .d x] = .raise (bad p) := by
  unfold f22
  simp [Fd.run, hb]
theorem b23 {x : PyData} : f23.run 100 c [.d d, .d x] = .raise (bad p) := by
  unfold f23
  simp [Fd.run, hb]
theorem b24 {x : PyData} : f24.run 100 c [.d d, .d x] = .raise (bad p) := by
  unfold f24
  simp [Fd.run, hb]
theorem b26 {x : PyData} : f26.run 100 c [.d d, .d x] = .raise (bad p) := by
  unfold f26
  simp [Fd.run, hb]
end
section
variable {d x y : PyData} {q : Exn} (hb : c 16 [.d d, .d x, .d y] = .raise q)
include hb
theorem b17 : f17.run 100 c [.d d, .d x, .d y] = .raise q := by
  unfold f17
  simp [Fd.run, hb]
theorem b19 : f19.run 100 c [.d d, .d x, .d y] = .raise q := by
  unfold f19
  simp [Fd.run, hb]
theorem b20 : f20.run 100 c [.d d, .d x, .d y] = .raise q := by
  unfold f20
  simp [Fd.run, hb]
end
/-! good codes, numbers that are refused -/
section
variable {ws : List (List Bool)} {t : Nat} (g : Gd ws t) (c3 : C3 c) {d : PyData} (hd : isN (ws.length - 1) d = false)
include g c3 hd
theorem p13 (c12 : C12 c) : f13.run 100 c [.d (cV ws), .d d] = .raise (pla "no count") := by
  have h3 := c3 ws t g
  have h12 := c12 ws d
  rw [hd] at h12
  unfold f13
  simp [Fd.run, h3, h12]
theorem p16a (c12 : C12 c) {y : PyData} : f16.run 100 c [.d (cV ws), .d d, .d y] = .raise (pla "no count") := by
  have h3 := c3 ws t g
  have h12 := c12 ws d
  rw [hd] at h12
  unfold f16
  simp [Fd.run, h3, h12]
theorem p16b (c12 : C12 c) (c15 : C15 c) {x : PyData} (hx : isN (ws.length - 1) x = true) : f16.run 100 c [.d (cV ws), .d x, .d d] = .raise (pla "no number of steps") := by
  have h3 := c3 ws t g
  have h12 := c12 ws x
  have h15 := c15 ws d
  rw [hx] at h12
  rw [hd] at h15
  unfold f16
  simp [Fd.run, h3, h12, h15, nn]
theorem p22 (c15 : C15 c) : f22.run 100 c [.d (cV ws), .d d] = .raise (pla "no number of steps") := by
  have h3 := c3 ws t g
  have h15 := c15 ws d
  rw [hd] at h15
  unfold f22
  simp [Fd.run, h3, h15, nn]
theorem p23 (c15 : C15 c) : f23.run 100 c [.d (cV ws), .d d] = .raise (pla "no number of steps") := by
  have h3 := c3 ws t g
  have h15 := c15 ws d
  rw [hd] at h15
  unfold f23
  simp [Fd.run, h3, h15, nn]
theorem p24 (c15 : C15 c) : f24.run 100 c [.d (cV ws), .d d] = .raise (pla "no number of steps") := by
  have h3 := c3 ws t g
  have h15 := c15 ws d
  rw [hd] at h15
  unfold f24
  simp [Fd.run, h3, h15, nn]
theorem p26 (c15 : C15 c) : f26.run 100 c [.d (cV ws), .d d] = .raise (pla "no number of steps") := by
  have h3 := c3 ws t g
  have h15 := c15 ws d
  rw [hd] at h15
  unfold f26
  simp [Fd.run, h3, h15, nn]
end
theorem p14 {ws : List (List Bool)} {t : Nat} (g : Gd ws t) (c3 : C3 c) {d : PyData} (hd : isiE .str d = false) : f14.run 100 c [.d (cV ws), .d d] = .raise (pla "no string") := by
  have h3 := c3 ws t g
  unfold f14
  simp [Fd.run, h3, hd, fp, pla]
end Tk02

set_option Elab.async false
set_option linter.all false
set_option maxRecDepth 100000
set_option maxHeartbeats 4000000
namespace Tk02
open PySem TC N07 WD
variable {c : Nat → List Wd → Comp FR}
/-- how a loop's turn may end -/
def fO (P B : En → Prop) (R : FR → Prop) : Ou → Prop
  | .nx e => P e
  | .ct e => P e
  | .br e => B e
  | .rt r => R r
  | .ex _ _ => False
theorem okW_forX {f : PyData → En → Comp Ou} {P B : En → Prop} {R : FR → Prop} {Q : Ou → Prop} (fin : ∀ e, P e → Q (.nx e)) (brk : ∀ e, B e → Q (.nx e)) (ret : ∀ r, R r → Q (.rt r)) : ∀ {ds : List PyData} {e : En}, (∀ d ∈ ds, ∀ e, P e → (f d e).okW 0 (fO P B R) nEx) → P e → (forC f ds e).okW 0 Q nEx
  | [], e, _, h => Comp.okW_ret (fin e h)
  | d :: ds, e, turn, h => by
    have z := turn d (List.mem_cons_self ..) e h
    refine Comp.okW_bind (b := 0) (b2 := 0) z ?_
    intro o ho
    cases o with
    | nx e2 => exact okW_forX fin brk ret (fun d hd => turn d (List.mem_cons_of_mem _ hd)) ho
    | ct e2 => exact okW_forX fin brk ret (fun d hd => turn d (List.mem_cons_of_mem _ hd)) ho
    | br e2 => exact Comp.okW_ret (brk e2 ho)
    | rt r => exact Comp.okW_ret (ret r ho)
    | ex x e2 => exact ho.elim
def anyR (_ : FR) : Prop := True
section
variable {ws : List (List Bool)} {t : Nat} {e s : Int} (h : Go ws t e s) (he : e < ws.length) (hs : s < ws.length)
include h he hs
theorem isN_e : isN (ws.length - 1) (.int e) = true := by
  have := h.e0
  show (decide _ && decide _) = true
  rw [decide_eq_true (by omega), decide_eq_true (by omega)]
  rfl
theorem isN_s : isN (ws.length - 1) (.int s) = true := by
  have := h.s0
  show (decide _ && decide _) = true
  rw [decide_eq_true (by omega), decide_eq_true (by omega)]
  rfl
theorem g13 (c3 : C3 c) (c12 : C12 c) : ∃ o, f13.run 100 c [.d (cV ws), .d (.int e)] = .ret o := by
  have h3 := c3 ws t h.g
  have h12 := c12 ws (.int e)
  rw [isN_e h he hs, if_pos rfl] at h12
  obtain ⟨w, hw, hat⟩ := at_map (g := wV) (l := ws) h.e0 he
  have hi : idxE (cV ws) (.int e) = .ret (wV w) := by unfold cV; exact idx_T hat
  unfold f13
  exact ⟨.fz (.d (wV w)), by simp [Fd.run, h3, h12, nn, hi]⟩
def C16 (c : Nat → List Wd → Comp FR) (ws : List (List Bool)) (e s : Int) : Prop := c 16 [.d (cV ws), .d (.int e), .d (.int s)] = .ret nn
theorem g16 (c3 : C3 c) (c12 : C12 c) (c15 : C15 c) : f16.run 100 c [.d (cV ws), .d (.int e), .d (.int s)] = .ret nn := by
  have h3 := c3 ws t h.g
  have h12 := c12 ws (.int e)
  rw [isN_e h he hs, if_pos rfl] at h12
  have h15 := c15 ws (.int s)
  rw [isN_s h he hs, if_pos rfl] at h15
  unfold f16
  simp [Fd.run, h3, h12, h15, nn]
theorem g17 (h16 : c 16 [.d (cV ws), .d (.int e), .d (.int s)] = .ret nn) (c7 : C7 c) : ∃ o, f17.run 100 c [.d (cV ws), .d (.int e), .d (.int s)] = .ret o := by
  obtain ⟨o, h7, is, rfl, _⟩ := c7 ws t e s h
  unfold f17
  exact ⟨.fz (.d (.tuple (iL is))), by simp [Fd.run, h16, h7, nn]⟩
theorem g19 (h16 : c 16 [.d (cV ws), .d (.int e), .d (.int s)] = .ret nn) (c18 : C18 c) : ∃ o, f19.run 100 c [.d (cV ws), .d (.int e), .d (.int s)] = .ret o := by
  obtain ⟨o, h18, i, rfl⟩ := c18 ws t e s h
  unfold f19
  exact ⟨.fz (.d (.int i)), by simp [Fd.run, h16, h18, nn]⟩
end
section
variable {ws : List (List Bool)} {t : Nat} {s : Int} (h : Go ws t 0 s) (hs : s < ws.length)
include h hs
theorem z0 : (0 : Int) < ws.length := by
  have := h.g.lo
  omega
theorem g22 (c3 : C3 c) (c15 : C15 c) (c9 : C9 c) : ∃ o, f22.run 100 c [.d (cV ws), .d (.int s)] = .ret o := by
  have h3 := c3 ws t h.g
  have h15 := c15 ws (.int s)
  rw [isN_s h (z0 h hs) hs, if_pos rfl] at h15
  obtain ⟨o, h9, b, rfl⟩ := c9 ws t s h
  unfold f22
  exact ⟨.fz (.d (.bool b)), by simp [Fd.run, h3, h15, h9, nn]⟩
def E23 (ws : List (List Bool)) (s : Int) : En := [.fz (.d (cV ws)), .fz (.d (.int s)), .un]
theorem g23 (c3 : C3 c) (c15 : C15 c) (c9 : C9 c) (c18 : C18 c) (c7 : C7 c) : ∃ o, f23.run 100 c [.d (cV ws), .d (.int s)] = .ret o ∧ R6 o := by
  refine okW_zero (okW_run (P := R6) rfl ?_)
  have h3 := c3 ws t h.g
  have h15 := c15 ws (.int s)
  rw [isN_s h (z0 h hs) hs, if_pos rfl] at h15
  obtain ⟨o, h9, b, rfl⟩ := c9 ws t s h
  have hi := h.g.hi
  obtain ⟨N, hN, bN⟩ := hide (w := ws.length) (by omega)
  have hl := len_cV hN
  have lim : limL (rngP 0 N) = .ret (rngP 0 N) := lim_rng hN (by omega)
  unfold f23
  refine okW_cons (b := 0) (b2 := 0) (P := fun o => o = .nx (E23 ws s)) (okW_eq (by simp [h3, h15, nn]; rfl) rfl) ?_
  rintro o rfl
  rw [goOn_nx]
  refine okW_cons (b := 0) (b2 := 0) (P := fun o => o = .nx (E23 ws s) ∨ o = .rt (.fz (.d (.bool false)))) ?_ ?_
  · cases b with
    | false => exact okW_eq (o := Ou.rt (.fz (.d (.bool false)))) (by simp [E23, h9]) (Or.inr rfl)
    | true => exact okW_eq (o := Ou.nx (E23 ws s)) (by simp [E23, h9]) (Or.inl rfl)
  · rintro o (rfl | rfl)
    · rw [goOn_nx]
      generalize hQ : (fun o : Ou => (endC o).okW 0 R6 nEx) = Q
      simp [E23, hl, lim, bN]
      refine Comp.okW_bind (b := 0) (b2 := 0) (P := fun o => ∃ b, o = .rt (.fz (.d (.bool b)))) (okW_exO (b := 0) (b2 := 0) (P := fun w => ∃ b, w = .d (.bool b)) (okW_lc (P := fun y => ∃ b, y = .bool b) ?_ ?_) ?_) ?_
      · intro d hd
        obtain ⟨i, rfl, i0, i1⟩ := rngP_at' hd
        have h2 : Go ws t i s := ⟨h.g, by omega, by omega, h.s0, h.s1⟩
        obtain ⟨o8, h8, m, rfl⟩ := c18 ws t i s h2
        obtain ⟨o7, h7, is, rfl, _⟩ := c7 ws t i s h2
        obtain ⟨L, hL⟩ : ∃ L : Int, L = (iL is).length := ⟨_, rfl⟩
        have hll : f1E .len (.list (iL is)) = .ret (.int L) := by rw [slen_list, hL]
        exact okW_eq (o := some (.bool (decide (m = L)))) (by simp [h8, h7, hll, -slen_list]) ⟨_, rfl, _, rfl⟩
      · intro ys hy _
        obtain ⟨bs, rfl, _⟩ := map_of (Q := fun _ => True) fun y h => (hy y h).imp fun b e => ⟨e, trivial⟩
        exact okW_eq (o := .d (.bool (bs.all id))) (by simp [all_b]) ⟨_, rfl⟩
      · rintro w ⟨b, rfl⟩
        exact Comp.okW_ret ⟨b, rfl⟩
      · rintro o ⟨b, rfl⟩
        subst hQ
        exact Comp.okW_ret (okW_eq (o := FR.fz (.d (.bool b))) rfl ⟨b, rfl⟩)
    · exact okW_eq (o := .rt (.fz (.d (.bool false)))) (by simp [goOn]) (okW_eq (o := FR.fz (.d (.bool false))) rfl ⟨_, rfl⟩)
def E24 (ws : List (List Bool)) (s : Int) (x y : Sl) : En := [.fz (.d (cV ws)), .fz (.d (.int s)), x, y]
theorem g24 (c3 : C3 c) (c15 : C15 c) (c8 : C8 c) : ∃ o, f24.run 100 c [.d (cV ws), .d (.int s)] = .ret o ∧ anyR o := by
  refine okW_zero (okW_run (P := anyR) rfl ?_)
  have h3 := c3 ws t h.g
  have h15 := c15 ws (.int s)
  rw [isN_s h (z0 h hs) hs, if_pos rfl] at h15
  have hi := h.g.hi
  obtain ⟨N, hN, bN⟩ := hide (w := ws.length) (by omega)
  have hl := len_cV hN
  have lim : limL (rngP 0 N) = .ret (rngP 0 N) := lim_rng hN (by omega)
  unfold f24
  refine okW_cons (b := 0) (b2 := 0) (P := fun o => o = .nx (E24 ws s .un .un)) (okW_eq (by simp [h3, h15, nn]; rfl) rfl) ?_
  rintro o rfl
  rw [goOn_nx]
  refine okW_cons (b := 0) (b2 := 0) (P := fun o => (∃ x y, o = .nx (E24 ws s x y)) ∨ ∃ r, o = .rt r) ?_ ?_
  · rw [ev_forr]
    refine okW_exO (b := 0) (b2 := 0) (P := fun ds => ds = rngP 0 N) (okW_eq (by simp [E24, hl, bN]) rfl) ?_
    rintro ds rfl
    refine okW_forX (P := fun e => ∃ x y, e = E24 ws s x y) (B := fun _ => False) (R := fun _ => True) (fun e he => ?_) (fun e he => he.elim) (fun r _ => Or.inr ⟨r, rfl⟩) (fun d hd e he => ?_) ⟨.un, .un, rfl⟩
    · obtain ⟨x, y, rfl⟩ := he
      exact Or.inl ⟨x, y, rfl⟩
    · obtain ⟨x, y, rfl⟩ := he
      obtain ⟨i, rfl, i0, i1⟩ := rngP_at' hd
      obtain ⟨o8, h8, is, rfl, _⟩ := c8 ws t i s ⟨h.g, by omega, by omega, h.s0, h.s1⟩
      cases is with
      | nil => exact okW_eq (o := Ou.nx (E24 ws s (.fz (.d (.int i))) (.fz (.d (.list (iL [])))))) (by simp [E24, h8, eqE_nil]) ⟨_, _, rfl⟩
      | cons a as =>
        have hx : idxE (.list (iL (a :: as))) (.int 0) = .ret (.int a) := idx_L (atI_iL (is := a :: as) (k := 0) (Nat.zero_lt_succ _))
        exact okW_eq (o := Ou.rt (.fz (.d (.tuple [.int i, .int a])))) (by simp [E24, h8, eqE_nil, hx]) trivial
  · rintro o (⟨x, y, rfl⟩ | ⟨r, rfl⟩)
    · exact okW_eq (o := .rt nn) (by simp [E24, nn, goOn]) (okW_eq (o := nn) rfl trivial)
    · exact okW_eq (o := .rt r) (by simp [goOn]) (okW_eq (o := r) rfl trivial)
end
end Tk02

set_option Elab.async false
set_option linter.all false
set_option maxRecDepth 100000
set_option maxHeartbeats 4000000
namespace Tk02
open PySem TC N07 WD
variable {c : Nat → List Wd → Comp FR}
def C25 (c : Nat → List Wd → Comp FR) : Prop := ∀ ws t, Gd ws t → ∀ e s k : Int, ∃ i : Int, c 25 [.d (cV ws), .d (.int e), .d (.int s), .d (.int k)] = .ret (.fz (.d (.int i)))
theorem r25 {ws : List (List Bool)} {t : Nat} (h : Gd ws t) {e s k : Int} : ∃ i : Int, f25.run 100 c [.d (cV ws), .d (.int e), .d (.int s), .d (.int k)] = .ret (.fz (.d (.int i))) := by
  obtain ⟨N, hN⟩ : ∃ N : Int, N = ws.length := ⟨_, rfl⟩
  have hl := len_cV hN
  have lo := h.lo
  have np : 0 < N := by omega
  unfold f25
  exact ⟨if (k - e - s) % N < (e - k) % N then (k - e - s) % N else (e - k) % N, by simp [Fd.run, hl, np]⟩
theorem s25 : C25 cl := fun ws t h e s k => by
  rw [cl_def, cl_at (f := f25) rfl (by decide)]
  exact r25 h
def E26 (ws : List (List Bool)) (s : Int) (m : Int) (x : Sl) : En := [.fz (.d (cV ws)), .fz (.d (.int s)), .fz (.d (.int m)), x, .un]
theorem ints_iL : ∀ is : List Int, intsP (iL is) = some is
  | [] => rfl
  | i :: is => by
    have z := ints_iL is
    show intsP (.int i :: iL is) = _
    unfold intsP
    rw [z]
    rfl
theorem max_ok {a : Int} {as : List Int} : f1E .max (.list (iL (a :: as))) = .ret (.int (maxI (a :: as))) := by
  have e : f1E .max (.list (iL (a :: as))) = match intsP (iL (a :: as)) with | some (n :: ns) => .ret (.int (maxI (n :: ns))) | _ => .stuck := rfl
  rw [e, ints_iL]
theorem g26 {ws : List (List Bool)} {t : Nat} {s : Int} (h : Go ws t 0 s) (hs : s < ws.length) (c3 : C3 c) (c15 : C15 c) (c8 : C8 c) (c25 : C25 c) : ∃ o, f26.run 100 c [.d (cV ws), .d (.int s)] = .ret o ∧ anyR o := by
  refine okW_zero (okW_run (P := anyR) rfl ?_)
  have h3 := c3 ws t h.g
  have h15 := c15 ws (.int s)
  rw [isN_s h (z0 h hs) hs, if_pos rfl] at h15
  have hi := h.g.hi
  obtain ⟨N, hN, bN⟩ := hide (w := ws.length) (by omega)
  have hl := len_cV hN
  have lim : limL (rngP 0 N) = .ret (rngP 0 N) := lim_rng hN (by omega)
  unfold f26
  refine okW_cons (b := 0) (b2 := 0) (P := fun o => o = .nx [.fz (.d (cV ws)), .fz (.d (.int s)), .un, .un, .un]) (okW_eq (by simp [h3, h15, nn]) rfl) ?_
  rintro o rfl
  rw [goOn_nx]
  refine okW_cons (b := 0) (b2 := 0) (P := fun o => o = .nx (E26 ws s 0 .un)) (okW_eq (by simp [E26]) rfl) ?_
  rintro o rfl
  rw [goOn_nx]
  refine okW_cons (b := 0) (b2 := 0) (P := fun o => (∃ m x, o = .nx (E26 ws s m x))) ?_ ?_
  · rw [ev_forr]
    refine okW_exO (b := 0) (b2 := 0) (P := fun ds => ds = rngP 0 N) (okW_eq (by simp [E26, hl, bN]) rfl) ?_
    rintro ds rfl
    refine okW_forX (P := fun e => ∃ m x, e = E26 ws s m x) (B := fun _ => False) (R := fun _ => False) (fun e he => ?_) (fun e he => he.elim) (fun r h => h.elim) (fun d hd e he => ?_) ⟨0, .un, rfl⟩
    · obtain ⟨m, x, rfl⟩ := he
      exact ⟨m, x, rfl⟩
    · obtain ⟨m, x, rfl⟩ := he
      obtain ⟨i, rfl, i0, i1⟩ := rngP_at' hd
      obtain ⟨o8, h8, is, rfl, hl, his⟩ := c8 ws t i s ⟨h.g, by omega, by omega, h.s0, h.s1⟩
      have lim2 : limL (iL is) = .ret (iL is) := limL_ok (by rw [iL_len]; unfold LIM; omega)
      obtain ⟨ks, hm, hkl⟩ : ∃ ks, mapC (fun d => Comp.bind (dD ((c 25 [Wd.d (cV ws), Wd.d (PyData.int i), Wd.d (PyData.int s), Wd.d d]).bind frC)) fun y => Comp.ret (some y)) (iL is) = .ret (iL ks) ∧ ks.length ≤ 64 := by
        obtain ⟨ys, e, hy, hn⟩ := okW_zero (okW_mapS0 (P := fun y => ∃ k, y = .int k ∧ True) (f := fun d => Comp.bind (TC.dD ((c 25 [Wd.d (cV ws), Wd.d (PyData.int i), Wd.d (PyData.int s), Wd.d d]).bind frC)) fun y => Comp.ret (some y)) (l := iL is) (by
          intro d hd
          obtain ⟨k, _, rfl⟩ := List.mem_map.mp (show d ∈ is.map .int from hd)
          obtain ⟨r, hr⟩ := c25 ws t h.g i s k
          exact okW_eq (o := some (.int r)) (by simp [hr]) ⟨_, rfl, r, rfl, trivial⟩))
        obtain ⟨ks, rfl, _⟩ := iL_of hy
        rw [iL_len, iL_len] at hn
        exact ⟨ks, e, by omega⟩
      have lim3 : limL (.int m :: iL ks) = .ret (iL (m :: ks)) := limL_ok (by rw [List.length_cons, iL_len]; unfold LIM; omega)
      exact okW_eq (o := Ou.nx (E26 ws s (maxI (m :: ks)) (.fz (.d (.int i))))) (by simp [E26, h8, lim2, hm, lim3, max_ok]) ⟨_, _, rfl⟩
  · rintro o ⟨m, x, rfl⟩
    exact okW_eq (o := .rt (.fz (.d (.int m)))) (by simp [E26, goOn]) (okW_eq (o := .fz (.d (.int m))) rfl trivial)
end Tk02

set_option Elab.async false
set_option linter.all false
set_option maxRecDepth 100000
set_option maxHeartbeats 4000000
namespace Tk02
open PySem TC N07 WD
variable {c : Nat → List Wd → Comp FR}
theorem ev_frz {cl : Nat → List Wd → Comp FR} {wf i : Nat} {ss : Sms} {e : En} : (Sms.frz i ss).ev cl wf e = ss.ev cl wf (frzE e i) := by rw [Sms.ev]
def E20 (ws : List (List Bool)) (e s : Int) (chs : List (List Bool)) (fs : List Bool) (m : Int) (us : List (List Bool)) (x7 x8 x9 x10 : Sl) : En :=
  [.fz (.d (cV ws)), .fz (.d (.int e)), .fz (.d (.int s)), .fz (.d (.list (chs.map sD))), .fz (.d (.str (wd fs))), .fz (.d (.int m)), .fz (.d (.list (us.map wV))), x7, x8, x9, x10, .un, .un]
def inv (ws : List (List Bool)) (e s : Int) (chs : List (List Bool)) (t j : Nat) (e' : En) : Prop := ∃ fs m us x7 x8 x9 x10, e' = E20 ws e s chs fs m us x7 x8 x9 x10 ∧ fs.length ≤ j ∧ us.length ≤ 64 ∧ ∀ w ∈ us, w.length = t
def invI (ws : List (List Bool)) (e s : Int) (chs : List (List Bool)) (t j : Nat) (i : Int) (x8 : Sl) (e' : En) : Prop := ∃ fs m us x9 x10, e' = E20 ws e s chs fs m us (.fz (.d (.int i))) x8 x9 x10 ∧ fs.length ≤ j ∧ us.length ≤ 64 ∧ ∀ w ∈ us, w.length = t
theorem inI {ws : List (List Bool)} {e s : Int} {chs : List (List Bool)} {t j : Nat} {i : Int} {x8 : Sl} {e' : En} (h : invI ws e s chs t j i x8 e') : inv ws e s chs t j e' := by
  obtain ⟨fs, m, us, x9, x10, rfl, h⟩ := h
  exact ⟨fs, m, us, _, _, _, _, rfl, h⟩
theorem invI_mono {ws : List (List Bool)} {e s : Int} {chs : List (List Bool)} {t j j' : Nat} {i : Int} {x8 : Sl} {e' : En} (h : invI ws e s chs t j i x8 e') (hj : j ≤ j') : invI ws e s chs t j' i x8 e' := by
  obtain ⟨fs, m, us, x9, x10, rfl, h1, h2⟩ := h
  exact ⟨fs, m, us, _, _, rfl, by omega, h2⟩
theorem g20 {ws : List (List Bool)} {t : Nat} {e s : Int} (h : Go ws t e s) (h16 : c 16 [.d (cV ws), .d (.int e), .d (.int s)] = .ret nn) (c5 : C5 c) (c7 : C7 c) (c18 : C18 c) : ∃ o, f20.run 100 c [.d (cV ws), .d (.int e), .d (.int s)] = .ret o ∧ anyR o := by
  refine okW_zero (okW_run (P := anyR) rfl ?_)
  obtain ⟨o5, h5, chs, rfl, hc⟩ := c5 ws t h.g e s h.e0 h.e1 h.s0 h.s1
  obtain ⟨o7, h7, is, rfl, hil, his⟩ := c7 ws t e s h
  obtain ⟨o18, h18, m0, rfl⟩ := c18 ws t e s h
  have t1 := h.g.t1
  obtain ⟨us0, hm, hul, huw⟩ : ∃ us : List (List Bool), mapC (fun d => (TC.dD (retD (idxE (cV ws) d))).bind fun y => Comp.ret (some y)) (iL is) = .ret (us.map wV) ∧ us.length ≤ 64 ∧ ∀ w ∈ us, w.length = t := by
    obtain ⟨ys, e, hy, hl⟩ := okW_zero (okW_mapS0 (P := fun y => ∃ w, y = wV w ∧ w.length = t) (f := fun d => (TC.dD (retD (idxE (cV ws) d))).bind fun y => Comp.ret (some y)) (l := iL is) (by
      intro d hd
      obtain ⟨i, hi, rfl⟩ := List.mem_map.mp (show d ∈ is.map .int from hd)
      obtain ⟨i0, i1⟩ := his i hi
      obtain ⟨w, hw, hat⟩ := at_map (g := wV) (l := ws) i0 i1
      exact okW_eq (o := some (wV w)) (by unfold cV; rw [idx_T hat]; rfl) ⟨_, rfl, _, rfl, h.g.len w hw⟩))
    obtain ⟨us, rfl, hq⟩ := map_of hy
    rw [List.length_map, iL_len] at hl
    exact ⟨us, e, by omega, hq⟩
  have lim1 : limL (iL is) = .ret (iL is) := limL_ok (by rw [iL_len]; unfold LIM; omega)
  have eE : ("" : Str) = wd [] := eE
  unfold f20
  refine okW_cons (b := 0) (b2 := 0) (P := fun o => o = .nx ([.fz (.d (cV ws)), .fz (.d (.int e)), .fz (.d (.int s)), .un, .un, .un, .un, .un, .un, .un, .un, .un, .un])) (okW_eq (by simp [h16, nn]) rfl) ?_
  rintro o rfl
  rw [goOn_nx]
  refine okW_cons (b := 0) (b2 := 0) (P := fun o => o = .nx ([.fz (.d (cV ws)), .fz (.d (.int e)), .fz (.d (.int s)), .fz (.d (.list (chs.map sD))), .fz (.d (.str (wd []))), .un, .un, .un, .un, .un, .un, .un, .un])) (okW_eq (by simp [h5]; exact eE) rfl) ?_
  rintro o rfl
  rw [goOn_nx]
  refine okW_cons (b := 0) (b2 := 0) (P := fun o => o = .nx ([.fz (.d (cV ws)), .fz (.d (.int e)), .fz (.d (.int s)), .fz (.d (.list (chs.map sD))), .fz (.d (.str (wd []))), .fz (.d (.int m0)), .un, .un, .un, .un, .un, .un, .un])) (okW_eq (by simp [h18]) rfl) ?_
  rintro o rfl
  rw [goOn_nx]
  refine okW_cons (b := 0) (b2 := 0) (P := fun o => o = .nx ([.fz (.d (cV ws)), .fz (.d (.int e)), .fz (.d (.int s)), .fz (.d (.list (chs.map sD))), .fz (.d (.str (wd []))), .fz (.d (.int m0)), .ow (us0.map wV), .un, .un, .un, .un, .un, .un])) (okW_eq (by simp [h7, lim1, hm]) rfl) ?_
  rintro o rfl
  rw [goOn_nx, ev_frz]
  have hE : frzE ([.fz (.d (cV ws)), .fz (.d (.int e)), .fz (.d (.int s)), .fz (.d (.list (chs.map sD))), .fz (.d (.str (wd []))), .fz (.d (.int m0)), .ow (us0.map wV), .un, .un, .un, .un, .un, .un]) 6 = E20 ws e s chs [] m0 us0 .un .un .un .un := by simp [frzE, E20]
  rw [hE]
  refine okW_cons (b := 0) (b2 := 0) (P := fun o => o = .nx (E20 ws e s chs [] m0 us0 .un .un .un .un) ∨ o = .rt nn) ?_ ?_
  · obtain ⟨L, hL⟩ : ∃ L : Int, L = us0.length := ⟨_, rfl⟩
    have hll : f1E .len (.list (us0.map wV)) = .ret (.int L) := by rw [slen_list, List.length_map, hL]
    by_cases hq : L = m0
    · exact okW_eq (o := Ou.rt nn) (by simp [E20, hll, hq, nn, -slen_list]) (Or.inr rfl)
    · exact okW_eq (o := Ou.nx (E20 ws e s chs [] m0 us0 .un .un .un .un)) (by simp [E20, hll, hq, nn, -slen_list]) (Or.inl rfl)
  rintro o (rfl | rfl)
  · rw [goOn_nx]
    have he : enuE (.list (chs.map sD)) = .ret (enuP (chs.map sD)) := rfl
    refine okW_cons (b := 0) (b2 := 0) (P := fun o => ∃ e', o = .nx e' ∧ inv ws e s chs t 100 e') ?_ ?_
    · rw [ev_forr]
      refine okW_exO (b := 0) (b2 := 0) (P := fun ds => ds = enuP (chs.map sD)) (okW_eq (by simp [E20, he]) rfl) ?_
      rintro ds rfl
      refine okW_for0 (P := inv ws e s chs t) ?_ ?_ ⟨[], m0, us0, .un, .un, .un, .un, rfl, Nat.le_refl _, hul, huw⟩
      · rintro j d hd e' ⟨fs, m, us, x7, x8, x9, x10, rfl, hf, hul, huw⟩
        have hj : j < 5 := by
          obtain ⟨z, _⟩ := List.getElem?_eq_some_iff.mp hd
          rw [enu_len, List.length_map, hc.1] at z
          omega
        obtain ⟨i, x, rfl, hi, hx⟩ := enu_mem (List.mem_of_getElem? hd)
        rw [List.length_map, hc.1] at hi
        obtain ⟨bs, hb, rfl⟩ := List.mem_map.mp hx
        obtain ⟨b0, b1⟩ := hc.2 bs hb
        obtain ⟨I, hI⟩ : ∃ I : Int, I = i := ⟨_, rfl⟩
        rw [← hI]
        obtain ⟨k, hk⟩ : ∃ k : Int, k = bs.length := ⟨_, rfl⟩
        have hl : f1E .len (sD bs) = .ret (.int k) := by
          unfold sD
          rw [slen_list, List.length_map, hk]
        have hdv : augB .div m k = .ret (m / k) := by
          rcases (show k = 1 ∨ k = 2 by omega) with rfl | rfl <;> simp [augB, l2] <;> decide
        have hbi : ∀ pf1 pf2 pf3 k0 n1 n2, bindT (.tp (.cons 7 n1 pf1 (.cons 8 n2 pf2 .nil)) k0 pf3) (.tuple [.int I, sD bs]) (E20 ws e s chs fs m us x7 x8 x9 x10) = .ret (E20 ws e s chs fs m us (.fz (.d (.int I))) (.fz (.d (sD bs))) x9 x10) := fun _ _ _ _ _ _ => by simp [E20]
        rw [hbi, sbind_ret]
        refine okW_cons (b := 0) (b2 := 0) (P := fun o => o = .nx (E20 ws e s chs fs (m / k) us (.fz (.d (.int I))) (.fz (.d (sD bs))) x9 x10)) (okW_eq (by simp [E20, isF, augE, hl, hdv]) rfl) ?_
        rintro o rfl
        rw [goOn_nx]
        refine okW_cons (b := 0) (b2 := 0) (P := fun o => ∃ e', o = .nx e' ∧ inv ws e s chs t (j + 1) e') ?_ ?_
        · rw [ev_forr]
          have hsq : seqE (sD bs) = .ret (bs.map fun b => .str (wd [b])) := rfl
          refine okW_exO (b := 0) (b2 := 0) (P := fun ds => ds = bs.map fun b => .str (wd [b])) (okW_eq (by simp [E20, hsq, -seqE]) rfl) ?_
          rintro ds rfl
          refine okW_forX (P := invI ws e s chs t j I (.fz (.d (sD bs)))) (B := invI ws e s chs t (j + 1) I (.fz (.d (sD bs)))) (R := fun _ => False) (fun e' he => ⟨e', rfl, inI (invI_mono he (by omega))⟩) (fun e' he => ⟨e', rfl, inI he⟩) (fun r h => h.elim) ?_ ⟨fs, _, us, _, _, rfl, hf, hul, huw⟩
          rintro d hd2 e' ⟨fs, m, us, x9, x10, rfl, hf, hul, huw⟩
          obtain ⟨b, _, rfl⟩ := List.mem_map.mp hd2
          have hix : ∀ w ∈ us, idxE (wV w) (.int I) = .ret (.str (wd [gb w i])) := fun w hw => by
            rw [hI]
            exact idx_wV (huw w hw) t1 hi
          obtain ⟨vs, hvs, hml⟩ : ∃ vs : List (List Bool), vs = us.filter (fun w => gb w i == b) ∧ mapC (fun d => (TC.dB (Comp.bind (TC.dD (retD (idxE d (.int I)))) fun x => retB (eqE x (.str (wd [b]))))).bind fun b => if b = true then Comp.ret (some d) else Comp.ret none) (us.map wV) = .ret (vs.map wV) := by
            refine ⟨_, rfl, ?_⟩
            have z : ∀ (us : List (List Bool)), (∀ w ∈ us, idxE (wV w) (.int I) = .ret (.str (wd [gb w i]))) → mapC (fun d => (TC.dB (Comp.bind (TC.dD (retD (idxE d (.int I)))) fun x => retB (eqE x (.str (wd [b]))))).bind fun b => if b = true then Comp.ret (some d) else Comp.ret none) (us.map wV) = .ret ((us.filter fun w => gb w i == b).map wV) := fun us hu =>
              mapC_fil (p := fun w => gb w i == b) fun w hw => by
                rw [hu w hw]
                simp only [retD_ret, sdD_ret, sbind_ret, eqW, retB_ret, sdB_ret]
                cases gb w i == b <;> rfl
            exact z us hix
          have hvl : vs.length ≤ 64 := by
            rw [hvs]
            exact Nat.le_trans (List.length_filter_le ..) hul
          have hvw : ∀ w ∈ vs, w.length = t := fun w hw => by
            rw [hvs] at hw
            exact huw w (List.mem_filter.mp hw).1
          have limU : limL (us.map wV) = .ret (us.map wV) := limL_ok (by rw [List.length_map]; unfold LIM; omega)
          obtain ⟨L, hL⟩ : ∃ L : Int, L = vs.length := ⟨_, rfl⟩
          have hll : f1E .len (.list (vs.map wV)) = .ret (.int L) := by rw [slen_list, List.length_map, hL]
          have hadd : binE .add (.str (wd fs)) (.str (wd [b])) = .ret (.str (wd (fs ++ [b]))) := addW (by simp; omega)
          by_cases hq : L < m
          · exact okW_eq (o := Ou.br (E20 ws e s chs (fs ++ [b]) m vs (.fz (.d (.int I))) (.fz (.d (sD bs))) (.fz (.d (.str (wd [b])))) (.fz (.d (.list (vs.map wV)))))) (by simp [E20, limU, hml, frzE, hll, hq, hadd, -slen_list]) ⟨_, _, _, _, _, rfl, by rw [List.length_append]; simp; omega, hvl, hvw⟩
          · exact okW_eq (o := Ou.nx (E20 ws e s chs fs m us (.fz (.d (.int I))) (.fz (.d (sD bs))) (.fz (.d (.str (wd [b])))) (.fz (.d (.list (vs.map wV)))))) (by simp [E20, limU, hml, frzE, hll, hq, hadd, -slen_list]) ⟨_, _, _, _, _, rfl, hf, hul, huw⟩
        · rintro o ⟨e', rfl, he⟩
          rw [goOn_nx, ev_nil]
          exact Comp.okW_ret ⟨e', Or.inl rfl, he⟩
      · intro e' he
        rw [enu_len, List.length_map, hc.1] at he
        obtain ⟨fs, m, us, x7, x8, x9, x10, rfl, hf, h2⟩ := he
        exact ⟨_, rfl, fs, m, us, x7, x8, x9, x10, rfl, by omega, h2⟩
    · rintro o ⟨e', rfl, fs, m, us, x7, x8, x9, x10, rfl, _⟩
      exact okW_eq (o := .rt (.fz (.d (.str (wd fs))))) (by simp [E20, goOn]) (okW_eq (o := .fz (.d (.str (wd fs)))) rfl trivial)
  · exact okW_eq (o := .rt nn) (by simp [goOn]) (okW_eq (o := nn) rfl trivial)
end Tk02

set_option Elab.async false
set_option linter.all false
set_option maxRecDepth 100000
set_option maxHeartbeats 4000000
namespace Tk02
open PySem TC N07 WD
variable {c : Nat → List Wd → Comp FR}
/-- which call a way is -/
def cal (c : Nat → List Wd → Comp FR) (w : Nat) (x y z : PyData) : Comp FR := match w with
  | 0 => c 3 [.d x]
  | 1 => c 10 [.d x]
  | 2 => c 13 [.d x, .d y]
  | 3 => c 14 [.d x, .d y]
  | 4 => c 17 [.d x, .d y, .d z]
  | 5 => c 19 [.d x, .d y, .d z]
  | _ => c 20 [.d x, .d y, .d z]
theorem frC_ok (r : FR) : ∃ w, frC r = .ret w := by cases r <;> exact ⟨_, rfl⟩
theorem o21r {w : Nat} (hw : w < 7) {x y z : PyData} {r : FR} (h : cal c w x y z = .ret r) : f21.run 100 c [.d (.int w), .d x, .d y, .d z] = .ret nn := by
  obtain ⟨v, hv⟩ := frC_ok r
  rcases (show w = 0 ∨ w = 1 ∨ w = 2 ∨ w = 3 ∨ w = 4 ∨ w = 5 ∨ w = 6 by omega) with rfl | rfl | rfl | rfl | rfl | rfl | rfl <;> simp only [cal] at h <;> unfold f21 <;> simp [Fd.run, h, hv, nn, catchC]
theorem o21b {w : Nat} (hw : w < 7) {x y z : PyData} {p : Str} (h : cal c w x y z = .raise (bad p)) : f21.run 100 c [.d (.int w), .d x, .d y, .d z] = .ret (.fz (.d (.str p))) := by
  rcases (show w = 0 ∨ w = 1 ∨ w = 2 ∨ w = 3 ∨ w = 4 ∨ w = 5 ∨ w = 6 by omega) with rfl | rfl | rfl | rfl | rfl | rfl | rfl <;> simp only [cal] at h <;> unfold f21 <;> simp [Fd.run, h, bad, catchC]
theorem o21p {w : Nat} (hw : w < 7) {x y z : PyData} {p : Str} (h : cal c w x y z = .raise (pla p)) : f21.run 100 c [.d (.int w), .d x, .d y, .d z] = .ret (.fz (.d (.str "place"))) := by
  rcases (show w = 0 ∨ w = 1 ∨ w = 2 ∨ w = 3 ∨ w = 4 ∨ w = 5 ∨ w = 6 by omega) with rfl | rfl | rfl | rfl | rfl | rfl | rfl <;> simp only [cal] at h <;> unfold f21 <;> simp [Fd.run, h, pla, catchC]
end Tk02

set_option Elab.async false
set_option linter.all false
set_option maxRecDepth 100000
set_option maxHeartbeats 4000000
namespace Tk02
open PySem TC N07 WD
variable {c : Nat → List Wd → Comp FR}
def cal2 (c : Nat → List Wd → Comp FR) (w : Nat) (x z : PyData) : Comp FR := match w with
  | 0 => c 22 [.d x, .d z]
  | 1 => c 23 [.d x, .d z]
  | 2 => c 24 [.d x, .d z]
  | _ => c 26 [.d x, .d z]
theorem o27r {w : Nat} (hw : w < 4) {x z : PyData} {r : FR} (h : cal2 c w x z = .ret r) : f27.run 100 c [.d (.int w), .d x, .d z] = .ret nn := by
  obtain ⟨v, hv⟩ := frC_ok r
  rcases (show w = 0 ∨ w = 1 ∨ w = 2 ∨ w = 3 by omega) with rfl | rfl | rfl | rfl <;> simp only [cal2] at h <;> unfold f27 <;> simp [Fd.run, h, hv, nn, catchC]
theorem o27b {w : Nat} (hw : w < 4) {x z : PyData} {p : Str} (h : cal2 c w x z = .raise (bad p)) : f27.run 100 c [.d (.int w), .d x, .d z] = .ret (.fz (.d (.str p))) := by
  rcases (show w = 0 ∨ w = 1 ∨ w = 2 ∨ w = 3 by omega) with rfl | rfl | rfl | rfl <;> simp only [cal2] at h <;> unfold f27 <;> simp [Fd.run, h, bad, catchC]
theorem o27p {w : Nat} (hw : w < 4) {x z : PyData} {p : Str} (h : cal2 c w x z = .raise (pla p)) : f27.run 100 c [.d (.int w), .d x, .d z] = .ret (.fz (.d (.str "place"))) := by
  rcases (show w = 0 ∨ w = 1 ∨ w = 2 ∨ w = 3 by omega) with rfl | rfl | rfl | rfl <;> simp only [cal2] at h <;> unfold f27 <;> simp [Fd.run, h, pla, catchC]
/-! things that are no codes -/
theorem i3 {d : PyData} : cl 3 [.d d] = f3.run 100 (tlC fns 3) [.d d] := by rw [cl_def, cl_at (f := f3) rfl (by decide)]
theorem t2 : C2 (tlC fns 3) := fun d hd => (tl (by decide) (by decide)).trans (s2 d hd)
theorem B_form1 {d : PyData} (h : isiE .tuple d = false) : cl 3 [.d d] = .raise (bad "form") := i3.trans (n_form1 h)
theorem B_form2 {ds : List PyData} (h : ¬ (2 ≤ ds.length ∧ ds.length ≤ 64)) : cl 3 [.d (.tuple ds)] = .raise (bad "form") := i3.trans (n_form2 h)
theorem B_word {ds : List PyData} (h : 2 ≤ ds.length ∧ ds.length ≤ 64) (hd : ∀ d ∈ ds, okD d = true) (hb : ds.all isW = false) : cl 3 [.d (.tuple ds)] = .raise (bad "word") := i3.trans (n_word t2 h hd hb)
theorem B_len {v : List Bool} {vs : List (List Bool)} (h : 2 ≤ (v :: vs).length ∧ (v :: vs).length ≤ 64) (hw : ∀ w ∈ v :: vs, 1 ≤ w.length ∧ w.length ≤ 64) (hl : ∃ w ∈ v :: vs, w.length ≠ v.length) : cl 3 [.d (cV (v :: vs))] = .raise (bad "length") := by
  have e : cV (v :: vs) = .tuple ((wd v :: vs.map wd).map .str) := by
    unfold cV
    rw [map_wV]
    rfl
  rw [e, i3, code_gen t2 (y := wd v) (ys := vs.map wd) (by simpa using h) (fun z hz => by
    obtain ⟨w, hw2, rfl⟩ := List.mem_map.mp (show z ∈ (v :: vs).map wd from hz)
    exact wd_isW (hw w hw2).1 (hw w hw2).2), if_neg]
  intro sl
  obtain ⟨w, hw2, hne⟩ := hl
  have q := List.all_eq_true.mp (show (wd v :: vs.map wd).all (fun z => decide (z.length = (wd v).length)) = true from sl) (wd w) (List.mem_map.mpr ⟨w, hw2, rfl⟩ : wd w ∈ (v :: vs).map wd)
  rw [wd_len, wd_len] at q
  exact hne (of_decide_eq_true q)
theorem B_same {v : List Bool} {vs : List (List Bool)} (h : 2 ≤ (v :: vs).length ∧ (v :: vs).length ≤ 64) (hv : 1 ≤ v.length ∧ v.length ≤ 64) (hl : ∀ w ∈ v :: vs, w.length = v.length) (hn : ¬ (v :: vs).Nodup) : cl 3 [.d (cV (v :: vs))] = .raise (bad "same") := by
  have e : cV (v :: vs) = .tuple ((wd v :: vs.map wd).map .str) := by
    unfold cV
    rw [map_wV]
    rfl
  have hd : TS.cnt (wd v :: vs.map wd) < (wd v :: vs.map wd).length := cnt_dup fun nd => hn (by
    have z : ((v :: vs).map wd).Nodup := nd
    unfold List.Nodup at z ⊢
    rw [List.pairwise_map] at z
    exact z.imp fun h e => h (by rw [e]))
  rw [e, i3, code_gen t2 (y := wd v) (ys := vs.map wd) (by simpa using h) (fun z hz => by
    obtain ⟨w, hw2, rfl⟩ := List.mem_map.mp (show z ∈ (v :: vs).map wd from hz)
    have := hl w hw2
    exact wd_isW (by omega) (by omega)), if_pos, if_pos hd]
  exact List.all_eq_true.mpr fun z hz => by
    obtain ⟨w, hw2, rfl⟩ := List.mem_map.mp (show z ∈ (v :: vs).map wd from hz)
    exact decide_eq_true (by rw [wd_len, wd_len, hl w hw2])
/-- refused, and how -/
def Bd (d : PyData) (p : Str) : Prop := cl 3 [.d d] = .raise (bad p)
theorem isW_wV {w : List Bool} (h : 1 ≤ w.length ∧ w.length ≤ 64) : isW (wV w) = true := wd_isW h.1 h.2
theorem okD_wV {w : List Bool} (h : w.length ≤ 64) : okD (wV w) = true := decide_eq_true (by rw [wd_len]; omega)
theorem z65 : ∃ z : Str, binE .mul (.str "0") (.int 65) = .ret (.str z) ∧ z.length = 65 := ⟨_, rfl, by decide⟩
theorem t65 : ∃ ds : List PyData, binE .mul (.tuple [.str "0"]) (.int 65) = .ret (.tuple ds) ∧ ds.length = 65 := ⟨_, rfl, by decide⟩
end Tk02

set_option Elab.async false
set_option linter.all false
set_option maxRecDepth 100000
set_option maxHeartbeats 4000000
namespace Tk02
open PySem TC N07 WD
variable {c : Nat → List Wd → Comp FR}
section
variable {x y z : PyData}
theorem cal0 : cal c 0 x y z = c 3 [.d x] := rfl
theorem cal1 : cal c 1 x y z = c 10 [.d x] := rfl
theorem cal2' : cal c 2 x y z = c 13 [.d x, .d y] := rfl
theorem cal3 : cal c 3 x y z = c 14 [.d x, .d y] := rfl
theorem cal4 : cal c 4 x y z = c 17 [.d x, .d y, .d z] := rfl
theorem cal5 : cal c 5 x y z = c 19 [.d x, .d y, .d z] := rfl
theorem cal6 : cal c 6 x y z = c 20 [.d x, .d y, .d z] := rfl
theorem cas0 : cal2 c 0 x z = c 22 [.d x, .d z] := rfl
theorem cas1 : cal2 c 1 x z = c 23 [.d x, .d z] := rfl
theorem cas2 : cal2 c 2 x z = c 24 [.d x, .d z] := rfl
theorem cas3 : cal2 c 3 x z = c 26 [.d x, .d z] := rfl
end
theorem calT {w : Nat} {x y z : PyData} : cal (tlC fns 21) w x y z = cal cl w x y z := by
  unfold cal
  split <;> exact tl (by decide) (by decide)
theorem cal2T {w : Nat} {x z : PyData} : cal2 (tlC fns 27) w x z = cal2 cl w x z := by
  unfold cal2
  split <;> exact tl (by decide) (by decide)
theorem tB {j : Nat} (h3 : 3 < j) (hj : j ≤ 29) {x : PyData} {p : Str} (h : Bd x p) : tlC fns j 3 [.d x] = .raise (bad p) := (tl h3 hj).trans h
theorem bad16 {x y z : PyData} {p : Str} (h : Bd x p) : cl 16 [.d x, .d y, .d z] = .raise (bad p) := by
  rw [cl_def, cl_at (f := f16) rfl (by decide)]
  exact b16 (tB (by decide) (by decide) h)
theorem cal_bad {x y z : PyData} {p : Str} (h : Bd x p) {w : Nat} (hw : w < 7) : cal cl w x y z = .raise (bad p) := by
  rcases (show w = 0 ∨ w = 1 ∨ w = 2 ∨ w = 3 ∨ w = 4 ∨ w = 5 ∨ w = 6 by omega) with rfl | rfl | rfl | rfl | rfl | rfl | rfl
  · rw [cal0]
    exact h
  · rw [cal1, cl_def, cl_at (f := f10) rfl (by decide)]
    exact b10 (tB (by decide) (by decide) h)
  · rw [cal2', cl_def, cl_at (f := f13) rfl (by decide)]
    exact b13 (tB (by decide) (by decide) h)
  · rw [cal3, cl_def, cl_at (f := f14) rfl (by decide)]
    exact b14 (tB (by decide) (by decide) h)
  · rw [cal4, cl_def, cl_at (f := f17) rfl (by decide)]
    exact b17 ((tl (by decide) (by decide)).trans (bad16 h))
  · rw [cal5, cl_def, cl_at (f := f19) rfl (by decide)]
    exact b19 ((tl (by decide) (by decide)).trans (bad16 h))
  · rw [cal6, cl_def, cl_at (f := f20) rfl (by decide)]
    exact b20 ((tl (by decide) (by decide)).trans (bad16 h))
theorem cal2_bad {x z : PyData} {p : Str} (h : Bd x p) {w : Nat} (hw : w < 4) : cal2 cl w x z = .raise (bad p) := by
  rcases (show w = 0 ∨ w = 1 ∨ w = 2 ∨ w = 3 by omega) with rfl | rfl | rfl | rfl
  · rw [cas0, cl_def, cl_at (f := f22) rfl (by decide)]
    exact b22 (tB (by decide) (by decide) h)
  · rw [cas1, cl_def, cl_at (f := f23) rfl (by decide)]
    exact b23 (tB (by decide) (by decide) h)
  · rw [cas2, cl_def, cl_at (f := f24) rfl (by decide)]
    exact b24 (tB (by decide) (by decide) h)
  · rw [cas3, cl_def, cl_at (f := f26) rfl (by decide)]
    exact b26 (tB (by decide) (by decide) h)
def D21 (c : Nat → List Wd → Comp FR) : Prop := ∀ x p, Bd x p → ∀ w : Nat, w < 7 → c 21 [.d (.int w), .d x, .d .none, .d .none] = .ret (.fz (.d (.str p)))
def D27 (c : Nat → List Wd → Comp FR) : Prop := ∀ x p, Bd x p → ∀ w : Nat, w < 4 → c 27 [.d (.int w), .d x, .d .none] = .ret (.fz (.d (.str p)))
theorem d21 : D21 cl := fun x p h w hw => by
  rw [cl_def, cl_at (f := f21) rfl (by decide)]
  exact o21b hw (calT.trans (cal_bad h hw))
theorem d27 : D27 cl := fun x p h w hw => by
  rw [cl_def, cl_at (f := f27) rfl (by decide)]
  exact o27b hw (cal2T.trans (cal2_bad h hw))
/-- the things that are no codes -/
def odT (o : PyData × Str) : PyData := .tuple [o.1, .str o.2]
def goodO (o : PyData × Str) : Prop := Bd o.1 o.2 ∧ PyData.strOk o.2 = true
def E28 (ws : List (List Bool)) (L : List PyData) (x2 x3 : Sl) : En := [.fz (.d (cV ws)), .fz (.d (.list L)), x2, x3, .un]
theorem rngN {K : Nat} (h : K ≤ 1000) : rngP 0 (K : Int) = (List.range K).map fun (i : Nat) => .int (i : Int) := rng_nat rfl
theorem eq_self {ys : List Str} (h : ∀ y ∈ ys, PyData.strOk y = true) : eqE (.list (ys.map .str)) (.list (ys.map .str)) = .ret true := by
  have e : eqE (.list (ys.map .str)) (.list (ys.map .str)) = if SeqAt.shaped (.list (ys.map .str)) && SeqAt.shaped (.list (ys.map .str)) then .ret (PyData.eqv (.list (ys.map .str)) (.list (ys.map .str))) else .stuck := rfl
  have e2 : ∀ ys : List Str, PyData.eqvAll (ys.map .str) (ys.map .str) = true := fun ys => by
    induction ys with
    | nil => rfl
    | cons y ys ih =>
      show (PyData.eqv (.str y) (.str y) && PyData.eqvAll (ys.map .str) (ys.map .str)) = true
      rw [ih]
      simp [PyData.eqv]
  rw [e, strs_shp h]
  simp only [Bool.and_self, if_true, PyData.eqv, e2]
end Tk02

set_option Elab.async false
set_option linter.all false
set_option maxRecDepth 100000
set_option maxHeartbeats 4000000
namespace Tk02
open PySem TC N07 WD
variable {c : Nat → List Wd → Comp FR}
def od1 (M T : List PyData) (w0 : List Bool) : List (PyData × Str) := [(.none, "form"), (.tuple [], "form"), (.tuple [wV w0], "form"), (.list M, "form"), (.tuple T, "form"), (.int 5, "form")]
def od2 (M : List PyData) (z : Str) : List (PyData × Str) := [(.tuple (M ++ [.none]), "word"), (.tuple (.str "" :: M), "word"), (.tuple (.str "2" :: M), "word"), (.tuple (M ++ [.str z]), "word")]
def od3 (M : List PyData) (w0 : List Bool) : List (PyData × Str) := [(.tuple (M ++ [wV (w0 ++ [false])]), "length"), (.tuple (M ++ [wV w0]), "same"), (.tuple [wV w0, wV w0], "same")]
def od4 (w0 : List Bool) : List (PyData × Str) := [(.tuple [wV (w0 ++ [true]), wV w0, wV w0], "length"), (.tuple [.int 1, wV w0, wV w0], "word")]
def odsL (L : List (PyData × Str)) : List PyData := L.map odT
def E28' (M L : List PyData) (x2 x3 : Sl) : En := [.fz (.d (.tuple M)), .fz (.d (.list L)), x2, x3, .un]
theorem n_map7 {f : PyData → Comp (Option PyData)} {p : Str} {k : Nat} (h : ∀ w : Nat, w < k → f (.int w) = .ret (some (.str p))) (hk : k ≤ 1000) : mapC f (rngP 0 (k : Int)) = .ret ((List.replicate k p).map .str) := by
  rw [rngN hk]
  have z := mapC_map (f := f) (h := fun (i : Nat) => PyData.int (i : Int)) (g := fun _ : Nat => PyData.str p) (l := List.range k) fun w hw => h w (List.mem_range.mp hw)
  rw [z]
  have e : ∀ k, (List.range k).map (fun _ : Nat => PyData.str p) = (List.replicate k p).map .str := fun k => by
    rw [List.map_const', List.length_range, List.map_replicate]
  rw [e]
theorem rep7 {p : Str} {k : Nat} (hk : k ≤ 1000) : repE (.list [.str p]) (.int k) = .ret ((List.replicate k p).map .str) := by
  have e : repE (.list [.str p]) (.int k) = if decide (0 ≤ (k : Int)) && decide ((k : Int) ≤ 1000) && decide ([PyData.str p].length ≤ 100) then .ret (List.replicate (k : Int).toNat [PyData.str p]).flatten else .stuck := rfl
  have e2 : ∀ k : Nat, (List.replicate k [PyData.str p]).flatten = (List.replicate k p).map .str := fun k => by
    induction k with
    | zero => rfl
    | succ k ih => rw [List.replicate_succ, List.replicate_succ, List.flatten_cons, ih]; rfl
  rw [e, decide_eq_true (by omega), decide_eq_true (by omega)]
  show (if true = true then _ else _) = _
  rw [if_pos rfl, Int.toNat_natCast, e2]
theorem turn28 (c21 : D21 c) (c27 : D27 c) {M L : List PyData} {o : PyData × Str} (h : goodO o) {b : Sms} (hb : b = match f28.body with | .cons _ (.cons _ (.cons _ (.cons (.forr _ _ b _) _))) => b | _ => .nil) : b.ev c 100 (E28' M L (.fz (.d o.1)) (.fz (.d (.str o.2)))) = .ret (.nx (E28' M L (.fz (.d o.1)) (.fz (.d (.str o.2))))) := by
  obtain ⟨x, p⟩ := o
  obtain ⟨hB, hp⟩ := h
  obtain ⟨K7, hK7⟩ : ∃ K : Nat, K = 7 := ⟨_, rfl⟩
  obtain ⟨K4, hK4⟩ : ∃ K : Nat, K = 4 := ⟨_, rfl⟩
  have m7 : mapC (fun d => Comp.bind (dD ((c 21 [Wd.d d, Wd.d x, Wd.d .none, Wd.d .none]).bind frC)) fun y => Comp.ret (some y)) (rngP 0 7) = .ret ((List.replicate 7 p).map .str) := n_map7 (k := 7) (fun w hw => by rw [c21 x p hB w hw]; rfl) (by decide)
  have m4 : mapC (fun d => Comp.bind (dD ((c 27 [Wd.d d, Wd.d x, Wd.d .none]).bind frC)) fun y => Comp.ret (some y)) (rngP 0 4) = .ret ((List.replicate 4 p).map .str) := n_map7 (k := 4) (fun w hw => by rw [c27 x p hB w hw]; rfl) (by decide)
  have p7 : repE (.list [.str p]) (.int 7) = .ret ((List.replicate 7 p).map .str) := rep7 (k := 7) (by decide)
  have p4 : repE (.list [.str p]) (.int 4) = .ret ((List.replicate 4 p).map .str) := rep7 (k := 4) (by decide)
  have q7 := eq_self (ys := List.replicate 7 p) fun y hy => by rw [List.eq_of_mem_replicate hy]; exact hp
  have q4 := eq_self (ys := List.replicate 4 p) fun y hy => by rw [List.eq_of_mem_replicate hy]; exact hp
  obtain ⟨Y7, hY7⟩ : ∃ Y, Y = (List.replicate 7 p).map PyData.str := ⟨_, rfl⟩
  obtain ⟨Y4, hY4⟩ : ∃ Y, Y = (List.replicate 4 p).map PyData.str := ⟨_, rfl⟩
  rw [← hY7] at m7 p7 q7
  rw [← hY4] at m4 p4 q4
  have lim7 : limL (rngP 0 7) = .ret (rngP 0 7) := lim_rng (w := 7) rfl (by decide)
  have lim4 : limL (rngP 0 4) = .ret (rngP 0 4) := lim_rng (w := 4) rfl (by decide)
  have b7 : bigI 7 = true := rfl
  have b4 : bigI 4 = true := rfl
  subst hb
  show Sms.ev c 100 (Sms.cons _ (Sms.cons _ Sms.nil)) _ = _
  simp [E28', lim7, lim4, m7, m4, p7, p4, q7, q4, b7, b4]
end Tk02

set_option Elab.async false
set_option linter.all false
set_option maxRecDepth 100000
set_option maxHeartbeats 4000000
namespace Tk02
open PySem TC N07 WD
variable {c : Nat → List Wd → Comp FR}
theorem ok_form : PyData.strOk "form" = true := by decide +kernel
theorem ok_word : PyData.strOk "word" = true := by decide +kernel
theorem ok_length : PyData.strOk "length" = true := by decide +kernel
theorem ok_same : PyData.strOk "same" = true := by decide +kernel
theorem addT {xs ys : List PyData} (h : xs.length + ys.length ≤ 1000) : binE .add (.tuple xs) (.tuple ys) = .ret (.tuple (xs ++ ys)) := by
  have e : binE .add (.tuple xs) (.tuple ys) = okB (decide (xs.length + ys.length ≤ LIM)) (.tuple (xs ++ ys)) := rfl
  rw [e, decide_eq_true (by unfold LIM; omega)]
  rfl
theorem r28 (c21 : D21 c) (c27 : D27 c) {M T : List PyData} {w0 : List Bool} {z : Str} (hM : M.length ≤ 10) (i0 : idxE (.tuple M) (.int 0) = .ret (wV w0)) (hsl : slcE (.tuple M) none (some 1) = .ret (.tuple [wV w0])) (hz : binE .mul (.str "0") (.int 65) = .ret (.str z)) (hT : binE .mul (.tuple [.str "0"]) (.int 65) = .ret (.tuple T)) (hw : w0.length ≤ 10)
    (hg : ∀ o ∈ ((od1 M T w0 ++ od2 M z) ++ od3 M w0) ++ od4 w0, goodO o) : f28.run 100 c [.d (.tuple M)] = .ret (.fz (.d (.bool true))) := by
  refine eq_of (okW_run (P := fun o => o = .fz (.d (.bool true))) rfl ?_)
  have a1 : ∀ d, binE .add (.tuple M) (.tuple [d]) = .ret (.tuple (M ++ [d])) := fun d => addT (by simp; omega)
  have a2 : ∀ d, binE .add (.tuple [d]) (.tuple M) = .ret (.tuple (d :: M)) := fun d => addT (by simp; omega)
  have a3 : binE .add (wV w0) (.str "0") = .ret (wV (w0 ++ [false])) := by rw [e0]; exact addW (by simp; omega)
  have a4 : binE .add (wV w0) (.str "1") = .ret (wV (w0 ++ [true])) := by rw [e1]; exact addW (by simp; omega)
  unfold f28
  refine okW_cons (b := 0) (b2 := 0) (P := fun o => o = .nx (E28' M (odsL (od1 M T w0)) .un .un)) (okW_eq (by
    simp [hsl, hT, E28', odsL, odT, od1]) rfl) ?_
  rintro o rfl
  rw [goOn_nx]
  obtain ⟨X, hX⟩ : ∃ X, X = od1 M T w0 := ⟨_, rfl⟩
  rw [← hX] at hg ⊢
  have lx : X.length = 6 := by rw [hX]; rfl
  refine okW_cons (b := 0) (b2 := 0) (P := fun o => o = .nx (E28' M (odsL (X ++ od2 M z)) .un .un)) (okW_eq (by
    have l : limL (odsL X ++ odsL (od2 M z)) = .ret (odsL (X ++ od2 M z)) := by
      unfold odsL
      rw [← List.map_append]
      exact limL_ok (by rw [List.length_map, List.length_append, lx]; exact (by decide : 6 + 4 ≤ 100000))
    simp [odsL, odT, od2] at l
    simp [hz, E28', odsL, odT, od2, a1, a2, l]) rfl) ?_
  rintro o rfl
  rw [goOn_nx]
  obtain ⟨Y, hY⟩ : ∃ Y, Y = X ++ od2 M z := ⟨_, rfl⟩
  rw [← hY] at hg ⊢
  have ly : Y.length = 10 := by rw [hY, List.length_append, lx]; rfl
  refine okW_cons (b := 0) (b2 := 0) (P := fun o => o = .nx (E28' M (odsL (Y ++ od3 M w0)) .un .un)) (okW_eq (by
    have l : limL (odsL Y ++ odsL (od3 M w0)) = .ret (odsL (Y ++ od3 M w0)) := by
      unfold odsL
      rw [← List.map_append]
      exact limL_ok (by rw [List.length_map, List.length_append, ly]; exact (by decide : 10 + 3 ≤ 100000))
    simp [odsL, odT, od3] at l
    simp [E28', odsL, odT, od3, a1, a3, i0, l]) rfl) ?_
  rintro o rfl
  rw [goOn_nx]
  obtain ⟨Z, hZ⟩ : ∃ Z, Z = Y ++ od3 M w0 := ⟨_, rfl⟩
  rw [← hZ] at hg ⊢
  have lz : Z.length = 13 := by rw [hZ, List.length_append, ly]; rfl
  refine okW_cons (b := 0) (b2 := 0) (P := fun o => ∃ x2 x3, o = .nx (E28' M (odsL Z) x2 x3)) ?_ ?_
  · rw [ev_forr]
    refine okW_exO (b := 0) (b2 := 0) (P := fun ds => ds = odsL (Z ++ od4 w0)) (okW_eq (by
      have l : limL (odsL Z ++ odsL (od4 w0)) = .ret (odsL (Z ++ od4 w0)) := by
        unfold odsL
        rw [← List.map_append]
        exact limL_ok (by rw [List.length_map, List.length_append, lz]; exact (by decide : 13 + 2 ≤ 100000))
      simp [odsL, odT, od4] at l
      simp [E28', odsL, odT, od4, a4, i0, l]) rfl) ?_
    rintro ds rfl
    refine okW_for0 (P := fun _ e => ∃ x2 x3, e = E28' M (odsL Z) x2 x3) ?_ ?_ ⟨.un, .un, rfl⟩
    · rintro j d hd e ⟨x2, x3, rfl⟩
      obtain ⟨o, ho, rfl⟩ := List.mem_map.mp (List.mem_of_getElem? hd)
      have hbi : ∀ pf1 pf2 pf3 k0 n1 n2, bindT (.tp (.cons 2 n1 pf1 (.cons 3 n2 pf2 .nil)) k0 pf3) (odT o) (E28' M (odsL Z) x2 x3) = .ret (E28' M (odsL Z) (.fz (.d o.1)) (.fz (.d (.str o.2)))) := fun _ _ _ _ _ _ => by simp [E28', odT]
      rw [hbi, sbind_ret]
      exact okW_eq (turn28 c21 c27 (hg o ho) rfl) ⟨_, Or.inl rfl, _, _, rfl⟩
    · rintro e ⟨x2, x3, rfl⟩
      exact ⟨x2, x3, rfl⟩
  · rintro o ⟨x2, x3, rfl⟩
    exact okW_eq (o := .rt (.fz (.d (.bool true)))) (by simp [E28', goOn]) (okW_eq (o := .fz (.d (.bool true))) rfl rfl)
theorem odds_ok {ws ws0 : List (List Bool)} {t : Nat} {w0 : List Bool} (g : Gd ws t) (hws : ws = w0 :: ws0) {T : List PyData} {z : Str} (hz : z.length = 65) (hT : T.length = 65) : ∀ o ∈ ((od1 (ws.map wV) T w0 ++ od2 (ws.map wV) z) ++ od3 (ws.map wV) w0) ++ od4 w0, goodO o := by
  have lo := g.lo
  have hi := g.hi
  have t0 := g.t0
  have t1 := g.t1
  have hw0 : w0.length = t := g.len w0 (by rw [hws]; exact List.mem_cons_self ..)
  have hM : (ws.map wV).length = ws.length := List.length_map ..
  have hMd : ∀ d ∈ ws.map wV, okD d = true := fun d hd => by
    obtain ⟨w, hw, rfl⟩ := List.mem_map.mp hd
    exact okD_wV (by have := g.len w hw; omega)
  have hMw : ∀ d ∈ ws.map wV, isW d = true := fun d hd => by
    obtain ⟨w, hw, rfl⟩ := List.mem_map.mp hd
    exact isW_wV (by have := g.len w hw; omega)
  have wd1 : ∀ d, okD d = true → isW d = false → goodO (.tuple (ws.map wV ++ [d]), "word") := fun d h1 h2 => ⟨B_word (by rw [List.length_append, hM]; simp; omega) (fun x hx => by
    rcases List.mem_append.mp hx with hx | hx
    · exact hMd x hx
    · rw [List.mem_singleton.mp hx]; exact h1) (by rw [List.all_append]; simp [h2]), ok_word⟩
  have wd2 : ∀ d, okD d = true → isW d = false → goodO (.tuple (d :: ws.map wV), "word") := fun d h1 h2 => ⟨B_word (by rw [List.length_cons, hM]; omega) (fun x hx => by
    rcases List.mem_cons.mp hx with rfl | hx
    · exact h1
    · exact hMd x hx) (by simp [h2]), ok_word⟩
  intro o ho
  simp only [od1, od2, od3, od4, List.cons_append, List.nil_append, List.append_assoc, List.mem_cons, List.not_mem_nil, or_false] at ho
  rcases ho with rfl | rfl | rfl | rfl | rfl | rfl | rfl | rfl | rfl | rfl | rfl | rfl | rfl | rfl | rfl
  · exact ⟨B_form1 rfl, ok_form⟩
  · exact ⟨B_form2 (by simp), ok_form⟩
  · exact ⟨B_form2 (by simp), ok_form⟩
  · exact ⟨B_form1 rfl, ok_form⟩
  · exact ⟨B_form2 (by omega), ok_form⟩
  · exact ⟨B_form1 rfl, ok_form⟩
  · exact wd1 _ rfl rfl
  · exact wd2 _ rfl rfl
  · exact wd2 _ rfl rfl
  · exact wd1 _ (decide_eq_true (by omega)) (by
      show (decide (1 ≤ (z.length : Int)) && decide ((z.length : Int) ≤ 64) && z.cps.toList.all isC) = false
      rw [hz]
      rfl)
  · have e : PyData.tuple (ws.map wV ++ [wV (w0 ++ [false])]) = cV (w0 :: (ws0 ++ [w0 ++ [false]])) := by
      unfold cV
      rw [hws]
      simp
    refine ⟨?_, ok_length⟩
    show Bd _ _
    rw [e]
    refine B_len ?_ (fun w hw => ?_) ⟨w0 ++ [false], by simp, by simp⟩
    · rw [hws, List.length_cons] at hi
      simp
      omega
    · rcases List.mem_cons.mp hw with rfl | hw
      · omega
      · rcases List.mem_append.mp hw with hw | hw
        · have := g.len w (by rw [hws]; exact List.mem_cons_of_mem _ hw)
          omega
        · rw [List.mem_singleton.mp hw]
          simp
          omega
  · have e : PyData.tuple (ws.map wV ++ [wV w0]) = cV (w0 :: (ws0 ++ [w0])) := by
      unfold cV
      rw [hws]
      simp
    refine ⟨?_, ok_same⟩
    show Bd _ _
    rw [e]
    refine B_same ?_ (by omega) (fun w hw => ?_) (fun nd => (List.nodup_cons.mp nd).1 (by simp))
    · rw [hws, List.length_cons] at hi
      simp
      omega
    · rcases List.mem_cons.mp hw with rfl | hw
      · rfl
      · rcases List.mem_append.mp hw with hw | hw
        · have := g.len w (by rw [hws]; exact List.mem_cons_of_mem _ hw)
          omega
        · rw [List.mem_singleton.mp hw]
  · refine ⟨B_same (v := w0) (vs := [w0]) (by simp) (by omega) (fun w hw => ?_) (fun nd => (List.nodup_cons.mp nd).1 (by simp)), ok_same⟩
    simp at hw
    rw [hw]
  · refine ⟨B_len (v := w0 ++ [true]) (vs := [w0, w0]) (by simp) (fun w hw => ?_) ⟨w0, by simp, by simp⟩, ok_length⟩
    simp at hw
    rcases hw with rfl | rfl
    · simp
      omega
    · omega
  · exact ⟨B_word (by simp) (fun d hd => by
      simp at hd
      rcases hd with rfl | rfl
      · rfl
      · exact okD_wV (by omega)) rfl, ok_word⟩
theorem s28 {ws : List (List Bool)} {t : Nat} (g : Gd ws t) : cl 28 [.d (cV ws)] = .ret (.fz (.d (.bool true))) := by
  obtain ⟨w0, ws0, hws⟩ : ∃ w0 ws0, ws = w0 :: ws0 := by
    have := g.lo
    cases ws with
    | nil => simp at this
    | cons a b => exact ⟨a, b, rfl⟩
  obtain ⟨z, hz, hzl⟩ := z65
  obtain ⟨T, hT, hTl⟩ := t65
  have lo := g.lo
  have hi := g.hi
  have t1 := g.t1
  have hw0 : w0.length = t := g.len w0 (by rw [hws]; exact List.mem_cons_self ..)
  have ho := odds_ok g hws hzl hTl
  rw [cl_def, cl_at (f := f28) rfl (by decide)]
  refine r28 (fun x p h w hw => (tl (by decide) (by decide)).trans (d21 x p h w hw)) (fun x p h w hw => (tl (by decide) (by decide)).trans (d27 x p h w hw)) (by rw [List.length_map]; omega) ?_ ?_ hz hT (by omega) ho
  · refine idx_T ?_
    rw [hws]
    unfold L2.atI L2.ixN
    simp
  · have e : slcE (.tuple (ws.map wV)) none (some 1) = .ret (.tuple (cutP (ws.map wV) none (some 1))) := rfl
    rw [e, hws]
    unfold cutP HT.sIx
    simp
end Tk02

set_option Elab.async false
set_option linter.all false
set_option maxRecDepth 100000
set_option maxHeartbeats 4000000
namespace Tk02
open PySem TC N07 WD
theorem u3 {j : Nat} (h3 : 3 < j) (hj : j ≤ 29) : C3 (tlC fns j) := fun ws t g => (tl h3 hj).trans (s3 ws t g)
theorem u12 {j : Nat} (h3 : 12 < j) (hj : j ≤ 29) : C12 (tlC fns j) := fun ws d => (tl h3 hj).trans (s12 ws d)
theorem u15 {j : Nat} (h3 : 15 < j) (hj : j ≤ 29) : C15 (tlC fns j) := fun ws d => (tl h3 hj).trans (s15 ws d)
theorem u7 {j : Nat} (h3 : 7 < j) (hj : j ≤ 29) : C7 (tlC fns j) := fun ws t e s h => by rw [tl h3 hj]; exact s7 ws t e s h
theorem u8 {j : Nat} (h3 : 8 < j) (hj : j ≤ 29) : C8 (tlC fns j) := fun ws t e s h => by rw [tl h3 hj]; exact s8 ws t e s h
theorem u9 {j : Nat} (h3 : 9 < j) (hj : j ≤ 29) : C9 (tlC fns j) := fun ws t s h => by rw [tl h3 hj]; exact s9 ws t s h
theorem u18 {j : Nat} (h3 : 18 < j) (hj : j ≤ 29) : C18 (tlC fns j) := fun ws t e s h => by rw [tl h3 hj]; exact s18 ws t e s h
theorem u5 {j : Nat} (h3 : 5 < j) (hj : j ≤ 29) : C5 (tlC fns j) := fun ws t h e s e0 e1 s0 s1 => by rw [tl h3 hj]; exact s5 ws t h e s e0 e1 s0 s1
theorem u25 {j : Nat} (h3 : 25 < j) (hj : j ≤ 29) : C25 (tlC fns j) := fun ws t h e s k => by rw [tl h3 hj]; exact s25 ws t h e s k
section
variable {ws : List (List Bool)} {t : Nat} (g : Gd ws t) {y : PyData} (hy : isN (ws.length - 1) y = false)
include g hy
theorem q16a {z : PyData} : cl 16 [.d (cV ws), .d y, .d z] = .raise (pla "no count") := by
  rw [cl_def, cl_at (f := f16) rfl (by decide)]
  exact p16a g (u3 (by decide) (by decide)) hy (u12 (by decide) (by decide))
theorem isN_0 (g : Gd ws t) : isN (ws.length - 1) (.int 0) = true := by
  have := g.lo
  show (decide ((0 : Int) ≤ 0) && decide ((0 : Int) ≤ ws.length - 1)) = true
  rw [decide_eq_true (by omega), decide_eq_true (by omega)]
  rfl
theorem q16b : cl 16 [.d (cV ws), .d (.int 0), .d y] = .raise (pla "no number of steps") := by
  rw [cl_def, cl_at (f := f16) rfl (by decide)]
  exact p16b g (u3 (by decide) (by decide)) hy (u12 (by decide) (by decide)) (u15 (by decide) (by decide)) (isN_0 g hy g)
theorem qU1 {w : Nat} (hw : w = 2 ∨ w = 4 ∨ w = 5 ∨ w = 6) : cl 21 [.d (.int w), .d (cV ws), .d y, .d (.int 0)] = .ret (.fz (.d (.str "place"))) := by
  rw [cl_def, cl_at (f := f21) rfl (by decide)]
  refine o21p (p := "no count") (by omega) (calT.trans ?_)
  rcases hw with rfl | rfl | rfl | rfl
  · rw [cal2', cl_def, cl_at (f := f13) rfl (by decide)]
    exact p13 g (u3 (by decide) (by decide)) hy (u12 (by decide) (by decide))
  · rw [cal4, cl_def, cl_at (f := f17) rfl (by decide)]
    exact b17 ((tl (by decide) (by decide)).trans (q16a g hy))
  · rw [cal5, cl_def, cl_at (f := f19) rfl (by decide)]
    exact b19 ((tl (by decide) (by decide)).trans (q16a g hy))
  · rw [cal6, cl_def, cl_at (f := f20) rfl (by decide)]
    exact b20 ((tl (by decide) (by decide)).trans (q16a g hy))
theorem qU2 {w : Nat} (hw : w = 4 ∨ w = 5 ∨ w = 6) : cl 21 [.d (.int w), .d (cV ws), .d (.int 0), .d y] = .ret (.fz (.d (.str "place"))) := by
  rw [cl_def, cl_at (f := f21) rfl (by decide)]
  refine o21p (p := "no number of steps") (by omega) (calT.trans ?_)
  rcases hw with rfl | rfl | rfl
  · rw [cal4, cl_def, cl_at (f := f17) rfl (by decide)]
    exact b17 ((tl (by decide) (by decide)).trans (q16b g hy))
  · rw [cal5, cl_def, cl_at (f := f19) rfl (by decide)]
    exact b19 ((tl (by decide) (by decide)).trans (q16b g hy))
  · rw [cal6, cl_def, cl_at (f := f20) rfl (by decide)]
    exact b20 ((tl (by decide) (by decide)).trans (q16b g hy))
theorem qU3 {w : Nat} (hw : w < 4) : cl 27 [.d (.int w), .d (cV ws), .d y] = .ret (.fz (.d (.str "place"))) := by
  rw [cl_def, cl_at (f := f27) rfl (by decide)]
  refine o27p (p := "no number of steps") hw (cal2T.trans ?_)
  rcases (show w = 0 ∨ w = 1 ∨ w = 2 ∨ w = 3 by omega) with rfl | rfl | rfl | rfl
  · rw [cas0, cl_def, cl_at (f := f22) rfl (by decide)]
    exact p22 g (u3 (by decide) (by decide)) hy (u15 (by decide) (by decide))
  · rw [cas1, cl_def, cl_at (f := f23) rfl (by decide)]
    exact p23 g (u3 (by decide) (by decide)) hy (u15 (by decide) (by decide))
  · rw [cas2, cl_def, cl_at (f := f24) rfl (by decide)]
    exact p24 g (u3 (by decide) (by decide)) hy (u15 (by decide) (by decide))
  · rw [cas3, cl_def, cl_at (f := f26) rfl (by decide)]
    exact p26 g (u3 (by decide) (by decide)) hy (u15 (by decide) (by decide))
end
theorem qU4 {ws : List (List Bool)} {t : Nat} (g : Gd ws t) {y z : PyData} (hy : isiE .str y = false) : cl 21 [.d (.int 3), .d (cV ws), .d y, .d z] = .ret (.fz (.d (.str "place"))) := by
  rw [cl_def, cl_at (f := f21) rfl (by decide)]
  refine o21p (w := 3) (p := "no string") (by decide) (calT.trans ?_)
  rw [cal3, cl_def, cl_at (f := f14) rfl (by decide)]
  exact p14 g (u3 (by decide) (by decide)) hy
section
variable {ws : List (List Bool)} {t : Nat} {s : Int} (g : Go ws t 0 s) (hs : s < ws.length)
include g hs
theorem q16 : cl 16 [.d (cV ws), .d (.int 0), .d (.int s)] = .ret nn := by
  rw [cl_def, cl_at (f := f16) rfl (by decide)]
  exact g16 g (z0 g hs) hs (u3 (by decide) (by decide)) (u12 (by decide) (by decide)) (u15 (by decide) (by decide))
theorem qU5 {w : Nat} (hw : w = 2 ∨ w = 4 ∨ w = 5 ∨ w = 6) : cl 21 [.d (.int w), .d (cV ws), .d (.int 0), .d (.int s)] = .ret nn := by
  have e : ∃ r, cal cl w (cV ws) (.int 0) (.int s) = .ret r := by
    rcases hw with rfl | rfl | rfl | rfl
    · rw [cal2', cl_def, cl_at (f := f13) rfl (by decide)]
      exact g13 g (z0 g hs) hs (u3 (by decide) (by decide)) (u12 (by decide) (by decide))
    · rw [cal4, cl_def, cl_at (f := f17) rfl (by decide)]
      exact g17 g (z0 g hs) hs ((tl (by decide) (by decide)).trans (q16 g hs)) (u7 (by decide) (by decide))
    · rw [cal5, cl_def, cl_at (f := f19) rfl (by decide)]
      exact g19 g (z0 g hs) hs ((tl (by decide) (by decide)).trans (q16 g hs)) (u18 (by decide) (by decide))
    · rw [cal6, cl_def, cl_at (f := f20) rfl (by decide)]
      obtain ⟨o, h, _⟩ := g20 (c := tlC fns 20) g ((tl (by decide) (by decide)).trans (q16 g hs)) (u5 (by decide) (by decide)) (u7 (by decide) (by decide)) (u18 (by decide) (by decide))
      exact ⟨o, h⟩
  obtain ⟨r, hr⟩ := e
  rw [cl_def, cl_at (f := f21) rfl (by decide)]
  exact o21r (by omega) (calT.trans hr)
theorem qU6 {w : Nat} (hw : w < 4) : cl 27 [.d (.int w), .d (cV ws), .d (.int s)] = .ret nn := by
  have e : ∃ r, cal2 cl w (cV ws) (.int s) = .ret r := by
    rcases (show w = 0 ∨ w = 1 ∨ w = 2 ∨ w = 3 by omega) with rfl | rfl | rfl | rfl
    · rw [cas0, cl_def, cl_at (f := f22) rfl (by decide)]
      exact g22 g hs (u3 (by decide) (by decide)) (u15 (by decide) (by decide)) (u9 (by decide) (by decide))
    · rw [cas1, cl_def, cl_at (f := f23) rfl (by decide)]
      obtain ⟨o, h, _⟩ := g23 (c := tlC fns 23) g hs (u3 (by decide) (by decide)) (u15 (by decide) (by decide)) (u9 (by decide) (by decide)) (u18 (by decide) (by decide)) (u7 (by decide) (by decide))
      exact ⟨o, h⟩
    · rw [cas2, cl_def, cl_at (f := f24) rfl (by decide)]
      obtain ⟨o, h, _⟩ := g24 (c := tlC fns 24) g hs (u3 (by decide) (by decide)) (u15 (by decide) (by decide)) (u8 (by decide) (by decide))
      exact ⟨o, h⟩
    · rw [cas3, cl_def, cl_at (f := f26) rfl (by decide)]
      obtain ⟨o, h, _⟩ := g26 (c := tlC fns 26) g hs (u3 (by decide) (by decide)) (u15 (by decide) (by decide)) (u8 (by decide) (by decide)) (u25 (by decide) (by decide))
      exact ⟨o, h⟩
  obtain ⟨r, hr⟩ := e
  rw [cl_def, cl_at (f := f27) rfl (by decide)]
  exact o27r hw (cal2T.trans hr)
end
end Tk02

set_option Elab.async false
set_option linter.all false
set_option maxRecDepth 100000
set_option maxHeartbeats 4000000
namespace Tk02
open PySem TC N07 WD
variable {c : Nat → List Wd → Comp FR}
theorem r0 {x w : Nat} {K : Int} (hK : K = w) (hw : w ≤ 200) (hb : bigI K = true) : f0.run 100 c [.d (.int x), .d (.int K)] = .ret (.fz (.d (.str (wd (H x.testBit w))))) := by
  refine eq_of ?_
  refine okW_run (P := fun o => o = .fz (.d (.str (wd (H x.testBit w))))) rfl ?_
  unfold f0
  have hlen : (rngP 0 K).length = w := by rw [rngP_len]; omega
  generalize hQ : (fun o : Ou => (endC o).okW 0 (fun o => o = .fz (.d (.str (wd (H x.testBit w))))) nEx) = Q
  simp [hb, eE]
  subst hQ
  refine Comp.okW_bind (b := 0) (b2 := 0) (P := fun o => ∃ a b, o = .nx [a, .fz (.d (.int K)), .fz (.d (.str (wd (H x.testBit w)))), b]) (okW_for0 (P := fun j e => ∃ b, e = [.fz (.d (.int ((x / 2 ^ j : Nat) : Int))), .fz (.d (.int K)), .fz (.d (.str (wd (H x.testBit j)))), b]) ?_ ?_ ⟨.un, by simp [H]⟩) ?_
  · rintro j d hd e ⟨b, rfl⟩
    have hj : j < w := by
      obtain ⟨z, _⟩ := List.getElem?_eq_some_iff.mp hd
      omega
    have m := mod_eq (x := x) (j := j)
    have hf := half_eq (x := x) (j := j)
    generalize hA : ((x / 2 ^ j : Nat) : Int) = A at *
    have ad := addW (a := [x.testBit j]) (b := H x.testBit j) (by rw [H_len]; simp; omega)
    have i := i01 (b := x.testBit j)
    refine okW_eq (o := .nx [.fz (.d (.int ((x / 2 ^ (j + 1) : Nat) : Int))), .fz (.d (.int K)), .fz (.d (.str (wd ([x.testBit j] ++ H x.testBit j)))), .fz (.d d)]) (by simp only [hf.symm]; simp [m, i, ad, l2]) ⟨_, Or.inl rfl, _, rfl⟩
  · rintro e ⟨b, rfl⟩
    exact ⟨_, b, by rw [hlen]⟩
  · rintro o ⟨a, b, rfl⟩
    exact okW_eq (o := .rt (.fz (.d (.str (wd (H x.testBit w)))))) (by simp) (okW_eq (o := .fz (.d (.str (wd (H x.testBit w))))) rfl rfl)
def C0 (c : Nat → List Wd → Comp FR) : Prop := ∀ (x w : Nat) (K : Int), K = w → w ≤ 200 → c 0 [.d (.int x), .d (.int K)] = .ret (.fz (.d (.str (wd (H x.testBit w)))))
theorem s0 : C0 cl := fun x w K hK hw => by
  rw [cl_def, cl_at (f := f0) rfl (by decide)]
  exact r0 hK hw (bigI_ok (by omega) (by omega))
end Tk02

set_option Elab.async false
set_option linter.all false
set_option maxRecDepth 100000
set_option maxHeartbeats 4000000
namespace Tk02
open PySem TC N07 WD
variable {c : Nat → List Wd → Comp FR}
theorem er_perm {α : Type} {y : α} : ∀ {l : List α} {q : Nat}, l[q]? = some y → (y :: l.eraseIdx q).Perm l
  | [], q, h => by simp at h
  | a :: l, 0, h => by
    simp at h
    subst h
    exact .refl _
  | a :: l, q + 1, h => by
    rw [List.getElem?_cons_succ] at h
    rw [List.eraseIdx_cons_succ]
    exact (List.Perm.swap a y _).trans ((er_perm h).cons a)
theorem H_inj {t x y : Nat} (hx : x < 2 ^ t) (hy : y < 2 ^ t) (h : H x.testBit t = H y.testBit t) : x = y := by
  refine Nat.eq_of_testBit_eq fun i => ?_
  by_cases hi : i < t
  · have e1 := H_get (f := x.testBit) (w := t) (p := t - 1 - i) (by omega)
    have e2 := H_get (f := y.testBit) (w := t) (p := t - 1 - i) (by omega)
    rw [h, e2] at e1
    have e3 := Option.some.inj e1
    rw [show t - 1 - (t - 1 - i) = i by omega] at e3
    exact e3.symm
  · have h1 : 2 ^ t ≤ 2 ^ i := Nat.pow_le_pow_right (by decide) (by omega)
    rw [Nat.testBit_lt_two_pow (by omega), Nat.testBit_lt_two_pow (by omega)]
def allW (t : Nat) : List (List Bool) := (List.range (2 ^ t)).map fun x => H x.testBit t
theorem allW_len {t : Nat} : (allW t).length = 2 ^ t := by simp [allW]
theorem allW_nd {t : Nat} : (allW t).Nodup := by
  unfold allW List.Nodup
  rw [List.pairwise_map]
  exact List.Pairwise.imp_of_mem (fun {x y} hx hy hne e => hne (H_inj (List.mem_range.mp hx) (List.mem_range.mp hy) e)) List.nodup_range
theorem allW_w {t : Nat} : ∀ w ∈ allW t, w.length = t := fun w hw => by
  obtain ⟨x, _, rfl⟩ := List.mem_map.mp hw
  exact H_len
/-- what was taken and what is left -/
structure Pk (t n : Nat) (fs ss : List (List Bool)) : Prop where
  nd : (fs ++ ss).Nodup
  len : (fs ++ ss).length = n
  w : ∀ w ∈ fs ++ ss, w.length = t
theorem Pk.step {t n : Nat} {fs ss : List (List Bool)} (h : Pk t n fs ss) {q : Nat} {y : List Bool} (hy : ss[q]? = some y) : Pk t n (fs ++ [y]) (ss.eraseIdx q) := by
  have p : (fs ++ [y] ++ ss.eraseIdx q).Perm (fs ++ ss) := by
    rw [List.append_assoc]
    exact (er_perm hy).append_left fs
  exact ⟨p.nodup_iff.mpr h.nd, p.length_eq.trans h.len, fun w hw => h.w w (p.mem_iff.mp hw)⟩
def b1 (i : Nat) : Sm := match i, f1.body with
  | 0, .cons s _ => s
  | 1, .cons _ (.cons s _) => s
  | 2, .cons _ (.cons _ (.cons s _)) => s
  | 3, .cons _ (.cons _ (.cons _ (.cons s _))) => s
  | 4, .cons _ (.cons _ (.cons _ (.cons _ (.cons s _)))) => s
  | 5, .cons _ (.cons _ (.cons _ (.cons _ (.cons _ (.cons s _))))) => s
  | _, .cons _ (.cons _ (.cons _ (.cons _ (.cons _ (.cons _ (.cons s _)))))) => s
  | _, _ => .brk ⟨0, 0, 0, 0⟩
theorem f1_eq : f1.body = .cons (b1 0) (.cons (b1 1) (.cons (b1 2) (.cons (b1 3) (.cons (b1 4) (.cons (b1 5) (.cons (b1 6) .nil)))))) := rfl
theorem v0 : ((b1 0).ev c 100 [.fz .rng, .fz (.d (.int 5)), .un, .un, .un, .un, .un, .un]).okW 1 (fun o => ∃ r : Int, 0 ≤ r ∧ r < 5 ∧ o = .nx [.fz .rng, .fz (.d (.int 5)), .fz (.d (.int (1 + r))), .un, .un, .un, .un, .un]) nEx := by
  generalize hQ : (fun o : Ou => ∃ r : Int, 0 ≤ r ∧ r < 5 ∧ o = .nx [.fz .rng, .fz (.d (.int 5)), .fz (.d (.int (1 + r))), .un, .un, .un, .un, .un]) = Q
  unfold b1 f1
  simp
  refine Comp.okW_draw (b := 0) (by omega) (by omega) fun r r0 r1 => ?_
  subst hQ
  exact Comp.okW_ret ⟨r, r0, r1, rfl⟩
section
variable {t : Nat} {T : Int} (hT : T = t) (t1 : t ≤ 5) (bT : bigI T = true)
theorem v1 : (b1 1).ev c 100 [.fz .rng, .fz (.d (.int 5)), .fz (.d (.int T)), .un, .un, .un, .un, .un] = .ret (.nx [.fz .rng, .fz (.d (.int 5)), .fz (.d (.int T)), .fz (.d (.int 1)), .un, .un, .un, .un]) := by
  unfold b1 f1
  simp
def EH (T A : Int) (x4 : Sl) : En := [.fz .rng, .fz (.d (.int 5)), .fz (.d (.int T)), .fz (.d (.int A)), x4, .un, .un, .un]
def bd2 : Sms := match b1 2 with
  | .forr _ _ b _ => b
  | _ => .nil
def it2 : Ei := match b1 2 with
  | .forr _ i _ _ => i
  | _ => .seq (.non 0 ⟨0, 0, 0, 0⟩)
theorem b2_eq : ∃ q1 q2, b1 2 = .forr (.nm 4 "_law_k" q1) it2 bd2 q2 := ⟨_, _, rfl⟩
theorem v2t {A : Int} {x4 : Sl} : bd2.ev c 100 (EH T A x4) = .ret (.nx (EH T (A * 2) x4)) := by
  unfold bd2 b1 f1
  simp [EH, mulR2, -smul_int]
theorem v2i (bT : bigI T = true) {A : Int} {x4 : Sl} : it2.ev c (EH T A x4) = .ret (rngP 0 T) := by
  unfold it2 b1 f1
  simp [EH, bT]
theorem v2 (hT : T = t) (bT : bigI T = true) : ((b1 2).ev c 100 (EH T 1 .un)).okW 0 (fun o => ∃ x4, o = .nx (EH T (P2 t) x4)) nEx := by
  obtain ⟨q1, q2, e⟩ := b2_eq
  rw [e, ev_forr, v2i bT, exO_ret]
  refine okW_for0 (P := fun j e => ∃ x4, e = EH T (P2 j) x4) ?_ ?_ ⟨.un, by rw [P2_0]⟩
  · rintro j d hd e ⟨x4, rfl⟩
    have e1 : ∀ A, bindT (.nm 4 "_law_k" q1) d (EH T A x4) = .ret (EH T A (.fz (.d d))) := fun A => rfl
    refine okW_eq (o := .nx (EH T (P2 (j + 1)) (.fz (.d d)))) ?_ ⟨_, Or.inl rfl, _, rfl⟩
    rw [P2_succ, e1, sbind_ret, v2t]
  · rintro e ⟨x4, rfl⟩
    rw [rngP_len, show (T - 0).toNat = t by omega]
    exact ⟨x4, rfl⟩
def E1 (T N : Int) (x4 : Sl) (ss fs : List (List Bool)) : En := [.fz .rng, .fz (.d (.int 5)), .fz (.d (.int T)), .fz (.d (.int N)), x4, .ow (ss.map wV), .ow (fs.map wV), .un]
theorem v3 {N : Int} {x4 : Sl} {ss : List (List Bool)} (bN : bigI N = true) (lN : limL (rngP 0 N) = .ret (rngP 0 N)) (m1 : mapC (fun d => Comp.bind (dD ((c 0 [Wd.d d, Wd.d (.int T)]).bind frC)) fun y => Comp.ret (some y)) (rngP 0 N) = .ret (ss.map wV)) : (b1 3).ev c 100 (EH T N x4) = .ret (.nx [.fz .rng, .fz (.d (.int 5)), .fz (.d (.int T)), .fz (.d (.int N)), x4, .ow (ss.map wV), .un, .un]) := by
  unfold b1 f1
  simp [EH, bN, lN, m1]
theorem v4 {N : Int} {x4 : Sl} {M : List PyData} : (b1 4).ev c 100 [.fz .rng, .fz (.d (.int 5)), .fz (.d (.int T)), .fz (.d (.int N)), x4, .ow M, .un, .un] = .ret (.nx [.fz .rng, .fz (.d (.int 5)), .fz (.d (.int T)), .fz (.d (.int N)), x4, .ow M, .ow [], .un]) := by
  unfold b1 f1
  simp
def bd5 : Sms := match b1 5 with
  | .forr _ _ b _ => b
  | _ => .nil
def it5 : Ei := match b1 5 with
  | .forr _ i _ _ => i
  | _ => .seq (.non 0 ⟨0, 0, 0, 0⟩)
theorem b5_eq : ∃ q1 q2, b1 5 = .forr (.nm 4 "_law_k" q1) it5 bd5 q2 := ⟨_, _, rfl⟩
theorem er_map {ss : List (List Bool)} {k : Nat} : (ss.map wV).eraseIdx k = (ss.eraseIdx k).map wV := by
  induction ss generalizing k with
  | nil => rfl
  | cons a ss ih =>
    cases k with
    | zero => rfl
    | succ k =>
      rw [List.map_cons, List.eraseIdx_cons_succ, List.eraseIdx_cons_succ, List.map_cons, ih]
theorem pop_ok {N : Int} {x4 : Sl} {ss fs : List (List Bool)} {q : Int} {y : List Bool} (hy : ss[q.toNat]? = some y) (q0 : 0 ≤ q) (h1 : ss.length ≤ 1000) (h2 : fs.length < 1000) : popE (E1 T N x4 ss fs) 6 5 (.int q) = .ret (.nx (E1 T N x4 (ss.eraseIdx q.toNat) (fs ++ [y]))) := by
  have e : popE (E1 T N x4 ss fs) 6 5 (.int q) = if decide (0 ≤ q) && decide ((ss.map wV).length ≤ LIM) && decide ((fs.map wV).length < LIM) then (match (ss.map wV)[q.toNat]? with | some y => .ret (.nx (((E1 T N x4 ss fs).set 5 (.ow ((ss.map wV).eraseIdx q.toNat))).set 6 (.ow (fs.map wV ++ [y])))) | none => .stuck) else .stuck := rfl
  have c2 : decide ((ss.map wV).length ≤ LIM) = true := decide_eq_true (by rw [List.length_map]; unfold LIM; omega)
  have c3 : decide ((fs.map wV).length < LIM) = true := decide_eq_true (by rw [List.length_map]; unfold LIM; omega)
  rw [e, decide_eq_true q0, c2, c3, List.getElem?_map, hy, er_map]
  show Comp.ret (Ou.nx _) = _
  simp [E1]
theorem v5t {N K : Int} {x4 : Sl} {n : Nat} {ss fs : List (List Bool)} (h : Pk t n fs ss) (hn : n ≤ 32) (hK : K = ss.length) (hp : 0 < K) : (bd5.ev c 100 (E1 T N x4 ss fs)).okW 1 (fun o => ∃ ss' fs', o = .nx (E1 T N x4 ss' fs') ∧ Pk t n fs' ss' ∧ fs'.length = fs.length + 1) nEx := by
  have hl : f1E .len (.list (ss.map wV)) = .ret (.int K) := by rw [slen_list, List.length_map, hK]
  have hlen := h.len
  rw [List.length_append] at hlen
  generalize hQ : (fun o : Ou => ∃ ss' fs', o = .nx (E1 T N x4 ss' fs') ∧ Pk t n fs' ss' ∧ fs'.length = fs.length + 1) = Q
  unfold bd5 b1 f1
  simp [E1, hl, isO, -slen_list]
  refine Comp.okW_draw (b := 0) (by omega) (by omega) fun q q0 q1 => ?_
  subst hQ
  have hk : q.toNat < ss.length := by omega
  have hy : ss[q.toNat]? = some ss[q.toNat] := List.getElem?_eq_getElem hk
  have hs := h.step hy
  refine okW_eq (o := Ou.nx (E1 T N x4 (ss.eraseIdx q.toNat) (fs ++ [ss[q.toNat]]))) ?_ ⟨_, _, rfl, hs, by simp⟩
  have e := pop_ok (T := T) (N := N) (x4 := x4) (fs := fs) hy q0 (by omega) (by omega)
  rw [show [Sl.fz Wd.rng, .fz (.d (.int 5)), .fz (.d (.int T)), .fz (.d (.int N)), x4, .ow (ss.map wV), .ow (fs.map wV), .un] = E1 T N x4 ss fs from rfl, e]
  rfl
theorem v5i {N K : Int} {x4 : Sl} {ss : List (List Bool)} (hK : K = ss.length) (k0 : 2 ≤ K) (k1 : K ≤ 32) {b : Nat} {Q : Ou → Prop} {g : List PyData → Comp Ou} {e : En} (m : ∀ J : Int, 2 ≤ J → J ≤ K → J ≤ 10 → (g (rngP 0 J)).okW b Q nEx) : (exO e (it5.ev c (E1 T N x4 ss [])) g).okW (b + 1) Q nEx := by
  have hl : f1E .len (.list (ss.map wV)) = .ret (.int K) := by rw [slen_list, List.length_map, hK]
  unfold it5 b1 f1
  by_cases h : 10 < K
  · have m1 : f2E .min (.int K) (.int 10) = .ret (.int 10) := by rw [smin_int, if_pos h]
    simp [E1, hl, m1, -slen_list, -smin_int]
    refine Comp.okW_draw (by omega) (by omega) fun q q0 q1 => ?_
    have bb : bigI (2 + q) = true := bigI_ok (by omega) (by omega)
    rw [if_pos bb]
    exact m _ (by omega) (by omega) (by omega)
  · have m1 : f2E .min (.int K) (.int 10) = .ret (.int K) := by
      rw [smin_int, if_neg h]
    simp [E1, hl, m1, -slen_list, -smin_int]
    refine Comp.okW_draw (by omega) (by omega) fun q q0 q1 => ?_
    have bb : bigI (2 + q) = true := bigI_ok (by omega) (by omega)
    rw [if_pos bb]
    exact m _ (by omega) (by omega) (by omega)
def G1 (t n : Nat) (T N : Int) (j : Nat) (e : En) : Prop := ∃ x4 ss fs, e = E1 T N x4 ss fs ∧ Pk t n fs ss ∧ fs.length = j
theorem v5 {N : Int} {x4 : Sl} {n : Nat} {ss : List (List Bool)} (h : Pk t n [] ss) (n0 : 2 ≤ n) (n1 : n ≤ 32) : ((b1 5).ev c 100 (E1 T N x4 ss [])).okW 11 (fun o => ∃ e' j, o = .nx e' ∧ G1 t n T N j e' ∧ 2 ≤ j ∧ j ≤ 10) nEx := by
  obtain ⟨q1, q2, e⟩ := b5_eq
  have hlen := h.len
  rw [List.nil_append] at hlen
  rw [e, ev_forr]
  refine v5i (b := 10) (K := n) (by rw [hlen]) (by omega) (by omega) fun J j0 j1 j2 => ?_
  have hr : (rngP 0 J).length = J.toNat := by rw [rngP_len]; omega
  refine Comp.okW_mono (okW_fori (i := 0) (c := 1) (P := G1 t n T N) (Q := fun o => ∃ e' j, o = .nx e' ∧ G1 t n T N j e' ∧ 2 ≤ j ∧ j ≤ 10) ?_ ?_ ⟨x4, ss, [], rfl, h, rfl⟩) (by omega) (fun _ z => z) fun _ z => z
  · rintro j d hd e ⟨x4, ss, fs, rfl, hp, hf⟩
    obtain ⟨rfl, hj⟩ := rngP_at hd
    have e1 : bindT (.nm 4 "_law_k" q1) (.int (0 + j)) (E1 T N x4 ss fs) = .ret (E1 T N (.fz (.d (.int (0 + j)))) ss fs) := rfl
    rw [e1, sbind_ret]
    have hl2 := hp.len
    rw [List.length_append] at hl2
    refine Comp.okW_mono (v5t (K := ss.length) hp n1 rfl (by omega)) (Nat.le_refl _) ?_ fun _ z => z
    rintro o ⟨ss', fs', rfl, hp', hf'⟩
    exact ⟨_, Or.inl rfl, _, ss', fs', rfl, hp', by omega⟩
  · intro e he
    exact ⟨e, 0 + (rngP 0 J).length, rfl, he, by omega, by omega⟩
theorem v6 {N : Int} {x4 : Sl} {ss fs : List (List Bool)} : (b1 6).ev c 100 (E1 T N x4 ss fs) = .ret (.rt (.fz (.d (cV fs)))) := by
  unfold b1 f1
  simp [E1, cV]
end
def Rc (o : FR) : Prop := ∃ ws t, Gd ws t ∧ o = .fz (.d (cV ws))
theorem r1 (c0 : C0 c) : (f1.run 100 c [.rng, .d (.int 5)]).okW 12 Rc nEx := by
  refine okW_run (P := Rc) rfl ?_
  rw [f1_eq]
  refine okW_cons (b := 1) (b2 := 11) v0 ?_
  rintro o ⟨r, r0, r1, rfl⟩
  obtain ⟨T, hT⟩ : ∃ T : Int, T = 1 + r := ⟨_, rfl⟩
  obtain ⟨t, ht⟩ : ∃ t : Nat, T = t := Int.eq_ofNat_of_zero_le (by omega)
  rw [goOn_nx, ← hT]
  have bT : bigI T = true := bigI_ok (by omega) (by omega)
  have t0 : 1 ≤ t := by omega
  have t1 : t ≤ 5 := by omega
  have hp : 2 ≤ 2 ^ t ∧ 2 ^ t ≤ 32 := by
    have h1 : 2 ^ 1 ≤ 2 ^ t := Nat.pow_le_pow_right (by decide) t0
    have h2 : 2 ^ t ≤ 2 ^ 5 := Nat.pow_le_pow_right (by decide) t1
    omega
  rw [ev_cons, v1, sbind_ret, goOn_nx]
  refine okW_cons (b := 0) (b2 := 11) (v2 ht bT) ?_
  rintro o ⟨x4, rfl⟩
  obtain ⟨N, hN⟩ : ∃ N : Int, N = P2 t := ⟨_, rfl⟩
  have hN2 : N = (2 ^ t : Nat) := hN
  rw [goOn_nx, ← hN]
  have bN : bigI N = true := bigI_ok (by omega) (by omega)
  have lN : limL (rngP 0 N) = .ret (rngP 0 N) := lim_rng hN2 (by omega)
  have m1 : mapC (fun d => Comp.bind (dD ((c 0 [Wd.d d, Wd.d (.int T)]).bind frC)) fun y => Comp.ret (some y)) (rngP 0 N) = .ret ((allW t).map wV) := by
    rw [rng_nat hN2]
    have z := mapC_map (f := fun d => Comp.bind (TC.dD ((c 0 [Wd.d d, Wd.d (.int T)]).bind frC)) fun y => Comp.ret (some y)) (h := fun (i : Nat) => PyData.int (i : Int)) (g := fun i : Nat => wV (H i.testBit t)) (l := List.range (2 ^ t)) fun i hi => by
      rw [c0 i t T ht (by omega)]
      rfl
    rw [z]
    unfold allW
    rw [List.map_map]
    rfl
  have pk : Pk t (2 ^ t) [] (allW t) := ⟨allW_nd, allW_len, allW_w⟩
  rw [ev_cons, v3 bN lN m1, sbind_ret, goOn_nx, ev_cons, v4, sbind_ret, goOn_nx]
  refine okW_cons (b := 11) (b2 := 0) (v5 (T := T) (N := N) (x4 := x4) pk hp.1 hp.2) ?_
  rintro o ⟨e', j, rfl, ⟨x4', ss, fs, rfl, hpk, hf⟩, j0, j1⟩
  rw [goOn_nx, ev_cons, v6, sbind_ret, goOn_rt]
  refine Comp.okW_ret (okW_eq (o := .fz (.d (cV fs))) rfl ⟨fs, t, ⟨by omega, by omega, t0, t1, fun w hw => hpk.w w (List.mem_append_left _ hw), (List.nodup_append.mp hpk.nd).1⟩, rfl⟩)
theorem s1 : (cl 1 [.rng, .d (.int 5)]).okW 12 Rc nEx := by
  rw [cl_def, cl_at (f := f1) rfl (by decide)]
  exact r1 fun x w K hK hw => (tl (by decide) (by decide)).trans (s0 x w K hK hw)
end Tk02

set_option Elab.async false
set_option linter.all false
set_option maxRecDepth 100000
set_option maxHeartbeats 4000000
namespace Tk02
open PySem TC N07 WD
theorem ok_place : PyData.strOk "place" = true := by decide +kernel
section
variable {ws : List (List Bool)} {t : Nat} (g : Gd ws t)
include g
theorem qV1 {y : PyData} (hy : isN (ws.length - 1) y = false) {i : Int} (hi : i = 2 ∨ i = 4 ∨ i = 5 ∨ i = 6) : cl 21 [.d (.int i), .d (cV ws), .d y, .d (.int 0)] = .ret (.fz (.d (.str "place"))) := by
  obtain ⟨w, rfl⟩ := Int.eq_ofNat_of_zero_le (show 0 ≤ i by omega)
  exact qU1 g hy (by omega)
theorem qV2 {y : PyData} (hy : isN (ws.length - 1) y = false) {i : Int} (hi : i = 4 ∨ i = 5 ∨ i = 6) : cl 21 [.d (.int i), .d (cV ws), .d (.int 0), .d y] = .ret (.fz (.d (.str "place"))) := by
  obtain ⟨w, rfl⟩ := Int.eq_ofNat_of_zero_le (show 0 ≤ i by omega)
  exact qU2 g hy (by omega)
theorem qV3 {y : PyData} (hy : isN (ws.length - 1) y = false) : mapC (fun d => Comp.bind (dD ((cl 27 [Wd.d d, Wd.d (cV ws), Wd.d y]).bind frC)) fun y => Comp.ret (some y)) (rngP 0 4) = .ret ((List.replicate 4 ("place" : Str)).map .str) :=
  n_map7 (k := 4) (fun w hw => by rw [qU3 g hy hw]; rfl) (by decide)
theorem qV5 {s : Int} (s0 : 0 ≤ s) (hs : s < ws.length) {i : Int} (hi : i = 2 ∨ i = 4 ∨ i = 5 ∨ i = 6) : cl 21 [.d (.int i), .d (cV ws), .d (.int 0), .d (.int s)] = .ret nn := by
  obtain ⟨w, rfl⟩ := Int.eq_ofNat_of_zero_le (show 0 ≤ i by omega)
  have := g.hi
  exact qU5 ⟨g, by omega, by omega, by omega, by omega⟩ hs (by omega)
theorem qV6 {s : Int} (s0 : 0 ≤ s) (hs : s < ws.length) : mapC (fun d => Comp.bind (dD ((cl 27 [Wd.d d, Wd.d (cV ws), Wd.d (.int s)]).bind frC)) fun y => Comp.ret (some y)) (rngP 0 4) = .ret [.none, .none, .none, .none] := by
  have := g.hi
  rw [show rngP 0 4 = (List.range 4).map fun (i : Nat) => PyData.int (i : Int) from rngN (K := 4) (by decide)]
  have z := mapC_map (f := fun d => Comp.bind (TC.dD ((cl 27 [Wd.d d, Wd.d (cV ws), Wd.d (.int s)]).bind frC)) fun y => Comp.ret (some y)) (h := fun (i : Nat) => PyData.int (i : Int)) (g := fun _ : Nat => PyData.none) (l := List.range 4) fun w hw => by
    rw [qU6 ⟨g, by omega, by omega, by omega, by omega⟩ hs (List.mem_range.mp hw)]
    rfl
  exact z
end
def in02 : Sms := .cons lw0_0 (.cons lw0_1 (.cons lw0_2 (.cons lw0_3 (.cons lw0_4 (.cons lw0_5 .nil)))))
theorem lw0_eq : ∃ p1 p2 p3 p4 p5 p6 p7 p8 p9 p10 q1 q2, lw_0 = .forr (.nm 2 "_law_turn" q1) (Ei.rg1 p1 (.bin .add (.int 1 0 p2) (.f2 .min p3 (.lns 0 "_law_script" p4 p5 p6) (.int 4 0 p7) p8) p9) p10) (.fgt [0, 2, 3, 4, 5] in02) q2 :=
  ⟨_, _, _, _, _, _, _, _, _, _, _, _, rfl⟩
def EL (ws : List (List Bool)) (x4 : Sl) : En := [.un, .fz .rng, .un, .fz (.d (cV ws)), x4, .un]
def goodE (e : En) : Prop := ∃ a b c d f, e = [a, .fz .rng, b, c, d, f]
section
variable {ws : List (List Bool)} {t : Nat} {x4 : Sl}
theorem goodEL : goodE (EL ws x4) := ⟨_, _, _, _, _, rfl⟩
theorem st0 : (lw0_0.ev cl 100 [.un, .fz .rng, .un, .un, .un, .un]).okW 12 (fun o => ∃ ws t, Gd ws t ∧ o = .nx (EL ws .un)) nEx := by
  unfold lw0_0
  generalize hQ : (fun o : Ou => ∃ ws t, Gd ws t ∧ o = .nx (EL ws .un)) = Q
  simp
  subst hQ
  refine okW_exO (b := 12) (b2 := 0) (P := fun w => ∃ ws t, Gd ws t ∧ w = .d (cV ws)) (Comp.okW_bind (b := 12) (b2 := 0) s1 ?_) ?_
  · rintro o ⟨ws, t, ht, rfl⟩
    exact okW_eq (o := .d (cV ws)) rfl ⟨ws, t, ht, rfl⟩
  · rintro w ⟨ws, t, ht, rfl⟩
    exact Comp.okW_ret ⟨ws, t, ht, rfl⟩
theorem st1 (g : Gd ws t) : lw0_1.ev cl 100 (EL ws .un) = .ret (.nx (EL ws .un)) := by
  have h := s28 g
  unfold lw0_1
  simp [EL, h]
def in2 : Sms := match lw0_2 with
  | .forr _ _ b _ => b
  | _ => .nil
def itt2 : Ei := match lw0_2 with
  | .forr _ i _ _ => i
  | _ => .seq (.non 0 ⟨0, 0, 0, 0⟩)
theorem lw2_eq : ∃ q1 q2, lw0_2 = .forr (.nm 4 "_law_odd" q1) itt2 in2 q2 := ⟨_, _, rfl⟩
theorem eqP4 : eqE (.list ((List.replicate 4 ("place" : Str)).map .str)) (.list ((List.replicate 4 ("place" : Str)).map .str)) = .ret true := eq_self fun y hy => by rw [List.eq_of_mem_replicate hy]; exact ok_place
theorem eqP3 : eqE (.list ((List.replicate 3 ("place" : Str)).map .str)) (.list ((List.replicate 3 ("place" : Str)).map .str)) = .ret true := eq_self fun y hy => by rw [List.eq_of_mem_replicate hy]; exact ok_place
theorem odd2 (g : Gd ws t) {d : PyData} (hy : isN (ws.length - 1) d = false) : in2.ev cl 100 (EL ws (.fz (.d d))) = .ret (.nx (EL ws (.fz (.d d)))) := by
  have a2 := qV1 g hy (i := 2) (by omega)
  have a4 := qV1 g hy (i := 4) (by omega)
  have a5 := qV1 g hy (i := 5) (by omega)
  have a6 := qV1 g hy (i := 6) (by omega)
  have b4 := qV2 g hy (i := 4) (by omega)
  have b5 := qV2 g hy (i := 5) (by omega)
  have b6 := qV2 g hy (i := 6) (by omega)
  have m4 := qV3 g hy
  have p3 : repE (.list [.str "place"]) (.int 3) = .ret ((List.replicate 3 ("place" : Str)).map .str) := rep7 (k := 3) (by decide)
  have p4 : repE (.list [.str "place"]) (.int 4) = .ret ((List.replicate 4 ("place" : Str)).map .str) := rep7 (k := 4) (by decide)
  have q3 := eqP3
  have q4 := eqP4
  have l4 : limL [PyData.int 2, .int 4, .int 5, .int 6] = .ret [.int 2, .int 4, .int 5, .int 6] := rfl
  have l3 : limL [PyData.int 4, .int 5, .int 6] = .ret [.int 4, .int 5, .int 6] := rfl
  have lr : limL (rngP 0 4) = .ret (rngP 0 4) := lim_rng (w := 4) rfl (by decide)
  have bb : bigI 4 = true := rfl
  have r4 : (List.replicate 4 ("place" : Str)).map PyData.str = [.str "place", .str "place", .str "place", .str "place"] := rfl
  have r3 : (List.replicate 3 ("place" : Str)).map PyData.str = [.str "place", .str "place", .str "place"] := rfl
  rw [r4] at m4 p4 q4
  rw [r3] at p3 q3
  unfold in2 lw0_2
  simp [EL, l4, l3, lr, bb, mapC, consO, a2, a4, a5, a6, b4, b5, b6, m4, p3, p4, q3, q4]
def odV (n : Int) : List PyData := [.none, .int (-1), .int n, .bool true, .str "0"]
theorem odV_bad (g : Gd ws t) {n : Int} (hn : n = ws.length) : ∀ d ∈ odV n, isN (ws.length - 1) d = false := by
  have := g.lo
  intro d hd
  unfold odV at hd
  simp only [List.mem_cons, List.not_mem_nil, or_false] at hd
  rcases hd with rfl | rfl | rfl | rfl | rfl
  · rfl
  · show (decide ((0 : Int) ≤ -1) && decide ((-1 : Int) ≤ ws.length - 1)) = false
    rw [decide_eq_false (by omega), Bool.false_and]
  · show (decide ((0 : Int) ≤ n) && decide (n ≤ (ws.length : Int) - 1)) = false
    rw [decide_eq_false (p := n ≤ (ws.length : Int) - 1) (by omega), Bool.and_false]
  · rfl
  · rfl
theorem itt2_eq {n : Int} (hl : f1E .len (cV ws) = .ret (.int n)) : itt2.ev cl (EL ws x4) = .ret (odV n) := by
  unfold itt2 lw0_2
  simp [EL, hl, odV, -slen_tuple]
theorem st2 (g : Gd ws t) : (lw0_2.ev cl 100 (EL ws x4)).okW 0 (fun o => ∃ x4, o = .nx (EL ws x4)) nEx := by
  obtain ⟨q1, q2, e⟩ := lw2_eq
  obtain ⟨n, hn⟩ : ∃ n : Int, n = ws.length := ⟨_, rfl⟩
  rw [e, ev_forr, itt2_eq (len_cV hn), exO_ret]
  refine okW_for0 (P := fun _ e => ∃ x4, e = EL ws x4) ?_ ?_ ⟨x4, rfl⟩
  · rintro j d hd e ⟨x4, rfl⟩
    have e1 : bindT (.nm 4 "_law_odd" q1) d (EL ws x4) = .ret (EL ws (.fz (.d d))) := rfl
    exact okW_eq (o := .nx (EL ws (.fz (.d d)))) (by rw [e1, sbind_ret, odd2 g (odV_bad g hn d (List.mem_of_getElem? hd))]) ⟨_, Or.inl rfl, _, rfl⟩
  · rintro e ⟨x4, rfl⟩
    exact ⟨x4, rfl⟩
def in3 : Sms := match lw0_3 with
  | .forr _ _ b _ => b
  | _ => .nil
def itt3 : Ei := match lw0_3 with
  | .forr _ i _ _ => i
  | _ => .seq (.non 0 ⟨0, 0, 0, 0⟩)
theorem lw3_eq : ∃ q1 q2, lw0_3 = .forr (.nm 4 "_law_odd" q1) itt3 in3 q2 := ⟨_, _, rfl⟩
def odW : List PyData := [.none, .int 0, .tuple [.str "0"], .bool true]
theorem itt3_eq : itt3.ev cl (EL ws x4) = .ret odW := by
  unfold itt3 lw0_3
  simp [EL, odW]
theorem odd3 (g : Gd ws t) {d : PyData} (hy : isiE .str d = false) : in3.ev cl 100 (EL ws (.fz (.d d))) = .ret (.nx (EL ws (.fz (.d d)))) := by
  have a := qU4 g (z := .none) hy
  unfold in3 lw0_3
  simp [EL, a]
theorem st3 (g : Gd ws t) : (lw0_3.ev cl 100 (EL ws x4)).okW 0 (fun o => ∃ x4, o = .nx (EL ws x4)) nEx := by
  obtain ⟨q1, q2, e⟩ := lw3_eq
  rw [e, ev_forr, itt3_eq, exO_ret]
  refine okW_for0 (P := fun _ e => ∃ x4, e = EL ws x4) ?_ ?_ ⟨x4, rfl⟩
  · rintro j d hd e ⟨x4, rfl⟩
    have e1 : bindT (.nm 4 "_law_odd" q1) d (EL ws x4) = .ret (EL ws (.fz (.d d))) := rfl
    have h : isiE .str d = false := by
      have hd := List.mem_of_getElem? hd
      unfold odW at hd
      simp only [List.mem_cons, List.not_mem_nil, or_false] at hd
      rcases hd with rfl | rfl | rfl | rfl <;> rfl
    exact okW_eq (o := .nx (EL ws (.fz (.d d)))) (by rw [e1, sbind_ret, odd3 g h]) ⟨_, Or.inl rfl, _, rfl⟩
  · rintro e ⟨x4, rfl⟩
    exact ⟨x4, rfl⟩
def N4 : List PyData := [.none, .none, .none, .none]
theorem repN : repE (.list [.none]) (.int 4) = .ret N4 := rfl
theorem eqN4 : eqE (.list N4) (.list N4) = .ret true := by
  have e : eqE (.list N4) (.list N4) = if SeqAt.shaped (.list N4) && SeqAt.shaped (.list N4) then .ret (PyData.eqv (.list N4) (.list N4)) else .stuck := rfl
  rw [e, show SeqAt.shaped (.list N4) = true by decide +kernel, show PyData.eqv (.list N4) (.list N4) = true by decide +kernel]
  rfl
theorem st4 (g : Gd ws t) : lw0_4.ev cl 100 (EL ws x4) = .ret (.nx (EL ws x4)) := by
  have lo := g.lo
  obtain ⟨n, hn⟩ : ∃ n : Int, n = ws.length := ⟨_, rfl⟩
  have hl := len_cV hn
  have a2 := qV5 g (s := n - 1) (by omega) (by omega) (i := 2) (by omega)
  have a4 := qV5 g (s := n - 1) (by omega) (by omega) (i := 4) (by omega)
  have a5 := qV5 g (s := n - 1) (by omega) (by omega) (i := 5) (by omega)
  have a6 := qV5 g (s := n - 1) (by omega) (by omega) (i := 6) (by omega)
  have l4 : limL [PyData.int 2, .int 4, .int 5, .int 6] = .ret [.int 2, .int 4, .int 5, .int 6] := rfl
  have q4 := eqN4
  have p4 := repN
  unfold N4 at q4 p4
  unfold lw0_4
  simp [EL, l4, mapC, consO, a2, a4, a5, a6, hl, p4, q4, nn, -slen_tuple]
theorem st5 (g : Gd ws t) : lw0_5.ev cl 100 (EL ws x4) = .ret (.nx (EL ws x4)) := by
  have lo := g.lo
  obtain ⟨n, hn⟩ : ∃ n : Int, n = ws.length := ⟨_, rfl⟩
  have hl := len_cV hn
  have m4 := qV6 g (s := n - 1) (by omega) (by omega)
  have lr : limL (rngP 0 4) = .ret (rngP 0 4) := lim_rng (w := 4) rfl (by decide)
  have bb : bigI 4 = true := rfl
  have q4 := eqN4
  have p4 := repN
  unfold N4 at q4 p4
  unfold lw0_5
  simp [EL, lr, bb, m4, hl, p4, q4, nn, -slen_tuple]
theorem turn0 : (in02.ev cl 100 [.un, .fz .rng, .un, .un, .un, .un]).okW 12 (fun o => ∃ e', (o = .nx e' ∨ o = .ct e') ∧ goodE e') nEx := by
  unfold in02
  refine okW_cons (b := 12) (b2 := 0) st0 ?_
  rintro o ⟨ws, t, g, rfl⟩
  rw [goOn_nx, ev_cons, st1 g, sbind_ret, goOn_nx]
  refine okW_cons (b := 0) (b2 := 0) (st2 g) ?_
  rintro o ⟨x4, rfl⟩
  rw [goOn_nx]
  refine okW_cons (b := 0) (b2 := 0) (st3 g) ?_
  rintro o ⟨x4, rfl⟩
  rw [goOn_nx, ev_cons, st4 g, sbind_ret, goOn_nx, ev_cons, st5 g, sbind_ret, goOn_nx, ev_nil]
  exact Comp.okW_ret ⟨_, Or.inl rfl, goodEL⟩
end
theorem turn {p : Pos} {d : PyData} {e : En} (he : goodE e) : ((bindT (.nm 2 "_law_turn" p) d e).bind fun e2 => (Sms.fgt [0, 2, 3, 4, 5] in02).ev cl 100 e2).okW 12 (fun o => ∃ e', (o = .nx e' ∨ o = .ct e') ∧ goodE e') nEx := by
  obtain ⟨a, b, c, d', f, rfl⟩ := he
  rw [bindT, sbind_ret, ev_fgt]
  exact turn0
theorem loop {n : Nat} (h : n ≤ 63) : (lw_0.ev cl 100 [.fz (.scr n), .fz .rng, .un, .un, .un, .un]).okW 60 (fun o => ∃ e', o = .nx e' ∧ goodE e') nEx := by
  obtain ⟨p1, p2, p3, p4, p5, p6, p7, p8, p9, p10, q1, q2, e0⟩ := lw0_eq
  obtain ⟨m, m0, m1, hd⟩ := rg_len (cl := cl) h (a := 1) (b := 4) (by decide) (by decide) (by decide) (by decide) (e := [.fz (.scr n), .fz .rng, .un, .un, .un, .un]) rfl (k1 := 0) (k2 := 0) (x := "_law_script") (p1 := p1) (p2 := p2) (p3 := p3) (p4 := p4) (p5 := p5) (p6 := p6) (p7 := p7) (p8 := p8) (p9 := p9) (p10 := p10)
  have hl : (rngP 0 (1 + m)).length ≤ 5 := by
    rw [rngP_len]
    omega
  rw [e0, ev_forr, hd, exO_ret]
  exact Comp.okW_mono (okW_for (c := 12) (P := goodE) (Q := fun o => ∃ e', o = .nx e' ∧ goodE e') (fun d hd e he => turn he) (fun e he => ⟨e, rfl, he⟩) ⟨_, _, _, _, _, rfl⟩) (by omega) (fun _ z => z) fun _ z => z
theorem u1 {x1 : Sl} : lw_1.ev cl 100 [.un, x1, .un, .un, .un, .un] = .ret (.rt (.fz (.d (.bool true)))) := by
  unfold lw_1
  simp
theorem law02 (n : Nat) (h : n ≤ 63) : (lawC 100 fns lw n).wp 60 isT noE := by
  refine law_of (lawC_ok ?_)
  rw [← cl_def]
  have e1 : lw.body = .cons lw_0 (.fgt [0, 2, 3, 4, 5] (.cons lw_1 .nil)) := rfl
  have e2 : (startE lw.N.length [.scr n]).set 1 (.fz .rng) = [.fz (.scr n), .fz .rng, .un, .un, .un, .un] := rfl
  rw [e1, e2]
  refine okW_cons (b := 60) (b2 := 0) (loop h) ?_
  rintro o ⟨e', rfl, a, b, c, d', f, rfl⟩
  rw [goOn_nx, ev_fgt]
  have e3 : wipeE [a, .fz .rng, b, c, d', f] [0, 2, 3, 4, 5] = [.un, .fz .rng, .un, .un, .un, .un] := rfl
  rw [e3, ev_cons, u1, sbind_ret, goOn_rt]
  exact Comp.okW_ret rfl
end Tk02

set_option Elab.async false
set_option linter.all false
set_option maxRecDepth 100000
set_option maxHeartbeats 4000000
namespace Tk02
open PySem L2 TC PySem.Spec PyProof.Rows
theorem fs0 : FnScope f0.N ["_law_number", "_law_total"] (defScope (top 35)) := ⟨rfl, rfl, rfl, by decide +kernel, rfl, by decide +kernel, by decide +kernel⟩
theorem fo0 : f0.body.ok (ckOf cons "_law_next" [] exN) f0.N (defScope (top 35)) = true := by decide +kernel
theorem fs1 : FnScope f1.N ["_law_m", "_law_signs"] (defScope (top 36)) := ⟨rfl, rfl, rfl, by decide +kernel, rfl, by decide +kernel, by decide +kernel⟩
theorem fo1 : f1.body.ok (ckOf cons "_law_next" [f0] exN) f1.N (defScope (top 36)) = true := by decide +kernel
theorem fs2 : FnScope f2.N ["thing", "most"] (defScope (top 8)) := ⟨rfl, rfl, rfl, by decide +kernel, rfl, by decide +kernel, by decide +kernel⟩
theorem fo2 : f2.body.ok (ckOf cons "_law_next" [f1, f0] exN) f2.N (defScope (top 8)) = true := by decide +kernel
theorem fs3 : FnScope f3.N ["thing"] (defScope (top 9)) := ⟨rfl, rfl, rfl, by decide +kernel, rfl, by decide +kernel, by decide +kernel⟩
theorem fo3 : f3.body.ok (ckOf cons "_law_next" [f2, f1, f0] exN) f3.N (defScope (top 9)) = true := by decide +kernel
theorem fs4 : FnScope f4.N ["code", "elder", "steps"] (defScope (top 13)) := ⟨rfl, rfl, rfl, by decide +kernel, rfl, by decide +kernel, by decide +kernel⟩
theorem fo4 : f4.body.ok (ckOf cons "_law_next" [f3, f2, f1, f0] exN) f4.N (defScope (top 13)) = true := by decide +kernel
theorem fs5 : FnScope f5.N ["code", "elder", "steps"] (defScope (top 14)) := ⟨rfl, rfl, rfl, by decide +kernel, rfl, by decide +kernel, by decide +kernel⟩
theorem fo5 : f5.body.ok (ckOf cons "_law_next" [f4, f3, f2, f1, f0] exN) f5.N (defScope (top 14)) = true := by decide +kernel
theorem fs6 : FnScope f6.N ["choices", "word"] (defScope (top 15)) := ⟨rfl, rfl, rfl, by decide +kernel, rfl, by decide +kernel, by decide +kernel⟩
theorem fo6 : f6.body.ok (ckOf cons "_law_next" [f5, f4, f3, f2, f1, f0] exN) f6.N (defScope (top 15)) = true := by decide +kernel
theorem fs7 : FnScope f7.N ["code", "elder", "steps"] (defScope (top 16)) := ⟨rfl, rfl, rfl, by decide +kernel, rfl, by decide +kernel, by decide +kernel⟩
theorem fo7 : f7.body.ok (ckOf cons "_law_next" [f6, f5, f4, f3, f2, f1, f0] exN) f7.N (defScope (top 16)) = true := by decide +kernel
theorem fs8 : FnScope f8.N ["code", "elder", "steps"] (defScope (top 24)) := ⟨rfl, rfl, rfl, by decide +kernel, rfl, by decide +kernel, by decide +kernel⟩
theorem fo8 : f8.body.ok (ckOf cons "_law_next" [f7, f6, f5, f4, f3, f2, f1, f0] exN) f8.N (defScope (top 24)) = true := by decide +kernel
theorem fs9 : FnScope f9.N ["code", "steps"] (defScope (top 25)) := ⟨rfl, rfl, rfl, by decide +kernel, rfl, by decide +kernel, by decide +kernel⟩
theorem fo9 : f9.body.ok (ckOf cons "_law_next" [f8, f7, f6, f5, f4, f3, f2, f1, f0] exN) f9.N (defScope (top 25)) = true := by decide +kernel
theorem fs10 : FnScope f10.N ["code"] (defScope (top 29)) := ⟨rfl, rfl, rfl, by decide +kernel, rfl, by decide +kernel, by decide +kernel⟩
theorem fo10 : f10.body.ok (ckOf cons "_law_next" [f9, f8, f7, f6, f5, f4, f3, f2, f1, f0] exN) f10.N (defScope (top 29)) = true := by decide +kernel
theorem fs11 : FnScope f11.N ["thing", "least", "most"] (defScope (top 7)) := ⟨rfl, rfl, rfl, by decide +kernel, rfl, by decide +kernel, by decide +kernel⟩
theorem fo11 : f11.body.ok (ckOf cons "_law_next" [f10, f9, f8, f7, f6, f5, f4, f3, f2, f1, f0] exN) f11.N (defScope (top 7)) = true := by decide +kernel
theorem fs12 : FnScope f12.N ["code", "number"] (defScope (top 10)) := ⟨rfl, rfl, rfl, by decide +kernel, rfl, by decide +kernel, by decide +kernel⟩
theorem fo12 : f12.body.ok (ckOf cons "_law_next" [f11, f10, f9, f8, f7, f6, f5, f4, f3, f2, f1, f0] exN) f12.N (defScope (top 10)) = true := by decide +kernel
theorem fs13 : FnScope f13.N ["code", "number"] (defScope (top 11)) := ⟨rfl, rfl, rfl, by decide +kernel, rfl, by decide +kernel, by decide +kernel⟩
theorem fo13 : f13.body.ok (ckOf cons "_law_next" [f12, f11, f10, f9, f8, f7, f6, f5, f4, f3, f2, f1, f0] exN) f13.N (defScope (top 11)) = true := by decide +kernel
theorem fs14 : FnScope f14.N ["code", "word"] (defScope (top 12)) := ⟨rfl, rfl, rfl, by decide +kernel, rfl, by decide +kernel, by decide +kernel⟩
theorem fo14 : f14.body.ok (ckOf cons "_law_next" [f13, f12, f11, f10, f9, f8, f7, f6, f5, f4, f3, f2, f1, f0] exN) f14.N (defScope (top 12)) = true := by decide +kernel
theorem fs15 : FnScope f15.N ["code", "steps"] (defScope (top 18)) := ⟨rfl, rfl, rfl, by decide +kernel, rfl, by decide +kernel, by decide +kernel⟩
theorem fo15 : f15.body.ok (ckOf cons "_law_next" [f14, f13, f12, f11, f10, f9, f8, f7, f6, f5, f4, f3, f2, f1, f0] exN) f15.N (defScope (top 18)) = true := by decide +kernel
theorem fs16 : FnScope f16.N ["code", "elder", "steps"] (defScope (top 17)) := ⟨rfl, rfl, rfl, by decide +kernel, rfl, by decide +kernel, by decide +kernel⟩
theorem fo16 : f16.body.ok (ckOf cons "_law_next" [f15, f14, f13, f12, f11, f10, f9, f8, f7, f6, f5, f4, f3, f2, f1, f0] exN) f16.N (defScope (top 17)) = true := by decide +kernel
theorem fs17 : FnScope f17.N ["code", "elder", "steps"] (defScope (top 19)) := ⟨rfl, rfl, rfl, by decide +kernel, rfl, by decide +kernel, by decide +kernel⟩
theorem fo17 : f17.body.ok (ckOf cons "_law_next" [f16, f15, f14, f13, f12, f11, f10, f9, f8, f7, f6, f5, f4, f3, f2, f1, f0] exN) f17.N (defScope (top 19)) = true := by decide +kernel
theorem fs18 : FnScope f18.N ["code", "elder", "steps"] (defScope (top 20)) := ⟨rfl, rfl, rfl, by decide +kernel, rfl, by decide +kernel, by decide +kernel⟩
theorem fo18 : f18.body.ok (ckOf cons "_law_next" [f17, f16, f15, f14, f13, f12, f11, f10, f9, f8, f7, f6, f5, f4, f3, f2, f1, f0] exN) f18.N (defScope (top 20)) = true := by decide +kernel
theorem fs19 : FnScope f19.N ["code", "elder", "steps"] (defScope (top 21)) := ⟨rfl, rfl, rfl, by decide +kernel, rfl, by decide +kernel, by decide +kernel⟩
theorem fo19 : f19.body.ok (ckOf cons "_law_next" [f18, f17, f16, f15, f14, f13, f12, f11, f10, f9, f8, f7, f6, f5, f4, f3, f2, f1, f0] exN) f19.N (defScope (top 21)) = true := by decide +kernel
theorem fs20 : FnScope f20.N ["code", "elder", "steps"] (defScope (top 22)) := ⟨rfl, rfl, rfl, by decide +kernel, rfl, by decide +kernel, by decide +kernel⟩
theorem fo20 : f20.body.ok (ckOf cons "_law_next" [f19, f18, f17, f16, f15, f14, f13, f12, f11, f10, f9, f8, f7, f6, f5, f4, f3, f2, f1, f0] exN) f20.N (defScope (top 22)) = true := by decide +kernel
theorem fs21 : FnScope f21.N ["_law_way", "_law_one", "_law_more", "_law_steps"] (defScope (top 37)) := ⟨rfl, rfl, rfl, by decide +kernel, rfl, by decide +kernel, by decide +kernel⟩
theorem fo21 : f21.body.ok (ckOf cons "_law_next" [f20, f19, f18, f17, f16, f15, f14, f13, f12, f11, f10, f9, f8, f7, f6, f5, f4, f3, f2, f1, f0] exN) f21.N (defScope (top 37)) = true := by decide +kernel
theorem fs22 : FnScope f22.N ["code", "steps"] (defScope (top 26)) := ⟨rfl, rfl, rfl, by decide +kernel, rfl, by decide +kernel, by decide +kernel⟩
theorem fo22 : f22.body.ok (ckOf cons "_law_next" [f21, f20, f19, f18, f17, f16, f15, f14, f13, f12, f11, f10, f9, f8, f7, f6, f5, f4, f3, f2, f1, f0] exN) f22.N (defScope (top 26)) = true := by decide +kernel
theorem fs23 : FnScope f23.N ["code", "steps"] (defScope (top 27)) := ⟨rfl, rfl, rfl, by decide +kernel, rfl, by decide +kernel, by decide +kernel⟩
theorem fo23 : f23.body.ok (ckOf cons "_law_next" [f22, f21, f20, f19, f18, f17, f16, f15, f14, f13, f12, f11, f10, f9, f8, f7, f6, f5, f4, f3, f2, f1, f0] exN) f23.N (defScope (top 27)) = true := by decide +kernel
theorem fs24 : FnScope f24.N ["code", "steps"] (defScope (top 28)) := ⟨rfl, rfl, rfl, by decide +kernel, rfl, by decide +kernel, by decide +kernel⟩
theorem fo24 : f24.body.ok (ckOf cons "_law_next" [f23, f22, f21, f20, f19, f18, f17, f16, f15, f14, f13, f12, f11, f10, f9, f8, f7, f6, f5, f4, f3, f2, f1, f0] exN) f24.N (defScope (top 28)) = true := by decide +kernel
theorem fs25 : FnScope f25.N ["code", "elder", "steps", "count"] (defScope (top 30)) := ⟨rfl, rfl, rfl, by decide +kernel, rfl, by decide +kernel, by decide +kernel⟩
theorem fo25 : f25.body.ok (ckOf cons "_law_next" [f24, f23, f22, f21, f20, f19, f18, f17, f16, f15, f14, f13, f12, f11, f10, f9, f8, f7, f6, f5, f4, f3, f2, f1, f0] exN) f25.N (defScope (top 30)) = true := by decide +kernel
theorem fs26 : FnScope f26.N ["code", "steps"] (defScope (top 31)) := ⟨rfl, rfl, rfl, by decide +kernel, rfl, by decide +kernel, by decide +kernel⟩
theorem fo26 : f26.body.ok (ckOf cons "_law_next" [f25, f24, f23, f22, f21, f20, f19, f18, f17, f16, f15, f14, f13, f12, f11, f10, f9, f8, f7, f6, f5, f4, f3, f2, f1, f0] exN) f26.N (defScope (top 31)) = true := by decide +kernel
theorem fs27 : FnScope f27.N ["_law_way", "_law_one", "_law_steps"] (defScope (top 38)) := ⟨rfl, rfl, rfl, by decide +kernel, rfl, by decide +kernel, by decide +kernel⟩
theorem fo27 : f27.body.ok (ckOf cons "_law_next" [f26, f25, f24, f23, f22, f21, f20, f19, f18, f17, f16, f15, f14, f13, f12, f11, f10, f9, f8, f7, f6, f5, f4, f3, f2, f1, f0] exN) f27.N (defScope (top 38)) = true := by decide +kernel
theorem fs28 : FnScope f28.N ["_law_one"] (defScope (top 39)) := ⟨rfl, rfl, rfl, by decide +kernel, rfl, by decide +kernel, by decide +kernel⟩
theorem fo28 : f28.body.ok (ckOf cons "_law_next" [f27, f26, f25, f24, f23, f22, f21, f20, f19, f18, f17, f16, f15, f14, f13, f12, f11, f10, f9, f8, f7, f6, f5, f4, f3, f2, f1, f0] exN) f28.N (defScope (top 39)) = true := by decide +kernel
theorem fsL : FnScope lw.N ["_law_script"] (defScope (top 40)) := ⟨rfl, rfl, rfl, by decide +kernel, rfl, by decide +kernel, by decide +kernel⟩
theorem foL : lw.body.ok (ckOf cons "_law_next" fns exN) lw.N (defScope (top 40)) = true := by decide +kernel
theorem all_mk {l : PySem.W.OpenLaw} {w : World} {K : PySem.W.Frag} {h : Heap} {mg : Str → Option Value} {fa : Addr} (X : K.In h) (G : h.Ns mainGlobals mg) (hfa : mg "law" = some (.ref fa))
    {a0 : Addr} {od0 an0 : Option Addr} {sl0 : Array (Option Value)} {oc0 kV0 dc0 pm0 cd0 ct0 : Value}
    {a1 : Addr} {od1 an1 : Option Addr} {sl1 : Array (Option Value)} {oc1 kV1 dc1 pm1 cd1 ct1 : Value}
    {a2 : Addr} {od2 an2 : Option Addr} {sl2 : Array (Option Value)} {oc2 kV2 dc2 pm2 cd2 ct2 : Value}
    {a3 : Addr} {od3 an3 : Option Addr} {sl3 : Array (Option Value)} {oc3 kV3 dc3 pm3 cd3 ct3 : Value}
    {a4 : Addr} {od4 an4 : Option Addr} {sl4 : Array (Option Value)} {oc4 kV4 dc4 pm4 cd4 ct4 : Value}
    {a5 : Addr} {od5 an5 : Option Addr} {sl5 : Array (Option Value)} {oc5 kV5 dc5 pm5 cd5 ct5 : Value}
    {a6 : Addr} {od6 an6 : Option Addr} {sl6 : Array (Option Value)} {oc6 kV6 dc6 pm6 cd6 ct6 : Value}
    {a7 : Addr} {od7 an7 : Option Addr} {sl7 : Array (Option Value)} {oc7 kV7 dc7 pm7 cd7 ct7 : Value}
    {a8 : Addr} {od8 an8 : Option Addr} {sl8 : Array (Option Value)} {oc8 kV8 dc8 pm8 cd8 ct8 : Value}
    {a9 : Addr} {od9 an9 : Option Addr} {sl9 : Array (Option Value)} {oc9 kV9 dc9 pm9 cd9 ct9 : Value}
    {a10 : Addr} {od10 an10 : Option Addr} {sl10 : Array (Option Value)} {oc10 kV10 dc10 pm10 cd10 ct10 : Value}
    {a11 : Addr} {od11 an11 : Option Addr} {sl11 : Array (Option Value)} {oc11 kV11 dc11 pm11 cd11 ct11 : Value}
    {a12 : Addr} {od12 an12 : Option Addr} {sl12 : Array (Option Value)} {oc12 kV12 dc12 pm12 cd12 ct12 : Value}
    {a13 : Addr} {od13 an13 : Option Addr} {sl13 : Array (Option Value)} {oc13 kV13 dc13 pm13 cd13 ct13 : Value}
    {a14 : Addr} {od14 an14 : Option Addr} {sl14 : Array (Option Value)} {oc14 kV14 dc14 pm14 cd14 ct14 : Value}
    {a15 : Addr} {od15 an15 : Option Addr} {sl15 : Array (Option Value)} {oc15 kV15 dc15 pm15 cd15 ct15 : Value}
    {a16 : Addr} {od16 an16 : Option Addr} {sl16 : Array (Option Value)} {oc16 kV16 dc16 pm16 cd16 ct16 : Value}
    {a17 : Addr} {od17 an17 : Option Addr} {sl17 : Array (Option Value)} {oc17 kV17 dc17 pm17 cd17 ct17 : Value}
    {a18 : Addr} {od18 an18 : Option Addr} {sl18 : Array (Option Value)} {oc18 kV18 dc18 pm18 cd18 ct18 : Value}
    {a19 : Addr} {od19 an19 : Option Addr} {sl19 : Array (Option Value)} {oc19 kV19 dc19 pm19 cd19 ct19 : Value}
    {a20 : Addr} {od20 an20 : Option Addr} {sl20 : Array (Option Value)} {oc20 kV20 dc20 pm20 cd20 ct20 : Value}
    {a21 : Addr} {od21 an21 : Option Addr} {sl21 : Array (Option Value)} {oc21 kV21 dc21 pm21 cd21 ct21 : Value}
    {a22 : Addr} {od22 an22 : Option Addr} {sl22 : Array (Option Value)} {oc22 kV22 dc22 pm22 cd22 ct22 : Value}
    {a23 : Addr} {od23 an23 : Option Addr} {sl23 : Array (Option Value)} {oc23 kV23 dc23 pm23 cd23 ct23 : Value}
    {a24 : Addr} {od24 an24 : Option Addr} {sl24 : Array (Option Value)} {oc24 kV24 dc24 pm24 cd24 ct24 : Value}
    {a25 : Addr} {od25 an25 : Option Addr} {sl25 : Array (Option Value)} {oc25 kV25 dc25 pm25 cd25 ct25 : Value}
    {a26 : Addr} {od26 an26 : Option Addr} {sl26 : Array (Option Value)} {oc26 kV26 dc26 pm26 cd26 ct26 : Value}
    {a27 : Addr} {od27 an27 : Option Addr} {sl27 : Array (Option Value)} {oc27 kV27 dc27 pm27 cd27 ct27 : Value}
    {a28 : Addr} {od28 an28 : Option Addr} {sl28 : Array (Option Value)} {oc28 kV28 dc28 pm28 cd28 ct28 : Value}
    {aB : Addr} {odB anB : Option Addr} {slB : Array (Option Value)} {ocB kVB dcB pmB cdB ctB : Value}
    {aD : Addr} {odD anD : Option Addr} {slD : Array (Option Value)} {ocD kVD dcD pmD cdD ctD : Value}
    {aL : Addr} {odL anL : Option Addr} {slL : Array (Option Value)} {ocL kVL dcL pmL cdL ctL : Value}
    {tBINARY : Tok}
    {tMOST_PERIOD : Tok}
    {tMOST_SIGNS : Tok}
    {Cx0 fx0 hx0 wx0 : Addr} {nmx0 qx0 qnx0 fix0 : Str} {Nx0 : Addr} {bsx0 subx0 : List Value} {snx0 : List Str} {abx0 : Bool} {colx0 : Option Bool} {ddx0 odx0 anx0 cddx0 cldx0 : Option Addr} {k0x0 k1x0 k2x0 k3x0 k5x0 : Option Value} {ocx0 dcx0 pmx0 ctx0 cclx0 clx0 : Value} {oslx0 ccsx0 cslx0 : Array (Option Value)} {arx0 : Expr} {a1x0 a2x0 p0x0 p1x0 p2x0 p3x0 p4x0 q1x0 q2x0 q3x0 q4x0 : Pos} {vsx0 : Array Value} {tfx0 : Tok}
    {Cx1 fx1 hx1 wx1 : Addr} {nmx1 qx1 qnx1 fix1 : Str} {Nx1 : Addr} {bsx1 subx1 : List Value} {snx1 : List Str} {abx1 : Bool} {colx1 : Option Bool} {ddx1 odx1 anx1 cddx1 cldx1 : Option Addr} {k0x1 k1x1 k2x1 k3x1 k5x1 : Option Value} {ocx1 dcx1 pmx1 ctx1 cclx1 clx1 : Value} {oslx1 ccsx1 cslx1 : Array (Option Value)} {arx1 : Expr} {a1x1 a2x1 p0x1 p1x1 p2x1 p3x1 p4x1 : Pos} {vsx1 : Array Value} {tfx1 : Tok}
    (n0 : PySem.W.nsIn K mainGlobals "_law_text" = some (some (.ref a0))) (l0 : K.lookup a0 = some ⟨oc0, od0, .func (PySem.W.fnOf "_law_text" "_law_text" (defArgs (top 35)) (defBody (top 35)) (defScope (top 35)) .none kV0 dc0 pm0 an0 cd0 ct0), sl0⟩) (c0 : PySem.W.codeIn K cd0 "_law_text" = true) (k0 : PySem.W.keepIn K (.ref a0) = true)
    (n1 : PySem.W.nsIn K mainGlobals "_law_code" = some (some (.ref a1))) (l1 : K.lookup a1 = some ⟨oc1, od1, .func (PySem.W.fnOf "_law_code" "_law_code" (defArgs (top 36)) (defBody (top 36)) (defScope (top 36)) .none kV1 dc1 pm1 an1 cd1 ct1), sl1⟩) (c1 : PySem.W.codeIn K cd1 "_law_code" = true) (k1 : PySem.W.keepIn K (.ref a1) = true)
    (n2 : PySem.W.nsIn K mainGlobals "is_word" = some (some (.ref a2))) (l2 : K.lookup a2 = some ⟨oc2, od2, .func (PySem.W.fnOf "is_word" "is_word" (defArgs (top 8)) (defBody (top 8)) (defScope (top 8)) .none kV2 dc2 pm2 an2 cd2 ct2), sl2⟩) (c2 : PySem.W.codeIn K cd2 "is_word" = true) (k2 : PySem.W.keepIn K (.ref a2) = true)
    (n3 : PySem.W.nsIn K mainGlobals "need_code" = some (some (.ref a3))) (l3 : K.lookup a3 = some ⟨oc3, od3, .func (PySem.W.fnOf "need_code" "need_code" (defArgs (top 9)) (defBody (top 9)) (defScope (top 9)) .none kV3 dc3 pm3 an3 cd3 ct3), sl3⟩) (c3 : PySem.W.codeIn K cd3 "need_code" = true) (k3 : PySem.W.keepIn K (.ref a3) = true)
    (n4 : PySem.W.nsIn K mainGlobals "window_of" = some (some (.ref a4))) (l4 : K.lookup a4 = some ⟨oc4, od4, .func (PySem.W.fnOf "window_of" "window_of" (defArgs (top 13)) (defBody (top 13)) (defScope (top 13)) .none kV4 dc4 pm4 an4 cd4 ct4), sl4⟩) (c4 : PySem.W.codeIn K cd4 "window_of" = true) (k4 : PySem.W.keepIn K (.ref a4) = true)
    (n5 : PySem.W.nsIn K mainGlobals "choices_of" = some (some (.ref a5))) (l5 : K.lookup a5 = some ⟨oc5, od5, .func (PySem.W.fnOf "choices_of" "choices_of" (defArgs (top 14)) (defBody (top 14)) (defScope (top 14)) .none kV5 dc5 pm5 an5 cd5 ct5), sl5⟩) (c5 : PySem.W.codeIn K cd5 "choices_of" = true) (k5 : PySem.W.keepIn K (.ref a5) = true)
    (n6 : PySem.W.nsIn K mainGlobals "is_among" = some (some (.ref a6))) (l6 : K.lookup a6 = some ⟨oc6, od6, .func (PySem.W.fnOf "is_among" "is_among" (defArgs (top 15)) (defBody (top 15)) (defScope (top 15)) .none kV6 dc6 pm6 an6 cd6 ct6), sl6⟩) (c6 : PySem.W.codeIn K cd6 "is_among" = true) (k6 : PySem.W.keepIn K (.ref a6) = true)
    (n7 : PySem.W.nsIn K mainGlobals "read_in" = some (some (.ref a7))) (l7 : K.lookup a7 = some ⟨oc7, od7, .func (PySem.W.fnOf "read_in" "read_in" (defArgs (top 16)) (defBody (top 16)) (defScope (top 16)) .none kV7 dc7 pm7 an7 cd7 ct7), sl7⟩) (c7 : PySem.W.codeIn K cd7 "read_in" = true) (k7 : PySem.W.keepIn K (.ref a7) = true)
    (n8 : PySem.W.nsIn K mainGlobals "foreign_in" = some (some (.ref a8))) (l8 : K.lookup a8 = some ⟨oc8, od8, .func (PySem.W.fnOf "foreign_in" "foreign_in" (defArgs (top 24)) (defBody (top 24)) (defScope (top 24)) .none kV8 dc8 pm8 an8 cd8 ct8), sl8⟩) (c8 : PySem.W.codeIn K cd8 "foreign_in" = true) (k8 : PySem.W.keepIn K (.ref a8) = true)
    (n9 : PySem.W.nsIn K mainGlobals "is_honest_in" = some (some (.ref a9))) (l9 : K.lookup a9 = some ⟨oc9, od9, .func (PySem.W.fnOf "is_honest_in" "is_honest_in" (defArgs (top 25)) (defBody (top 25)) (defScope (top 25)) .none kV9 dc9 pm9 an9 cd9 ct9), sl9⟩) (c9 : PySem.W.codeIn K cd9 "is_honest_in" = true) (k9 : PySem.W.keepIn K (.ref a9) = true)
    (n10 : PySem.W.nsIn K mainGlobals "reach" = some (some (.ref a10))) (l10 : K.lookup a10 = some ⟨oc10, od10, .func (PySem.W.fnOf "reach" "reach" (defArgs (top 29)) (defBody (top 29)) (defScope (top 29)) .none kV10 dc10 pm10 an10 cd10 ct10), sl10⟩) (c10 : PySem.W.codeIn K cd10 "reach" = true) (k10 : PySem.W.keepIn K (.ref a10) = true)
    (n11 : PySem.W.nsIn K mainGlobals "is_whole" = some (some (.ref a11))) (l11 : K.lookup a11 = some ⟨oc11, od11, .func (PySem.W.fnOf "is_whole" "is_whole" (defArgs (top 7)) (defBody (top 7)) (defScope (top 7)) .none kV11 dc11 pm11 an11 cd11 ct11), sl11⟩) (c11 : PySem.W.codeIn K cd11 "is_whole" = true) (k11 : PySem.W.keepIn K (.ref a11) = true)
    (n12 : PySem.W.nsIn K mainGlobals "need_count" = some (some (.ref a12))) (l12 : K.lookup a12 = some ⟨oc12, od12, .func (PySem.W.fnOf "need_count" "need_count" (defArgs (top 10)) (defBody (top 10)) (defScope (top 10)) .none kV12 dc12 pm12 an12 cd12 ct12), sl12⟩) (c12 : PySem.W.codeIn K cd12 "need_count" = true) (k12 : PySem.W.keepIn K (.ref a12) = true)
    (n13 : PySem.W.nsIn K mainGlobals "code_word" = some (some (.ref a13))) (l13 : K.lookup a13 = some ⟨oc13, od13, .func (PySem.W.fnOf "code_word" "code_word" (defArgs (top 11)) (defBody (top 11)) (defScope (top 11)) .none kV13 dc13 pm13 an13 cd13 ct13), sl13⟩) (c13 : PySem.W.codeIn K cd13 "code_word" = true) (k13 : PySem.W.keepIn K (.ref a13) = true)
    (n14 : PySem.W.nsIn K mainGlobals "count_of" = some (some (.ref a14))) (l14 : K.lookup a14 = some ⟨oc14, od14, .func (PySem.W.fnOf "count_of" "count_of" (defArgs (top 12)) (defBody (top 12)) (defScope (top 12)) .none kV14 dc14 pm14 an14 cd14 ct14), sl14⟩) (c14 : PySem.W.codeIn K cd14 "count_of" = true) (k14 : PySem.W.keepIn K (.ref a14) = true)
    (n15 : PySem.W.nsIn K mainGlobals "need_steps" = some (some (.ref a15))) (l15 : K.lookup a15 = some ⟨oc15, od15, .func (PySem.W.fnOf "need_steps" "need_steps" (defArgs (top 18)) (defBody (top 18)) (defScope (top 18)) .none kV15 dc15 pm15 an15 cd15 ct15), sl15⟩) (c15 : PySem.W.codeIn K cd15 "need_steps" = true) (k15 : PySem.W.keepIn K (.ref a15) = true)
    (n16 : PySem.W.nsIn K mainGlobals "need_window" = some (some (.ref a16))) (l16 : K.lookup a16 = some ⟨oc16, od16, .func (PySem.W.fnOf "need_window" "need_window" (defArgs (top 17)) (defBody (top 17)) (defScope (top 17)) .none kV16 dc16 pm16 an16 cd16 ct16), sl16⟩) (c16 : PySem.W.codeIn K cd16 "need_window" = true) (k16 : PySem.W.keepIn K (.ref a16) = true)
    (n17 : PySem.W.nsIn K mainGlobals "may_read" = some (some (.ref a17))) (l17 : K.lookup a17 = some ⟨oc17, od17, .func (PySem.W.fnOf "may_read" "may_read" (defArgs (top 19)) (defBody (top 19)) (defScope (top 19)) .none kV17 dc17 pm17 an17 cd17 ct17), sl17⟩) (c17 : PySem.W.codeIn K cd17 "may_read" = true) (k17 : PySem.W.keepIn K (.ref a17) = true)
    (n18 : PySem.W.nsIn K mainGlobals "mixes_in" = some (some (.ref a18))) (l18 : K.lookup a18 = some ⟨oc18, od18, .func (PySem.W.fnOf "mixes_in" "mixes_in" (defArgs (top 20)) (defBody (top 20)) (defScope (top 20)) .none kV18 dc18 pm18 an18 cd18 ct18), sl18⟩) (c18 : PySem.W.codeIn K cd18 "mixes_in" = true) (k18 : PySem.W.keepIn K (.ref a18) = true)
    (n19 : PySem.W.nsIn K mainGlobals "many_mixes" = some (some (.ref a19))) (l19 : K.lookup a19 = some ⟨oc19, od19, .func (PySem.W.fnOf "many_mixes" "many_mixes" (defArgs (top 21)) (defBody (top 21)) (defScope (top 21)) .none kV19 dc19 pm19 an19 cd19 ct19), sl19⟩) (c19 : PySem.W.codeIn K cd19 "many_mixes" = true) (k19 : PySem.W.keepIn K (.ref a19) = true)
    (n20 : PySem.W.nsIn K mainGlobals "first_wild" = some (some (.ref a20))) (l20 : K.lookup a20 = some ⟨oc20, od20, .func (PySem.W.fnOf "first_wild" "first_wild" (defArgs (top 22)) (defBody (top 22)) (defScope (top 22)) .none kV20 dc20 pm20 an20 cd20 ct20), sl20⟩) (c20 : PySem.W.codeIn K cd20 "first_wild" = true) (k20 : PySem.W.keepIn K (.ref a20) = true)
    (n21 : PySem.W.nsIn K mainGlobals "_law_outcome" = some (some (.ref a21))) (l21 : K.lookup a21 = some ⟨oc21, od21, .func (PySem.W.fnOf "_law_outcome" "_law_outcome" (defArgs (top 37)) (defBody (top 37)) (defScope (top 37)) .none kV21 dc21 pm21 an21 cd21 ct21), sl21⟩) (c21 : PySem.W.codeIn K cd21 "_law_outcome" = true) (k21 : PySem.W.keepIn K (.ref a21) = true)
    (n22 : PySem.W.nsIn K mainGlobals "is_honest" = some (some (.ref a22))) (l22 : K.lookup a22 = some ⟨oc22, od22, .func (PySem.W.fnOf "is_honest" "is_honest" (defArgs (top 26)) (defBody (top 26)) (defScope (top 26)) .none kV22 dc22 pm22 an22 cd22 ct22), sl22⟩) (c22 : PySem.W.codeIn K cd22 "is_honest" = true) (k22 : PySem.W.keepIn K (.ref a22) = true)
    (n23 : PySem.W.nsIn K mainGlobals "is_true" = some (some (.ref a23))) (l23 : K.lookup a23 = some ⟨oc23, od23, .func (PySem.W.fnOf "is_true" "is_true" (defArgs (top 27)) (defBody (top 27)) (defScope (top 27)) .none kV23 dc23 pm23 an23 cd23 ct23), sl23⟩) (c23 : PySem.W.codeIn K cd23 "is_true" = true) (k23 : PySem.W.keepIn K (.ref a23) = true)
    (n24 : PySem.W.nsIn K mainGlobals "foreign" = some (some (.ref a24))) (l24 : K.lookup a24 = some ⟨oc24, od24, .func (PySem.W.fnOf "foreign" "foreign" (defArgs (top 28)) (defBody (top 28)) (defScope (top 28)) .none kV24 dc24 pm24 an24 cd24 ct24), sl24⟩) (c24 : PySem.W.codeIn K cd24 "foreign" = true) (k24 : PySem.W.keepIn K (.ref a24) = true)
    (n25 : PySem.W.nsIn K mainGlobals "off_by" = some (some (.ref a25))) (l25 : K.lookup a25 = some ⟨oc25, od25, .func (PySem.W.fnOf "off_by" "off_by" (defArgs (top 30)) (defBody (top 30)) (defScope (top 30)) .none kV25 dc25 pm25 an25 cd25 ct25), sl25⟩) (c25 : PySem.W.codeIn K cd25 "off_by" = true) (k25 : PySem.W.keepIn K (.ref a25) = true)
    (n26 : PySem.W.nsIn K mainGlobals "error" = some (some (.ref a26))) (l26 : K.lookup a26 = some ⟨oc26, od26, .func (PySem.W.fnOf "error" "error" (defArgs (top 31)) (defBody (top 31)) (defScope (top 31)) .none kV26 dc26 pm26 an26 cd26 ct26), sl26⟩) (c26 : PySem.W.codeIn K cd26 "error" = true) (k26 : PySem.W.keepIn K (.ref a26) = true)
    (n27 : PySem.W.nsIn K mainGlobals "_law_step_outcome" = some (some (.ref a27))) (l27 : K.lookup a27 = some ⟨oc27, od27, .func (PySem.W.fnOf "_law_step_outcome" "_law_step_outcome" (defArgs (top 38)) (defBody (top 38)) (defScope (top 38)) .none kV27 dc27 pm27 an27 cd27 ct27), sl27⟩) (c27 : PySem.W.codeIn K cd27 "_law_step_outcome" = true) (k27 : PySem.W.keepIn K (.ref a27) = true)
    (n28 : PySem.W.nsIn K mainGlobals "_law_codes_right" = some (some (.ref a28))) (l28 : K.lookup a28 = some ⟨oc28, od28, .func (PySem.W.fnOf "_law_codes_right" "_law_codes_right" (defArgs (top 39)) (defBody (top 39)) (defScope (top 39)) .none kV28 dc28 pm28 an28 cd28 ct28), sl28⟩) (c28 : PySem.W.codeIn K cd28 "_law_codes_right" = true) (k28 : PySem.W.keepIn K (.ref a28) = true)
    (nB : PySem.W.nsIn K mainGlobals "_law_begun" = some (some (.ref aB))) (lB : K.lookup aB = some ⟨ocB, odB, .func (PySem.W.fnOf "_law_begun" "_law_begun" (defArgs (top 33)) (defBody (top 33)) (defScope (top 33)) .none kVB dcB pmB anB cdB ctB), slB⟩) (cB : PySem.W.codeIn K cdB "_law_begun" = true) (kB : PySem.W.keepIn K (.ref aB) = true)
    (nD : PySem.W.nsIn K mainGlobals "_law_next" = some (some (.ref aD))) (lD : K.lookup aD = some ⟨ocD, odD, .func (PySem.W.fnOf "_law_next" "_law_next" (defArgs (top 34)) (defBody (top 34)) (defScope (top 34)) .none kVD dcD pmD anD cdD ctD), slD⟩) (cD : PySem.W.codeIn K cdD "_law_next" = true) (kD : PySem.W.keepIn K (.ref aD) = true)
    (nL : PySem.W.nsIn K mainGlobals "law" = some (some (.ref aL))) (lL : K.lookup aL = some ⟨ocL, odL, .func (PySem.W.fnOf "law" "law" (defArgs (top 40)) (defBody (top 40)) (defScope (top 40)) .none kVL dcL pmL anL cdL ctL), slL⟩) (cL : PySem.W.codeIn K cdL "law" = true) (kL : PySem.W.keepIn K (.ref aL) = true)
    (gBINARY : PySem.W.nsIn K mainGlobals "BINARY" = some (some (.str "01" tBINARY)))
    (gMOST_PERIOD : PySem.W.nsIn K mainGlobals "MOST_PERIOD" = some (some (.int 64 tMOST_PERIOD)))
    (gMOST_SIGNS : PySem.W.nsIn K mainGlobals "MOST_SIGNS" = some (some (.int 64 tMOST_SIGNS)))
    (zsuper : PySem.W.nsIn K mainGlobals "super" = some none) (zop : PySem.W.nsIn K PySem.cStatics "thirdparty.any" = some none) (ztop : (l.prog.main.scope.names.lookup ("super" : Str)).isSome = false)
    (gCx0 : PySem.W.nsIn K mainGlobals "BadCode" = some (some (.ref Cx0)))
    (xLx0 : K.lookup Cx0 = some (excClassObj nmx0 qx0 Cx0 Nx0 bsx0 [.type "ValueError", .type "Exception", .type "BaseException", .type "object"] true snx0 subx0 abx0 colx0 ddx0 k0x0 k1x0 k2x0 k3x0 k5x0 "ValueError.__new__"))
    (sax0 : PySem.W.findIn K (.ref Cx0) "__setattr__" = some (some (.builtin "object.__setattr__")))
    (gax0 : PySem.W.findIn K (.ref Cx0) "__getattribute__" = some (some (.builtin "BaseException.__getattribute__")))
    (ggx0 : PySem.W.findIn K (.ref Cx0) "__getattr__" = some none)
    (nox0 : PySem.W.findIn K (.ref Cx0) "part" = some none)
    (iCx0 : PySem.W.findIn K (.ref Cx0) "__init__" = some (some (.ref fx0)))
    (tIx0 : PySem.W.typeIn K (.ref fx0) = some (.type "function"))
    (lIx0 : K.lookup fx0 = some ⟨ocx0, odx0, .func (PySem.W.ksFn "__init__" qnx0 (TX.iniA "part" a1x0 a2x0) (TX.iniB arx0 (some "part") p0x0 p1x0 p2x0 p3x0 p4x0 q1x0 q2x0 q3x0 q4x0) (TX.iniS "part") .none .none dcx0 pmx0 anx0 (.ref hx0) ctx0 wx0), oslx0⟩)
    (okx0 : TX.ArgOk "part" arx0)
    (hlx0 : (p2x0.endLine == p3x0.line) = true)
    (cIx0 : PySem.W.codeIn K (.ref hx0) qnx0 = true)
    (hIx0 : K.lookup hx0 = some ⟨cclx0, cddx0, .fields vsx0, ccsx0⟩)
    (vIx0 : vsx0[2]? = some (.str fix0 tfx0))
    (pIx0 : ((l.prog.main.file : Str) == fix0) = true)
    (wIx0 : K.lookup wx0 = some ⟨clx0, cldx0, .cell (some (.ref Cx0)), cslx0⟩)
    (mCx0 : PySem.W.mroIn K Cx0 (.ref Cx0) = some true)
    (sBx0 : PySem.W.subIn K (.ref Cx0) (.type "ValueError") = some true)
    (kCx0 : PySem.W.keepIn K (.ref Cx0) = true)
    (eCx0 : PySem.W.subIn K (.ref Cx0) (.type "BaseException") = some true)
    (tCx0 : PySem.W.typeIn K (.ref Cx0) = some (.type "type"))
    (hCx0 : PySem.W.hasDictIn K Cx0 = true)
    (uCx0 : PySem.W.isClsIn K Cx0 = true)
    (gCx1 : PySem.W.nsIn K mainGlobals "OutOfPlace" = some (some (.ref Cx1)))
    (xLx1 : K.lookup Cx1 = some (excClassObj nmx1 qx1 Cx1 Nx1 bsx1 [.type "ValueError", .type "Exception", .type "BaseException", .type "object"] true snx1 subx1 abx1 colx1 ddx1 k0x1 k1x1 k2x1 k3x1 k5x1 "ValueError.__new__"))
    (sax1 : PySem.W.findIn K (.ref Cx1) "__setattr__" = some (some (.builtin "object.__setattr__")))
    (gax1 : PySem.W.findIn K (.ref Cx1) "__getattribute__" = some (some (.builtin "BaseException.__getattribute__")))
    (ggx1 : PySem.W.findIn K (.ref Cx1) "__getattr__" = some none)
    (nox1 : PySem.W.findIn K (.ref Cx1) "text" = some none)
    (iCx1 : PySem.W.findIn K (.ref Cx1) "__init__" = some (some (.ref fx1)))
    (tIx1 : PySem.W.typeIn K (.ref fx1) = some (.type "function"))
    (lIx1 : K.lookup fx1 = some ⟨ocx1, odx1, .func (PySem.W.ksFn "__init__" qnx1 (TX.iniA "text" a1x1 a2x1) (TX.iniB arx1 none p0x1 p1x1 p2x1 p3x1 p4x1 ⟨0, 0, 0, 0⟩ ⟨0, 0, 0, 0⟩ ⟨0, 0, 0, 0⟩ ⟨0, 0, 0, 0⟩) (TX.iniS "text") .none .none dcx1 pmx1 anx1 (.ref hx1) ctx1 wx1), oslx1⟩)
    (okx1 : TX.ArgOk "text" arx1)
    (hlx1 : (p2x1.endLine == p3x1.line) = true)
    (cIx1 : PySem.W.codeIn K (.ref hx1) qnx1 = true)
    (hIx1 : K.lookup hx1 = some ⟨cclx1, cddx1, .fields vsx1, ccsx1⟩)
    (vIx1 : vsx1[2]? = some (.str fix1 tfx1))
    (pIx1 : ((l.prog.main.file : Str) == fix1) = true)
    (wIx1 : K.lookup wx1 = some ⟨clx1, cldx1, .cell (some (.ref Cx1)), cslx1⟩)
    (mCx1 : PySem.W.mroIn K Cx1 (.ref Cx1) = some true)
    (sBx1 : PySem.W.subIn K (.ref Cx1) (.type "ValueError") = some true)
    (kCx1 : PySem.W.keepIn K (.ref Cx1) = true)
    (eCx1 : PySem.W.subIn K (.ref Cx1) (.type "BaseException") = some true)
    (tCx1 : PySem.W.typeIn K (.ref Cx1) = some (.type "type"))
    (hCx1 : PySem.W.hasDictIn K Cx1 = true)
    (uCx1 : PySem.W.isClsIn K Cx1 = true)
    (s0_0 : PySem.W.subIn K (.ref Cx0) (.ref Cx0) = some true)
    (s0_1 : PySem.W.subIn K (.ref Cx0) (.ref Cx1) = some false)
    (s1_0 : PySem.W.subIn K (.ref Cx1) (.ref Cx0) = some false)
    (s1_1 : PySem.W.subIn K (.ref Cx1) (.ref Cx1) = some true)
    (zlen : PySem.W.nsIn K mainGlobals "len" = some none)
    (zint : PySem.W.nsIn K mainGlobals "int" = some none)
    (zstr : PySem.W.nsIn K mainGlobals "str" = some none)
    (zall : PySem.W.nsIn K mainGlobals "all" = some none)
    (zsum : PySem.W.nsIn K mainGlobals "sum" = some none)
    (ztuple : PySem.W.nsIn K mainGlobals "tuple" = some none)
    (zrepr : PySem.W.nsIn K mainGlobals "repr" = some none)
    (zmin : PySem.W.nsIn K mainGlobals "min" = some none)
    (zmax : PySem.W.nsIn K mainGlobals "max" = some none)
    (zisinstance : PySem.W.nsIn K mainGlobals "isinstance" = some none)
    (zbool : PySem.W.nsIn K mainGlobals "bool" = some none)
    (zlist : PySem.W.nsIn K mainGlobals "list" = some none)
    (zrange : PySem.W.nsIn K mainGlobals "range" = some none)
    (zenumerate : PySem.W.nsIn K mainGlobals "enumerate" = some none)
    (zzip : PySem.W.nsIn K mainGlobals "zip" = some none)
    (zsorted : PySem.W.nsIn K mainGlobals "sorted" = some none)
    (zset : PySem.W.nsIn K mainGlobals "set" = some none)
    : ∃ fd : FuncData, (∀ (s : Shared) (u : Value), BindsTo s fd ⟨[u], []⟩ [("_law_script", u)]) ∧ ∀ base : Heap, K.In base → base.Ns mainGlobals mg → FnG l.prog w K mg base 32 fa fd ["_law_script"] (spT K) := by
  have e := hfa.symm.trans (PySem.W.mg_of X G nL)
  cases e
  have hb : ∀ x, bltB x = true → mg x = none := fun x hx => by
    have hm := of_decide_eq_true hx
    simp only [List.mem_cons, List.not_mem_nil, or_false] at hm
    rcases hm with rfl | rfl | rfl | rfl | rfl | rfl | rfl | rfl | rfl | rfl | rfl | rfl | rfl | rfl | rfl | rfl | rfl
    · exact PySem.W.mg_none_of X G zlen
    · exact PySem.W.mg_none_of X G zint
    · exact PySem.W.mg_none_of X G zstr
    · exact PySem.W.mg_none_of X G zall
    · exact PySem.W.mg_none_of X G zsum
    · exact PySem.W.mg_none_of X G ztuple
    · exact PySem.W.mg_none_of X G zrepr
    · exact PySem.W.mg_none_of X G zmin
    · exact PySem.W.mg_none_of X G zmax
    · exact PySem.W.mg_none_of X G zisinstance
    · exact PySem.W.mg_none_of X G zbool
    · exact PySem.W.mg_none_of X G zlist
    · exact PySem.W.mg_none_of X G zrange
    · exact PySem.W.mg_none_of X G zenumerate
    · exact PySem.W.mg_none_of X G zzip
    · exact PySem.W.mg_none_of X G zsorted
    · exact PySem.W.mg_none_of X G zset
  have hc : ∀ x v, cons.lookup x = some v → ∃ u vv, mg x = some vv ∧ RelV u vv ∧ Dq K (fun _ => none) u v.val := fun x v hx => by
    unfold cons at hx
    simp only [List.lookup_cons] at hx
    split at hx
    · rename_i hh
      rw [eq_of_beq hh]
      obtain rfl := Option.some.inj hx
      exact con_str X G gBINARY
    split at hx
    · rename_i hh
      rw [eq_of_beq hh]
      obtain rfl := Option.some.inj hx
      exact con_int X G gMOST_PERIOD
    split at hx
    · rename_i hh
      rw [eq_of_beq hh]
      obtain rfl := Option.some.inj hx
      exact con_int X G gMOST_SIGNS
    cases hx
  have FB := fun_mk lB cB kB
  have FD := fun_mk lD cD kD
  have FL := fun_mk lL cL kL
  have bB := FB.binds (ps := ["_law_script"]) (fun _ _ _ _ _ _ us hl => match us, hl with | [_], _ => rfl)
  have bD := FD.binds (ps := ["_law_m", "_law_total"]) (fun _ _ _ _ _ _ us hl => match us, hl with | [_, _], _ => rfl)
  have at_ : FnsAt K mg cons "_law_next" exN fns := ⟨⟨⟨⟨⟨⟨⟨⟨⟨⟨⟨⟨⟨⟨⟨⟨⟨⟨⟨⟨⟨⟨⟨⟨⟨⟨⟨⟨⟨trivial, fnAt_of (st := top 35) (ps := ["_law_number", "_law_total"]) X G fs0 rfl rfl fo0 (fun _ _ _ _ _ _ us hl => match us, hl with | [_, _], _ => rfl) n0 l0 c0 k0⟩, fnAt_of (st := top 36) (ps := ["_law_m", "_law_signs"]) X G fs1 rfl rfl fo1 (fun _ _ _ _ _ _ us hl => match us, hl with | [_, _], _ => rfl) n1 l1 c1 k1⟩, fnAt_of (st := top 8) (ps := ["thing", "most"]) X G fs2 rfl rfl fo2 (fun _ _ _ _ _ _ us hl => match us, hl with | [_, _], _ => rfl) n2 l2 c2 k2⟩, fnAt_of (st := top 9) (ps := ["thing"]) X G fs3 rfl rfl fo3 (fun _ _ _ _ _ _ us hl => match us, hl with | [_], _ => rfl) n3 l3 c3 k3⟩, fnAt_of (st := top 13) (ps := ["code", "elder", "steps"]) X G fs4 rfl rfl fo4 (fun _ _ _ _ _ _ us hl => match us, hl with | [_, _, _], _ => rfl) n4 l4 c4 k4⟩, fnAt_of (st := top 14) (ps := ["code", "elder", "steps"]) X G fs5 rfl rfl fo5 (fun _ _ _ _ _ _ us hl => match us, hl with | [_, _, _], _ => rfl) n5 l5 c5 k5⟩, fnAt_of (st := top 15) (ps := ["choices", "word"]) X G fs6 rfl rfl fo6 (fun _ _ _ _ _ _ us hl => match us, hl with | [_, _], _ => rfl) n6 l6 c6 k6⟩, fnAt_of (st := top 16) (ps := ["code", "elder", "steps"]) X G fs7 rfl rfl fo7 (fun _ _ _ _ _ _ us hl => match us, hl with | [_, _, _], _ => rfl) n7 l7 c7 k7⟩, fnAt_of (st := top 24) (ps := ["code", "elder", "steps"]) X G fs8 rfl rfl fo8 (fun _ _ _ _ _ _ us hl => match us, hl with | [_, _, _], _ => rfl) n8 l8 c8 k8⟩, fnAt_of (st := top 25) (ps := ["code", "steps"]) X G fs9 rfl rfl fo9 (fun _ _ _ _ _ _ us hl => match us, hl with | [_, _], _ => rfl) n9 l9 c9 k9⟩, fnAt_of (st := top 29) (ps := ["code"]) X G fs10 rfl rfl fo10 (fun _ _ _ _ _ _ us hl => match us, hl with | [_], _ => rfl) n10 l10 c10 k10⟩, fnAt_of (st := top 7) (ps := ["thing", "least", "most"]) X G fs11 rfl rfl fo11 (fun _ _ _ _ _ _ us hl => match us, hl with | [_, _, _], _ => rfl) n11 l11 c11 k11⟩, fnAt_of (st := top 10) (ps := ["code", "number"]) X G fs12 rfl rfl fo12 (fun _ _ _ _ _ _ us hl => match us, hl with | [_, _], _ => rfl) n12 l12 c12 k12⟩, fnAt_of (st := top 11) (ps := ["code", "number"]) X G fs13 rfl rfl fo13 (fun _ _ _ _ _ _ us hl => match us, hl with | [_, _], _ => rfl) n13 l13 c13 k13⟩, fnAt_of (st := top 12) (ps := ["code", "word"]) X G fs14 rfl rfl fo14 (fun _ _ _ _ _ _ us hl => match us, hl with | [_, _], _ => rfl) n14 l14 c14 k14⟩, fnAt_of (st := top 18) (ps := ["code", "steps"]) X G fs15 rfl rfl fo15 (fun _ _ _ _ _ _ us hl => match us, hl with | [_, _], _ => rfl) n15 l15 c15 k15⟩, fnAt_of (st := top 17) (ps := ["code", "elder", "steps"]) X G fs16 rfl rfl fo16 (fun _ _ _ _ _ _ us hl => match us, hl with | [_, _, _], _ => rfl) n16 l16 c16 k16⟩, fnAt_of (st := top 19) (ps := ["code", "elder", "steps"]) X G fs17 rfl rfl fo17 (fun _ _ _ _ _ _ us hl => match us, hl with | [_, _, _], _ => rfl) n17 l17 c17 k17⟩, fnAt_of (st := top 20) (ps := ["code", "elder", "steps"]) X G fs18 rfl rfl fo18 (fun _ _ _ _ _ _ us hl => match us, hl with | [_, _, _], _ => rfl) n18 l18 c18 k18⟩, fnAt_of (st := top 21) (ps := ["code", "elder", "steps"]) X G fs19 rfl rfl fo19 (fun _ _ _ _ _ _ us hl => match us, hl with | [_, _, _], _ => rfl) n19 l19 c19 k19⟩, fnAt_of (st := top 22) (ps := ["code", "elder", "steps"]) X G fs20 rfl rfl fo20 (fun _ _ _ _ _ _ us hl => match us, hl with | [_, _, _], _ => rfl) n20 l20 c20 k20⟩, fnAt_of (st := top 37) (ps := ["_law_way", "_law_one", "_law_more", "_law_steps"]) X G fs21 rfl rfl fo21 (fun _ _ _ _ _ _ us hl => match us, hl with | [_, _, _, _], _ => rfl) n21 l21 c21 k21⟩, fnAt_of (st := top 26) (ps := ["code", "steps"]) X G fs22 rfl rfl fo22 (fun _ _ _ _ _ _ us hl => match us, hl with | [_, _], _ => rfl) n22 l22 c22 k22⟩, fnAt_of (st := top 27) (ps := ["code", "steps"]) X G fs23 rfl rfl fo23 (fun _ _ _ _ _ _ us hl => match us, hl with | [_, _], _ => rfl) n23 l23 c23 k23⟩, fnAt_of (st := top 28) (ps := ["code", "steps"]) X G fs24 rfl rfl fo24 (fun _ _ _ _ _ _ us hl => match us, hl with | [_, _], _ => rfl) n24 l24 c24 k24⟩, fnAt_of (st := top 30) (ps := ["code", "elder", "steps", "count"]) X G fs25 rfl rfl fo25 (fun _ _ _ _ _ _ us hl => match us, hl with | [_, _, _, _], _ => rfl) n25 l25 c25 k25⟩, fnAt_of (st := top 31) (ps := ["code", "steps"]) X G fs26 rfl rfl fo26 (fun _ _ _ _ _ _ us hl => match us, hl with | [_, _], _ => rfl) n26 l26 c26 k26⟩, fnAt_of (st := top 38) (ps := ["_law_way", "_law_one", "_law_steps"]) X G fs27 rfl rfl fo27 (fun _ _ _ _ _ _ us hl => match us, hl with | [_, _, _], _ => rfl) n27 l27 c27 k27⟩, fnAt_of (st := top 39) (ps := ["_law_one"]) X G fs28 rfl rfl fo28 (fun _ _ _ _ _ _ us hl => match us, hl with | [_], _ => rfl) n28 l28 c28 k28⟩
  let B : Base0 := ⟨K, 0, rgA 0, 2, cons, "_law_next", [⟨"BadCode", Cx0, some "part"⟩, ⟨"OutOfPlace", Cx1, none⟩]⟩
  have hx : ExsOk l.prog K mg [⟨"BadCode", Cx0, some "part"⟩, ⟨"OutOfPlace", Cx1, none⟩] := by
    refine ⟨fun c q h => ?_, fun c c2 q q2 h h2 => ?_⟩
    · match c, h with
      | 0, h =>
        obtain rfl := Option.some.inj h
        exact TX.ex_of PySem.F.excBase_ValueError PySem.W.kxs_ValueError PySem.F.store_ValueError TX.al_V X G (.inl rfl) (.inr rfl) okx0 hlx0 ztop gCx0 zsuper xLx0 sax0 gax0 ggx0 nox0 iCx0 tIx0 lIx0 cIx0 hIx0 vIx0 pIx0 wIx0 zop mCx0 sBx0 kCx0 eCx0 tCx0 hCx0
      | 1, h =>
        obtain rfl := Option.some.inj h
        exact TX.ex_of PySem.F.excBase_ValueError PySem.W.kxs_ValueError PySem.F.store_ValueError TX.al_V X G (.inr (.inr (.inr rfl))) (.inl rfl) okx1 hlx1 ztop gCx1 zsuper xLx1 sax1 gax1 ggx1 nox1 iCx1 tIx1 lIx1 cIx1 hIx1 vIx1 pIx1 wIx1 zop mCx1 sBx1 kCx1 eCx1 tCx1 hCx1
      | c + 2, h => simp at h
    · match c, c2, h, h2 with
      | 0, 0, h, h2 =>
        obtain rfl := Option.some.inj h
        obtain rfl := Option.some.inj h2
        exact TX.exm_of eCx0 uCx0 tCx0 s0_0
      | 0, 1, h, h2 =>
        obtain rfl := Option.some.inj h
        obtain rfl := Option.some.inj h2
        exact TX.exm_of eCx1 uCx1 tCx1 s0_1
      | 1, 0, h, h2 =>
        obtain rfl := Option.some.inj h
        obtain rfl := Option.some.inj h2
        exact TX.exm_of eCx0 uCx0 tCx0 s1_0
      | 1, 1, h, h2 =>
        obtain rfl := Option.some.inj h
        obtain rfl := Option.some.inj h2
        exact TX.exm_of eCx1 uCx1 tCx1 s1_1
      | 0, c2 + 2, h, h2 => simp at h2
      | 1, c2 + 2, h, h2 => simp at h2
      | c + 2, c2, h, h2 => simp at h
  refine ⟨_, fun s v => .of_eq rfl, fun base _ _ => law_fn (B := B) (rgs := rgA) (wf := 100) (nb := 60) (fs := fns) (lw := lw) (fun am => fns_ok (B := B.at_ rgA am) rfl hb hc ⟨_, _, _, PySem.W.mg_of X G nD, FD.kp, bD, ok_next (C := ctxOf (B.at_ rgA am) 0 []) rfl FD hb⟩ hx 100 fns at_)
    ⟨_, _, _, PySem.W.mg_of X G nB, FB.kp, bB, ok_begun (by decide) FB hb⟩ FL fsL rfl rfl rfl (by decide +kernel) (by decide +kernel) (by decide +kernel) foL (fun n hn => law02 n hn)⟩
end Tk02
open PySem PySem.W PyProof.Rows
set_option maxRecDepth 100000 in
set_option maxHeartbeats 0 in
theorem PySem.Challenge.cw_twoclocks_k02_codes_refused_holds : PySem.Challenge.rw_twoclocks_k02_codes_refused.Holds := by
  w_on; o_law; k_head; (case hw => w_witness2)
  k_fill
  refine TC.walkG (l := PySem.Challenge.rw_twoclocks_k02_codes_refused) (k := 32) (x := "_law_script") rfl rfl ⟨rfl, by decide, by decide⟩ (fun w h Y => PySem.W.kIn_of Y) ?F
  case F =>
    intro w mg fa h KX G hmg
    refine' Tk02.all_mk KX G hmg ?n0 ?l0 ?c0 ?k0 ?n1 ?l1 ?c1 ?k1 ?n2 ?l2 ?c2 ?k2 ?n3 ?l3 ?c3 ?k3 ?n4 ?l4 ?c4 ?k4 ?n5 ?l5 ?c5 ?k5 ?n6 ?l6 ?c6 ?k6 ?n7 ?l7 ?c7 ?k7 ?n8 ?l8 ?c8 ?k8 ?n9 ?l9 ?c9 ?k9 ?n10 ?l10 ?c10 ?k10 ?n11 ?l11 ?c11 ?k11 ?n12 ?l12 ?c12 ?k12 ?n13 ?l13 ?c13 ?k13 ?n14 ?l14 ?c14 ?k14 ?n15 ?l15 ?c15 ?k15 ?n16 ?l16 ?c16 ?k16 ?n17 ?l17 ?c17 ?k17 ?n18 ?l18 ?c18 ?k18 ?n19 ?l19 ?c19 ?k19 ?n20 ?l20 ?c20 ?k20 ?n21 ?l21 ?c21 ?k21 ?n22 ?l22 ?c22 ?k22 ?n23 ?l23 ?c23 ?k23 ?n24 ?l24 ?c24 ?k24 ?n25 ?l25 ?c25 ?k25 ?n26 ?l26 ?c26 ?k26 ?n27 ?l27 ?c27 ?k27 ?n28 ?l28 ?c28 ?k28 ?nB ?lB ?cB ?kB ?nD ?lD ?cD ?kD ?nL ?lL ?cL ?kL ?gBINARY ?gMOST_PERIOD ?gMOST_SIGNS ?zsuper ?zop ?ztop ?gCx0 ?xLx0 ?sax0 ?gax0 ?ggx0 ?nox0 ?iCx0 ?tIx0 ?lIx0 ?okx0 ?hlx0 ?cIx0 ?hIx0 ?vIx0 ?pIx0 ?wIx0 ?mCx0 ?sBx0 ?kCx0 ?eCx0 ?tCx0 ?hCx0 ?uCx0 ?gCx1 ?xLx1 ?sax1 ?gax1 ?ggx1 ?nox1 ?iCx1 ?tIx1 ?lIx1 ?okx1 ?hlx1 ?cIx1 ?hIx1 ?vIx1 ?pIx1 ?wIx1 ?mCx1 ?sBx1 ?kCx1 ?eCx1 ?tCx1 ?hCx1 ?uCx1 ?s0_0 ?s0_1 ?s1_0 ?s1_1 ?zlen ?zint ?zstr ?zall ?zsum ?ztuple ?zrepr ?zmin ?zmax ?zisinstance ?zbool ?zlist ?zrange ?zenumerate ?zzip ?zsorted ?zset
    (case n0 => k_is)
    (case l0 => k_is)
    (case c0 => k_is)
    (case k0 => k_is)
    (case n1 => k_is)
    (case l1 => k_is)
    (case c1 => k_is)
    (case k1 => k_is)
    (case n2 => k_is)
    (case l2 => k_is)
    (case c2 => k_is)
    (case k2 => k_is)
    (case n3 => k_is)
    (case l3 => k_is)
    (case c3 => k_is)
    (case k3 => k_is)
    (case n4 => k_is)
    (case l4 => k_is)
    (case c4 => k_is)
    (case k4 => k_is)
    (case n5 => k_is)
    (case l5 => k_is)
    (case c5 => k_is)
    (case k5 => k_is)
    (case n6 => k_is)
    (case l6 => k_is)
    (case c6 => k_is)
    (case k6 => k_is)
    (case n7 => k_is)
    (case l7 => k_is)
    (case c7 => k_is)
    (case k7 => k_is)
    (case n8 => k_is)
    (case l8 => k_is)
    (case c8 => k_is)
    (case k8 => k_is)
    (case n9 => k_is)
    (case l9 => k_is)
    (case c9 => k_is)
    (case k9 => k_is)
    (case n10 => k_is)
    (case l10 => k_is)
    (case c10 => k_is)
    (case k10 => k_is)
    (case n11 => k_is)
    (case l11 => k_is)
    (case c11 => k_is)
    (case k11 => k_is)
    (case n12 => k_is)
    (case l12 => k_is)
    (case c12 => k_is)
    (case k12 => k_is)
    (case n13 => k_is)
    (case l13 => k_is)
    (case c13 => k_is)
    (case k13 => k_is)
    (case n14 => k_is)
    (case l14 => k_is)
    (case c14 => k_is)
    (case k14 => k_is)
    (case n15 => k_is)
    (case l15 => k_is)
    (case c15 => k_is)
    (case k15 => k_is)
    (case n16 => k_is)
    (case l16 => k_is)
    (case c16 => k_is)
    (case k16 => k_is)
    (case n17 => k_is)
    (case l17 => k_is)
    (case c17 => k_is)
    (case k17 => k_is)
    (case n18 => k_is)
    (case l18 => k_is)
    (case c18 => k_is)
    (case k18 => k_is)
    (case n19 => k_is)
    (case l19 => k_is)
    (case c19 => k_is)
    (case k19 => k_is)
    (case n20 => k_is)
    (case l20 => k_is)
    (case c20 => k_is)
    (case k20 => k_is)
    (case n21 => k_is)
    (case l21 => k_is)
    (case c21 => k_is)
    (case k21 => k_is)
    (case n22 => k_is)
    (case l22 => k_is)
    (case c22 => k_is)
    (case k22 => k_is)
    (case n23 => k_is)
    (case l23 => k_is)
    (case c23 => k_is)
    (case k23 => k_is)
    (case n24 => k_is)
    (case l24 => k_is)
    (case c24 => k_is)
    (case k24 => k_is)
    (case n25 => k_is)
    (case l25 => k_is)
    (case c25 => k_is)
    (case k25 => k_is)
    (case n26 => k_is)
    (case l26 => k_is)
    (case c26 => k_is)
    (case k26 => k_is)
    (case n27 => k_is)
    (case l27 => k_is)
    (case c27 => k_is)
    (case k27 => k_is)
    (case n28 => k_is)
    (case l28 => k_is)
    (case c28 => k_is)
    (case k28 => k_is)
    (case nB => k_is)
    (case lB => k_is)
    (case cB => k_is)
    (case kB => k_is)
    (case nD => k_is)
    (case lD => k_is)
    (case cD => k_is)
    (case kD => k_is)
    (case nL => k_is)
    (case lL => k_is)
    (case cL => k_is)
    (case kL => k_is)
    (case gBINARY => k_is)
    (case gMOST_PERIOD => k_is)
    (case gMOST_SIGNS => k_is)
    (case zsuper => k_is)
    (case zop => k_is)
    (case ztop => first | rfl | decide +kernel)
    (case gCx0 => k_is)
    (case xLx0 => k_is)
    (case sax0 => k_is)
    (case gax0 => k_is)
    (case ggx0 => k_is)
    (case nox0 => k_is)
    (case iCx0 => k_is)
    (case tIx0 => k_is)
    (case lIx0 => k_is)
    (case okx0 => first | exact .txt _ _ _ | exact .par _)
    (case hlx0 => first | rfl | decide +kernel)
    (case cIx0 => k_is)
    (case hIx0 => k_is)
    (case vIx0 => first | rfl | k_is)
    (case pIx0 => first | rfl | decide +kernel)
    (case wIx0 => k_is)
    (case mCx0 => k_is)
    (case sBx0 => k_is)
    (case kCx0 => k_is)
    (case eCx0 => k_is)
    (case tCx0 => k_is)
    (case hCx0 => k_is)
    (case uCx0 => k_is)
    (case gCx1 => k_is)
    (case xLx1 => k_is)
    (case sax1 => k_is)
    (case gax1 => k_is)
    (case ggx1 => k_is)
    (case nox1 => k_is)
    (case iCx1 => k_is)
    (case tIx1 => k_is)
    (case lIx1 => k_is)
    (case okx1 => first | exact .txt _ _ _ | exact .par _)
    (case hlx1 => first | rfl | decide +kernel)
    (case cIx1 => k_is)
    (case hIx1 => k_is)
    (case vIx1 => first | rfl | k_is)
    (case pIx1 => first | rfl | decide +kernel)
    (case wIx1 => k_is)
    (case mCx1 => k_is)
    (case sBx1 => k_is)
    (case kCx1 => k_is)
    (case eCx1 => k_is)
    (case tCx1 => k_is)
    (case hCx1 => k_is)
    (case uCx1 => k_is)
    (case s0_0 => first | rfl | k_is)
    (case s0_1 => first | rfl | k_is)
    (case s1_0 => first | rfl | k_is)
    (case s1_1 => first | rfl | k_is)
    (case zlen => k_is)
    (case zint => k_is)
    (case zstr => k_is)
    (case zall => k_is)
    (case zsum => k_is)
    (case ztuple => k_is)
    (case zrepr => k_is)
    (case zmin => k_is)
    (case zmax => k_is)
    (case zisinstance => k_is)
    (case zbool => k_is)
    (case zlist => k_is)
    (case zrange => k_is)
    (case zenumerate => k_is)
    (case zzip => k_is)
    (case zsorted => k_is)
    (case zset => k_is)

#print axioms PySem.Challenge.cw_twoclocks_k02_codes_refused_holds
