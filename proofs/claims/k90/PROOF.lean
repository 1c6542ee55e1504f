import PyProof.Rows.All
import Wide.All
import OpenK.AllK
import Wide.FinOn
import HandS.ForMost
import HandS.Exc
import HandS.TupAny
import HandS.Deep
import HandS.Wide
import HandS.Zip
import HandS.Conv
import HandS.SortInts
import HandS.SetKeys
import HandS.SetBool
import KE.GoesEnum
import KE.KExcSuper
import HandS.ExcField
import HandS.TryMany
import HandS.Lambda
import HandS.ExcIs
import HandS.IsInst
import HandS.TupMul
import HandS.Flow
import KE.KTupSum
import HandS.Flt
import HandS.Style
import HandS.List
import HandS.TupLe
import HandS.Small
import HandS.Words
import KE.KDflt
import HandS.EndBits
import HandS.WordsDict
import HandS.Codes
import PyProof.StrLawsRepr
import PyProof.FitsInt
import PySem.Challenge.RW_twoclocks_k90_texts_refused
set_option Elab.async false
set_option linter.all false
set_option maxRecDepth 100000
/-! Two clocks, the small language: a syntax of our own that is read back into the model's, and what it computes on plain data. -/
namespace TC
open PySem

/-! ### data -/
/-! ### a computation that draws, and may raise -/
/-- an error: which class, what it is made of -/
structure Exn where
  c : Nat
  v : PyData
inductive Comp (α : Type) where
  | ret (a : α)
  | raise (x : Exn)
  | draw (n : Int) (k : Int → Comp α)
  | stuck
/-- a value that stays: plain data, or the drawing object of a law -/
inductive Wd where
  | d (x : PyData)
  | rng
  /-- a law's script, so long -/
  | scr (n : Nat)
  /-- a dict with texts as keys, from now on as it is -/
  | dct (kvs : List (L2.Key × PyData))
  /-- an error that is kept -/
  | er (x : Exn)
  /-- what a def is handed to call -/
  | fn (c : Comp Wd)
/-- a slot: not known, a value that stays, a list that only this slot holds -/
inductive Sl where
  | un
  | fz (w : Wd)
  | ow (xs : List PyData)
  /-- a dict that only this slot holds -/
  | od (kvs : List (L2.Key × PyData))
  /-- what a def was handed to call -/
  | cap (c : Comp Wd)
abbrev En := List Sl
/-- what a function hands back: a value that stays, a new list -/
inductive FR where
  | fz (w : Wd)
  | ow (xs : List PyData)
namespace Comp
variable {α β : Type}
def bind : Comp α → (α → Comp β) → Comp β
  | .ret a, f => f a
  | .raise x, _ => .raise x
  | .draw n k, f => .draw n fun r => (k r).bind f
  | .stuck, _ => .stuck
/-- what is raised is caught -/
def tie : Comp α → (Exn → Comp β) → (α → Comp β) → Comp β
  | .ret a, _, f => f a
  | .raise x, g, _ => g x
  | .draw n k, g, f => .draw n fun r => (k r).tie g f
  | .stuck, _, _ => .stuck
/-- with at most b draws every way ends; Q holds of the draws left and the end, E of those and what is raised -/
def wp : Comp α → Nat → (Nat → α → Prop) → (Nat → Exn → Prop) → Prop
  | .ret a, b, Q, _ => Q b a
  | .raise x, b, _, E => E b x
  | .draw n k, b, Q, E => ∃ c, b = c + 1 ∧ 0 < n ∧ n < 1073741824 ∧ ∀ r, 0 ≤ r → r < n → (k r).wp c Q E
  | .stuck, _, _, _ => False
theorem wp_bind : ∀ {c : Comp α} {f : α → Comp β} {b : Nat} {Q : Nat → β → Prop} {E : Nat → Exn → Prop}, (c.bind f).wp b Q E ↔ c.wp b (fun b' a => (f a).wp b' Q E) E
  | .ret _, _, _, _, _ => Iff.rfl
  | .raise _, _, _, _, _ => Iff.rfl
  | .stuck, _, _, _, _ => Iff.rfl
  | .draw n k, f, b, Q, E => by
    constructor
    · rintro ⟨c, e, h1, h2, h3⟩
      exact ⟨c, e, h1, h2, fun r r1 r2 => wp_bind.mp (h3 r r1 r2)⟩
    · rintro ⟨c, e, h1, h2, h3⟩
      exact ⟨c, e, h1, h2, fun r r1 r2 => wp_bind.mpr (h3 r r1 r2)⟩
theorem wp_tie : ∀ {c : Comp α} {g : Exn → Comp β} {f : α → Comp β} {b : Nat} {Q : Nat → β → Prop} {E : Nat → Exn → Prop}, (c.tie g f).wp b Q E ↔ c.wp b (fun b' a => (f a).wp b' Q E) (fun b' x => (g x).wp b' Q E)
  | .ret _, _, _, _, _, _ => Iff.rfl
  | .raise _, _, _, _, _, _ => Iff.rfl
  | .stuck, _, _, _, _, _ => Iff.rfl
  | .draw n k, g, f, b, Q, E => by
    constructor
    · rintro ⟨c, e, h1, h2, h3⟩
      exact ⟨c, e, h1, h2, fun r r1 r2 => wp_tie.mp (h3 r r1 r2)⟩
    · rintro ⟨c, e, h1, h2, h3⟩
      exact ⟨c, e, h1, h2, fun r r1 r2 => wp_tie.mpr (h3 r r1 r2)⟩
theorem wp_mono : ∀ {c : Comp α} {b : Nat} {Q Q' : Nat → α → Prop} {E E' : Nat → Exn → Prop}, c.wp b Q E → (∀ b' a, Q b' a → Q' b' a) → (∀ b' x, E b' x → E' b' x) → c.wp b Q' E'
  | .ret _, _, _, _, _, _, h, m, _ => m _ _ h
  | .raise _, _, _, _, _, _, h, _, m => m _ _ h
  | .stuck, _, _, _, _, _, h, _, _ => h
  | .draw n k, b, _, _, _, _, h, m, m2 => by
    obtain ⟨c, e, h1, h2, h3⟩ := h
    exact ⟨c, e, h1, h2, fun r r1 r2 => wp_mono (h3 r r1 r2) m m2⟩
/-- what holds of every end -/
def All : Comp α → (α → Prop) → Prop
  | .ret a, P => P a
  | .raise _, _ => True
  | .draw _ k, P => ∀ r, (k r).All P
  | .stuck, _ => True
theorem all_true : ∀ c : Comp α, c.All fun _ => True
  | .ret _ => trivial
  | .raise _ => trivial
  | .draw _ k => fun r => all_true (k r)
  | .stuck => trivial
theorem all_bind : ∀ {c : Comp α} {f : α → Comp β} {P : α → Prop} {P' : β → Prop}, c.All P → (∀ a, P a → (f a).All P') → (c.bind f).All P'
  | .ret a, _, _, _, h, m => m a h
  | .raise _, _, _, _, _, _ => trivial
  | .draw _ k, _, _, _, h, m => fun r => all_bind (h r) m
  | .stuck, _, _, _, _, _ => trivial
theorem wp_all : ∀ {c : Comp α} {b : Nat} {Q : Nat → α → Prop} {E : Nat → Exn → Prop} {P : α → Prop}, c.wp b Q E → c.All P → c.wp b (fun b' a => P a ∧ Q b' a) E
  | .ret _, _, _, _, _, h, a => ⟨a, h⟩
  | .raise _, _, _, _, _, h, _ => h
  | .stuck, _, _, _, _, h, _ => h
  | .draw n k, _, _, _, _, h, a => by
    obtain ⟨c, e, h1, h2, h3⟩ := h
    exact ⟨c, e, h1, h2, fun r r1 r2 => wp_all (h3 r r1 r2) (a r)⟩
end Comp

inductive Ou where
  | nx (e : En)
  | br (e : En)
  | ct (e : En)
  | rt (r : FR)
  | ex (x : Exn) (e : En)

/-! ### the syntax -/
inductive BO where | add | sub | mul | div | mod | pow
inductive CO where | eq | ne | lt | le | gt | ge | inn | nin
inductive F1 where | len | int | str | all | sum | tuple | repr | max
inductive F2 where | min | max
inductive M1 where | join | find | count | startswith
inductive Ty where | int | str | bool | tuple | list
def BO.op : BO → Operator
  | .add => .Add | .sub => .Sub | .mul => .Mult | .div => .FloorDiv | .mod => .Mod | .pow => .Pow
def CO.op : CO → CmpOp
  | .eq => .Eq | .ne => .NotEq | .lt => .Lt | .le => .LtE | .gt => .Gt | .ge => .GtE | .inn => .In | .nin => .NotIn
def F1.nm : F1 → Str
  | .len => "len" | .int => "int" | .str => "str" | .all => "all" | .sum => "sum" | .tuple => "tuple" | .repr => "repr" | .max => "max"
def F2.nm : F2 → Str
  | .min => "min" | .max => "max"
def M1.nm : M1 → Str
  | .join => "join" | .find => "find" | .count => "count" | .startswith => "startswith"
def Ty.nm : Ty → Str
  | .int => "int" | .str => "str" | .bool => "bool" | .tuple => "tuple" | .list => "list"

/-- a lambda's parameter with its default, an integer, if it has one -/
abbrev LamP := Option (Str × Pos × Int × Nat × Pos)
def lamArgs : LamP → Arguments
  | none => ⟨[], [], none, [], [], none, []⟩
  | some (x, pa, i, k, pd) => ⟨[], [⟨x, none, pa⟩], none, [], [], none, [.Constant (.int i) k pd]⟩
/-- a constant of the text's top -/
inductive Cst where
  | int (i : Int)
  | str (s : Str)
  | strs (ss : List Str)
  deriving DecidableEq
def Cst.val : Cst → PyData
  | .int i => .int i
  | .str s => .str s
  | .strs ss => .tuple (ss.map .str)
mutual
/-- an expression whose value stays -/
inductive Ee where
  | var (i : Nat) (x : Str) (p : Pos)
  | con (x : Str) (v : Cst) (p : Pos)
  | non (k : Nat) (p : Pos)
  | dic (p : Pos)
  | bl (b : Bool) (k : Nat) (p : Pos)
  | int (i : Int) (k : Nat) (p : Pos)
  | str (s : Str) (k : Nat) (p : Pos)
  | tup (es : Es) (k : Nat) (p : Pos)
  | bin (o : BO) (a b : Ee) (p : Pos)
  | neg (a : Ee) (p : Pos)
  | nt (a : Ee) (p : Pos)
  | andd (es : Es) (p : Pos)
  | orr (es : Es) (p : Pos)
  | cmp (o : CO) (a b : Eb) (p : Pos)
  | chn (o1 o2 : CO) (a b c : Ee) (p : Pos)
  | isn (neg : Bool) (a : Ee) (k : Nat) (pn p : Pos)
  | ife (c a b : Ee) (p : Pos)
  | idx (a : Eb) (i : Ee) (p : Pos)
  | slc (a : Eb) (lo hi : Eo) (ps p : Pos)
  | f1 (f : F1) (pf : Pos) (a : Eb) (p : Pos)
  | f2 (f : F2) (pf : Pos) (a b : Ee) (p : Pos)
  | f3 (f : F2) (pf : Pos) (a b c : Ee) (p : Pos)
  | isi (pf : Pos) (a : Ee) (t : Ty) (pt p : Pos)
  | m1 (m : M1) (o : Ee) (pa : Pos) (a : Eb) (p : Pos)
  | call (f : Nat) (x : Str) (pf : Pos) (es : Es) (p : Pos)
  | rcr (x : Str) (pf : Pos) (es : Es) (p : Pos)
  | drw (x : Str) (pf : Pos) (m e : Ee) (p : Pos)
  | frz (f : Ef)
  | lns (i : Nat) (x : Str) (px pf p : Pos)
  /-- len({x for x in a}), a a tuple of texts -/
  | dget (a : Ee) (s : Str) (k : Nat) (pk p : Pos)
  | dgo (i : Nat) (x : Str) (px : Pos) (s : Str) (k : Nat) (pk p : Pos)
  | dmk (ks : List (Str × Nat × Pos)) (es : Es) (p : Pos)
  | dgi (i : Nat) (x : Str) (px : Pos) (a : Ee) (p : Pos)
  | din (neg : Bool) (i : Nat) (x : Str) (px : Pos) (a : Ee) (p : Pos)
  | dgt (i : Nat) (x : Str) (px pa : Pos) (a b : Ee) (p : Pos)
  | rvt (a : Ee) (k : Nat) (p1 p2 p3 p : Pos)
  | isb (neg : Bool) (a : Ee) (b : Bool) (k : Nat) (pn p : Pos)
  | isw (pf : Pos) (a : Ee) (t : Ty) (pt p : Pos)
  | lsc (pf : Pos) (a : Ee) (i : Nat) (x : Str) (px pe : Pos) (sc : Scope) (ps p : Pos)
  /-- isinstance(a, X), a an error, X the class numbered c -/
  | isx (pf : Pos) (a : Ee) (c : Nat) (x : Str) (px p : Pos)
  /-- a.f, a an error of one of the classes cs -/
  | efl (a : Ee) (f : Str) (cs : List Nat) (p : Pos)
  /-- x(lambda ..: a) -/
  | hc (f : Nat) (x : Str) (pf : Pos) (a : Ee) (ps : LamP) (sc : Scope) (lp p : Pos)
inductive Es where
  | nil
  | cons (e : Ee) (es : Es)
inductive Eo where
  | no
  | so (e : Ee)
/-- an operand that is only looked at: an expression, or an owned slot -/
inductive Eb where
  | ex (e : Ee)
  | ov (i : Nat) (x : Str) (p : Pos)
/-- an expression that makes a new list -/
inductive Ef where
  | lst (es : Es) (p : Pos)
  | lc (e : Ee) (t : Tt) (it : Ei) (c : Eo) (own : List (Str × Nat)) (sc : Scope) (p : Pos)
  | lcs (e : Ee) (t : Tt) (it : Ei) (c : Eo) (vs : List Nat) (cs : Ecs) (own : List (Str × Nat)) (sc : Scope) (p : Pos)
  | cat (a b : Eb) (p : Pos)
  | rep (a : Eb) (n : Ee) (p : Pos)
  | lof (pf : Pos) (a : Eb) (p : Pos)
  | lofr (pf : Pos) (pr : Pos) (e : Ee) (pq : Pos) (p : Pos)
  | slc (a : Eb) (lo hi : Eo) (ps p : Pos)
  | split (o : Ee) (pa : Pos) (a : Ee) (p : Pos)
  | call (f : Nat) (x : Str) (pf : Pos) (es : Es) (p : Pos)
/-- more clauses -/
inductive Ecs where
  | nil
  | cons (t : Tt) (it : Ei) (c : Eo) (vs : List Nat) (cs : Ecs)
/-- what is walked -/
inductive Ei where
  | seq (e : Ee)
  | rg1 (pf : Pos) (e : Ee) (p : Pos)
  | rg2 (pf : Pos) (a b : Ee) (p : Pos)
  | rg3 (pf : Pos) (a b c : Ee) (p : Pos)
  | enu (pf : Pos) (e : Ee) (p : Pos)
  | zip (pf : Pos) (a b : Ee) (p : Pos)
/-- a target -/
inductive Tt where
  | nm (i : Nat) (x : Str) (p : Pos)
  | tp (ts : Ts) (k : Nat) (p : Pos)
inductive Ts where
  | nil
  | cons (i : Nat) (x : Str) (p : Pos) (ts : Ts)
  | nest (ts1 : Ts) (k : Nat) (p : Pos) (ts : Ts)
end
/-- what an except clause does: y = 'text' | as n: y = n.f -/
inductive Hd where
  | put (j : Nat) (y : Str) (py : Pos) (s : Str) (k : Nat) (pv p : Pos)
  | fld (i : Nat) (n : Str) (j : Nat) (y : Str) (py : Pos) (f : Str) (pn pa p : Pos)
  /-- as n: y = n -/
  | keep (i : Nat) (n : Str) (j : Nat) (y : Str) (py pn p : Pos)
/-- except clauses: the class's number, its name -/
inductive Hds where
  | nil
  | cons (c : Nat) (x : Str) (px : Pos) (h : Hd) (p : Pos) (hs : Hds)
  /-- except (X, Y, ..) -/
  | many (cs : List (Nat × Str × Pos)) (k : Nat) (pt : Pos) (h : Hd) (p : Pos) (hs : Hds)
mutual
inductive Sm where
  | asg (i : Nat) (x : Str) (px : Pos) (e : Ee) (p : Pos)
  | asgF (i : Nat) (x : Str) (px : Pos) (f : Ef) (p : Pos)
  | unp (t : Tt) (e : Ee) (p : Pos)
  | par (i : Nat) (x : Str) (px : Pos) (j : Nat) (y : Str) (py : Pos) (a b : Ea) (k1 : Nat) (p1 : Pos) (k2 : Nat) (p2 : Pos) (p : Pos)
  | par3 (i : Nat) (x : Str) (px : Pos) (j : Nat) (y : Str) (py : Pos) (l : Nat) (z : Str) (pz : Pos) (a b c : Ee) (k1 : Nat) (p1 : Pos) (k2 : Nat) (p2 : Pos) (p : Pos)
  | par3c (i : Nat) (x : Str) (px : Pos) (j : Nat) (y : Str) (py : Pos) (l : Nat) (z : Str) (pz : Pos) (a : Ee) (b c : Ef) (k1 : Nat) (p1 : Pos) (k2 : Nat) (p2 : Pos) (p : Pos)
  | parD (i : Nat) (x : Str) (px : Pos) (j : Nat) (y : Str) (py : Pos) (a : Ee) (pd : Pos) (k1 : Nat) (p1 : Pos) (k2 : Nat) (p2 : Pos) (p : Pos)
  | put (i : Nat) (x : Str) (px : Pos) (ix : Ee) (e : Ee) (pt p : Pos)
  | dpi (i : Nat) (x : Str) (px : Pos) (k : Ee) (e : Ee) (pt p : Pos)
  | aug (i : Nat) (x : Str) (px : Pos) (o : BO) (e : Ee) (p : Pos)
  | asgD (i : Nat) (x : Str) (px : Pos) (ks : List (Str × Nat × Pos)) (es : Es) (pd p : Pos)
  | dput (i : Nat) (x : Str) (px : Pos) (s : Str) (k : Nat) (pk : Pos) (e : Ee) (pt p : Pos)
  /-- x[s], x[u] = a, b -/
  | dpar (i : Nat) (x : Str) (p1 : Pos) (s : Str) (k1 : Nat) (q1 t1 p2 : Pos) (u : Str) (k2 : Nat) (q2 t2 : Pos) (a b : Ee) (kt : Nat) (pt : Pos) (kv : Nat) (pv p : Pos)
  | app (i : Nat) (x : Str) (px pa : Pos) (e : Ee) (pc p : Pos)
  /-- x.extend(f) -/
  | ext (i : Nat) (x : Str) (px pa : Pos) (f : Ef) (pc p : Pos)
  /-- x.append(y.pop(e)) -/
  | apo (i : Nat) (x : Str) (px pa : Pos) (j : Nat) (y : Str) (py pb : Pos) (e : Ee) (pq pc p : Pos)
  | iff (c : Ee) (a b : Sms) (p : Pos)
  | forr (t : Tt) (it : Ei) (b : Sms) (p : Pos)
  | whl (c : Ee) (b : Sms) (p : Pos)
  | ret (e : Ee) (p : Pos)
  | retF (f : Ef) (p : Pos)
  | retO (i : Nat) (x : Str) (px p : Pos)
  | expr (e : Ee) (p : Pos)
  | brk (p : Pos)
  | cnt (p : Pos)
  | pass (p : Pos)
  | never (st : Stmt)
  /-- y = x(), x(): x was handed to the def -/
  | cap (i : Nat) (x : Str) (px pc : Pos) (tg : Option (Nat × Str × Pos)) (p : Pos)
  /-- raise X(a), X the class numbered c -/
  | rai (c : Nat) (x : Str) (px : Pos) (a : Ee) (pc p : Pos)
  | tr (b : Sms) (hs : Hds) (p : Pos)
inductive Sms where
  | nil
  | cons (s : Sm) (ss : Sms)
  /-- no statement: from here on slot i stays as it is -/
  | frz (i : Nat) (ss : Sms)
  /-- no statement: what the slots is held is not looked at any more -/
  | fgt (is : List Nat) (ss : Sms)
inductive Ea where
  | ex (e : Ee)
  | nw (f : Ef)
end

/-! ### read back into the model's syntax -/
def keysE (ks : List (Str × Nat × Pos)) : List (Option Expr) := ks.map fun q => some (.Constant (.str q.1) q.2.1 q.2.2)
mutual
def Ee.em : Ee → Expr
  | .var _ x p => .Name x p
  | .con x _ p => .Name x p
  | .non k p => .Constant .none k p
  | .dic p => .Dict [] [] p
  | .bl b k p => .Constant (.bool b) k p
  | .int i k p => .Constant (.int i) k p
  | .str s k p => .Constant (.str s) k p
  | .tup es k p => .Tuple es.em k p
  | .bin o a b p => .BinOp a.em o.op b.em p
  | .neg a p => .UnaryOp .USub a.em p
  | .nt a p => .UnaryOp .Not a.em p
  | .andd es p => .BoolOp .And es.em p
  | .orr es p => .BoolOp .Or es.em p
  | .cmp o a b p => .Compare a.em [o.op] [b.em] p
  | .chn o1 o2 a b c p => .Compare a.em [o1.op, o2.op] [b.em, c.em] p
  | .isn n a k pn p => .Compare a.em [if n then .IsNot else .Is] [.Constant .none k pn] p
  | .ife c a b p => .IfExp c.em a.em b.em p
  | .idx a i p => .Subscript a.em i.em p
  | .slc a lo hi ps p => .Subscript a.em (.Slice lo.em hi.em none ps) p
  | .f1 f pf a p => .Call (.Name f.nm pf) [a.em] [] p
  | .f2 f pf a b p => .Call (.Name f.nm pf) [a.em, b.em] [] p
  | .f3 f pf a b c p => .Call (.Name f.nm pf) [a.em, b.em, c.em] [] p
  | .isi pf a t pt p => .Call (.Name "isinstance" pf) [a.em, .Name t.nm pt] [] p
  | .m1 m o pa a p => .Call (.Attribute o.em m.nm pa) [a.em] [] p
  | .call _ x pf es p => .Call (.Name x pf) es.em [] p
  | .rcr x pf es p => .Call (.Name x pf) es.em [] p
  | .drw x pf m e p => .Call (.Name x pf) [m.em, e.em] [] p
  | .frz f => f.em
  | .lns _ x px pf p => .Call (.Name "len" pf) [.Name x px] [] p
  | .dget a s k pk p => .Subscript a.em (.Constant (.str s) k pk) p
  | .dgo _ x px s k pk p => .Subscript (.Name x px) (.Constant (.str s) k pk) p
  | .dmk ks es p => .Dict (keysE ks) es.em p
  | .dgi _ x px a p => .Subscript (.Name x px) a.em p
  | .din n _ x px a p => .Compare a.em [if n then .NotIn else .In] [.Name x px] p
  | .dgt _ x px pa a b p => .Call (.Attribute (.Name x px) "get" pa) [a.em, b.em] [] p
  | .rvt a k p1 p2 p3 p => .Subscript a.em (.Slice none none (some (.UnaryOp .USub (.Constant (.int 1) k p1) p2)) p3) p
  | .isb n a b k pn p => .Compare a.em [if n then .IsNot else .Is] [.Constant (.bool b) k pn] p
  | .isw pf a t pt p => .Call (.Name "isinstance" pf) [a.em, .Name t.nm pt] [] p
  | .isx pf a _ x px p => .Call (.Name "isinstance" pf) [a.em, .Name x px] [] p
  | .efl a f _ p => .Attribute a.em f p
  | .hc _ x pf a ps sc lp p => .Call (.Name x pf) [.Lambda (lamArgs ps) a.em sc lp] [] p
  | .lsc pf a _ x px pe sc ps p => .Call (.Name "len" pf) [.SetComp (.Name x pe) [⟨.Name x px, a.em, [], 0⟩] sc ps] [] p
def Es.em : Es → List Expr
  | .nil => []
  | .cons e es => e.em :: es.em
def Eo.em : Eo → Option Expr
  | .no => none
  | .so e => some e.em
def Eb.em : Eb → Expr
  | .ex e => e.em
  | .ov _ x p => .Name x p
def Ef.em : Ef → Expr
  | .lst es p => .List es.em p
  | .lc e t it c _ sc p => .ListComp e.em [⟨t.em, it.em, c.ems, 0⟩] sc p
  | .lcs e t it c _ cs _ sc p => .ListComp e.em (⟨t.em, it.em, c.ems, 0⟩ :: cs.em) sc p
  | .cat a b p => .BinOp a.em .Add b.em p
  | .rep a n p => .BinOp a.em .Mult n.em p
  | .lof pf a p => .Call (.Name "list" pf) [a.em] [] p
  | .lofr pf pr e pq p => .Call (.Name "list" pf) [.Call (.Name "range" pr) [e.em] [] pq] [] p
  | .slc a lo hi ps p => .Subscript a.em (.Slice lo.em hi.em none ps) p
  | .split o pa a p => .Call (.Attribute o.em "split" pa) [a.em] [] p
  | .call _ x pf es p => .Call (.Name x pf) es.em [] p
def Ecs.em : Ecs → List Comprehension
  | .nil => []
  | .cons t it c _ cs => ⟨t.em, it.em, c.ems, 0⟩ :: cs.em
def Eo.ems : Eo → List Expr
  | .no => []
  | .so e => [e.em]
def Ei.em : Ei → Expr
  | .seq e => e.em
  | .rg1 pf e p => .Call (.Name "range" pf) [e.em] [] p
  | .rg2 pf a b p => .Call (.Name "range" pf) [a.em, b.em] [] p
  | .rg3 pf a b c p => .Call (.Name "range" pf) [a.em, b.em, c.em] [] p
  | .enu pf e p => .Call (.Name "enumerate" pf) [e.em] [] p
  | .zip pf a b p => .Call (.Name "zip" pf) [a.em, b.em] [] p
def Tt.em : Tt → Expr
  | .nm _ x p => .Name x p
  | .tp ts k p => .Tuple ts.em k p
def Ts.em : Ts → List Expr
  | .nil => []
  | .cons _ x p ts => .Name x p :: ts.em
  | .nest ts1 k p ts => .Tuple ts1.em k p :: ts.em
end
def Ea.em : Ea → Expr
  | .ex e => e.em
  | .nw f => f.em
def Hd.nm : Hd → Option Str
  | .put .. => none
  | .fld _ n .. => some n
  | .keep _ n .. => some n
def Hd.em : Hd → Stmt
  | .put _ y py s k pv p => .Assign [.Name y py] (.Constant (.str s) k pv) p
  | .fld _ n _ y py f pn pa p => .Assign [.Name y py] (.Attribute (.Name n pn) f pa) p
  | .keep _ n _ y py pn p => .Assign [.Name y py] (.Name n pn) p
def Hds.em : Hds → List ExceptHandler
  | .nil => []
  | .cons _ x px h p hs => .ExceptHandler (some (.Name x px)) h.nm [h.em] p :: hs.em
  | .many cs k pt h p hs => .ExceptHandler (some (.Tuple (cs.map fun q => .Name q.2.1 q.2.2) k pt)) h.nm [h.em] p :: hs.em
mutual
def Sm.em : Sm → Stmt
  | .asg _ x px e p => .Assign [.Name x px] e.em p
  | .asgF _ x px f p => .Assign [.Name x px] f.em p
  | .unp t e p => .Assign [t.em] e.em p
  | .par _ x px _ y py a b k1 p1 k2 p2 p => .Assign [.Tuple [.Name x px, .Name y py] k1 p1] (.Tuple [a.em, b.em] k2 p2) p
  | .asgD _ x px ks es pd p => .Assign [.Name x px] (.Dict (keysE ks) es.em pd) p
  | .dpi _ x px k e pt p => .Assign [.Subscript (.Name x px) k.em pt] e.em p
  | .dput _ x px s k pk e pt p => .Assign [.Subscript (.Name x px) (.Constant (.str s) k pk) pt] e.em p
  | .dpar _ x p1 s k1 q1 t1 p2 u k2 q2 t2 a b kt pt kv pv p => .Assign [.Tuple [.Subscript (.Name x p1) (.Constant (.str s) k1 q1) t1, .Subscript (.Name x p2) (.Constant (.str u) k2 q2) t2] kt pt] (.Tuple [a.em, b.em] kv pv) p
  | .par3c _ x px _ y py _ z pz a b c k1 p1 k2 p2 p => .Assign [.Tuple [.Name x px, .Name y py, .Name z pz] k1 p1] (.Tuple [a.em, b.em, c.em] k2 p2) p
  | .parD _ x px _ y py a pd k1 p1 k2 p2 p => .Assign [.Tuple [.Name x px, .Name y py] k1 p1] (.Tuple [a.em, .Dict [] [] pd] k2 p2) p
  | .par3 _ x px _ y py _ z pz a b c k1 p1 k2 p2 p => .Assign [.Tuple [.Name x px, .Name y py, .Name z pz] k1 p1] (.Tuple [a.em, b.em, c.em] k2 p2) p
  | .put _ x px ix e pt p => .Assign [.Subscript (.Name x px) ix.em pt] e.em p
  | .aug _ x px o e p => .AugAssign (.Name x px) o.op e.em p
  | .app _ x px pa e pc p => .Expr (.Call (.Attribute (.Name x px) "append" pa) [e.em] [] pc) p
  | .ext _ x px pa f pc p => .Expr (.Call (.Attribute (.Name x px) "extend" pa) [f.em] [] pc) p
  | .apo _ x px pa _ y py pb e pq pc p => .Expr (.Call (.Attribute (.Name x px) "append" pa) [.Call (.Attribute (.Name y py) "pop" pb) [e.em] [] pq] [] pc) p
  | .iff c a b p => .If c.em a.em b.em p
  | .forr t it b p => .For t.em it.em b.em [] p
  | .whl c b p => .While c.em b.em [] p
  | .ret e p => .Return (some e.em) p
  | .retF f p => .Return (some f.em) p
  | .retO _ x px p => .Return (some (.Name x px)) p
  | .expr e p => .Expr e.em p
  | .brk p => .Break p
  | .cnt p => .Continue p
  | .pass p => .Pass p
  | .never st => st
  | .cap _ x px pc (some (_, y, py)) p => .Assign [.Name y py] (.Call (.Name x px) [] [] pc) p
  | .cap _ x px pc none p => .Expr (.Call (.Name x px) [] [] pc) p
  | .rai _ x px a pc p => .Raise (some (.Call (.Name x px) [a.em] [] pc)) none p
  | .tr b hs p => .Try b.em hs.em [] [] p
def Sms.em : Sms → List Stmt
  | .nil => []
  | .cons s ss => s.em :: ss.em
  | .frz _ ss => ss.em
  | .fgt _ ss => ss.em
end
end TC

set_option Elab.async false
set_option linter.all false
set_option maxRecDepth 100000
set_option maxHeartbeats 2000000
namespace TS
/-- how many unlike ones -/
def cntR : List PySem.Str → Nat
  | [] => 0
  | y :: r => if y ∈ r then cntR r else cntR r + 1
def cnt (ys : List PySem.Str) : Nat := cntR ys.reverse
end TS
namespace TC
open PySem

def LIM : Nat := 100000

/-! ### operations on data -/
abbrev CP := Comp PyData
@[simp] def okB (c : Bool) (d : PyData) : CP := if c then .ret d else .stuck
def smallI (i : Int) : Bool := decide (-18446744073709551616 < i) && decide (i < 18446744073709551616)
def binE : BO → PyData → PyData → CP
  | .add, .int i, .int j => .ret (.int (i + j))
  | .add, .str x, .str y => okB (decide (x.length + y.length ≤ LIM)) (.str (x ++ y))
  | .add, .tuple xs, .tuple ys => okB (decide (xs.length + ys.length ≤ LIM)) (.tuple (xs ++ ys))
  | .sub, .int i, .int j => .ret (.int (i - j))
  | .mul, .int i, .int j => okB (smallI i || smallI j) (.int (i * j))
  | .mul, .tuple xs, .int k => okB (decide (0 ≤ k) && decide (k ≤ 1000) && decide (xs.length ≤ 100)) (.tuple (List.replicate k.toNat xs).flatten)
  | .mul, .str x, .int k => okB (decide (0 ≤ k) && decide (k ≤ 1000) && decide (x.length ≤ 100)) (.str (if k < 1 then Str.empty else if (k == 1 || x.length == 0) = true then x else ⟨(List.replicate k.toNat x.cps).foldl (· ++ ·) #[]⟩))
  | .div, .int i, .int j => okB (decide (0 < j) && decide (j.natAbs.log2 < 9000)) (.int (i / j))
  | .mod, .int i, .int j => okB (decide (0 < j)) (.int (i % j))
  | .pow, .int i, .int j => okB (decide (0 ≤ j) && decide (j ≤ 1000) && decide (i.natAbs < 1024)) (.int (i ^ j.toNat))
  | _, _, _ => .stuck
def flatP : PyData → Bool
  | .none | .bool _ | .int _ | .str _ => true
  | _ => false
def eqE : PyData → PyData → Comp Bool
  | .int i, .int j => .ret (decide (i = j))
  | .str x, .str y => .ret (decide (x = y))
  | .bool x, .bool y => .ret (decide (x = y))
  | d, e => if SeqAt.shaped d && SeqAt.shaped e then .ret (PyData.eqv d e) else (match d, e with
    | .tuple xs, .tuple [] => .ret xs.isEmpty
    | .list xs, .list [] => .ret xs.isEmpty
    | _, _ => .stuck)
def inE : PyData → PyData → Comp Bool
  | .str ⟨x⟩, .str z => match x.toList with
    | [c] => .ret (decide (c ∈ z.cps.toList))
    | _ => .ret (!(Builtin.Str.occurrences z ⟨x⟩ 0 z.length 1).isEmpty)
  | d, .list ds => if SeqAt.shaped d && SeqAt.shaped (.list ds) then .ret (ds.any fun z => PyData.eqv z d) else .stuck
  | d, .tuple ds => if SeqAt.shaped d && SeqAt.shaped (.tuple ds) then .ret (ds.any fun z => PyData.eqv z d) else .stuck
  | _, _ => .stuck
def cmpE : CO → PyData → PyData → Comp Bool
  | .eq, d, e => eqE d e
  | .ne, d, e => (eqE d e).bind fun b => .ret (!b)
  | .lt, .int i, .int j => .ret (decide (i < j))
  | .le, .int i, .int j => .ret (decide (i ≤ j))
  | .gt, .int i, .int j => .ret (decide (j < i))
  | .ge, .int i, .int j => .ret (decide (j ≤ i))
  | .lt, .str i, .str j => .ret (decide (i.cps.toList < j.cps.toList))
  | .inn, d, e => inE d e
  | .nin, d, e => (inE d e).bind fun b => .ret (!b)
  | _, _, _ => .stuck
def lenE : PyData → CP
  | .str x => okB (decide (x.length ≤ LIM)) (.int x.length)
  | .list xs => .ret (.int xs.length)
  | .tuple xs => .ret (.int xs.length)
  | _ => .stuck
def idxE : PyData → PyData → CP
  | .list xs, .int i => match L2.atI xs i with | some d => .ret d | none => .stuck
  | .tuple xs, .int i => match L2.atI xs i with | some d => .ret d | none => .stuck
  | .str x, .int i => if x.length ≤ LIM then (match L2.atI x.cps.toList i with | some c => .ret (.str ⟨#[c]⟩) | none => .stuck) else .stuck
  | _, _ => .stuck
/-- xs[lo:hi] -/
def cutP (xs : List PyData) (lo hi : Option Int) : List PyData :=
  (xs.drop (HT.sIx xs.length 0 lo)).take (HT.sIx xs.length xs.length hi - HT.sIx xs.length 0 lo)
def slcE : PyData → Option Int → Option Int → CP
  | .tuple xs, lo, hi => .ret (.tuple (cutP xs lo hi))
  | .str x, lo, hi => okB (decide (x.length ≤ LIM)) (.str (L2.cutS x lo hi))
  | _, _, _ => .stuck
def boolsP : List PyData → Option (List Bool)
  | [] => some []
  | .bool b :: ds => (boolsP ds).map (b :: ·)
  | _ => none
def intsP : List PyData → Option (List Int)
  | [] => some []
  | .int b :: ds => (intsP ds).map (b :: ·)
  | _ => none
def strsP : List PyData → Option (List Str)
  | [] => some []
  | .str b :: ds => (strsP ds).map (b :: ·)
  | _ => none
def maxI : List Int → Int
  | [] => 0
  | [n] => n
  | n :: m :: ns => if n > maxI (m :: ns) then n else maxI (m :: ns)
def lscE : PyData → CP
  | .tuple ds => match strsP ds with | some ys => (if ys.length ≤ 1000 then .ret (.int (TS.cnt ys)) else .stuck) | none => .stuck
  | _ => .stuck
def f1E : F1 → PyData → CP
  | .len, d => lenE d
  | .int, .int i => .ret (.int i)
  | .int, .bool b => .ret (.int (if b then 1 else 0))
  | .int, .str x => match intText? x with | some n => okB (decide (x.length ≤ 640)) (.int n) | none => .stuck
  | .str, .int i => okB (decide (i.natAbs.log2 < 1920)) (.str (toString i))
  | .all, .list ds => match boolsP ds with | some bs => .ret (.bool (bs.all id)) | none => .stuck
  | .sum, .list ds => match intsP ds with | some ns => .ret (.int ns.sum) | none => .stuck
  | .sum, .tuple ds => match intsP ds with | some ns => .ret (.int ns.sum) | none => .stuck
  | .tuple, .list ds => .ret (.tuple ds)
  | .tuple, .tuple ds => .ret (.tuple ds)
  | .max, .list ds => match intsP ds with | some (n :: ns) => .ret (.int (maxI (n :: ns))) | _ => .stuck
  | .repr, d => okB (d.showable && decide (d.depth ≤ 60) && decide (d.shown.length ≤ 10000000)) (.str d.shown)
  | _, _ => .stuck
def f2E : F2 → PyData → PyData → CP
  | .min, .int i, .int j => .ret (.int (if j < i then j else i))
  | .max, .int i, .int j => .ret (.int (if j > i then j else i))
  | _, _, _ => .stuck
def f3E : F2 → PyData → PyData → PyData → CP
  | .max, .int i, .int j, .int k => .ret (.int (if k > (if j > i then j else i) then k else if j > i then j else i))
  | .min, .int i, .int j, .int k => .ret (.int (if k < (if j < i then j else i) then k else if j < i then j else i))
  | _, _, _, _ => .stuck
def isiE : Ty → PyData → Bool
  | .int, .int _ => true
  | .int, .bool _ => true
  | .bool, .bool _ => true
  | .str, .str _ => true
  | .tuple, .tuple _ => true
  | .list, .list _ => true
  | _, _ => false
def joinE (a : Str) (ys : List Str) : CP := okB (decide ((ys.map (·.length)).sum + ys.length * a.length ≤ LIM)) (.str (Txt.join a ys))
def m1E : M1 → Str → PyData → CP
  | .join, a, .list ds => match strsP ds with | some ys => joinE a ys | none => .stuck
  | .join, a, .tuple ds => match strsP ds with | some ys => joinE a ys | none => .stuck
  | .find, a, .str b => .ret (.int (Txt.find a b))
  | .count, a, .str b => .ret (.int (Txt.count a b))
  | .startswith, a, .str b => .ret (.bool (Txt.startswith a b))
  | _, _, _ => .stuck
/-- items of what is walked -/
@[simp] def seqE : PyData → Comp (List PyData)
  | .list ds => .ret ds
  | .tuple ds => .ret ds
  | .str x => .ret (x.cps.toList.map fun c => .str ⟨#[c]⟩)
  | _ => .stuck
def rngP (a b : Int) : List PyData := (List.range (b - a).toNat).map fun (i : Nat) => .int (a + i)
def bigI (i : Int) : Bool := decide (-4611686018427387904 ≤ i) && decide (i < 4611686018427387904)
def rgOkB (i j k : Int) : Bool := decide (k = -1) && decide (-1000000 ≤ i) && decide (i ≤ 1000000) && decide (-1000000 ≤ j) && decide (j ≤ 1000000)
def enuP (ds : List PyData) : List PyData := (List.range ds.length).zipWith (fun (i : Nat) d => .tuple [.int i, d]) ds
def zipP (ds es : List PyData) : List PyData := ds.zipWith (fun d e => .tuple [d, e]) es
def enuE : PyData → Comp (List PyData)
  | .list ds => .ret (enuP ds)
  | .tuple ds => .ret (enuP ds)
  | _ => .stuck
def zipE : PyData → PyData → Comp (List PyData)
  | .list ds, .list es => .ret (zipP ds es)
  | .tuple ds, .tuple es => .ret (zipP ds es)
  | .tuple ds, .list es => .ret (zipP ds es)
  | .list ds, .str z => .ret (zipP ds (z.cps.toList.map fun c => .str ⟨#[c]⟩))
  | _, _ => .stuck

/-! ### dicts with texts as keys -/
def lkD (kvs : List (L2.Key × PyData)) (s : L2.Key) : Option PyData := (kvs.find? fun p => decide (p.1 = s)).map (·.2)
def putD (kvs : List (L2.Key × PyData)) (s : L2.Key) (d : PyData) : List (L2.Key × PyData) :=
  if (kvs.any fun p => decide (p.1 = s)) = true then kvs.map (fun p => if p.1 = s then (p.1, d) else p) else kvs ++ [(s, d)]
def mkD (ks : List Str) (ds : List PyData) : List (L2.Key × PyData) := (ks.zip ds).foldl (fun acc p => putD acc (.inr p.1) p.2) []
def dgetE : Wd → L2.Key → Comp Wd
  | .dct kvs, s => match lkD kvs s with | some d => .ret (.d d) | none => .stuck
  | _, _ => .stuck
def iswE (t : Ty) : Wd → Comp Wd
  | .d x => .ret (.d (.bool (isiE t x)))
  | .dct _ => .ret (.d (.bool false))
  | _ => .stuck
def dgoE (e : En) (i : Nat) (s : L2.Key) : Comp Wd := match e[i]? with
  | some (.od kvs) => (match lkD kvs s with | some d => .ret (.d d) | none => .stuck)
  | _ => .stuck
def isDW (e : En) (i : Nat) (c : Comp Wd) : Comp Wd := match e[i]? with
  | some (.od _) => c
  | _ => .stuck
/-- a key: a number, a text -/
def keyE : PyData → Comp L2.Key
  | .int i => .ret (.inl i)
  | .str s => .ret (.inr s)
  | _ => .stuck
def dinE (e : En) (i : Nat) (s : L2.Key) : Comp Bool := match e[i]? with
  | some (.od kvs) => .ret (lkD kvs s).isSome
  | _ => .stuck
def dgtE (e : En) (i : Nat) (s : L2.Key) (d : PyData) : Comp Wd := match e[i]? with
  | some (.od kvs) => .ret (.d ((lkD kvs s).getD d))
  | _ => .stuck
def revE : PyData → CP
  | .tuple ds => .ret (.tuple ds.reverse)
  | _ => .stuck
/-! ### slots -/
def asD : Wd → CP
  | .d x => .ret x
  | _ => .stuck
@[simp] def varE (e : En) (i : Nat) : Comp Wd := match e[i]? with
  | some (.fz w) => .ret w
  | _ => .stuck
@[simp] def bindTs : Ts → List PyData → En → Comp En
  | .nil, [], e => .ret e
  | .cons i _ _ ts, d :: ds, e => bindTs ts ds (e.set i (.fz (.d d)))
  | .nest ts1 _ _ ts, .tuple ds1 :: ds, e => (bindTs ts1 ds1 e).bind fun e1 => bindTs ts ds e1
  | _, _, _ => .stuck
def Ts.len : Ts → Nat
  | .nil => 0
  | .cons _ _ _ ts => ts.len + 1
  | .nest _ _ _ ts => ts.len + 1
@[simp] def bindT : Tt → PyData → En → Comp En
  | .nm i _ _, d, e => .ret (e.set i (.fz (.d d)))
  | .tp ts _ _, .tuple ds, e => bindTs ts ds e
  | _, _, _ => .stuck
@[simp] def wipeE (e : En) : List Nat → En
  | [] => e
  | i :: is => (wipeE e is).set i .un
def Tt.isTp : Tt → Bool
  | .tp .. => true
  | _ => false
/-- one after another -/
def consO : Option PyData → List PyData → List PyData
  | some d, rs => d :: rs
  | none, rs => rs
def mapC {α : Type} (f : α → Comp (Option PyData)) : List α → Comp (List PyData)
  | [] => .ret []
  | a :: as => (f a).bind fun r => (mapC f as).bind fun rs => .ret (consO r rs)
def flatC {α : Type} (f : α → Comp (List PyData)) : List α → Comp (List PyData)
  | [] => .ret []
  | a :: as => (f a).bind fun r => (flatC f as).bind fun rs => .ret (r ++ rs)
def Ecs.allV : Ecs → List Nat
  | .nil => []
  | .cons _ _ _ vs cs => vs ++ cs.allV
def Ecs.len : Ecs → Nat
  | .nil => 0
  | .cons _ _ _ _ cs => cs.len + 1
/-- what must not raise (a comprehension's turn) -/
def nox {α : Type} (c : Comp α) : Comp α := c.tie (fun _ => .stuck) .ret
def frC : FR → Comp Wd
  | .fz w => .ret w
  | .ow ds => .ret (.d (.list ds))

def dD (c : Comp Wd) : CP := c.bind asD
def asB : Wd → Comp Bool
  | .d (.bool b) => .ret b
  | _ => .stuck
def dB (c : Comp Wd) : Comp Bool := c.bind asB
@[simp] def asI : Wd → Comp Int
  | .d (.int b) => .ret b
  | _ => .stuck
def dI (c : Comp Wd) : Comp Int := c.bind asI
def retD (c : CP) : Comp Wd := c.bind fun z => .ret (.d z)
def retB (c : Comp Bool) : Comp Wd := c.bind fun z => .ret (.d (.bool z))
@[simp] def asS : PyData → Comp Str
  | .str x => .ret x
  | _ => .stuck
@[simp] def negE : PyData → CP
  | .int i => .ret (.int (-i))
  | _ => .stuck
/-- of an error -/
def isxE (c : Nat) : Wd → Comp Wd
  | .er x => .ret (.d (.bool (decide (x.c = c))))
  | _ => .stuck
def eflE (cs : List Nat) : Wd → Comp Wd
  | .er x => if x.c ∈ cs then .ret (.d x.v) else .stuck
  | _ => .stuck
@[simp] def isnE (n : Bool) : Wd → Comp Wd
  | .d .none => .ret (.d (.bool (!n)))
  | .d _ => .ret (.d (.bool n))
  | .er _ => .ret (.d (.bool n))
  | _ => .stuck
def lnsE : Wd → Comp Wd
  | .scr n => .ret (.d (.int n))
  | _ => .stuck
def drwE : Wd → PyData → Comp Wd
  | .rng, .int k => .draw k fun r => .ret (.d (.int r))
  | _, _ => .stuck
/-- so many turns at most of a clause with n clauses within -/
def limW (n : Nat) : Nat := if n ≤ 2 then 100 else 16
def limS (n : Nat) (ds : List PyData) : Comp (List PyData) := if ds.length ≤ limW n then .ret ds else .stuck
def limL (ds : List PyData) : Comp (List PyData) := if ds.length ≤ LIM then .ret ds else .stuck
@[simp] def listP : PyData → Comp (List PyData)
  | .list ds => .ret ds
  | _ => .stuck
@[simp] def seqP : PyData → Comp (List PyData)
  | .list ds => .ret ds
  | .tuple ds => .ret ds
  | _ => .stuck
def repE : PyData → PyData → Comp (List PyData)
  | .list xs, .int k => if decide (0 ≤ k) && decide (k ≤ 1000) && decide (xs.length ≤ 100) then .ret (List.replicate k.toNat xs).flatten else .stuck
  | _, _ => .stuck
def splitE : Str → PyData → Comp (List PyData)
  | a, .str b => if (b.length != 0) && decide (a.length ≤ LIM) then .ret ((Txt.split a b).map .str) else .stuck
  | _, _ => .stuck
@[simp] def owC : FR → Comp (List PyData)
  | .ow ds => .ret ds
  | .fz _ => .stuck
/-- a, a - 1, .. above b -/
def rg3P (a b : Int) : List PyData := (List.range (a - b).toNat).map fun (i : Nat) => .int (a + i * -1)
def tupOf : Wd → Wd → Comp (PyData × PyData)
  | .d x, .d y => .ret (x, y)
  | _, _ => .stuck

section
variable (cl : Nat → List Wd → Comp FR)
mutual
@[simp] def Ee.ev : Ee → En → Comp Wd
  | .var i _ _, e => varE e i
  | .con _ v _, _ => .ret (.d v.val)
  | .non _ _, _ => .ret (.d .none)
  | .dic _, _ => .ret (.d (.dict []))
  | .bl b _ _, _ => .ret (.d (.bool b))
  | .int i _ _, _ => .ret (.d (.int i))
  | .str s _ _, _ => .ret (.d (.str s))
  | .tup es _ _, e => (es.ev e).bind fun ds => .ret (.d (.tuple ds))
  | .bin o a b _, e => (dD (a.ev e)).bind fun x => (dD (b.ev e)).bind fun y => retD (binE o x y)
  | .neg a _, e => (dD (a.ev e)).bind fun x => retD (negE x)
  | .nt a _, e => (dB (a.ev e)).bind fun b => .ret (.d (.bool (!b)))
  | .andd es _, e => es.evAnd e
  | .orr es _, e => es.evOr e
  | .cmp o a b _, e => (a.ev e).bind fun x => (b.ev e).bind fun y => retB (cmpE o x y)
  | .chn o1 o2 a b c _, e => (dD (a.ev e)).bind fun x => (dD (b.ev e)).bind fun y => (cmpE o1 x y).bind fun z =>
      if z then (dD (c.ev e)).bind fun u => retB (cmpE o2 y u) else .ret (.d (.bool false))
  | .isn n a _ _ _, e => (a.ev e).bind fun x => isnE n x
  | .ife c a b _, e => (dB (c.ev e)).bind fun t => if t then a.ev e else b.ev e
  | .idx a i _, e => (a.ev e).bind fun x => (dD (i.ev e)).bind fun y => retD (idxE x y)
  | .slc a lo hi _ _, e => (a.ev e).bind fun x => (lo.ev e).bind fun l => (hi.ev e).bind fun h => retD (slcE x l h)
  | .f1 f _ a _, e => (a.ev e).bind fun x => retD (f1E f x)
  | .f2 f _ a b _, e => (dD (a.ev e)).bind fun x => (dD (b.ev e)).bind fun y => retD (f2E f x y)
  | .f3 f _ a b c _, e => (dD (a.ev e)).bind fun x => (dD (b.ev e)).bind fun y => (dD (c.ev e)).bind fun z => retD (f3E f x y z)
  | .isi _ a t _ _, e => (dD (a.ev e)).bind fun x => .ret (.d (.bool (isiE t x)))
  | .m1 m o _ a _, e => (dD (o.ev e)).bind fun x => (asS x).bind fun z => (a.ev e).bind fun y => retD (m1E m z y)
  | .call f _ _ es _, e => (es.evW e).bind fun ws => (cl f ws).bind frC
  | .rcr _ _ _ _, _ => .stuck
  | .drw _ _ m x _, e => (m.ev e).bind fun w => (dD (x.ev e)).bind fun n => drwE w n
  | .frz f, e => (f.ev e).bind fun ds => .ret (.d (.list ds))
  | .lns i _ _ _ _, e => (varE e i).bind lnsE
  | .dget a s _ _ _, e => (a.ev e).bind fun w => dgetE w (.inr s)
  | .dgo i _ _ s _ _ _, e => dgoE e i (.inr s)
  | .dmk ks es _, e => (es.ev e).bind fun ds => .ret (.dct (mkD (ks.map (·.1)) ds))
  | .dgi i _ _ a _, e => isDW e i <| (dD (a.ev e)).bind fun d => (keyE d).bind fun k => dgoE e i k
  | .din n i _ _ a _, e => (dD (a.ev e)).bind fun d => (keyE d).bind fun k => (dinE e i k).bind fun z => .ret (.d (.bool (if n then !z else z)))
  | .dgt i _ _ _ a b _, e => isDW e i <| (dD (a.ev e)).bind fun d => (keyE d).bind fun k => (dD (b.ev e)).bind fun x => dgtE e i k x
  | .rvt a _ _ _ _ _, e => (dD (a.ev e)).bind fun x => retD (revE x)
  | .isb n a b _ _ _, e => (dB (a.ev e)).bind fun x => .ret (.d (.bool (if n then !(decide (x = b)) else decide (x = b))))
  | .isw _ a t _ _, e => (a.ev e).bind fun w => iswE t w
  | .lsc _ a _ _ _ _ _ _ _, e => (dD (a.ev e)).bind fun x => retD (lscE x)
  | .isx _ a c _ _ _, e => (a.ev e).bind fun w => isxE c w
  | .efl a _ cs _, e => (a.ev e).bind fun w => eflE cs w
  | .hc f _ _ a _ _ _ _, e => (cl f [.fn (a.ev e)]).bind frC
@[simp] def Es.ev : Es → En → Comp (List PyData)
  | .nil, _ => .ret []
  | .cons a es, e => (dD (a.ev e)).bind fun d => (es.ev e).bind fun ds => .ret (d :: ds)
@[simp] def Es.evW : Es → En → Comp (List Wd)
  | .nil, _ => .ret []
  | .cons a es, e => (a.ev e).bind fun d => (es.evW e).bind fun ds => .ret (d :: ds)
@[simp] def Es.evAnd : Es → En → Comp Wd
  | .nil, _ => .stuck
  | .cons a .nil, e => a.ev e
  | .cons a es, e => (dB (a.ev e)).bind fun b => if b then es.evAnd e else .ret (.d (.bool false))
@[simp] def Es.evOr : Es → En → Comp Wd
  | .nil, _ => .stuck
  | .cons a .nil, e => a.ev e
  | .cons a es, e => (dB (a.ev e)).bind fun b => if b then .ret (.d (.bool true)) else es.evOr e
@[simp] def Eo.ev : Eo → En → Comp (Option Int)
  | .no, _ => .ret none
  | .so a, e => (dI (a.ev e)).bind fun i => .ret (some i)
@[simp] def Eo.evT : Eo → En → Comp Bool
  | .no, _ => .ret true
  | .so a, e => dB (a.ev e)
@[simp] def Eb.ev : Eb → En → CP
  | .ex a, e => dD (a.ev e)
  | .ov i _ _, e => match e[i]? with
    | some (.ow ds) => .ret (.list ds)
    | _ => .stuck
@[simp] def Ef.ev : Ef → En → Comp (List PyData)
  | .lst es _, e => es.ev e
  | .lc a t it c own _ _, e => (it.ev e).bind fun ds => (limL ds).bind fun ds => nox (mapC (fun d => (bindT t d (wipeE e (own.map (·.2)))).bind fun e2 => (c.evT e2).bind fun b => if b then (dD (a.ev e2)).bind fun y => .ret (some y) else .ret none) ds)
  | .lcs a t it c vs cs _ _ _, e => (it.ev e).bind fun ds => (limS cs.len ds).bind fun ds => nox (flatC (fun d => (bindT t d (wipeE e (vs ++ cs.allV))).bind fun e2 => (c.evT e2).bind fun b => if b then cs.ev (fun e3 => a.ev e3) e2 else .ret []) ds)
  | .cat a b _, e => (a.ev e).bind fun x => (b.ev e).bind fun y => (listP x).bind fun xs => (listP y).bind fun ys => limL (xs ++ ys)
  | .rep a n _, e => (a.ev e).bind fun x => (dD (n.ev e)).bind fun y => repE x y
  | .lof _ a _, e => (a.ev e).bind fun x => seqP x
  | .lofr _ _ a _ _, e => (dI (a.ev e)).bind fun k => if decide (-100000 ≤ k) && decide (k ≤ 100000) then .ret (rngP 0 k) else .stuck
  | .slc a lo hi _ _, e => (a.ev e).bind fun x => (lo.ev e).bind fun l => (hi.ev e).bind fun h => (listP x).bind fun xs => .ret (cutP xs l h)
  | .split o _ a _, e => (dD (o.ev e)).bind fun x => (asS x).bind fun z => (dD (a.ev e)).bind fun y => splitE z y
  | .call f _ _ es _, e => (es.evW e).bind fun ws => (cl f ws).bind owC
@[simp] def Ecs.ev : Ecs → (En → Comp Wd) → En → Comp (List PyData)
  | .nil, f, e => (dD (f e)).bind fun y => .ret [y]
  | .cons t it c vs cs, f, e => (it.ev e).bind fun ds => (limS cs.len ds).bind fun ds => flatC (fun d => (bindT t d (wipeE e (vs ++ cs.allV))).bind fun e2 => (c.evT e2).bind fun b => if b then cs.ev f e2 else .ret []) ds
@[simp] def Ei.ev : Ei → En → Comp (List PyData)
  | .seq a, e => (dD (a.ev e)).bind fun x => seqE x
  | .rg1 _ a _, e => (dI (a.ev e)).bind fun k => if bigI k then .ret (rngP 0 k) else .stuck
  | .rg2 _ a b _, e => (dI (a.ev e)).bind fun i => (dI (b.ev e)).bind fun j => if bigI i && bigI j then .ret (rngP i j) else .stuck
  | .rg3 _ a b c _, e => (dI (a.ev e)).bind fun i => (dI (b.ev e)).bind fun j => (dI (c.ev e)).bind fun k =>
      if rgOkB i j k then .ret (rg3P i j) else .stuck
  | .enu _ a _, e => (dD (a.ev e)).bind fun x => enuE x
  | .zip _ a b _, e => (dD (a.ev e)).bind fun x => (dD (b.ev e)).bind fun y => zipE x y
end

/-! ### statements -/
def forC (f : PyData → En → Comp Ou) : List PyData → En → Comp Ou
  | [], e => .ret (.nx e)
  | d :: ds, e => (f d e).bind fun o => match o with
    | .nx e2 => forC f ds e2
    | .ct e2 => forC f ds e2
    | .br e2 => .ret (.nx e2)
    | .rt r => .ret (.rt r)
    | .ex x e2 => .ret (.ex x e2)
def exO {α : Type} (e : En) (c : Comp α) (f : α → Comp Ou) : Comp Ou := c.tie (fun x => .ret (.ex x e)) f
def whlC (c : En → Comp Bool) (f : En → Comp Ou) : Nat → En → Comp Ou
  | 0, _ => .stuck
  | n + 1, e => exO e (c e) fun b => if b then (f e).bind fun o => (match o with
    | .nx e2 => whlC c f n e2
    | .ct e2 => whlC c f n e2
    | .br e2 => .ret (.nx e2)
    | .rt r => .ret (.rt r)
    | .ex x e2 => .ret (.ex x e2)) else .ret (.nx e)
def frzE (e : En) (i : Nat) : En := match e[i]? with
  | some (.ow ds) => e.set i (.fz (.d (.list ds)))
  | some (.od kvs) => e.set i (.fz (.dct kvs))
  | _ => e
@[simp] def Ea.ev : Ea → En → Comp Sl
  | .ex a, e => (a.ev cl e).bind fun w => .ret (.fz w)
  | .nw f, e => (f.ev cl e).bind fun ds => .ret (.ow ds)
def putE (e : En) (i : Nat) (k : Int) (d : PyData) : Comp Ou := match e[i]? with
  | some (.ow ds) => (match L2.ixN ds.length k with | some j => .ret (.nx (e.set i (.ow (ds.set j d)))) | none => .stuck)
  | _ => .stuck
def appE (e : En) (i : Nat) (d : PyData) : Comp Ou := match e[i]? with
  | some (.ow ds) => if ds.length < LIM then .ret (.nx (e.set i (.ow (ds ++ [d])))) else .stuck
  | _ => .stuck
def extE (e : En) (i : Nat) (es : List PyData) : Comp Ou := match e[i]? with
  | some (.ow ds) => if ds.length + es.length < LIM then .ret (.nx (e.set i (.ow (ds ++ es)))) else .stuck
  | _ => .stuck
def popE (e : En) (i j : Nat) (d : PyData) : Comp Ou := match e[i]?, e[j]?, d with
  | some (.ow ds), some (.ow es), .int k => if decide (0 ≤ k) && decide (es.length ≤ LIM) && decide (ds.length < LIM) then (match es[k.toNat]? with | some y => .ret (.nx ((e.set j (.ow (es.eraseIdx k.toNat))).set i (.ow (ds ++ [y])))) | none => .stuck) else .stuck
  | _, _, _ => .stuck
def augB : BO → Int → Int → Comp Int
  | .add, i, j => .ret (i + j)
  | .sub, i, j => .ret (i - j)
  | .mul, i, j => if smallI i || smallI j then .ret (i * j) else .stuck
  | .div, i, j => if decide (0 < j) && decide (j.natAbs.log2 < 9000) then .ret (i / j) else .stuck
  | _, _, _ => .stuck
def augE (e : En) (i : Nat) (o : BO) (j : Int) : Comp Ou := (dI (varE e i)).bind fun x => (augB o x j).bind fun z => .ret (.nx (e.set i (.fz (.d (.int z)))))
/-- the slot's owner first -/
def isO (e : En) (i : Nat) (c : Comp Ou) : Comp Ou := match e[i]? with
  | some (.ow _) => c
  | _ => .stuck
def isD (e : En) (i : Nat) (c : Comp Ou) : Comp Ou := match e[i]? with
  | some (.od _) => c
  | _ => .stuck
def dputE (e : En) (i : Nat) (s : L2.Key) (d : PyData) : Comp Ou := match e[i]? with
  | some (.od kvs) => if kvs.length < 1000 then .ret (.nx (e.set i (.od (putD kvs s d)))) else .stuck
  | _ => .stuck
def dput2E (e : En) (i : Nat) (s u : L2.Key) (d d2 : PyData) : Comp Ou := match e[i]? with
  | some (.od kvs) => if kvs.length < 1000 then .ret (.nx (e.set i (.od (putD (putD kvs s d) u d2)))) else .stuck
  | _ => .stuck
def isF (e : En) (i : Nat) (c : Comp Ou) : Comp Ou := match e[i]? with
  | some (.fz _) => c
  | _ => .stuck
def retO (e : En) (i : Nat) : Comp Ou := match e[i]? with
  | some (.ow ds) => .ret (.rt (.ow ds))
  | _ => .stuck
@[simp] def Hd.ev : Hd → Exn → En → Comp Ou
  | .put j _ _ s _ _ _, _, e => .ret (.nx (e.set j (.fz (.d (.str s)))))
  | .fld i _ j _ _ _ _ _ _, x, e => if i < e.length then .ret (.nx (((e.set i .un).set j (.fz (.d x.v))).set i .un)) else .stuck
  | .keep i _ j _ _ _ _, x, e => if i < e.length then .ret (.nx (((e.set i .un).set j (.fz (.er x))).set i .un)) else .stuck
@[simp] def Hds.ev : Hds → Exn → En → Comp Ou
  | .nil, x, e => .ret (.ex x e)
  | .cons c _ _ h _ hs, x, e => if x.c = c then h.ev x e else hs.ev x e
  | .many cs _ _ h _ hs, x, e => if x.c ∈ cs.map (·.1) then h.ev x e else hs.ev x e
def catchC (f : Exn → En → Comp Ou) : Ou → Comp Ou
  | .ex x e => f x e
  | o => .ret o
def tgE (tg : Option (Nat × Str × Pos)) (e : En) (w : Wd) : En := match tg with
  | some (j, _, _) => e.set j (.fz w)
  | none => e
def capE (e : En) (i : Nat) (f : Wd → Comp Ou) : Comp Ou := match e[i]? with
  | some (.cap c) => exO e c f
  | _ => .stuck
mutual
@[simp] def Sm.ev (wf : Nat) : Sm → En → Comp Ou
  | .asg i _ _ a _, e => exO e (a.ev cl e) fun w => .ret (.nx (e.set i (.fz w)))
  | .asgF i _ _ f _, e => exO e (f.ev cl e) fun ds => .ret (.nx (e.set i (.ow ds)))
  | .unp t a _, e => exO e (dD (a.ev cl e)) fun d => (bindT t d e).bind fun e2 => .ret (.nx e2)
  | .par i _ _ j _ _ a b _ _ _ _ _, e => exO e (a.ev cl e) fun x => exO e (b.ev cl e) fun y => .ret (.nx ((e.set i x).set j y))
  | .par3c i _ _ j _ _ l _ _ a b c _ _ _ _ _, e => exO e (a.ev cl e) fun u => exO e (b.ev cl e) fun v => exO e (c.ev cl e) fun w => .ret (.nx (((e.set i (.fz u)).set j (.ow v)).set l (.ow w)))
  | .parD i _ _ j _ _ a _ _ _ _ _ _, e => exO e (a.ev cl e) fun u => .ret (.nx ((e.set i (.fz u)).set j (.od [])))
  | .par3 i _ _ j _ _ l _ _ a b c _ _ _ _ _, e => exO e (a.ev cl e) fun u => exO e (b.ev cl e) fun v => exO e (c.ev cl e) fun w => .ret (.nx (((e.set i (.fz u)).set j (.fz v)).set l (.fz w)))
  | .put i _ _ ix a _ _, e => isO e i <| exO e (dD (a.ev cl e)) fun d => exO e (dI (ix.ev cl e)) fun k => putE e i k d
  | .asgD i _ _ ks es _ _, e => exO e (es.ev cl e) fun ds => .ret (.nx (e.set i (.od (mkD (ks.map (·.1)) ds))))
  | .dput i _ _ s _ _ a _ _, e => isD e i <| exO e (dD (a.ev cl e)) fun d => dputE e i (.inr s) d
  | .dpar i _ _ s _ _ _ _ u _ _ _ a b _ _ _ _ _, e => isD e i <| exO e (dD (a.ev cl e)) fun d => exO e (dD (b.ev cl e)) fun d2 => dput2E e i (.inr s) (.inr u) d d2
  | .dpi i _ _ k a _ _, e => isD e i <| exO e (dD (a.ev cl e)) fun d => exO e ((dD (k.ev cl e)).bind keyE) fun s => dputE e i s d
  | .aug i _ _ o a _, e => isF e i <| exO e (dI (a.ev cl e)) fun d => augE e i o d
  | .app i _ _ _ a _ _, e => isO e i <| exO e (dD (a.ev cl e)) fun d => appE e i d
  | .ext i _ _ _ f _ _, e => isO e i <| exO e (f.ev cl e) fun es => extE e i es
  | .apo i _ _ _ j _ _ _ a _ _ _, e => isO e i <| isO e j <| exO e (dD (a.ev cl e)) fun d => popE e i j d
  | .iff c a b _, e => exO e (dB (c.ev cl e)) fun t => if t then a.ev wf e else b.ev wf e
  | .forr t it b _, e => exO e (it.ev cl e) fun ds => forC (fun d e1 => (bindT t d e1).bind fun e2 => b.ev wf e2) ds e
  | .whl c b _, e => whlC (fun e1 => dB (c.ev cl e1)) (fun e1 => b.ev wf e1) wf e
  | .ret a _, e => exO e (a.ev cl e) fun w => .ret (.rt (.fz w))
  | .retF f _, e => exO e (f.ev cl e) fun ds => .ret (.rt (.ow ds))
  | .retO i _ _ _, e => retO e i
  | .expr a _, e => exO e (a.ev cl e) fun _ => .ret (.nx e)
  | .brk _, e => .ret (.br e)
  | .cnt _, e => .ret (.ct e)
  | .pass _, e => .ret (.nx e)
  | .never _, _ => .stuck
  | .cap i _ _ _ tg _, e => capE e i fun w => .ret (.nx (tgE tg e w))
  | .rai c _ _ a _ _, e => exO e (dD (a.ev cl e)) fun d => if flatP d then .ret (.ex ⟨c, d⟩ e) else .stuck
  | .tr b hs _, e => (b.ev wf e).bind (catchC hs.ev)
@[simp] def Sms.ev (wf : Nat) : Sms → En → Comp Ou
  | .nil, e => .ret (.nx e)
  | .cons s ss, e => (s.ev wf e).bind fun o => match o with
    | .nx e2 => ss.ev wf e2
    | o => .ret o
  | .frz i ss, e => ss.ev wf (frzE e i)
  | .fgt is ss, e => ss.ev wf (wipeE e is)
end
end

/-! ### a program -/
structure Fd where
  nm : Str
  N : List Str
  np : Nat
  body : Sms
  /-- whether it makes lambdas; whether it is handed one -/
  lams : Bool := false
  ho : Bool := false
def endC : Ou → Comp FR
  | .nx _ => .ret (.fz (.d .none))
  | .rt r => .ret r
  | .ex x _ => .raise x
  | _ => .stuck
@[simp] def Wd.sl : Wd → Sl
  | .fn c => .cap c
  | w => .fz w
@[simp] def startE (n : Nat) (ws : List Wd) : En := ws.map Wd.sl ++ List.replicate (n - ws.length) .un
def Fd.run (wf : Nat) (cl : Nat → List Wd → Comp FR) (f : Fd) (ws : List Wd) : Comp FR :=
  if ws.length = f.np then (nox (f.body.ev cl wf (startE f.N.length ws))).bind endC else .stuck
/-- later functions stand ahead; a function is known by how many stand behind it -/
def callT (wf : Nat) : List Fd → Nat → List Wd → Comp FR
  | [], _, _ => .stuck
  | f :: fs, j, ws => if j = fs.length then f.run wf (callT wf fs) ws else callT wf fs j ws
end TC

set_option Elab.async false
set_option linter.all false
set_option maxRecDepth 100000
set_option maxHeartbeats 2000000
namespace TC
open PySem

/-! ### what is looked at once: names stand where the syntax says -/
structure Chk where
  fns : List Str
  cons : List (Str × Cst)
  dn : Str
  /-- the errors' classes: the name, the field -/
  exs : List (Str × Option Str) := []
  /-- defs that are handed lambdas -/
  hos : List (Nat × Str) := []
  /-- whether the def may make lambdas -/
  lam : Bool := false
  /-- whether errors' classes are asked -/
  isx : Bool := false
/-- a lambda's names: its parameter, captured ones, globals -/
def lamB (N : List Str) (sc sc2 : Scope) (ps : LamP) : Bool :=
  decide (sc2.kind = .function) && !sc2.isCoroutine && !sc2.isGenerator && (sc2.names.all fun y => !decide (y.2 = .cell) && (!decide (y.2 = .local) || (match ps with | some q => decide (y.1 = q.1) | none => false)) && (!decide (y.2 = .free) || decide (sc.names.lookup y.1 = some .cell) || decide (sc.names.lookup y.1 = some .free))) &&
    (match ps with | some q => decide (sc2.names.lookup q.1 = some .local) && !decide (q.1 ∈ N) | none => true)
def Chk.noLam (c : Chk) : Chk := { c with lam := false, hos := [] }
def plainNm (x : Str) : Bool := !(x == ("__debug__" : Str)) && !(x == ("__classdict__" : Str)) && !(x == ("__name__" : Str))
def visB (sc : Scope) (x : Str) : Bool := plainNm x && (match sc.names.lookup x with | some .local => true | some .cell => true | some .free => true | _ => false)
def locB (sc : Scope) (x : Str) : Bool := plainNm x && (match sc.names.lookup x with | some .local => true | some .cell => true | _ => false)
def glB (sc : Scope) (x : Str) : Bool := plainNm x && (match sc.names.lookup x with | some .globalImplicit => true | _ => false)
def slotB (N : List Str) (i : Nat) (x : Str) : Bool := N[i]? == some x
def Ee.isVar : Ee → Bool
  | .var .. => true
  | _ => false
/-- a receiver of a method: no call (super() is one) -/
def Ee.recv : Ee → Bool
  | .call .. => false
  | .rcr .. => false
  | .frz .. => false
  | .drw .. => false
  | _ => true
def Es.len : Es → Nat
  | .nil => 0
  | .cons _ es => es.len + 1
def Ei.tupB : Ei → Tt → Bool
  | .enu .., .tp .. => true
  | .zip .., .tp .. => true
  | .enu .., _ => false
  | .zip .., _ => false
  | _, _ => true
def Ts.ok (N : List Str) (sc : Scope) (vs : Option (List Nat)) : Ts → Bool
  | .nil => true
  | .cons i x _ ts => slotB N i x && locB sc x && (match vs with | none => true | some l => decide (i ∈ l)) && ts.ok N sc vs
  | .nest ts1 _ _ ts => ts1.ok N sc vs && ts.ok N sc vs
def Tt.ok (N : List Str) (sc : Scope) (vs : Option (List Nat)) : Tt → Bool
  | .nm i x _ => slotB N i x && locB sc x && (match vs with | none => true | some l => decide (i ∈ l))
  | .tp ts _ _ => ts.ok N sc vs
def Hd.ok (N : List Str) (fld : Option Str) (sc : Scope) : Hd → Bool
  | .put j y .. => slotB N j y && locB sc y
  | .fld i n j y _ f _ _ _ => slotB N i n && decide (sc.names.lookup n = some .local) && plainNm n && visB sc n && slotB N j y && locB sc y && decide (fld = some f) && decide (i ≠ j)
  | .keep i n j y .. => slotB N i n && decide (sc.names.lookup n = some .local) && plainNm n && visB sc n && slotB N j y && locB sc y && decide (i ≠ j)
def Hd.one : Hd → Bool
  | .fld .. => false
  | _ => true
def Hds.ok (c : Chk) (N : List Str) (sc : Scope) : Hds → Bool
  | .nil => true
  | .cons k x _ h _ hs => (match c.exs[k]? with | some (y, f) => decide (y = x) && h.ok N f sc | none => false) && glB sc x && hs.ok c N sc
  | .many cs _ _ h _ hs => (cs.all fun q => (match c.exs[q.1]? with | some (y, _) => decide (y = q.2.1) | none => false) && glB sc q.2.1) && decide (cs.length ≤ 100) && h.one && h.ok N none sc && hs.ok c N sc
def Hds.some : Hds → Bool
  | .nil => false
  | _ => true
mutual
def Ee.ok (c : Chk) (N : List Str) : Ee → Scope → Bool
  | .var i x _, sc => slotB N i x && visB sc x
  | .con x v _, sc => glB sc x && decide (c.cons.lookup x = some v)
  | .non _ _, _ => true
  | .dic _, _ => true
  | .bl _ _ _, _ => true
  | .int _ _ _, _ => true
  | .str _ _ _, _ => true
  | .tup es _ _, sc => es.ok c N sc && decide (es.len ≤ 1000)
  | .bin _ a b _, sc => a.ok c N sc && b.ok c N sc
  | .neg a _, sc => a.ok c N sc
  | .nt a _, sc => a.ok c N sc
  | .andd es _, sc => es.ok c N sc
  | .orr es _, sc => es.ok c N sc
  | .cmp _ a b _, sc => a.ok c N sc && b.ok c N sc
  | .chn _ _ a b u _, sc => a.ok c N sc && b.ok c N sc && u.ok c N sc
  | .isn _ a _ _ _, sc => a.ok c N sc
  | .ife t a b _, sc => t.ok c N sc && a.ok c N sc && b.ok c N sc
  | .idx a i _, sc => a.ok c N sc && i.ok c N sc
  | .slc a lo hi _ _, sc => a.ok c N sc && lo.ok c N sc && hi.ok c N sc
  | .f1 f _ a _, sc => glB sc f.nm && a.ok c N sc
  | .f2 f _ a b _, sc => glB sc f.nm && a.ok c N sc && b.ok c N sc
  | .f3 f _ a b d _, sc => glB sc f.nm && a.ok c N sc && b.ok c N sc && d.ok c N sc
  | .isi _ a t _ _, sc => glB sc "isinstance" && glB sc t.nm && a.ok c N sc
  | .m1 _ o pa a p, sc => o.ok c N sc && a.ok c N sc && (pa.endLine == p.line) && o.recv
  | .call f x _ es _, sc => glB sc x && decide (c.fns[f]? = some x) && es.ok c N sc
  | .rcr _ _ _ _, _ => true
  | .drw x _ m e _, sc => glB sc x && decide (x = c.dn) && m.isVar && m.ok c N sc && e.ok c N sc
  | .frz f, sc => f.ok c N sc
  | .lns i x _ _ _, sc => slotB N i x && visB sc x && glB sc "len"
  | .dget a _ _ _ _, sc => a.ok c N sc
  | .dgo i x _ _ _ _ _, sc => slotB N i x && visB sc x
  | .dmk ks es _, sc => es.ok c N sc && decide (ks.length = es.len) && decide (0 < es.len) && decide (es.len ≤ 15)
  | .dgi i x _ a _, sc => slotB N i x && visB sc x && a.ok c N sc
  | .din _ i x _ a _, sc => slotB N i x && visB sc x && a.ok c N sc
  | .dgt i x _ pa a b p, sc => slotB N i x && visB sc x && a.ok c N sc && b.ok c N sc && (pa.endLine == p.line)
  | .rvt a _ _ _ _ _, sc => a.ok c N sc
  | .isb _ a _ _ _ _, sc => a.ok c N sc
  | .isw _ a t _ _, sc => glB sc "isinstance" && glB sc t.nm && a.ok c N sc
  | .isx _ a k x _ _, sc => c.isx && glB sc "isinstance" && glB sc x && (match c.exs[k]? with | some (y, _) => decide (y = x) | none => false) && a.isVar && a.ok c N sc
  | .efl a f cs _, sc => a.isVar && a.ok c N sc && cs.all fun k => (match c.exs[k]? with | some (_, some g) => decide (g = f) | _ => false)
  | .hc f x _ a ps sc2 _ _, sc => c.lam && glB sc x && decide ((f, x) ∈ c.hos) && lamB N sc sc2 ps && a.ok c.noLam N sc2
  | .lsc _ a i x _ _ sc2 _ _, sc => L2.blkC N sc sc2 [(x, i)] && (slotB N i x && locB sc2 x && visB (L2.relS sc2 sc) x) && a.ok c N sc && glB sc "len"
def Es.ok (c : Chk) (N : List Str) : Es → Scope → Bool
  | .nil, _ => true
  | .cons e es, sc => e.ok c N sc && es.ok c N sc
def Eo.ok (c : Chk) (N : List Str) : Eo → Scope → Bool
  | .no, _ => true
  | .so e, sc => e.ok c N sc
def Eb.ok (c : Chk) (N : List Str) : Eb → Scope → Bool
  | .ex e, sc => e.ok c N sc
  | .ov i x _, sc => slotB N i x && visB sc x
def Ef.ok (c : Chk) (N : List Str) : Ef → Scope → Bool
  | .lst es _, sc => es.ok c N sc && decide (es.len ≤ 1000)
  | .lc e t it o own sc2 _, sc => L2.blkC N sc sc2 own && it.ok c N sc && it.tupB t && t.ok N sc2 (some (own.map (·.2))) && o.ok c N (L2.relS sc2 sc) && e.ok c N (L2.relS sc2 sc)
  | .lcs e t it o vs cs own sc2 _, sc => L2.blkC N sc sc2 own && it.ok c N sc && it.tupB t && t.ok N sc2 (some vs) && o.ok c N (L2.relS sc2 sc) && e.ok c N (L2.relS sc2 sc) && cs.ok c N sc2 (L2.relS sc2 sc) && decide (own.map (·.2) = vs ++ cs.allV) && decide (cs.len ≤ 3)
  | .cat a b _, sc => a.ok c N sc && b.ok c N sc
  | .rep a n _, sc => a.ok c N sc && n.ok c N sc
  | .lof _ a _, sc => glB sc "list" && a.ok c N sc
  | .lofr _ _ e _ _, sc => glB sc "list" && glB sc "range" && e.ok c N sc
  | .slc a lo hi _ _, sc => a.ok c N sc && lo.ok c N sc && hi.ok c N sc
  | .split o pa a p, sc => o.ok c N sc && a.ok c N sc && (pa.endLine == p.line) && o.recv
  | .call f x _ es _, sc => glB sc x && decide (c.fns[f]? = some x) && es.ok c N sc
def Ecs.ok (c : Chk) (N : List Str) : Ecs → Scope → Scope → Bool
  | .nil, _, _ => true
  | .cons t it o vs cs, sc2, sc => it.ok c N sc && it.tupB t && t.ok N sc2 (some vs) && o.ok c N sc && cs.ok c N sc2 sc
def Ei.ok (c : Chk) (N : List Str) : Ei → Scope → Bool
  | .seq a, sc => a.ok c N sc
  | .rg1 _ a _, sc => glB sc "range" && a.ok c N sc
  | .rg2 _ a b _, sc => glB sc "range" && a.ok c N sc && b.ok c N sc
  | .rg3 _ a b d _, sc => glB sc "range" && a.ok c N sc && b.ok c N sc && d.ok c N sc
  | .enu _ a _, sc => glB sc "enumerate" && a.ok c N sc
  | .zip _ a b _, sc => glB sc "zip" && a.ok c N sc && b.ok c N sc
end
end TC

set_option Elab.async false
set_option linter.all false
set_option maxRecDepth 100000
set_option maxHeartbeats 2000000
namespace TC
open PySem L2

/-! ### how data stand in the heap -/
abbrev Sub (G H : Hp) : Prop := ∀ a o, G a = some o → H a = some o
theorem Sub.rd {G H : Hp} {a : Addr} {u : HO} (s : Sub G H) (h : Rd G a u) : Rd H a u := by
  rcases h with h | ⟨o, h⟩
  · exact .inl (s _ _ h)
  · exact .inr ⟨o, s _ _ h⟩
theorem Sub.sqL {K : PySem.W.Frag} {G H : Hp} {a : Addr} {xs : List V} (s : Sub G H) (h : SqL K G a xs) : SqL K H a xs := h.imp s.rd id
theorem Sub.sqT {K : PySem.W.Frag} {G H : Hp} {a : Addr} {xs : List V} (s : Sub G H) (h : SqT K G a xs) : SqT K H a xs := h.imp s.rd id
/-! how data stand; a list is an object of the run, not of the text's top -/
mutual
inductive Dq (K : PySem.W.Frag) (H : Hp) : V → PyData → Prop
  | non : Dq K H .non .none
  | bl (b : Bool) : Dq K H (.bl b) (.bool b)
  | int (i : Int) : Dq K H (.int i) (.int i)
  | str (x : Str) : Dq K H (.str x) (.str x)
  | lst {a : Addr} {xs : List V} {ds : List PyData} : Rd H a (.lst xs) → DqAll K H xs ds → Dq K H (.ref a) (.list ds)
  | tup {a : Addr} {xs : List V} {ds : List PyData} : SqT K H a xs → DqAll K H xs ds → Dq K H (.ref a) (.tuple ds)
  | dic {a : Addr} : H a = some (.dK []) → Dq K H (.ref a) (.dict [])
inductive DqAll (K : PySem.W.Frag) (H : Hp) : List V → List PyData → Prop
  | nil : DqAll K H [] []
  | cons {v : V} {vs : List V} {d : PyData} {ds : List PyData} : Dq K H v d → DqAll K H vs ds → DqAll K H (v :: vs) (d :: ds)
end
mutual
theorem Dq.dp {K : PySem.W.Frag} {H : Hp} : ∀ {v : V} {d : PyData}, Dq K H v d → d.hasDict = false → Dp K H v d
  | _, _, .non, _ => .non
  | _, _, .bl b, _ => .bl b
  | _, _, .int i, _ => .int i
  | _, _, .str x, _ => .str x
  | _, _, .lst q r, h => .lst (.inl q) (DqAll.dp r (by simpa only [PyData.hasDict] using h))
  | _, _, .tup q r, h => .tup q (DqAll.dp r (by simpa only [PyData.hasDict] using h))
  | _, _, .dic _, h => by
    simp only [PyData.hasDict] at h
    cases h
theorem DqAll.dp {K : PySem.W.Frag} {H : Hp} : ∀ {vs : List V} {ds : List PyData}, DqAll K H vs ds → PyData.hasDictAll ds = false → DpAll K H vs ds
  | _, _, .nil, _ => .nil
  | _, _, .cons q r, h => by
    rw [PyData.hasDictAll, Bool.or_eq_false_iff] at h
    exact .cons (Dq.dp q h.1) (DqAll.dp r h.2)
end
mutual
theorem Sub.dp {K : PySem.W.Frag} {G H : Hp} (s : Sub G H) : ∀ {v : V} {d : PyData}, Dq K G v d → Dq K H v d
  | _, _, .non => .non
  | _, _, .bl b => .bl b
  | _, _, .int i => .int i
  | _, _, .str x => .str x
  | _, _, .lst q r => .lst (s.rd q) (s.dps r)
  | _, _, .tup q r => .tup (s.sqT q) (s.dps r)
  | _, _, .dic h => .dic (s _ _ h)
theorem Sub.dps {K : PySem.W.Frag} {G H : Hp} (s : Sub G H) : ∀ {vs : List V} {ds : List PyData}, DqAll K G vs ds → DqAll K H vs ds
  | _, _, .nil => .nil
  | _, _, .cons q r => .cons (s.dp q) (s.dps r)
end
theorem dps_length {K : PySem.W.Frag} {G : Hp} : ∀ {vs : List V} {ds : List PyData}, DqAll K G vs ds → vs.length = ds.length
  | _, _, .nil => rfl
  | _, _, .cons _ r => congrArg (· + 1) (dps_length r)
theorem dps_append {K : PySem.W.Frag} {G : Hp} : ∀ {vs us : List V} {ds es : List PyData}, DqAll K G vs ds → DqAll K G us es → DqAll K G (vs ++ us) (ds ++ es)
  | _, _, _, _, .nil, q => q
  | _, _, _, _, .cons p r, q => .cons p (dps_append r q)
theorem dps_get {K : PySem.W.Frag} {G : Hp} : ∀ {vs : List V} {ds : List PyData} {i : Nat} {d : PyData}, DqAll K G vs ds → ds[i]? = some d → ∃ v, vs[i]? = some v ∧ Dq K G v d
  | _, _, 0, _, .cons p _, e => by
    obtain rfl := Option.some.inj (by simpa using e)
    exact ⟨_, rfl, p⟩
  | _, _, i + 1, _, .cons _ r, e => by
    obtain ⟨v, h, q⟩ := dps_get (i := i) r (by simpa using e)
    exact ⟨v, by simpa using h, q⟩
theorem dps_drop {K : PySem.W.Frag} {G : Hp} : ∀ (n : Nat) {vs : List V} {ds : List PyData}, DqAll K G vs ds → DqAll K G (vs.drop n) (ds.drop n)
  | 0, _, _, h => h
  | _ + 1, _, _, .nil => .nil
  | n + 1, _, _, .cons _ r => dps_drop n r
theorem dps_take {K : PySem.W.Frag} {G : Hp} : ∀ (n : Nat) {vs : List V} {ds : List PyData}, DqAll K G vs ds → DqAll K G (vs.take n) (ds.take n)
  | 0, _, _, _ => .nil
  | _ + 1, _, _, .nil => .nil
  | n + 1, _, _, .cons p r => .cons p (dps_take n r)
theorem dps_set {K : PySem.W.Frag} {G : Hp} {v : V} {d : PyData} (p : Dq K G v d) : ∀ {vs : List V} {ds : List PyData} (i : Nat), DqAll K G vs ds → DqAll K G (vs.set i v) (ds.set i d)
  | _, _, _, .nil => .nil
  | _, _, 0, .cons _ r => .cons p r
  | _, _, i + 1, .cons q r => .cons q (dps_set p i r)
theorem dps_rep {K : PySem.W.Frag} {G : Hp} {vs : List V} {ds : List PyData} (h : DqAll K G vs ds) : ∀ n : Nat, DqAll K G (List.replicate n vs).flatten (List.replicate n ds).flatten
  | 0 => .nil
  | n + 1 => by
    rw [List.replicate_succ, List.replicate_succ, List.flatten_cons, List.flatten_cons]
    exact dps_append h (dps_rep h n)
theorem atI_dps {K : PySem.W.Frag} {G : Hp} {vs : List V} {ds : List PyData} {i : Int} {d : PyData} (h : DqAll K G vs ds) (e : atI ds i = some d) : ∃ v, atI vs i = some v ∧ Dq K G v d := by
  unfold atI at e ⊢
  rw [dps_length h]
  cases q : ixN ds.length i with
  | none =>
    rw [q] at e
    cases e
  | some j =>
    rw [q] at e
    exact dps_get h e
theorem dps_ints {K : PySem.W.Frag} {G : Hp} : ∀ {vs : List V} {ds : List PyData} {ns : List Int}, DqAll K G vs ds → intsP ds = some ns → vs = ns.map V.int
  | _, [], ns, .nil, e => by
    cases e
    rfl
  | _, d :: ds, ns, .cons p r, e => by
    cases d with
    | int i =>
      obtain ⟨ms, e1, rfl⟩ := Option.map_eq_some_iff.mp (show (intsP ds).map (i :: ·) = some ns from e)
      cases p
      rw [dps_ints r e1]
      rfl
    | _ => cases e
theorem dps_bools {K : PySem.W.Frag} {G : Hp} : ∀ {vs : List V} {ds : List PyData} {ns : List Bool}, DqAll K G vs ds → boolsP ds = some ns → vs = ns.map V.bl
  | _, [], ns, .nil, e => by
    cases e
    rfl
  | _, d :: ds, ns, .cons p r, e => by
    cases d with
    | bool i =>
      obtain ⟨ms, e1, rfl⟩ := Option.map_eq_some_iff.mp (show (boolsP ds).map (i :: ·) = some ns from e)
      cases p
      rw [dps_bools r e1]
      rfl
    | _ => cases e
theorem dps_strs {K : PySem.W.Frag} {G : Hp} : ∀ {vs : List V} {ds : List PyData} {ns : List Str}, DqAll K G vs ds → strsP ds = some ns → vs = ns.map V.str
  | _, [], ns, .nil, e => by
    cases e
    rfl
  | _, d :: ds, ns, .cons p r, e => by
    cases d with
    | str i =>
      obtain ⟨ms, e1, rfl⟩ := Option.map_eq_some_iff.mp (show (strsP ds).map (i :: ·) = some ns from e)
      cases p
      rw [dps_strs r e1]
      rfl
    | _ => cases e
theorem dps_of_ints {K : PySem.W.Frag} {G : Hp} : ∀ ns : List Int, DqAll K G (ns.map V.int) (ns.map PyData.int)
  | [] => .nil
  | n :: ns => .cons (.int n) (dps_of_ints ns)
theorem dps_of_strs {K : PySem.W.Frag} {G : Hp} : ∀ ns : List Str, DqAll K G (ns.map V.str) (ns.map PyData.str)
  | [] => .nil
  | n :: ns => .cons (.str n) (dps_of_strs ns)
theorem dps_flat {K : PySem.W.Frag} {G : Hp} : ∀ {vs : List V} {ds : List PyData}, DqAll K G vs ds → ds.all flatP = true → vs.all flatV = true
  | _, _, .nil, _ => rfl
  | _, _, .cons (v := v) (d := d) p r, e => by
    rw [List.all_cons, Bool.and_eq_true] at e
    rw [List.all_cons, Bool.and_eq_true]
    refine ⟨?_, dps_flat r e.2⟩
    cases p <;> first | rfl | (have z := e.1; cases z)
end TC

set_option Elab.async false
set_option linter.all false
set_option maxRecDepth 100000
set_option maxHeartbeats 2000000
namespace TC
open PySem L2

/-! ### a def's promise where no text is being shown (repr asks that) -/
structure FnG (P : Program) (w : World) (K : PySem.W.Frag) (mg : Str → Option Value) (base : Heap) (k : Nat) (f : Addr) (fd : FuncData) (ps : List Str) (sp : Sp) : Prop where
  len : ∀ vs H Q E, sp vs H Q E → vs.length = ps.length
  run : ∀ (A : Around) (outer : List Env) (s : Shared) (H : Hp) (args : Args) (us : List Value) (vs : List V) (Q : VK) (E : XK), A.guards = some [] → Room k A →
    Env0 P w K mg base A outer s H → BindsTo s fd args (ps.zip us) → Vals vs us → sp vs H Q E → codeAny (model P w) A (.call (.ref f) args) (CR (L2.CX P w) outer P w H s Q E) s
theorem FnG.mono {P : Program} {w : World} {K : PySem.W.Frag} {mg : Str → Option Value} {base : Heap} {j k : Nat} {f : Addr} {fd : FuncData} {ps : List Str} {sp : Sp} (F : FnG P w K mg base j f fd ps sp) (h : j ≤ k) :
    FnG P w K mg base k f fd ps sp := ⟨F.len, fun A o s H a us vs Q E g r => F.run A o s H a us vs Q E g (r.mono h)⟩
section
variable {X : Cx} {k : Nat} {f : Addr} {fd : FuncData} {ps : List Str} {sp : Sp} {W : WX} {x : Str} {p pos : Pos} {e : Expr} {es : List Expr} {t : TA}
def tCallW (sp : Sp) (W : WX) (t : TA) : TE := fun σ H Q => t σ H fun vs H1 => sp vs H1 Q fun cls d H2 => W cls d σ H2
theorem runG {pins : List (Addr × Obj)} {σ : L2.St} {H : Hp} {s : Shared} {Q : VK} {us : List Value} {vs : List V} (F : FnG X.prog X.w X.K X.mg X.base k f fd ps sp) (hg : X.A.guards = some []) (hr : Room k X.A) (hb : Binds X.K fd ps [])
    (tk : Takes X W) (I : Inv X pins σ H s) (r : Vals vs us) (h : sp vs H Q fun cls d H2 => W cls d σ H2) : wpAny (model X.prog X.w) X.A (PySem.call (.ref f) us) (EP X pins σ Q) X.xe s := by
  have hl : (us ++ ([] : List Value)).length = ps.length := by rw [List.append_nil, ← r.length]; exact F.len _ _ _ _ h
  have b := hb s us I.kIn hl
  rw [List.append_nil] at b
  refine wpAny_call (codeAny_mono (F.run X.A X.stack s H ⟨us, []⟩ us vs Q _ hg hr I.env0 b r h) fun q s' hq => ?_)
  cases q with
  | error e => exact tk e s' (XE.of_call I (fun _ _ _ z => z) hq)
  | ok fl => cases fl <;> first | exact I.after hq | exact False.elim hq
theorem pe_callG (F : FnG X.prog X.w X.K X.mg X.base k f fd ps sp) (hg : X.A.guards = some []) (hr : Room k X.A) (hx : Gl X x) (hm : X.mg x = some (.ref f)) (hk : PySem.W.keepIn X.K (.ref f) = true) (hb : Binds X.K fd ps [])
    (tk : Takes X W) (ha : PA X (e :: es) t) (hdb : (x == ("__debug__" : Str)) = false) (he : starEach (e :: es) X.env = (false, eval e X.env) :: starEach es X.env) (hpl : (backTo pos (starEach es X.env)).any (·.1) = false) :
    PE X (.Call (.Name x p) (e :: es) [] pos) (tCallW sp W t) :=
  ⟨fun pins s σ H Q I h => wpAny_Call_Name_kw (ld_glob I hx hm
    (PySem.W.callWith_K (h₀ := X.base) I.ok.mod.kin hk (thn (ha.run pos pins s σ H _ I h) fun us s1 ⟨vs, H1, I1, rv, q⟩ => ⟨I1.kIn, runG F hg hr hb tk I1 rv q⟩) he hpl) hdb)⟩
theorem pe_callG0 (F : FnG X.prog X.w X.K X.mg X.base k f fd ps sp) (hg : X.A.guards = some []) (hr : Room k X.A) (hx : Gl X x) (hm : X.mg x = some (.ref f)) (hk : PySem.W.keepIn X.K (.ref f) = true) (hb : Binds X.K fd ps [])
    (tk : Takes X W) (hdb : (x == ("__debug__" : Str)) = false) : PE X (.Call (.Name x p) [] [] pos) (tCallW sp W tNil) :=
  ⟨fun pins s σ H Q I h => wpAny_Call_Name_kw (ld_glob I hx hm (PySem.W.callWith_K0 I.kIn hk (runG (us := []) F hg hr hb tk I .nil h)) hdb)⟩
end
open PyProof.Rows in
/-- a def by its body -/
theorem fnG_of {P : Program} {w : World} {K : PySem.W.Frag} {mg : Str → Option Value} {base : Heap} {k : Nat} {f : Addr} {name qual : Str} {params : Arguments} {body : List Stmt} {scope : Scope} {dV kV doc pm cdv ct oc : Value} {an od : Option Addr}
    {osl : Array (Option Value)} {N ps : List Str} {sp : Sp} (lk : K.lookup f = some ⟨oc, od, .func (PySem.W.fnOf name qual params body scope dV kV doc pm an cdv ct), osl⟩) (hcd : PySem.W.codeIn K cdv qual = true) (S : FnScope N ps scope)
    (len : ∀ vs H Q E, sp vs H Q E → vs.length = ps.length)
    (hb : ∀ (A : Around) (outer : List Env) (s : Shared) (H : Hp) (vs : List V) (Q : VK) (E : XK), A.guards = some [] → Room k (A.deeper (envOfC qual scope s.heap.objs.size f cdv)) → sp vs H Q E →
      ∃ t, L2.PSs (cxOf (L2.CX P w) P w K mg base N qual scope f cdv A outer s H E) body t ∧ t { nx := fun _ H' => Q .non H', rt := Q } (start N vs) H) :
    FnG P w K mg base (k + 1) f (PySem.W.fnOf name qual params body scope dV kV doc pm an cdv ct) ps sp where
  len := len
  run := fun A outer s H args us vs Q E hg hr e0 hbd r hsp => by
    have KX : K.In s.heap := e0.mod.kin.keeps fun b o e => (e0.bs b o e).1
    have kinds : ∀ y ∈ ps.zip us, scope.names.lookup y.1 = some .local ∨ (scope.names.lookup y.1 = some .cell ∧ ((cellsFrom (s.heap.objs.size + 1) scope.names []).lookup y.1).isSome = true) := by
      rintro ⟨n, v⟩ hy
      have z := S.par n (List.of_mem_zip hy).1
      exact z.imp id fun q => ⟨q, PySem.W.cellsFrom_some _ _ _ (.inl q)⟩
    refine codeAny_call_function hr.depth (KX _ _ lk) rfl S.co S.gen rfl (PySem.W.codeRec_of KX hcd) (hbd _ _ _ _ (wpAny_newFunctionEnv_cells S.kind kinds ?_))
    intro env he s1 x
    subst he
    obtain ⟨t, ht, hq⟩ := hb A outer s H vs Q E hg (hr.deeper _) hsp
    have I := inv_start (CX := L2.CX P w) (E := E) S hr.hd e0 (len _ _ _ _ hsp) r x
    refine ⟨(e0.mod.nolimit.keeps fun b o e => (e0.bs b o e).1).keeps x.toInCall.keep, codeAny_func ?_⟩
    refine wpAny_mono (ht.run [] s1 _ H _ I hq) (fun fl s' hs => ?_) fun _ _ z => z
    cases fl with
    | ret u =>
      obtain ⟨v, σ', H', J, rv, q⟩ := hs
      exact ⟨v, H', J.os, J.bare, J.base, J.hok, rv, q⟩
    | next =>
      obtain ⟨σ', H', J, q⟩ := hs
      exact ⟨V.non, H', J.os, J.bare, J.base, J.hok, rfl, q⟩
    | brk => exact (show False from hs.choose_spec.choose_spec.2).elim
    | cont => exact (show False from hs.choose_spec.choose_spec.2).elim
end TC

set_option Elab.async false
set_option linter.all false
set_option maxRecDepth 100000
set_option maxHeartbeats 4000000
/-! how many texts of a tuple are unlike: len({x for x in t}) -/
namespace TS
open PySem L2 PySem.Spec
/-- met so far; how many unlike ones -/
def met (ys : List Str) (k : Key) : Bool := ys.any fun y => decide (k = .inr y)
theorem cntR_le : ∀ l : List Str, cntR l ≤ l.length
  | [] => Nat.le_refl _
  | y :: r => by
    have z := cntR_le r
    unfold cntR
    rw [List.length_cons]
    split <;> omega
theorem cnt_le (l : List Str) : cnt l ≤ l.length := by
  have z := cntR_le l.reverse
  rw [List.length_reverse] at z
  exact z
theorem met_mem {ys : List Str} {y : Str} : met ys (.inr y) = true ↔ y ∈ ys := by
  unfold met
  rw [List.any_eq_true]
  constructor
  · rintro ⟨z, hz, e⟩
    have := of_decide_eq_true e
    injection this with this
    rw [this]
    exact hz
  · intro h
    exact ⟨y, h, decide_eq_true rfl⟩
theorem met_snoc {ys : List Str} {y : Str} : met (ys ++ [y]) = fun j => met ys j || decide (j = .inr y) := by
  funext j
  unfold met
  rw [List.any_append]
  simp
theorem cntR_cons {y : Str} {r : List Str} : cntR (y :: r) = if y ∈ r then cntR r else cntR r + 1 := by rw [cntR]
theorem cnt_snoc {ys : List Str} {y : Str} : cnt (ys ++ [y]) = if met ys (.inr y) = true then cnt ys else cnt ys + 1 := by
  unfold cnt
  rw [List.reverse_append]
  show cntR (y :: ys.reverse) = _
  rw [cntR_cons]
  by_cases h : y ∈ ys
  · rw [if_pos (List.mem_reverse.mpr h), if_pos (met_mem.mpr h)]
  · rw [if_neg (fun z => h (List.mem_reverse.mp z)), if_neg (fun z => h (met_mem.mp z))]
def SO (P : Program) (w : World) (D : Addr) (ys : List Str) : HO := SetK P w D (met ys) (cnt ys)
variable {X : Cx} {pins : List (Addr × Obj)} {σ : L2.St} {H : Hp} {s : Shared}
/-- the next one comes in -/
theorem add_next {D : Addr} {ys : List Str} {y : Str} {u : Value} (I : Inv X pins σ H s) (hD : H D = some (SO X.prog X.w D ys)) (room : ys.length ≤ 1000) (r : RelV (V.str y) u) :
    wpAny (model X.prog X.w) X.A (call (.builtin "set.add") [.ref D, u]) (fun _ s' => Inv X pins σ (upd H D (SO X.prog X.w D (ys ++ [y]))) s') X.xe s := by
  have rm : cnt ys + 1 < scanBound := by
    have := cnt_le ys
    have e : (2000 : Nat) < scanBound := by decide
    omega
  refine thn (mt_saddK (X := X) pins s σ H (.ref D) [kV (.inr y)] (.ref D) [u]
    (fun v H' => H' = upd H D (SO X.prog X.w D (ys ++ [y]))) I rfl (.cons r .nil) ⟨D, .inr y, met ys, cnt ys, rfl, rfl, hD, rm, ?_⟩) fun v s' ⟨x, H', I', _, e⟩ => e ▸ I'
  unfold SO
  rw [met_snoc, cnt_snoc]
/-- an empty one -/
theorem none_yet {h : Heap} : (h.push { cls := .type "set", dict := none, data := .set #[] 0 (.fresh 0 0 (!X.w.params.followText "set-order")) }).SetOf (mixKind X.prog X.w) h.objs.size (met []) (cnt []) := by
  have e := Heap.get?_push_size (o := { cls := .type "set", dict := none, data := .set #[] 0 (.fresh 0 0 (!X.w.params.followText "set-order")) }) h rfl
  exact ⟨_, #[], 0, .fresh 0 0 (!X.w.params.followText "set-order"), e, ⟨rfl, rfl, rfl⟩, rfl, fun e he => by simp at he, fun k => by simp [met], by decide, rfl, rfl⟩
/-- len of such a set -/
theorem len_met : CallR X (.builtin "len") fun xs H Q => ∃ (D : Addr) (ys : List Str), xs = [.ref D] ∧ H D = some (SO X.prog X.w D ys) ∧ ys.length ≤ 1000 ∧ Q (.int (cnt ys)) H := by
  intro pins s σ H xs us Q I r ⟨D, ys, e, hD, hl, q⟩
  subst e
  obtain ⟨u, rfl, ru⟩ := vals1 r
  cases ru
  obtain ⟨o, es, ep, t, ho, hex, hd, _, _, _, hf, hn⟩ := setK_get I hD
  have := cnt_le ys
  exact call_len_set ho hex hd hf (by omega) ⟨.int (cnt ys), H, I.tok _, ⟨_, by rw [hn]⟩, q⟩
/-! ### the comprehension -/
abbrev tOne (X : Cx) (tl : TE) : TE := fun σ H Q => iTup X.K tl σ H fun J H1 => ∃ a ys, J = Itt X.K a ∧ SqT X.K H1 a (ys.map V.str) ∧ ys.length ≤ 1000 ∧ ∀ D, H1 D = none → Q (.ref D) (upd H1 D (SO X.prog X.w D ys))
/-- where the block's frame is gone and the iterator is spent, all is as before, but for the new set -/
abbrev Wst (X : Cx) (σ : L2.St) (D : Addr) (H : Hp) (ys : List Str) (Y : Cx) (tn : Nat → Heap → Prop) (fp : List Addr) (own : List Nat) (i : Nat) (s' : Shared) : Prop :=
  Inv Y [] (wipe σ own) (upd H D (SO X.prog X.w D (ys.take i))) s' ∧ tn i s'.heap ∧ ∀ b ∈ fp, (upd H D (SO X.prog X.w D (ys.take i))) b = none
theorem pe_scT {x : Str} {i : Nat} {iter : Expr} {scope : Scope} {px pe pos : Pos} {tl : TE} (hc : X.calm = true) (hN : X.N.Nodup) (hl : PE X iter tl) (ok : BlkOk X.N X.env.scope scope [(x, i)]) (hs : ∀ z, foldedSetIterable iter X.env z = pure z)
    (hg : ∀ (s : Shared) (H : Hp) (C : Addr) (cl : List (Str × Addr)) (fp : List Addr), PG (X.blk s H scope (compEnvC scope cl C X.env) fp) (.Name x px) (gName i))
    (he : ∀ (s : Shared) (H : Hp) (C : Addr) (cl : List (Str × Addr)) (fp : List Addr), PE (X.blk s H scope (compEnvC scope cl C X.env) fp) (.Name x pe) (tVar i)) :
    PE X (.SetComp (.Name x pe) [⟨.Name x px, iter, [], 0⟩] scope pos) (tOne X tl) := by
  refine ⟨fun pins s σ H Q I h => ?_⟩
  have has : ∀ y ∈ scope.names, y.2 = .free → ∃ c, X.env.cells.lookup y.1 = some c := fun y hy e => (ok.free y hy e).elim (fun k => I.ok.has _ (.inl k)) fun k => I.ok.has _ (.inr k)
  have ix : X.N[i]? = some x := ok.ix (x, i) (by simp)
  rw [PpSet.eval_SetComp]
  refine wpAny_comprehension_free (use := none) rfl hs (closure_ok has) ok.kind (fun y hy e => by rw [ok.uniq y hy, e]) (thn ((pi_tup hl (tg := .Name x px)).run pins s σ H _ I h) fun xv s1 hx => thn hx fun itv s2 hi => ?_)
  obtain ⟨it, fp, tn, J, H2, rfl, I2, T, st2, f2, a, ys, rfl, hq, hlen, q⟩ := hi
  refine PpSet.newSet_ok (newEnv_comp ?_)
  have hDn : H2 s2.heap.objs.size = none := I2.hok.fresh (Nat.le_refl _)
  have q := q _ hDn
  have I3 := I2.laid (a := s2.heap.objs.size) (o := SO X.prog X.w s2.heap.objs.size []) (t' := s2.toks) (fun b o e => Heap.get?_push_of_some _ e) (Nat.le_refl _) (setK_new none_yet)
  generalize hs3 : ({ s2 with heap := s2.heap.push { cls := .type "set", dict := none, data := .set #[] 0 (.fresh 0 0 (!X.w.params.followText "set-order")) } } : Shared) = s3 at I3 ⊢
  generalize hD : s2.heap.objs.size = D at hDn q I3 ⊢
  have sz3 : s3.heap.objs.size = D + 1 := by
    rw [← hs3, ← hD]
    exact Heap.size_push ..
  have old3 : ∀ b o, s2.heap.get? b = some o → s3.heap.get? b = some o := fun b o e => by
    rw [← hs3]
    exact Heap.get?_push_of_some _ e
  have low : ∀ b ∈ fp, b < D := fun b hb => by
    obtain ⟨o, e, _⟩ := T.obj _ _ st2 b hb
    rw [← hD]
    exact Heap.lt_size e
  have apart : ∀ b ∈ fp, ∀ zs, upd H2 D (SO X.prog X.w D zs) b = none := fun b hb zs => by
    rw [upd_ne (Nat.ne_of_lt (low b hb))]
    exact (f2 b hb).1
  have f3 : ∀ b ∈ fp, FpOk X pins (upd H2 D (SO X.prog X.w D [])) b ∧ b < s3.heap.objs.size := fun b hb =>
    ⟨⟨apart b hb _, (f2 b hb).2⟩, sz3 ▸ Nat.lt_succ_of_lt (low b hb)⟩
  have I4 := block_start I3 ok hN f3
  have G := hg s3 (upd H2 D (SO X.prog X.w D [])) s3.heap.objs.size (cellsFrom (s3.heap.objs.size + 1) scope.names (cloFrom X.env.cells scope.names [])) fp
  have R := he s3 (upd H2 D (SO X.prog X.w D [])) s3.heap.objs.size (cellsFrom (s3.heap.objs.size + 1) scope.names (cloFrom X.env.cells scope.names [])) fp
  show codeAny _ _ (.compStart _ 0 (.ref it) (.ref D) (compEnvC scope (cellsFrom (s3.heap.objs.size + 1) scope.names (cloFrom X.env.cells scope.names [])) s3.heap.objs.size X.env)) (compPost _ _ _ none _ _ s3.heap.objs.size) _
  generalize hce : compEnvC scope (cellsFrom (s3.heap.objs.size + 1) scope.names (cloFrom X.env.cells scope.names [])) s3.heap.objs.size X.env = ce at I4 G R ⊢
  have cL : ce.locals = s3.heap.objs.size := by
    rw [← hce]
    rfl
  generalize hs4 : ({ s3 with heap := pushCells (s3.heap.push { cls := .type "dict", data := .dict #[] }) scope.names } : Shared) = s4 at I4 ⊢
  have st4 : tn 0 s4.heap := T.keep 0 s2.heap s4.heap st2 fun b _ o e => by
    rw [← hs4]
    exact pushCells_keeps _ _ _ _ (Heap.get?_push_of_some _ (old3 b o e))
  have sub : ∀ zs, TC.Sub H2 (upd H2 D (SO X.prog X.w D zs)) := fun zs b o e => by
    have ne : b ≠ D := fun z => by
      rw [z, hDn] at e
      cases e
    rw [upd_ne ne]
    exact e
  have fpk : ∀ {τ : L2.St} {zs : List Str} {s' : Shared}, Inv (X.blk s3 (upd H2 D (SO X.prog X.w D [])) scope ce fp) [] τ (upd H2 D (SO X.prog X.w D zs)) s' → ∀ b ∈ fp, FpOk (X.blk s3 (upd H2 D (SO X.prog X.w D [])) scope ce fp) [] (upd H2 D (SO X.prog X.w D zs)) b := fun {τ zs s'} J b hb =>
    ⟨apart b hb _, (J.ok.exf b hb).1, J.ok.exfs b hb, Or.inl hb, (J.ok.exf b hb).2, fun p hp => (List.not_mem_nil hp).elim⟩
  have loop : codeAny (model X.prog X.w) X.A (.compLoop (.SetComp (.Name x pe) [⟨.Name x px, iter, [], 0⟩] scope pos) 0 (.ref it) (.ref D) ce) (compPost (model X.prog X.w) X.A X.xe none (EP X pins σ Q) (.ref D) s3.heap.objs.size) s4 := by
    refine PpSet.compLoopS_any (fun n s' => ∃ k, n = ys.length - k ∧ k ≤ ys.length ∧ Inv (X.blk s3 (upd H2 D (SO X.prog X.w D [])) scope ce fp) [] (wipe σ [i]) (upd H2 D (SO X.prog X.w D (ys.take k))) s' ∧ tn k s'.heap) ?_ ys.length ⟨0, rfl, Nat.zero_le _, I4, st4⟩
    rintro n s5 ⟨k, rfl, hk, I5, st5⟩
    have hq5 := TC.Sub.sqT (sub (ys.take k)) hq
    by_cases lt : k < ys.length
    · have go : (Itt X.K a).go k (upd H2 D (SO X.prog X.w D (ys.take k))) := ⟨_, V.str ys[k], hq5, by simp [lt]⟩
      have off := fpk I5
      refine thnF (T.item (X.blk s3 (upd H2 D (SO X.prog X.w D [])) scope ce fp) rfl rfl rfl hc k [] s5 _ _ (fun _ _ => False) I5 off st5 go) fun r s6 ⟨u, er, nx⟩ => ?_
      subst er
      refine thnF nx fun _ s7 ⟨v, H7, I7, rv, yl, st7, n7⟩ => ?_
      obtain ⟨e7, at7⟩ := yl
      subst e7
      have ev : v = V.str ys[k] := by
        have z := at7 _ hq5
        rw [List.getElem?_map, List.getElem?_eq_getElem lt] at z
        exact (Option.some.inj z).symm
      subst ev
      have P7 := I7.pinned (fpk I7) (T.obj _ _ st7)
      refine thnF (G.run _ s7 _ _ _ u (fun σ8 H8 => σ8 = (wipe σ [i]).set i (some (V.str ys[k])) ∧ H8 = upd H2 D (SO X.prog X.w D (ys.take k))) P7 rv ⟨rfl, rfl⟩) fun _ s8 ⟨σ8, H8, P8, e8, h8⟩ => ?_
      rw [List.forIn_nil]
      refine wpAny_pure ?_
      rw [if_pos rfl]
      have il : i < σ.length := by
        have := (List.getElem?_eq_some_iff.mp ix).1
        have z := I.len
        omega
      have wl : (wipe σ [i]).length = σ.length := wipe_length σ [i]
      have at8 : σ8[i]? = some (some (V.str ys[k])) := by
        rw [e8, List.getElem?_set_self (by omega)]
      refine thnF (R.run _ s8 σ8 H8 (fun v H9 => v = V.str ys[k] ∧ H9 = H8) P8 ⟨_, at8, rfl, rfl⟩) fun z s9 ⟨v, H9, P9, rz, ev, eh⟩ => ?_
      subst ev
      subst eh
      subst h8
      refine thnF (add_next (ys := ys.take k) (D := D) P9 upd_same (by rw [List.length_take]; omega) rz) fun _ s10 P10 => ?_
      have tk : ys.take (k + 1) = ys.take k ++ [ys[k]] := by
        rw [List.take_succ, List.getElem?_eq_getElem lt]
        rfl
      rw [upd_upd, ← tk] at P10
      refine ⟨ys.length - (k + 1), by omega, k + 1, rfl, lt, (P10.unpinned (pins := [])).weak (by rw [e8, List.length_set]) fun j v e => ?_, T.keep (k + 1) s7.heap s10.heap st7 fun b hb o e => (P10.pin (b, o) (List.mem_append_right _ (List.mem_append_right _ (mem_pinsAt hb e)))).1⟩
      have ne : i ≠ j := fun q => (wipe_some (vs := [i]) e).2 (by simp [q])
      rw [e8, List.getElem?_set_ne ne]
      exact e
    · have e : k = ys.length := by omega
      subst e
      rw [List.take_length] at I5 hq5
      refine thnF (T.done (X.blk s3 (upd H2 D (SO X.prog X.w D [])) scope ce fp) rfl rfl rfl hc ys.length [] s5 _ _ (fun _ _ => False) I5 (fpk I5) st5 ⟨_, hq5, by rw [List.length_map]; exact Nat.le_refl _⟩) fun r s6 ⟨er, I6⟩ => ?_
      subst er
      have I7 : Inv X pins σ (upd H2 D (SO X.prog X.w D ys)) s6 := I3.call' (ch := fp) I6.os I6.base I6.hok I6.bare fun b hb => by
        obtain ⟨_, n1, _, n3, n4, n5⟩ := (f3 b hb).1
        exact ⟨n3, n1, n4, n5⟩
      have nC : (upd H2 D (SO X.prog X.w D ys)) s3.heap.objs.size = none := by
        have z := I6.free
        rw [show (X.blk s3 (upd H2 D (SO X.prog X.w D [])) scope ce fp).env.locals = s3.heap.objs.size from cL] at z
        exact z
      obtain ⟨m, hm, _⟩ := I6.loc
      have hm : s6.heap.Ns s3.heap.objs.size m := cL ▸ hm
      obtain ⟨g0, g1, g2, g3, g4, g5⟩ := I3.fpOk (Nat.le_refl _) nC
      exact ⟨m, hm, fun h' sb => ⟨.ref D, _, I7.turned (t' := s6.toks) (fun b o hb e => (sb.2 b hb).trans e) g0 g1 g3 g4 g5, rfl, q⟩⟩
  exact PpSet.codeAny_compStart_set loop (T.self X.A 0 _ _ _ st4 loop)
end TS

set_option Elab.async false
set_option linter.all false
set_option maxRecDepth 100000
set_option maxHeartbeats 4000000
/-! zip of a list and a text -/
namespace TZ
open PySem L2 PySem.Spec
/-- an iterator over a list that has nothing more -/
theorem spent {prog : Program} {w : World} {A : Around} (hh : A.handled = none) (it l : Addr) (items : Array Value) (N : Nat) (h : items.size ≤ N) :
    Draws prog w A it [it, l] N (fun _ _ => True) (fun j g => j = N ∧ g.IsListIter it l N ∧ g.IsList l items) where
  live := fun j g st => let ⟨o, ho, _⟩ := st.2.1; ⟨o, ho⟩
  frame := fun j g g' st hk => ⟨st.1, st.2.1.at fun o e => hk it (by simp) o e, st.2.2.at fun o e => hk l (by simp) o e⟩
  item := fun j s Q E hj st hQ => absurd st.1 (Nat.ne_of_lt hj)
  done := fun s Q E st hE => wpAny_nextOf_list_end hh st.2.1 st.2.2 (by simp; omega) hE
/-- the list at a, the text z -/
def ItS (K : PySem.W.Frag) (a : Addr) (z : Str) : It where
  go := fun i H => ∃ (xs : List V) (x : V), SqL K H a xs ∧ xs[i]? = some x ∧ i < z.cps.size
  yld := fun i H v H' => ∃ T x c, v = .ref T ∧ H T = none ∧ H' = upd H T (.tup [x, .str ⟨#[c]⟩]) ∧ (∀ xs, SqL K H a xs → xs[i]? = some x) ∧ z.cps[i]? = some c
  stop := fun i H => ∃ xs : List V, SqL K H a xs ∧ (xs.length ≤ i ∨ z.cps.size ≤ i)
/-- how the five cells stand -/
def Zs (a : Addr) (z : Str) (t : Tok) (zz TI TO i1 i2 : Addr) (i : Nat) (h : Heap) : Prop :=
  IsZip h zz TI TO .none ∧ IsTupOf2 h TI (.ref i1) (.ref i2) ∧ (∃ u v, IsTupOf2 h TO u v) ∧ h.IsListIter i1 a i ∧ h.IsStrIter i2 (strIterType z) z t i ∧ i ≤ z.cps.size
variable {P : Program} {w : World} {K : PySem.W.Frag} {elts : List Expr} {kk : Nat} {tpos : Pos} {a zz TI TO i1 i2 : Addr} {z : Str} {t : Tok}
theorem turn_ls (S : ZipSep2 zz TI TO i1 i2 [i1, a] [i2]) : Turn P w K (.Tuple elts kk tpos) (ItS K a z) [zz, TI, TO, i1, i2] zz (Zs a z t zz TI TO i1 i2) where
  mem := by simp
  obj := fun i h st c hc => by
    obtain ⟨q1, q2, ⟨u, v, q3⟩, ⟨o1, e1, _, d1⟩, ⟨o2, e2, _, d2⟩, _⟩ := st
    simp only [List.mem_cons, List.not_mem_nil, or_false] at hc
    rcases hc with rfl | rfl | rfl | rfl | rfl
    · exact ⟨_, q1, nofun⟩
    · exact ⟨_, q2, nofun⟩
    · exact ⟨_, q3, nofun⟩
    · exact ⟨o1, e1, fun v q => by rw [d1] at q; cases q⟩
    · exact ⟨o2, e2, fun v q => by rw [d2] at q; cases q⟩
  keep := fun i h h' st k => by
    obtain ⟨q1, q2, ⟨u, v, q3⟩, q4, q5, q6⟩ := st
    exact ⟨k zz (by simp) _ q1, k TI (by simp) _ q2, ⟨u, v, k TO (by simp) _ q3⟩, q4.at fun o q => k i1 (by simp) o q, (let ⟨o, ho, r⟩ := q5; ⟨o, k i2 (by simp) o ho, r⟩), q6⟩
  item := by
    intro X hP hw hK hc i pins s σ H E I hf st hg
    subst hP hw hK
    obtain ⟨q1, q2, ⟨u0, v0, q3⟩, q4, q5, q6⟩ := st
    obtain ⟨xs, x, hq, hx, hz⟩ := hg
    obtain ⟨its, rv, p, _⟩ := I.list hq
    obtain ⟨u, hu, ru⟩ := rv.get hx
    have hi1 : i < its.toArray.size := by
      have := (List.getElem?_eq_some_iff.mp hu).1
      simpa using this
    have na : a ≠ i1 := fun e => by
      have e1 := (hf i1 (by simp)).1
      obtain ⟨o, ho, hcl, hd⟩ := q4
      obtain ⟨o2, ho2, hcl2, _⟩ := p.isList
      rw [e, ho] at ho2
      cases ho2
      rw [hcl] at hcl2
      injection hcl2 with q
      exact absurd q (by decide)
    have D1 := Draws.list (prog := X.prog) (w := X.w) (A := X.A.in1) (I.ok.hd hc) i1 a na its.toArray
    have D2 := Draws.text (prog := X.prog) (w := X.w) (A := X.A.in1) (I.ok.hd hc) i2 z t
    have lt : ∀ {c : Addr} {o : Obj}, s.heap.get? c = some o → c < s.heap.objs.size := fun e => Heap.lt_size e
    refine wpAny_pyNext_zipD2_item S D1 D2 q1 q2 q3 ⟨q4, p.isList⟩ q5 hi1 hz fun x1 x2 h' tk y1 y2 b1 b2 d1 d2 b5 b6 hk => ?_
    obtain ⟨c, uc, hcz, rfl⟩ := y2
    have ex : x1 = u := by
      have q : its.toArray[i]? = some x1 := y1
      have q' : its.toArray[i]? = some u := by simpa using hu
      rw [q'] at q
      exact (Option.some.inj q).symm
    subst ex
    refine ⟨_, rfl, wpAny_letOwnedTupleGo_zip (s := { s with heap := h', toks := tk }) b1 fun h'' z'' sb => ?_⟩
    have hT2 : h''.get? s.heap.objs.size = some { cls := .type "tuple", data := .seq #[x1, .str ⟨#[c]⟩ uc] } := (sb.2 _ (Nat.ne_of_gt (lt q1))).trans b5
    have rs : RelV (V.str ⟨#[c]⟩) (.str ⟨#[c]⟩ uc) := ⟨uc, rfl⟩
    have new : ObjOk X.prog X.w (upd H s.heap.objs.size (.tup [x, .str ⟨#[c]⟩])) h'' s.heap.objs.size (.tup [x, .str ⟨#[c]⟩]) := by
      refine ⟨?_, [x1, .str ⟨#[c]⟩ uc], .cons ru (.cons rs .nil), ⟨_, hT2, rfl, _, rfl⟩⟩
      show 2 ≤ sizeLine
      decide
    have I1 := I.turnedNew (t' := tk) (ch := [zz, TI, TO, i1, i2]) (T := s.heap.objs.size) (fun d o nd e => by
      simp only [List.mem_cons, List.not_mem_nil, or_false, not_or] at nd
      exact (sb.2 d nd.1).trans (hk d o nd.1 nd.2.2.1 nd.2.2.2.1 nd.2.2.2.2 e)) hf (Nat.le_refl _) new
    refine ⟨.ref s.heap.objs.size, _, I1, rfl, ⟨_, x, c, rfl, I.hok.fresh (Nat.le_refl _), rfl, fun l hl => by rw [I.list_inj hl hq]; exact hx, hcz⟩, ⟨z'', ?_, ⟨x1, .str ⟨#[c]⟩ uc, ?_⟩, ?_, ?_, hz⟩, fun d hd => ?_⟩
    · exact (sb.2 _ S.TIz).trans (hk _ _ S.TIz S.TITO S.TIi1 S.TIi2 q2)
    · exact (sb.2 _ S.TOz).trans b2
    · exact d1.1.at fun o q => (sb.2 _ (Ne.symm S.zi1)).trans q
    · obtain ⟨o, ho, r⟩ := d2
      exact ⟨o, (sb.2 _ (Ne.symm S.zi2)).trans ho, r⟩
    · have ld : d < s.heap.objs.size := by
        simp only [List.mem_cons, List.not_mem_nil, or_false] at hd
        rcases hd with rfl | rfl | rfl | rfl | rfl
        · exact lt q1
        · exact lt q2
        · exact lt q3
        · exact lt q4.choose_spec.1
        · exact lt q5.choose_spec.1
      rw [upd_ne (Nat.ne_of_lt ld)]
      exact (hf d hd).1
  done := by
    intro X hP hw hK hc i pins s σ H E I hf st hg
    subst hP hw hK
    obtain ⟨q1, q2, ⟨u0, v0, q3⟩, q4, q5, q6⟩ := st
    obtain ⟨xs, hq, he⟩ := hg
    obtain ⟨its, rv, p, _⟩ := I.list hq
    have lx : its.toArray.size = xs.length := by
      rw [List.size_toArray, ← rv.length]
    have D2 := Draws.text (prog := X.prog) (w := X.w) (A := X.A.in1) (I.ok.hd hc) i2 z t
    have fin : ∀ (h' : Heap) (tk : Nat), (∀ c o, c ≠ zz → c ≠ TO → c ≠ i1 → c ≠ i2 → s.heap.get? c = some o → h'.get? c = some o) → (none : Option Value) = none ∧ Inv X pins σ H { s with heap := h', toks := tk } := fun h' tk hk =>
      ⟨rfl, I.turnedL (ch := [zz, TI, TO, i1, i2]) (fun d o nd e => by
        simp only [List.mem_cons, List.not_mem_nil, or_false, not_or] at nd
        exact hk d o nd.1 nd.2.2.1 nd.2.2.2.1 nd.2.2.2.2 e) hf⟩
    by_cases le : xs.length ≤ i
    · have D1 := spent (prog := X.prog) (w := X.w) (A := X.A.in1) (I.ok.hd hc) i1 a its.toArray i (by omega)
      exact wpAny_pyNext_zipD2_end S D1 D2 q1 q2 q3 ⟨rfl, q4, p.isList⟩ q5 (Nat.le_refl _) q6 (.inl rfl) fun h' tk hk => fin h' tk hk
    · have ez : i = z.cps.size := by
        rcases he with e | e
        · exact absurd e le
        · omega
      have na : a ≠ i1 := fun e => by
        obtain ⟨o, ho, hcl, hd⟩ := q4
        obtain ⟨o2, ho2, hcl2, _⟩ := p.isList
        rw [e, ho] at ho2
        cases ho2
        rw [hcl] at hcl2
        injection hcl2 with q
        exact absurd q (by decide)
      have D1 := Draws.list (prog := X.prog) (w := X.w) (A := X.A.in1) (I.ok.hd hc) i1 a na its.toArray
      exact wpAny_pyNext_zipD2_end S D1 D2 q1 q2 q3 ⟨q4, p.isList⟩ q5 (by omega) q6 (.inr ez) fun h' tk hk => fin h' tk hk
  self := fun A i s Q E st h => wpAny_pyIter_zip st.1 h
/-! zip of a tuple and a list -/
theorem spentU {prog : Program} {w : World} {A : Around} (hh : A.handled = none) (it t : Addr) (items : Array Value) (N : Nat) (h : items.size ≤ N) :
    Draws prog w A it [it, t] N (fun _ _ => True) (fun j g => j = N ∧ g.IsTupleIter it t N ∧ g.IsTuple t items) where
  live := fun j g st => let ⟨o, ho, _⟩ := st.2.1; ⟨o, ho⟩
  frame := fun j g g' st hk => ⟨st.1, st.2.1.at fun o e => hk it (by simp) o e, st.2.2.at fun o e => hk t (by simp) o e⟩
  item := fun j s Q E hj st hQ => absurd st.1 (Nat.ne_of_lt hj)
  done := fun s Q E st hE => wpAny_nextOf_tuple_end hh st.2.1 st.2.2 (by simp; omega) hE
/-- the tuple at a, the list at b -/
def ItTL (K : PySem.W.Frag) (a b : Addr) : It where
  go := fun i H => ∃ (xs ys : List V) (x y : V), SqT K H a xs ∧ SqL K H b ys ∧ xs[i]? = some x ∧ ys[i]? = some y
  yld := fun i H v H' => ∃ T x y, v = .ref T ∧ H T = none ∧ H' = upd H T (.tup [x, y]) ∧ (∀ xs, SqT K H a xs → xs[i]? = some x) ∧ ∀ ys, SqL K H b ys → ys[i]? = some y
  stop := fun i H => ∃ xs ys : List V, SqT K H a xs ∧ SqL K H b ys ∧ (xs.length ≤ i ∨ ys.length ≤ i)
/-- how the five cells stand -/
def Ztl (a b : Addr) (zz TI TO i1 i2 : Addr) (i : Nat) (h : Heap) : Prop :=
  IsZip h zz TI TO .none ∧ IsTupOf2 h TI (.ref i1) (.ref i2) ∧ (∃ u v, IsTupOf2 h TO u v) ∧ h.IsTupleIter i1 a i ∧ h.IsListIter i2 b i
theorem cls_ne {h : Heap} {a c : Addr} {A B : String} (h1 : ∃ o, h.get? a = some o ∧ o.cls = .type A) (h2 : ∃ o, h.get? c = some o ∧ o.cls = .type B) (n : A ≠ B) : a ≠ c := fun e => by
  obtain ⟨o, ho, hc⟩ := h1
  obtain ⟨o2, ho2, hc2⟩ := h2
  rw [e, ho2] at ho
  cases ho
  rw [hc] at hc2
  injection hc2 with q
  exact n q
theorem turn_tl {b : Addr} (S : ZipSep2 zz TI TO i1 i2 [i1, a] [i2, b]) : Turn P w K (.Tuple elts kk tpos) (ItTL K a b) [zz, TI, TO, i1, i2] zz (Ztl a b zz TI TO i1 i2) where
  mem := by simp
  obj := fun i h st c hc => by
    obtain ⟨q1, q2, ⟨u, v, q3⟩, ⟨o1, e1, _, d1⟩, ⟨o2, e2, _, d2⟩⟩ := st
    simp only [List.mem_cons, List.not_mem_nil, or_false] at hc
    rcases hc with rfl | rfl | rfl | rfl | rfl
    · exact ⟨_, q1, nofun⟩
    · exact ⟨_, q2, nofun⟩
    · exact ⟨_, q3, nofun⟩
    · exact ⟨o1, e1, fun v q => by rw [d1] at q; cases q⟩
    · exact ⟨o2, e2, fun v q => by rw [d2] at q; cases q⟩
  keep := fun i h h' st k => by
    obtain ⟨q1, q2, ⟨u, v, q3⟩, q4, q5⟩ := st
    exact ⟨k zz (by simp) _ q1, k TI (by simp) _ q2, ⟨u, v, k TO (by simp) _ q3⟩, q4.at fun o q => k i1 (by simp) o q, q5.at fun o q => k i2 (by simp) o q⟩
  item := by
    intro X hP hw hK hc i pins s σ H E I hf st hg
    subst hP hw hK
    obtain ⟨q1, q2, ⟨u0, v0, q3⟩, q4, q5⟩ := st
    obtain ⟨xs, ys, x, y, hq, hq2, hx, hy⟩ := hg
    obtain ⟨its, rv, p, _⟩ := I.tuple hq
    obtain ⟨its2, rv2, p2, _⟩ := I.list hq2
    obtain ⟨u, hu, ru⟩ := rv.get hx
    obtain ⟨u2, hu2, ru2⟩ := rv2.get hy
    have hi1 : i < its.toArray.size := by
      have := (List.getElem?_eq_some_iff.mp hu).1
      simpa using this
    have hi2 : i < its2.toArray.size := by
      have := (List.getElem?_eq_some_iff.mp hu2).1
      simpa using this
    have na : a ≠ i1 := cls_ne (let ⟨o, ho, hc, _⟩ := p; ⟨o, ho, hc⟩) (let ⟨o, ho, hc, _⟩ := q4; ⟨o, ho, hc⟩) (by decide)
    have nb : b ≠ i2 := cls_ne (let ⟨o, ho, hc, _⟩ := p2.isList; ⟨o, ho, hc⟩) (let ⟨o, ho, hc, _⟩ := q5; ⟨o, ho, hc⟩) (by decide)
    have D1 := Draws.tuple (prog := X.prog) (w := X.w) (A := X.A.in1) (I.ok.hd hc) i1 a na its.toArray
    have D2 := Draws.list (prog := X.prog) (w := X.w) (A := X.A.in1) (I.ok.hd hc) i2 b nb its2.toArray
    have lt : ∀ {c : Addr} {o : Obj}, s.heap.get? c = some o → c < s.heap.objs.size := fun e => Heap.lt_size e
    refine wpAny_pyNext_zipD2_item S D1 D2 q1 q2 q3 ⟨q4, p⟩ ⟨q5, p2.isList⟩ hi1 hi2 fun x1 x2 h' tk y1 y2 b1 b2 d1 d2 b5 b6 hk => ?_
    have ex : x1 = u := by
      have q : its.toArray[i]? = some x1 := y1
      have q' : its.toArray[i]? = some u := by simpa using hu
      rw [q'] at q
      exact (Option.some.inj q).symm
    have ex2 : x2 = u2 := by
      have q : its2.toArray[i]? = some x2 := y2
      have q' : its2.toArray[i]? = some u2 := by simpa using hu2
      rw [q'] at q
      exact (Option.some.inj q).symm
    subst ex ex2
    refine ⟨_, rfl, wpAny_letOwnedTupleGo_zip (s := { s with heap := h', toks := tk }) b1 fun h'' z'' sb => ?_⟩
    have hT2 : h''.get? s.heap.objs.size = some { cls := .type "tuple", data := .seq #[x1, x2] } := (sb.2 _ (Nat.ne_of_gt (lt q1))).trans b5
    have new : ObjOk X.prog X.w (upd H s.heap.objs.size (.tup [x, y])) h'' s.heap.objs.size (.tup [x, y]) := by
      refine ⟨?_, [x1, x2], .cons ru (.cons ru2 .nil), ⟨_, hT2, rfl, _, rfl⟩⟩
      show 2 ≤ sizeLine
      decide
    have I1 := I.turnedNew (t' := tk) (ch := [zz, TI, TO, i1, i2]) (T := s.heap.objs.size) (fun d o nd e => by
      simp only [List.mem_cons, List.not_mem_nil, or_false, not_or] at nd
      exact (sb.2 d nd.1).trans (hk d o nd.1 nd.2.2.1 nd.2.2.2.1 nd.2.2.2.2 e)) hf (Nat.le_refl _) new
    refine ⟨.ref s.heap.objs.size, _, I1, rfl, ⟨_, x, y, rfl, I.hok.fresh (Nat.le_refl _), rfl, fun l hl => by rw [I.tuple_inj hl hq]; exact hx, fun l hl => by rw [I.list_inj hl hq2]; exact hy⟩, ⟨z'', ?_, ⟨x1, x2, ?_⟩, ?_, ?_⟩, fun d hd => ?_⟩
    · exact (sb.2 _ S.TIz).trans (hk _ _ S.TIz S.TITO S.TIi1 S.TIi2 q2)
    · exact (sb.2 _ S.TOz).trans b2
    · exact d1.1.at fun o q => (sb.2 _ (Ne.symm S.zi1)).trans q
    · exact d2.1.at fun o q => (sb.2 _ (Ne.symm S.zi2)).trans q
    · have ld : d < s.heap.objs.size := by
        simp only [List.mem_cons, List.not_mem_nil, or_false] at hd
        rcases hd with rfl | rfl | rfl | rfl | rfl
        · exact lt q1
        · exact lt q2
        · exact lt q3
        · exact lt q4.choose_spec.1
        · exact lt q5.choose_spec.1
      rw [upd_ne (Nat.ne_of_lt ld)]
      exact (hf d hd).1
  done := by
    intro X hP hw hK hc i pins s σ H E I hf st hg
    subst hP hw hK
    obtain ⟨q1, q2, ⟨u0, v0, q3⟩, q4, q5⟩ := st
    obtain ⟨xs, ys, hq, hq2, he⟩ := hg
    obtain ⟨its, rv, p, _⟩ := I.tuple hq
    obtain ⟨its2, rv2, p2, _⟩ := I.list hq2
    have lx : its.toArray.size = xs.length := by
      rw [List.size_toArray, ← rv.length]
    have ly : its2.toArray.size = ys.length := by
      rw [List.size_toArray, ← rv2.length]
    have na : a ≠ i1 := cls_ne (let ⟨o, ho, hc, _⟩ := p; ⟨o, ho, hc⟩) (let ⟨o, ho, hc, _⟩ := q4; ⟨o, ho, hc⟩) (by decide)
    have nb : b ≠ i2 := cls_ne (let ⟨o, ho, hc, _⟩ := p2.isList; ⟨o, ho, hc⟩) (let ⟨o, ho, hc, _⟩ := q5; ⟨o, ho, hc⟩) (by decide)
    have fin : ∀ (h' : Heap) (tk : Nat), (∀ c o, c ≠ zz → c ≠ TO → c ≠ i1 → c ≠ i2 → s.heap.get? c = some o → h'.get? c = some o) → (none : Option Value) = none ∧ Inv X pins σ H { s with heap := h', toks := tk } := fun h' tk hk =>
      ⟨rfl, I.turnedL (ch := [zz, TI, TO, i1, i2]) (fun d o nd e => by
        simp only [List.mem_cons, List.not_mem_nil, or_false, not_or] at nd
        exact hk d o nd.1 nd.2.2.1 nd.2.2.2.1 nd.2.2.2.2 e) hf⟩
    by_cases le : xs.length ≤ i
    · have D1 := spentU (prog := X.prog) (w := X.w) (A := X.A.in1) (I.ok.hd hc) i1 a its.toArray i (by omega)
      by_cases le2 : ys.length ≤ i
      · have D2 := spent (prog := X.prog) (w := X.w) (A := X.A.in1) (I.ok.hd hc) i2 b its2.toArray i (by omega)
        exact wpAny_pyNext_zipD2_end S D1 D2 q1 q2 q3 ⟨rfl, q4, p⟩ ⟨rfl, q5, p2.isList⟩ (Nat.le_refl _) (Nat.le_refl _) (.inl rfl) fun h' tk hk => fin h' tk hk
      · have D2 := Draws.list (prog := X.prog) (w := X.w) (A := X.A.in1) (I.ok.hd hc) i2 b nb its2.toArray
        exact wpAny_pyNext_zipD2_end S D1 D2 q1 q2 q3 ⟨rfl, q4, p⟩ ⟨q5, p2.isList⟩ (Nat.le_refl _) (by omega) (.inl rfl) fun h' tk hk => fin h' tk hk
    · have D1 := Draws.tuple (prog := X.prog) (w := X.w) (A := X.A.in1) (I.ok.hd hc) i1 a na its.toArray
      have D2 := spent (prog := X.prog) (w := X.w) (A := X.A.in1) (I.ok.hd hc) i2 b its2.toArray i (by omega)
      exact wpAny_pyNext_zipD2_end S D1 D2 q1 q2 q3 ⟨q4, p⟩ ⟨rfl, q5, p2.isList⟩ (by omega) (Nat.le_refl _) (.inr rfl) fun h' tk hk => fin h' tk hk
  self := fun A i s Q E st h => wpAny_pyIter_zip st.1 h
/-- what zip is called with, and what is gone through then -/
inductive Two (K : PySem.W.Frag) (H : Hp) : List V → It → Prop where
  | ll {a b : Addr} {xs ys : List V} : SqL K H a xs → SqL K H b ys → Two K H [.ref a, .ref b] (Itz K a b)
  | tt {a b : Addr} {xs ys : List V} : SqT K H a xs → SqT K H b ys → Two K H [.ref a, .ref b] (RZ.ItzT K a b)
  | tl {a b : Addr} {xs ys : List V} : SqT K H a xs → SqL K H b ys → Two K H [.ref a, .ref b] (ItTL K a b)
  | ls {a : Addr} {z : Str} {xs : List V} : SqL K H a xs → Two K H [.ref a, .str z] (ItS K a z)
def iTwo (K : PySem.W.Frag) (ta : TA) : L2.TI := fun σ H R => ta σ H fun vs H1 => ∃ J, Two K H1 vs J ∧ R J H1
abbrev cells (N : Nat) : List Addr := [N + 4, N + 2, N + 3, N, N + 1]
theorem cells_new {X : Cx} {pins : List (Addr × Obj)} {σ : L2.St} {H : Hp} {s : Shared} (I : Inv X pins σ H s) : ∀ c ∈ cells s.heap.objs.size, FpOk X pins H c := fun c hc => by
  have le : s.heap.objs.size ≤ c := by
    simp only [List.mem_cons, List.not_mem_nil, or_false] at hc
    rcases hc with rfl | rfl | rfl | rfl | rfl <;> simp
  exact I.fpOk le (I.hok.fresh le)
theorem pi_two {X : Cx} {e e2 : Expr} {ta : TA} {p pos : Pos} (hg : Gl X "zip") (hm : X.mg "zip" = none) (ha : PA X [e, e2] ta)
    (hs : starEach [e, e2] X.env = (false, eval e X.env) :: starEach [e2] X.env) (hpl : (backTo pos (starEach [e2] X.env)).any (·.1) = false) :
    PI X (.Tuple elts kk tpos) (.Call (.Name "zip" p) [e, e2] [] pos) (iTwo X.K ta) := by
  refine ⟨fun pins s σ H R I h => PyProof.Rows.Call_ (ld_blt I hg hm PyProof.Rows.boot_zip (PyProof.Rows.callWith_type1 (thn (ha.run pos pins s σ H _ I h) fun us s1 q0 => ?_) hs hpl))⟩
  obtain ⟨vs, H1, I1, r1, J, hJ, q⟩ := q0
  have go : ∀ {h' : Heap} {tn : Nat → Heap → Prop}, (∀ c o, s1.heap.get? c = some o → h'.get? c = some o) → Turn X.prog X.w X.K (.Tuple elts kk tpos) J (cells s1.heap.objs.size) (s1.heap.objs.size + 4) tn → tn 0 h' → PIE X pins σ (.Tuple elts kk tpos) R (.ref (s1.heap.objs.size + 4)) { s1 with heap := h' } :=
    fun {h' tn} hk T st => ⟨_, _, tn, J, H1, rfl, I1.kept (t' := s1.toks) hk, T, st, cells_new I1, q⟩
  cases hJ with
  | ll hx hy =>
    obtain ⟨u, us, rfl, ra, r2⟩ : ∃ u us', us = u :: us' ∧ RelV (.ref _) u ∧ Vals [V.ref _] us' := by
      cases r1 with
      | cons r rr => exact ⟨_, _, rfl, r, rr⟩
    obtain ⟨u2, rfl, rb⟩ := vals1 r2
    cases ra
    cases rb
    obtain ⟨xi, _, px, _⟩ := I1.list hx
    obtain ⟨yi, _, py, _⟩ := I1.list hy
    exact zip_begins2 (begins_list _ xi.toArray) (begins_list _ yi.toArray) px.isList py.isList fun h' hz hT hO h1 h2 _ hk => wpAny_pyIter_zip hz (go hk (turn_zip (PySem.W.ktu_apart _ _ _ px.lt py.lt)) ⟨hz, hT, ⟨_, _, hO⟩, ⟨_, h1, rfl, rfl⟩, ⟨_, h2, rfl, rfl⟩⟩)
  | tt hx hy =>
    obtain ⟨u, us, rfl, ra, r2⟩ : ∃ u us', us = u :: us' ∧ RelV (.ref _) u ∧ Vals [V.ref _] us' := by
      cases r1 with
      | cons r rr => exact ⟨_, _, rfl, r, rr⟩
    obtain ⟨u2, rfl, rb⟩ := vals1 r2
    cases ra
    cases rb
    obtain ⟨xi, _, px, _⟩ := I1.tuple hx
    obtain ⟨yi, _, py, _⟩ := I1.tuple hy
    have lx := Heap.lt_size px.choose_spec.1
    have ly := Heap.lt_size py.choose_spec.1
    exact zip_begins2 (begins_tuple _ xi.toArray) (begins_tuple _ yi.toArray) px py fun h' hz hT hO h1 h2 _ hk => wpAny_pyIter_zip hz (go hk (RZ.turn_zipT (PySem.W.ktu_apart _ _ _ lx ly)) ⟨hz, hT, ⟨_, _, hO⟩, ⟨_, h1, rfl, rfl⟩, ⟨_, h2, rfl, rfl⟩⟩)
  | tl hx hy =>
    rename_i a b xs ys
    obtain ⟨u, us, rfl, ra, r2⟩ : ∃ u us', us = u :: us' ∧ RelV (.ref a) u ∧ Vals [V.ref b] us' := by
      cases r1 with
      | cons r rr => exact ⟨_, _, rfl, r, rr⟩
    obtain ⟨u2, rfl, rb⟩ := vals1 r2
    cases ra
    cases rb
    obtain ⟨xi, _, px, _⟩ := I1.tuple hx
    obtain ⟨yi, _, py, _⟩ := I1.list hy
    have lx := Heap.lt_size px.choose_spec.1
    have S := zip_sep2 (N := s1.heap.objs.size) (fp1 := [a]) (fp2 := [b]) (fun c hc => by rw [List.mem_singleton.mp hc]; exact lx) (fun c hc => by rw [List.mem_singleton.mp hc]; exact py.lt)
    exact zip_begins2 (begins_tuple _ xi.toArray) (begins_list _ yi.toArray) px py.isList fun h' hz hT hO h1 h2 _ hk => wpAny_pyIter_zip hz (go hk (turn_tl S) ⟨hz, hT, ⟨_, _, hO⟩, ⟨_, h1, rfl, rfl⟩, ⟨_, h2, rfl, rfl⟩⟩)
  | ls hx =>
    rename_i a z xs
    obtain ⟨u, us, rfl, ra, r2⟩ : ∃ u us', us = u :: us' ∧ RelV (.ref a) u ∧ Vals [V.str z] us' := by
      cases r1 with
      | cons r rr => exact ⟨_, _, rfl, r, rr⟩
    obtain ⟨u2, rfl, t, rfl⟩ := vals1 r2
    cases ra
    obtain ⟨xi, _, px, _⟩ := I1.list hx
    have S := zip_sep2 (N := s1.heap.objs.size) (fp1 := [a]) (fp2 := []) (fun b hb => by rw [List.mem_singleton.mp hb]; exact px.lt) (fun b hb => (List.not_mem_nil hb).elim)
    exact zip_begins2 (begins_list a xi.toArray) (begins_text z t) px.isList trivial fun h' hz hT hO h1 h2 _ hk => wpAny_pyIter_zip hz (go hk (turn_ls (z := z) (t := t) S) ⟨hz, hT, ⟨_, _, hO⟩, ⟨_, h1, rfl, rfl⟩, ⟨_, h2, rfl, rfl⟩, Nat.zero_le _⟩)
end TZ

set_option Elab.async false
set_option linter.all false
set_option maxRecDepth 100000
set_option maxHeartbeats 4000000
/-! enumerate of a tuple -/
namespace TZ
open PySem L2 PySem.Spec
/-- enumerate(v) of what can be gone through -/
theorem e1 {v : Value} {o : Obj} {H : Heap → Prop} (B : Begins v o H) : Meets (Builtin.«enumerate.__new__» ⟨[.type "enumerate", v], []⟩) fun _ R s => H s.heap ∧
    R (.ok (.ret (.ref (s.heap.push o).objs.size))) { s with heap := (s.heap.push o).push { cls := .type "enumerate", data := .fields #[.none, .bool false, .ref s.heap.objs.size, rawInt 0, .none, .none] } } :=
  .of_wp fun prog w A R s ⟨h1, h⟩ => by
    obtain ⟨hp, g, d, tk, os⟩ := s
    have hsub := sub_enumerate
    have go : ∀ {A' : Around} {E : Value → Shared → Prop} {Q : Value → Shared → Prop}, Q (.ref hp.objs.size) ⟨hp.push o, g, d, tk, os⟩ → wpAny (model prog w) A' (pyIter v) Q E ⟨hp, g, d, tk, os⟩ := fun q => B.iter prog w _ _ _ _ h1 q
    wp_walk using go
    refine wpAny_stack_any fun st => wpAny_pure ?_
    split
    · rename_i c _ _ _ _ _
      cases (c == Value.type "enumerate") <;> (wp_walk using go; exact ⟨_, rfl, h⟩)
    · wp_walk using go
      exact ⟨_, rfl, h⟩
theorem call_e1 {prog : Program} {w : World} {A : Around} {E : Value → Shared → Prop} {s : Shared} {v : Value} {o : Obj} {H : Heap → Prop} {Q : Value → Shared → Prop} (B : Begins v o H) (h1 : H s.heap)
    (h : ∀ h', IsEnum h' (s.heap.objs.size + 1) s.heap.objs.size 0 .none → h'.get? s.heap.objs.size = some o → (∀ b u, s.heap.get? b = some u → h'.get? b = some u) → Q (.ref (s.heap.objs.size + 1)) { s with heap := h' }) :
    wpAny (model prog w) A (call (.type "enumerate") [v]) Q E s := by
  refine callType_new F.called_enumerate (by decide) (F.typeCall_enumerate_1 _) (F.newCall_enumerate_1 _) (fun u => F.args_object_init_2 u _) F.entry_enumerate_new (e1 B) ⟨h1, ?_⟩
  have hz : (s.heap.push o).objs.size = s.heap.objs.size + 1 := Heap.size_push ..
  show _ ∧ _
  rw [hz]
  have q := Heap.get?_push_size (s.heap.push o) (o := { cls := .type "enumerate", data := .fields #[.none, .bool false, .ref s.heap.objs.size, rawInt 0, .none, .none] }) rfl
  rw [hz] at q
  exact ⟨⟨_, q, rfl⟩, h _ q (Heap.get?_push_of_some _ (Heap.get?_push_size _ B.free)) fun b u x => Heap.get?_push_of_some _ (Heap.get?_push_of_some _ x)⟩
/-- an iterator over a tuple that has nothing more -/
theorem spentT {prog : Program} {w : World} {A : Around} (hh : A.handled = none) (it l : Addr) (items : Array Value) (N : Nat) (h : items.size ≤ N) :
    Draws prog w A it [it, l] N (fun _ _ => True) (fun j g => j = N ∧ g.IsTupleIter it l N ∧ g.IsTuple l items) where
  live := fun j g st => let ⟨o, ho, _⟩ := st.2.1; ⟨o, ho⟩
  frame := fun j g g' st hk => ⟨st.1, st.2.1.at fun o e => hk it (by simp) o e, st.2.2.at fun o e => hk l (by simp) o e⟩
  item := fun j s Q E hj st hQ => absurd st.1 (Nat.ne_of_lt hj)
  done := fun s Q E st hE => wpAny_nextOf_tuple_end hh st.2.1 st.2.2 (by simp; omega) hE
/-- the tuple at a, each item in a new pair -/
def ItE (K : PySem.W.Frag) (a : Addr) : It where
  go := fun i H => ∃ (xs : List V) (x : V), SqT K H a xs ∧ xs[i]? = some x
  yld := fun i H v H' => ∃ T x, v = .ref T ∧ H T = none ∧ H' = upd H T (.tup [.int (i : Nat), x]) ∧ ∀ xs, SqT K H a xs → xs[i]? = some x
  stop := fun i H => ∃ xs : List V, SqT K H a xs ∧ xs.length ≤ i
variable {P : Program} {w : World} {K : PySem.W.Frag} {elts : List Expr} {kk : Nat} {tpos : Pos} {a e it : Addr}
theorem turn_et (ne : e ≠ it) : Turn P w K (.Tuple elts kk tpos) (ItE K a) [e, it] e (fun i h => (∃ old, IsEnum h e it ((i : Nat) : Int) old) ∧ h.IsTupleIter it a i) where
  mem := by simp
  obj := fun i h st c hc => by
    obtain ⟨⟨old, q1⟩, ⟨o1, e1, _, d1⟩⟩ := st
    simp only [List.mem_cons, List.not_mem_nil, or_false] at hc
    rcases hc with rfl | rfl
    · exact ⟨_, q1, nofun⟩
    · exact ⟨o1, e1, fun v q => by rw [d1] at q; cases q⟩
  keep := fun i h h' st k => by
    obtain ⟨⟨old, q1⟩, q2⟩ := st
    exact ⟨⟨old, k e (by simp) _ q1⟩, q2.at fun o q => k it (by simp) o q⟩
  item := by
    intro X hP hw hK hc i pins s σ H E I hf st hg
    subst hP hw hK
    obtain ⟨⟨old, q1⟩, q2⟩ := st
    obtain ⟨xs, x, hq, hx⟩ := hg
    obtain ⟨its, rv, p, _⟩ := I.tuple hq
    obtain ⟨u, hu, ru⟩ := rv.get hx
    have hi : i < its.toArray.size := by
      have := (List.getElem?_eq_some_iff.mp hu).1
      simpa using this
    have pa : s.heap.IsTuple a its.toArray := p
    have na : a ≠ it := fun q => by
      obtain ⟨o, ho, hcl, hd⟩ := q2
      obtain ⟨o2, ho2, hcl2, _⟩ := pa
      rw [q, ho] at ho2
      cases ho2
      rw [hcl] at hcl2
      injection hcl2 with q
      exact absurd q (by decide)
    have nae : e ≠ a := fun q => by
      obtain ⟨o2, ho2, hcl2, _⟩ := pa
      rw [← q, q1] at ho2
      cases ho2
      injection hcl2 with q
      exact absurd q (by decide)
    have D := Draws.tuple (prog := X.prog) (w := X.w) (A := X.A.in1) (I.ok.hd hc) it a na its.toArray
    have le : e < s.heap.objs.size := Heap.lt_size q1
    have li : it < s.heap.objs.size := Heap.lt_size q2.choose_spec.1
    refine wpAny_pyNext_enum_itemD D q1 ⟨q2, pa⟩ hi ne (by simp [ne, nae]) fun x1 h' tk y1 b1 d1 b5 _ hk => ?_
    have ex : x1 = u := by
      have q : its.toArray[i]? = some x1 := y1
      have q' : its.toArray[i]? = some u := by simpa using hu
      rw [q'] at q
      exact (Option.some.inj q).symm
    subst ex
    refine ⟨_, rfl, wpAny_letOwnedTupleGo_enum (s := { s with heap := h', toks := tk + 1 }) b1 fun h'' z'' sb => ?_⟩
    have hT2 : h''.get? s.heap.objs.size = some { cls := .type "tuple", data := .seq #[.int i tk, x1] } := (sb.2 _ (Nat.ne_of_gt le)).trans b5
    have ri : RelV (V.int (i : Nat)) (.int i tk) := ⟨tk, rfl⟩
    have new : ObjOk X.prog X.w (upd H s.heap.objs.size (.tup [.int (i : Nat), x])) h'' s.heap.objs.size (.tup [.int (i : Nat), x]) := by
      refine ⟨?_, [.int i tk, x1], .cons ri (.cons ru .nil), ⟨_, hT2, rfl, _, rfl⟩⟩
      show 2 ≤ sizeLine
      decide
    have I1 := I.turnedNew (t' := tk + 1) (ch := [e, it]) (T := s.heap.objs.size) (fun d o nd q => by
      simp only [List.mem_cons, List.not_mem_nil, or_false, not_or] at nd
      exact (sb.2 d nd.1).trans (hk d o nd.1 nd.2 q)) hf (Nat.le_refl _) new
    refine ⟨.ref s.heap.objs.size, _, I1, rfl, ⟨_, x, rfl, I.hok.fresh (Nat.le_refl _), rfl, fun l hl => by rw [I.tuple_inj hl hq]; exact hx⟩, ⟨⟨x1, ?_⟩, ?_⟩, fun d hd => ?_⟩
    · have e1 : ((i + 1 : Nat) : Int) = (i : Int) + 1 := by omega
      rw [e1]
      exact z''
    · exact d1.1.at fun o q => (sb.2 _ (Ne.symm ne)).trans q
    · have ld : d < s.heap.objs.size := by
        simp only [List.mem_cons, List.not_mem_nil, or_false] at hd
        rcases hd with rfl | rfl
        · exact le
        · exact li
      rw [upd_ne (Nat.ne_of_lt ld)]
      exact (hf d hd).1
  done := by
    intro X hP hw hK hc i pins s σ H E I hf st hg
    subst hP hw hK
    obtain ⟨⟨old, q1⟩, q2⟩ := st
    obtain ⟨xs, hq, he⟩ := hg
    obtain ⟨its, rv, p, _⟩ := I.tuple hq
    have pa : s.heap.IsTuple a its.toArray := p
    have lx : its.toArray.size ≤ i := by
      rw [List.size_toArray, ← rv.length]
      exact he
    have D := spentT (prog := X.prog) (w := X.w) (A := X.A.in1) (I.ok.hd hc) it a its.toArray i lx
    exact wpAny_pyNext_enum_endD D q1 ⟨rfl, q2, pa⟩ fun h' hk => ⟨rfl, I.turnedL (t' := s.toks) (ch := [e, it]) (fun d o nd q => by
      simp only [List.mem_cons, List.not_mem_nil, or_false, not_or] at nd
      exact hk d o nd.2 q) hf⟩
  self := fun A i s Q E st h => let ⟨⟨_, q⟩, _⟩ := st; wpAny_pyIter_enum q h
/-- what is enumerated -/
inductive One (K : PySem.W.Frag) (H : Hp) : List V → It → Prop where
  | l {a : Addr} {xs : List V} : SqL K H a xs → One K H [.ref a] (Ite K a)
  | t {a : Addr} {xs : List V} : SqT K H a xs → One K H [.ref a] (ItE K a)
def iOne (K : PySem.W.Frag) (ta : TA) : L2.TI := fun σ H R => ta σ H fun vs H1 => ∃ J, One K H1 vs J ∧ R J H1
theorem boot_e : bootBuiltins "enumerate" = some (.type "enumerate") := by decide +kernel
theorem pi_one1 {X : Cx} {x : Expr} {ta : TA} {p pos : Pos} (hg : Gl X "enumerate") (hm : X.mg "enumerate" = none) (ha : PA X [x] ta) (hs : starEach [x] X.env = [(false, eval x X.env)]) :
    PI X (.Tuple elts kk tpos) (.Call (.Name "enumerate" p) [x] [] pos) (iOne X.K ta) := by
  refine ⟨fun pins s σ H R I h => PyProof.Rows.Call_ (ld_blt I hg hm boot_e (PyProof.Rows.callWith_type1 (thn (ha.run pos pins s σ H _ I h) fun us s1 q0 => ?_) hs rfl))⟩
  obtain ⟨vs, H1, I1, r1, J, hJ, q⟩ := q0
  have fp : ∀ c ∈ [s1.heap.objs.size + 1, s1.heap.objs.size], FpOk X pins H1 c := fun c hc => by
    have le : s1.heap.objs.size ≤ c := by
      simp only [List.mem_cons, List.not_mem_nil, or_false] at hc
      rcases hc with rfl | rfl <;> simp
    exact I1.fpOk le (I1.hok.fresh le)
  cases hJ with
  | l hx =>
    obtain ⟨u, rfl, ra⟩ := vals1 r1
    cases ra
    obtain ⟨xi, _, px, _⟩ := I1.list hx
    exact call_e1 (begins_list _ xi.toArray) px.isList fun h' he h1 hk => wpAny_pyIter_enum he ⟨_, _, _, _, H1, rfl, I1.kept (t' := s1.toks) hk, turn_enum _ _ _, ⟨⟨.none, he⟩, ⟨_, h1, rfl, rfl⟩, Nat.succ_ne_self _⟩, fp, q⟩
  | t hx =>
    obtain ⟨u, rfl, ra⟩ := vals1 r1
    cases ra
    obtain ⟨xi, _, px, _⟩ := I1.tuple hx
    exact call_e1 (begins_tuple _ xi.toArray) px fun h' he h1 hk => wpAny_pyIter_enum he ⟨_, _, _, _, H1, rfl, I1.kept (t' := s1.toks) hk, turn_et (Nat.succ_ne_self _), ⟨⟨.none, he⟩, ⟨_, h1, rfl, rfl⟩⟩, fp, q⟩
end TZ

set_option Elab.async false
set_option linter.all false
set_option maxRecDepth 100000
set_option maxHeartbeats 4000000
/-! Two clocks: the errors of the package: an own class whose __init__ says super().__init__(..), and keeps what it is made of -/
namespace TX
open PySem PySem.W PySem.Calls PyProof.Rows PySem.HandSPX
/-- __init__'s text: super().__init__(arg), and self.f = f -/
def iniB (arg : Expr) (fld : Option Str) (p0 p1 p2 p3 p4 q1 q2 q3 q4 : Pos) : List Stmt :=
  .Expr (.Call (.Attribute (.Call (.Name "super" p0) [] [] p1) "__init__" p2) [arg] [] p3) p4 :: (match fld with
    | some f => [.Assign [.Attribute (.Name "self" q1) f q2] (.Name f q3) q4]
    | none => [])
def iniA (pn : Str) (a1 a2 : Pos) : Arguments := { posonlyargs := [], args := [{ arg := "self", annotation := none, pos := a1 }, { arg := pn, annotation := none, pos := a2 }], vararg := none, kwonlyargs := [], kw_defaults := [], kwarg := none, defaults := [] }
def iniS (pn : Str) : Scope := { kind := .function, names := [("self", .local), (pn, .local), ("__class__", .free), ("super", .globalImplicit)], isGenerator := false, isCoroutine := false, more := [] }
/-- the argument is a written text, or the parameter -/
inductive ArgOk (pn : Str) : Expr → Prop
  | txt (m : Str) (k : Nat) (p : Pos) : ArgOk pn (.Constant (.str m) k p)
  | par (p : Pos) : ArgOk pn (.Name pn p)
/-- what the written part says of the class at C, of its __init__ at fI, of the cell of __class__ at cc -/
structure ExTx (P : Program) (K : Frag) (mg : Str → Option Value) (x : Str) (C : Addr) (B newId i : String) (bmB : List Value) (pn : Str) (fld : Option Str) : Prop where
  gC : mg x = some (.ref C)
  gS : mg "super" = none
  fb : ExcBaseFacts B newId i bmB
  kf : KxsFacts B i
  sf : StoreFacts B bmB "object.__setattr__" "object"
  cls : ∃ nm q N bs bm sn sub ab col dd k0 k1 k2 k3 k5, K.lookup C = some (excClassObj nm q C N bs bm true sn sub ab col dd k0 k1 k2 k3 k5 newId) ∧ bm = bmB
  sa : findIn K (.ref C) "__setattr__" = some (some (.builtin "object.__setattr__"))
  ga : findIn K (.ref C) "__getattribute__" = some (some (.builtin "BaseException.__getattribute__"))
  gg : findIn K (.ref C) "__getattr__" = some none
  noN : ∀ f, fld = some f → findIn K (.ref C) f = some none
  iC : ∃ fI, findIn K (.ref C) "__init__" = some (some (.ref fI)) ∧ typeIn K (.ref fI) = some (.type "function") ∧ ∃ (oc : Value) (od : Option Addr) (doc pm : Value) (an : Option Addr) (cda cc : Addr) (ct : Value) (osl : Array (Option Value)) (qn : Str) (arg : Expr) (a1 a2 p0 p1 p2 p3 p4 q1 q2 q3 q4 : Pos) (vs : Array Value) (file : Str) (tf : Tok) (ccl : Value) (cdd : Option Addr) (ccs : Array (Option Value)) (cl : Value) (cld : Option Addr) (csl : Array (Option Value)),
    K.lookup fI = some ⟨oc, od, .func (ksFn "__init__" qn (iniA pn a1 a2) (iniB arg fld p0 p1 p2 p3 p4 q1 q2 q3 q4) (iniS pn) .none .none doc pm an (.ref cda) ct cc), osl⟩ ∧ codeIn K (.ref cda) qn = true ∧ ArgOk pn arg ∧ (p2.endLine == p3.line) = true ∧
    K.lookup cda = some ⟨ccl, cdd, .fields vs, ccs⟩ ∧ vs[2]? = some (.str file tf) ∧ ((P.main.file : Str) == file) = true ∧ K.lookup cc = some ⟨cl, cld, .cell (some (.ref C)), csl⟩
  su : ks_superIn K C C "__init__" = some (some (.builtin i))
  op : nsIn K cStatics "thirdparty.any" = some none
  mC : mroIn K C (.ref C) = some true
  subB : subIn K (.ref C) (.type B) = some true
  kC : keepIn K (.ref C) = true
  exC : subIn K (.ref C) (.type "BaseException") = some true
  tyC : typeIn K (.ref C) = some (.type "type")
  hdC : hasDictIn K C = true
  fp : fld = none ∨ fld = some pn
  pns : pn = "part" ∨ pn = "line" ∨ pn = "most" ∨ pn = "text"
  top : (P.main.scope.names.lookup ("super" : Str)).isSome = false
theorem ExTx.pnn {P : Program} {K : Frag} {mg : Str → Option Value} {x : Str} {C : Addr} {B newId i : String} {bmB : List Value} {pn : Str} {fld : Option Str} (T : ExTx P K mg x C B newId i bmB pn fld) : pn ≠ "self" ∧ (pn == ("__debug__" : Str)) = false := by
  rcases T.pns with rfl | rfl | rfl | rfl <;> exact ⟨by decide +kernel, by decide +kernel⟩
theorem ExTx.hns1 {P : Program} {K : Frag} {mg : Str → Option Value} {x : Str} {C : Addr} {B newId i : String} {bmB : List Value} {pn : Str} {fld : Option Str} (T : ExTx P K mg x C B newId i bmB pn fld) : pn ≠ "super" ∧ pn ≠ "__class__" := by
  rcases T.pns with rfl | rfl | rfl | rfl <;> exact ⟨by decide +kernel, by decide +kernel⟩
section
open Builtin Builtin.ObjectAttr
/-- the first field of an error is stored: its own dict is made -/
theorem osa_ex {prog : Program} {w : World} {A : Around} {R : Result → Shared → Prop} {hp : Heap} {g : Array GenState} {d : Drawn} {t : Nat} {os : OsState} {K : Frag} {B : String} {bmB : List Value} {name : Str} {tk : Tok} {v : Value} {x C : Addr} {fv : Array Value} {cd : ClassData}
    (SF : StoreFacts B bmB "object.__setattr__" "object") (X : K.In hp) (ho : hp.get? x = some { cls := .ref C, data := .fields fv }) (hcd : clsIn K C = some cd) (hm : cd.mro = .ref C :: bmB) (hh : cd.hasDict = true) (hn : findIn K (.ref C) name = some none)
    (hq : ∀ h' tk' dx, (∀ b o, b ≠ x → hp.get? b = some o → h'.get? b = some o) → hp.objs.size ≤ dx → dx ≠ x → h'.get? x = some { cls := .ref C, dict := some dx, data := .fields fv } → h'.Ns1 dx (fun y => if y = name then some v else none) → R (.ok (.ret .none)) ⟨h', g, d, tk', os⟩) :
    codeAny (model prog w) A (.call (.builtin "object.__setattr__") ⟨[.ref x, .str name tk, v], []⟩) R ⟨hp, g, d, t, os⟩ := by
  have inst : InstAt hp x { cls := .ref C, data := .fields fv } C none := ⟨ho, rfl, rfl, trivial⟩
  have ns : x ≠ hp.objs.size := Nat.ne_of_lt (Heap.lt_size ho)
  have own : mroIn K C (.type "object") = some true := by
    have z : (Value.ref C :: bmB).contains (.type "object") = true := by rw [List.contains_cons, SF.hasOwner, Bool.or_true]
    unfold mroIn
    rw [hcd, Option.bind_some, hm, z]
    rfl
  have isO : Looks (model prog w) hp (isInstance (.ref x) (.type "object")) true := inst.type.andThen (looks_mroIn X own)
  have mroL : Looks (model prog w) hp (mroOf (.ref C)) cd.mro := (looks_clsIn X hcd).andThen .now
  have clsL : Looks (model prog w) hp (classData C) cd := looks_clsIn X hcd
  refine codeAny_call_builtin SF.slot.plain SF.entry (@check_slot (model prog w) _ _ ⟨hp, g, d, t, os⟩ "object.__setattr__" "object" "__setattr__" (.ref x) [.str name tk, v] [] _ SF.kind SF.split isO (SF.args (.ref x) (.str name tk) v) ?_)
  rw [osa_eq, refuse_eq]
  refine wpAny_bind (wpAny_bind (inst.type.at (wpAny_bind (mroL.at ?_))))
  rw [hm, refuseLoop_ref, SF.passes]
  have nowL : Looks (model prog w) hp (storeTaker? none) none := .now
  refine wpAny_pure (wpAny_bind (inst.type.at (wpAny_bind ((looks_findIn X hn).at (wpAny_bind (nowL.at ?_))))))
  show wpAny (model prog w) _ (storeInOwnDict (.ref x) (.ref C) (.str name tk) name v false) _ _ _
  obtain ⟨c1, c2, c3, c4, c5, c6, c7, c8, c9, c10, c11⟩ := cd
  dsimp only at hh
  subst hh
  unfold storeInOwnDict ownDictForStores
  repeat (first | with_reducible refine store_in_new ?_ ?_ | with_reducible refine wpAny_loadPart_at ho ?_ | with_reducible refine clsL.at ?_ | wp_step)
  · refine ⟨_, #[], _, (Heap.get?_update_ne _ _ _ _ ns.symm).trans (Heap.get?_push_at rfl rfl), rfl, fun e he => absurd he (by simp), fun _ => rfl⟩
  · intro h' tk' hn' hs
    have old := Heap.get?_push_of_some ({ cls := .type "dict", data := .dict #[] } : Obj) ho
    refine hq h' tk' hp.objs.size (fun b o hb q => ?_) (Nat.le_refl _) ns.symm ((hs.2 x ns).trans (Heap.get?_update_self _ old rfl)) hn'
    rw [hs.2 b (Nat.ne_of_lt (Heap.lt_size q)), Heap.get?_update_ne _ _ _ _ hb]
    exact Heap.get?_push_of_some _ q
end
/-- the method-wrapper of Exception.__init__, called -/
theorem call_mw {prog : Program} {w : World} {A : Around} {E : Value → Shared → Prop} {h : Heap} {g : Array GenState} {d : Drawn} {t : Nat} {os : OsState} {B newId i : String} {bmB : List Value} (FB : ExcBaseFacts B newId i bmB)
    {nm q : Str} {C N : Addr} {bs bm : List Value} {hdct : Bool} {sn : List Str} {sub : List Value} {ab : Bool} {col : Option Bool} {dd : Option Addr} {k0 k1 k2 k3 k5 : Option Value} {u e t0 : Addr} {rest : List Value} {Q : Value → Shared → Prop}
    (hC : h.get? C = some (excClassObj nm q C N bs bm hdct sn sub ab col dd k0 k1 k2 k3 k5 newId)) (he : h.get? e = some (excO C t0)) (hu : h.get? u = some (kxs_mw i e)) (hz : rest.length ≤ sizeLine)
    (hq : ∀ h' t1, (∀ b o, b ≠ e → h.get? b = some o → h'.get? b = some o) → h'.get? e = some (excO C t1) → Q .none ⟨h', g, d, t, os⟩) : wpAny (model prog w) A (call (.ref u) rest) Q E ⟨h, g, d, t, os⟩ := by
  refine wpAny_call (codeAny_of_tree ?_)
  show wpAny (model prog w) A.in1 (callAny (.ref u) ⟨rest, []⟩) _ _ _
  simp only [callAny]
  refine wpAny_bind (wpAny_load hu ?_)
  have hk : (Value.type "method-wrapper" == Value.type "method" || Value.type "method-wrapper" == Value.type "builtin_function_or_method" || Value.type "method-wrapper" == Value.type "method-wrapper") = true := by decide
  simp only [kxs_mw, hk, if_true]
  refine KFB.if_so (by decide) (wpAny_bind (check_bound_init FB.toExcCallFacts hC he rfl (wpAny_bind (wpAny_pure (wpAny_pure ⟨plainId_quiet FB.init.plain _, codeAny_builtin FB.initEntry ?_⟩)))))
  exact exc_init_tree (cls := .ref C) (t0 := t0) (dv := none) (c2 := .none) (c3 := .none) (b4 := .bool false) he hz fun h' k1 k2 _ => hq h' _ k1 k2
/-- what __init__ leaves of the exception at e -/
def IniEnd (fld : Option Str) (h h' : Heap) (e C : Addr) (v : Value) : Prop := (∀ b o, b ≠ e → h.get? b = some o → h'.get? b = some o) ∧ ∃ (t1 : Addr) (d : Option Addr),
  h'.get? e = some { cls := .ref C, dict := d, data := .fields #[.ref t1, .none, .none, .none, .bool false, .none] } ∧ match fld with
    | none => d = none
    | some f => ∃ dx, d = some dx ∧ h.objs.size ≤ dx ∧ dx ≠ e ∧ h'.Ns1 dx (fun y => if y = f then some v else none)
section
variable {prog : Program} {w : World} {A : Around} {R : Result → Shared → Prop} {s : Shared} {K : Frag} {mg mb : Str → Option Value} {C : Addr} {x : Str} {B newId i : String} {bmB : List Value} {pn : Str} {fld : Option Str}
theorem eval_arg {M : Model} {E : Value → Shared → Prop} {env : Env} {m : Str → Option Value} {arg : Expr} {v : Value} {Q : Value → Shared → Prop} (ok : ArgOk pn arg) (hd : (pn == ("__debug__" : Str)) = false) (hn : s.heap.Ns env.locals m) (hv : m pn = some v) (hk : env.scope.kind = .function) (hl : env.kindOf pn = some .local)
    (h : ∀ u tk, Q u { s with toks := tk }) : wpAny M A (eval arg env) Q E s := by
  cases ok with
  | txt t k p => exact Calls.Constant_str (h _ _)
  | par p =>
    refine wpAny_Name (wpAny_loadName_local hk hl hn hv ?_) hd
    exact h v s.toks
theorem kind_self (hp : pn ≠ "self") : (iniS pn).names.lookup ("self" : Str) = some NameKind.local ∧ (iniS pn).names.lookup pn = some NameKind.local := by
  refine ⟨by simp [iniS, List.lookup], ?_⟩
  have e : (pn == ("self" : Str)) = false := by simpa using hp
  simp [iniS, List.lookup, e]
theorem he_sup {o arg : Expr} {p2 p3 : Pos} {env : Env} {nm : Str} (ok : ArgOk pn arg) (hl : (p2.endLine == p3.line) = true) : eval (.Call (.Attribute o nm p2) [arg] [] p3) env = (do
      let ov ← attributeBase o nm env (eval o env)
      standAt p2.atName
      let (f, first) ← holding [ov] (getMethod ov nm (do return (← importBound o env).getD true))
      callWith p3 f first (backTo p3 (starEach [arg] env)) []) := by
  have hp : methodCallPos true o env p2 p3 = pure p3 := by
    unfold methodCallPos
    rw [hl]
    rfl
  have hm : ∀ ov, methodCall o nm p2 p3 env ov 1 (backTo p3 (starEach [arg] env)) [] = (do
      let (f, first) ← holding [ov] (getMethod ov nm (do return (← importBound o env).getD true))
      callWith p3 f first (backTo p3 (starEach [arg] env)) []) := fun ov => by
    have hf : methodCallForm 1 (backTo p3 (starEach [arg] env)) [] = true := by cases ok <;> rfl
    unfold methodCall
    rw [hf, hp]
    simp only [calleeOf, if_true, pure_bind]
  have e : eval (.Call (.Attribute o nm p2) [arg] [] p3) env = (do
      let ov ← attributeBase o nm env (eval o env)
      standAt p2.atName
      methodCall o nm p2 p3 env ov 1 (backTo p3 (starEach [arg] env)) []) := rfl
  rw [e]
  simp only [hm]
theorem init_run (T : ExTx prog K mg x C B newId i bmB pn fld) {fI : Addr} (iC : findIn K (.ref C) "__init__" = some (some (.ref fI))) (X : K.In s.heap) (G : s.heap.Ns mainGlobals mg) (Bn : s.heap.Ns builtinsNs mb) (hbb : ∀ y : Str, y ≠ "__name__" → mb y = bootBuiltins y) (hlim : s.heap.NoLimit)
    {e t0 : Addr} {v : Value} (he : s.heap.get? e = some (excO C t0)) (hroom : A.depth < recursionLimit) (hne : K.lookup e = none)
    (hq : ∀ h' tk, IniEnd fld s.heap h' e C v → R (.ok (.ret .none)) { s with heap := h', toks := tk }) : codeAny (model prog w) A (.call (.ref fI) ⟨[.ref e, v], []⟩) R s := by
  obtain ⟨fI', iC', _, oc, od, doc, pm, an, cda, cc, ct, osl, qn, arg, a1, a2, p0, p1, p2, p3, p4, q1, q2, q3, q4, vs, file, tf, ccl, cdd, ccs, cl, cld, csl, lk, hcd, aok, hline, hcda, hvs, hfile, hcell⟩ := T.iC
  rw [iC] at iC'
  obtain rfl : fI = fI' := by
    injection iC' with z
    injection z with z
    injection z
  obtain ⟨nm, q, N, bs, bm, sn, sub, ab, col, dd, k0, k1, k2, k3, k5, hC, rfl⟩ := T.cls
  have hcl : clsIn K C = some { name := nm, bases := bs, mro := .ref C :: bm, ns := N, qualname := q, hasDict := true, slotNames := sn, subclasses := sub, abstract := ab, collection := col, hasDel := false } := by
    unfold clsIn
    rw [hC] <;> rfl
  obtain ⟨ks, kp⟩ := kind_self T.pnn.1
  have hns1 := T.hns1
  refine ks_codeAny_call_defAt (fd := ksFn "__init__" qn (iniA pn a1 a2) (iniB arg fld p0 p1 p2 p3 p4 q1 q2 q3 q4) (iniS pn) .none .none doc pm an (.ref cda) ct cc) (body := iniB arg fld p0 p1 p2 p3 p4 q1 q2 q3 q4) (binds := [("self", .ref e), (pn, v)]) hroom (X _ _ lk) rfl hlim (codeRec_of X hcd) rfl ?_ ?_ ?_ (fun h₁ hns hk₁ => ?_) rfl rfl rfl
  · rcases T.pns with rfl | rfl | rfl | rfl <;> exact .of_eq rfl
  · intro y hy
    simp only [iniS, List.mem_cons, List.not_mem_nil, or_false] at hy
    rcases hy with rfl | rfl | rfl | rfl <;> exact nofun
  · intro y hy
    simp only [List.mem_cons, List.not_mem_nil, or_false] at hy
    rcases hy with rfl | rfl
    · exact ks
    · exact kp
  · have X₁ : K.In h₁ := X.keeps hk₁
    have he₁ := hk₁ _ _ he
    have G₁ := G.keeps hk₁
    have B₁ := Bn.keeps hk₁
    have vself : (fun y => ([(("self" : Str), Value.ref e), (pn, v)] : List (Str × Value)).reverse.lookup y) "self" = some (.ref e) := by
      have z : (("self" : Str) == pn) = false := by simpa using fun z : ("self" : Str) = pn => T.pnn.1 z.symm
      simp [List.lookup, z]
    have vpn : (fun y => ([(("self" : Str), Value.ref e), (pn, v)] : List (Str × Value)).reverse.lookup y) pn = some v := by simp [List.lookup]
    have step : ∀ {M : Model} {A1 : Around} {c : Code} {s1 : Shared} {env : Env} {Q1 : Value → Shared → Prop} {E1 : Value → Shared → Prop},
        _root_.PySem.wpAt M A1 c (attributeBase (.Call (.Name "super" p0) [] [] p1) "__init__" env (eval (.Call (.Name "super" p0) [] [] p1) env)) (fun ov s₁ => ∀ pl, wpAny M A1 (getMethod ov "__init__" pl) (fun fx s₂ => wpAny M A1 (callWith p3 fx.1 fx.2 (backTo p3 (starEach [arg] env)) []) Q1 E1 s₂) E1 s₁) E1 s1 →
        _root_.PySem.wpAt M A1 c (eval (.Call (.Attribute (.Call (.Name "super" p0) [] [] p1) "__init__" p2) [arg] [] p3) env) Q1 E1 s1 := fun {M A1 c s1 env Q1 E1} h => by
      cases aok with
      | txt t k p => exact ks_wpAt_MethodCall (ks_wpAt_mono h (fun ov s' z => z _) fun _ _ z => z) (he_sup (pn := pn) (.txt t k p) hline)
      | par p => exact ks_wpAt_MethodCall (ks_wpAt_mono h (fun ov s' z => z _) fun _ _ z => z) (he_sup (.par p) hline)
    have eS : (("super" : Str) == ("self" : Str)) = false := by decide +kernel
    have eS2 : (("super" : Str) == pn) = false := by simpa using fun z : ("super" : Str) = pn => hns1.1 z.symm
    have eC : (("__class__" : Str) == ("self" : Str)) = false := by decide +kernel
    have eC2 : (("__class__" : Str) == pn) = false := by simpa using fun z : ("__class__" : Str) = pn => hns1.2 z.symm
    have eC3 : (("super" : Str) == ("__class__" : Str)) = false := by decide +kernel
    have kS : (iniS pn).names.lookup ("super" : Str) = some NameKind.globalImplicit := by simp [iniS, List.lookup, eS, eS2, eC3]
    have kC : (iniS pn).names.lookup ("__class__" : Str) = some NameKind.free := by simp [iniS, List.lookup, eC, eC2]
    have hC1 : h₁.get? C = some (excClassObj nm q C N bs bm true sn sub ab col dd k0 k1 k2 k3 k5 newId) := X₁ _ _ hC
    have I1 : InstAt h₁ e (excO C t0) C none := ⟨he₁, rfl, rfl, trivial⟩
    refine ks_wpAt_execs_cons (ks_wpAt_Expr_any (step ?_) rfl ?_)
    · refine ks_wpAt_super_base (f := fI) (cc := cda) kS kC (by decide +kernel) rfl (X₁ _ _ lk) rfl rfl rfl (X₁ _ _ hcda) rfl hvs hfile T.top ?_
      refine ks_loadName_global rfl kS (loadGlobal_builtin G₁ T.gS B₁ ((hbb _ (by decide +kernel)).trans (show bootBuiltins "super" = some (.type "super") by decide +kernel)) ⟨rfl, ?_⟩)
      refine wpAny_loadName_free rfl kC rfl ⟨_, X₁ _ _ hcell, rfl⟩ ?_
      refine wpAny_loadName_local rfl ks hns vself ?_
      refine ks_wpAny_isType_cls hC1 rfl ⟨rfl, ?_⟩
      refine ks_wpAny_call_super hC1 rfl he₁ rfl (fun c => nofun) (looks_mroIn X₁ T.mC) (fun h₂ hso hk₂ => ?_)
      intro pl
      have X₂ : K.In h₂ := X₁.keeps hk₂
      have he₂ := hk₂ _ _ he₁
      have I2 : InstAt h₂ e (excO C t0) C none := ⟨he₂, rfl, rfl, trivial⟩
      have hsu := T.su
      unfold ks_superIn at hsu
      rw [hcl] at hsu
      refine kxs_getMethod T.kf hso (looks_opaque X₂ T.op) (l₀ := .ref C :: bm) (fun A Q E s k q => wpAny_bind ((looks_clsIn X₂ hcl) A _ E s k (wpAny_pure q))) rfl X₂ hsu (I2.type.andThen (looks_subIn X₂ T.subB)) (ks_ne X₂ I2 hcl) (by decide +kernel) ?_
      have hu : (h₂.push (kxs_mw i e)).get? h₂.objs.size = some (kxs_mw i e) := Heap.get?_push_at rfl rfl
      have k₃ : ∀ b o, h₁.get? b = some o → (h₂.push (kxs_mw i e)).get? b = some o := fun b o z => Heap.get?_push_of_some _ (hk₂ b o z)
      have hst : ∀ env : Env, starEach [arg] env = [(false, eval arg env)] := fun env => by cases aok <;> rfl
      show wpAny _ _ (callWith p3 (.ref h₂.objs.size) [] (backTo p3 (starEach [arg] _)) []) _ _ _
      rw [hst]
      refine kxs_callWith (i := i) (x := e) rfl (evalArgs_plain ?_)
      refine Calls.spliced_cons (eval_arg aok T.pnn.2 (hns.keeps k₃) vpn rfl kp fun u tk => ?_)
      refine Calls.spliced_nil ⟨hu, ?_⟩
      refine call_mw T.fb (k₃ _ _ hC1) (k₃ _ _ he₁) hu (by show 1 ≤ sizeLine; decide) fun h₄ t4 k4 he4 => ?_
      have k₅ : ∀ b o, b ≠ e → h₁.get? b = some o → h₄.get? b = some o := fun b o ne z => k4 b o ne (k₃ b o z)
      have ne_of : ∀ {b o}, K.lookup b = some o → b ≠ e := fun {b o} z y => by
        rw [y, hne] at z
        cases z
      have X₄ : K.In h₄ := fun b o z => k₅ b o (ne_of z) (X₁ b o z)
      cases fld with
      | none =>
        refine wpAt_of_wpAny (wpAny_execs_nil ?_)
        exact hq h₄ _ ⟨fun b o ne z => k₅ b o ne (hk₁ b o z), t4, none, he4, rfl⟩
      | some f =>
        obtain rfl : f = pn := by
          rcases T.fp with z | z
          · cases z
          · exact Option.some.inj z
        have nL : s.heap.objs.size ≠ e := Nat.ne_of_gt (Heap.lt_size he)
        have hns4 : h₄.Ns s.heap.objs.size (fun y => ([(("self" : Str), Value.ref e), (f, v)] : List (Str × Value)).reverse.lookup y) := by
          obtain ⟨o, es, ep, ho, hr⟩ := hns
          exact ⟨o, es, ep, k₅ _ _ nL ho, hr⟩
        refine wpAt_of_wpAny (wpAny_execs_cons (plainObj_wpAny_Assign_Attribute (wpAny_Name (wpAny_loadName_local rfl kp hns4 vpn (wpAny_Name (wpAny_loadName_local rfl ks hns4 vself ?_) (by decide +kernel))) T.pnn.2) rfl))
        refine set_plain X₄ (ox := excO C t4) (od := none) ⟨he4, rfl, rfl, trivial⟩ T.sa ?_
        refine osa_ex T.sf X₄ he4 hcl rfl rfl (T.noN f rfl) (fun h₆ tk₆ dx k₆ dn dne hx₆ hn₆ => ?_)
        refine wpAny_execs_nil (hq h₆ tk₆ ⟨fun b o ne z => k₆ b o ne (k₅ b o ne (hk₁ b o z)), t4, some dx, hx₆, dx, rfl, ?_, dne, hn₆⟩)
        obtain ⟨o, _, _, ho, _⟩ := hns4
        exact Nat.le_trans (Nat.le_of_lt (Heap.lt_size ho)) dn
    · cases aok <;> rfl
/-- a made error: at e; its own dict, if it keeps what it is made of -/
structure Made (fld : Option Str) (h h' : Heap) (e C : Addr) (d : Option Addr) (v : Value) : Prop where
  keep : ∀ b o, h.get? b = some o → h'.get? b = some o
  new : h.objs.size ≤ e
  obj : ∃ oe fv, h'.get? e = some oe ∧ oe.cls = .ref C ∧ oe.dict = d ∧ oe.data = .fields fv ∧ fv[1]? = some .none
  dct : match fld with
    | none => d = none
    | some f => ∃ dx, d = some dx ∧ h.objs.size ≤ dx ∧ dx ≠ e ∧ h'.Ns1 dx (fun y => if y = f then some v else none)
theorem made_run (T : ExTx prog K mg x C B newId i bmB pn fld) {v : Value} (X : K.In s.heap) (G : s.heap.Ns mainGlobals mg) (Bn : s.heap.Ns builtinsNs mb) (hbb : ∀ y : Str, y ≠ "__name__" → mb y = bootBuiltins y) (hlim : s.heap.NoLimit) (hroom : A.depth + 1 < recursionLimit)
    (hq : ∀ h' tk e d, Made fld s.heap h' e C d v → R (.ok (.ret (.ref e))) { s with heap := h', toks := tk }) : codeAny (model prog w) A (.call (.ref C) ⟨[v], []⟩) R s := by
  obtain ⟨fI, iC, tC, _⟩ := id T.iC
  obtain ⟨nm, q, N, bs, bm, sn, sub, ab, col, dd, k0, k1, k2, k3, k5, hC, rfl⟩ := T.cls
  obtain ⟨hp, g, dr, tk, os⟩ := s
  let hp2 : Heap := (hp.push (kdv_tup [v])).push (excO C hp.objs.size)
  have kk : ∀ b o, hp.get? b = some o → hp2.get? b = some o := fun b o z => Heap.get?_push_of_some _ (Heap.get?_push_of_some _ z)
  have he : hp2.get? (hp.objs.size + 1) = some (excO C hp.objs.size) := by
    show ((hp.push (kdv_tup [v])).push (excO C hp.objs.size)).get? (hp.objs.size + 1) = _
    heap_get
  have hne : K.lookup (hp.objs.size + 1) = none := by
    cases z : K.lookup (hp.objs.size + 1) with
    | none => rfl
    | some o =>
      have y : hp.objs.size + 1 < hp.objs.size := Heap.lt_size (X _ _ z)
      exact absurd (Nat.lt_of_succ_lt y) (Nat.lt_irrefl _)
  refine call_own T.fb (fun _ => rfl) (X _ _ hC) (looks_findIn X iC) (fun self => bind_fn X self tC) (by show 1 ≤ sizeLine; decide) ?_
  refine init_run (s := ⟨hp2, g, dr, tk, os⟩) T iC (X.keeps kk) (G.keeps kk) (Bn.keeps kk) hbb (hlim.keeps kk) he (by exact hroom) hne fun h' tk' M => ?_
  obtain ⟨k, t1, d, ho, hd⟩ := M
  have old : ∀ b o, hp.get? b = some o → h'.get? b = some o := fun b o z => k b o (Nat.ne_of_lt (Nat.lt_succ_of_lt (Heap.lt_size z))) (kk b o z)
  refine ⟨rfl, hq h' tk' (hp.objs.size + 1) d ⟨old, Nat.le_succ _, ⟨_, _, ho, rfl, rfl, rfl, rfl⟩, ?_⟩⟩
  cases fld with
  | none => exact hd
  | some f =>
    obtain ⟨dx, e1, e2, e3, e4⟩ := hd
    refine ⟨dx, e1, Nat.le_trans ?_ e2, e3, e4⟩
    show hp.objs.size ≤ ((hp.push (kdv_tup [v])).push (excO C hp.objs.size)).objs.size
    rw [Heap.size_push, Heap.size_push]
    omega
end
end TX

set_option Elab.async false
set_option linter.all false
set_option maxRecDepth 100000
set_option maxHeartbeats 4000000
namespace TX
open PySem PySem.Spec PyProof.Rows L2
/-- X(e): e is computed, then a new error of the class at C -/
def tMkE (C : Addr) (fld : Option Str) (ta : TA) : L2.St → Hp → XK → Prop := fun σ H Q => ta σ H fun vs H1 => ∃ v, vs = [v] ∧ match fld with
  | none => Q (.ref C) none H1
  | some f => ∀ d, H1 d = none → Q (.ref C) (some d) (upd H1 d (.xd [(f, v)]))
theorem relO_one {f : Str} {v : V} {u : Value} (r : RelV v u) (g : Str) : RelO (List.lookup g [(f, v)]) (if g = f then some u else none) := by
  by_cases c : g = f
  · subst c
    rw [if_pos rfl, List.lookup_cons_self]
    exact r
  · have z : (g == f) = false := by simpa using c
    rw [if_neg c]
    simp only [List.lookup, z]
    trivial
section
variable {X : Cx} {C : Addr} {x : Str} {B newId i : String} {bmB : List Value} {pn : Str} {fld : Option Str}
theorem pmk_ex {a : Expr} {ta : TA} {p pos : Pos} {k : Nat} (T : ExTx X.prog X.K X.mg x C B newId i bmB pn fld) (hr : Room k X.A) (ha : PA X [a] ta) (hg : Gl X x) (hdb : (x == ("__debug__" : Str)) = false)
    (he : starEach (a :: []) X.env = (false, eval a X.env) :: starEach [] X.env) : PMk X (.Call (.Name x p) [a] [] pos) (tMkE C fld ta) := by
  intro pins s σ H Q I h
  refine wpAny_Call_Name_kw (ld_glob I hg T.gC ?_ hdb)
  refine PySem.W.callWith_K (h₀ := X.base) I.ok.mod.kin T.kC (thn (ha.run pos pins s σ H _ I h) fun us s1 ⟨vs, H1, I1, r1, v, ev, q1⟩ => ?_) he rfl
  subst ev
  refine ⟨I1.kIn, ?_⟩
  cases r1 with
  | @cons _ u _ us' rv rn =>
    cases rn
    show wpAny _ _ (call (.ref C) [u]) _ _ _
    have hlim := I1.nolimit
    obtain ⟨mb, Bn, hbb⟩ := I1.ok.mod.blt
    have G := I1.mod.glob.keeps I1.bk
    have Bn := Bn.keeps I1.bk
    obtain ⟨hp, g, dr, tk, os⟩ := s1
    refine wpAny_call (made_run T I1.kIn G Bn hbb hlim (by have := hr.dp; omega) fun h' tk' e d M => ?_)
    show MkP X pins σ Q (.ref e) ⟨h', g, dr, tk', os⟩
    obtain ⟨oe, fv, hoe, hc, hd, hdat, h1⟩ := M.obj
    obtain ⟨G', g1, g2⟩ := restrict h' fun b => decide (b ≠ e)
    have ge : G'.get? e = none := g2 e (by simp)
    have gk : ∀ b, b ≠ e → G'.get? b = h'.get? b := fun b hb => g1 b (decide_eq_true hb)
    have old : ∀ b o, hp.get? b = some o → G'.get? b = some o := fun b o q => by
      rw [gk b (Nat.ne_of_lt (Nat.lt_of_lt_of_le (Heap.lt_size q) M.new))]
      exact M.keep b o q
    have up : ∀ b o, G'.get? b = some o → h'.get? b = some o := fun b o q => by
      by_cases hb : b = e
      · rw [hb, ge] at q
        cases q
      · rw [← gk b hb]
        exact q
    have hdct := M.dct
    cases fld with
    | none =>
      have hdct : d = none := hdct
      subst hdct
      have J : Inv X pins σ H1 ⟨G', g, dr, tk', os⟩ := I1.kept (t' := tk') old
      exact ⟨e, oe, fv, ⟨G', g, dr, tk', os⟩, _, .ref C, none, rfl, J, up, ge, hoe, ⟨hc, hd⟩, hdat, h1, I1.hok.fresh M.new, rfl, I1.bare, raises_own T.exC T.tyC, q1⟩
    | some f =>
      obtain ⟨dx, e1, dbig, dne, hns⟩ := hdct
      subst e1
      have ob : ObjOk X.prog X.w (upd H1 dx (.xd [(f, v)])) G' dx (.xd [(f, v)]) := ⟨_, hns.at (fun o q => (gk dx dne).trans q), fun g => relO_one rv g⟩
      have J : Inv X pins σ (upd H1 dx (.xd [(f, v)])) ⟨G', g, dr, tk', os⟩ := I1.laid (t' := tk') old dbig ob
      refine ⟨e, oe, fv, ⟨G', g, dr, tk', os⟩, _, .ref C, some dx, rfl, J, up, ge, hoe, ⟨hc, hd⟩, hdat, h1, ?_, rfl, I1.bare, raises_own T.exC T.tyC, q1 dx (I1.hok.fresh dbig)⟩
      rw [upd_ne (Ne.symm dne)]
      exact I1.hok.fresh M.new
end
end TX

set_option Elab.async false
set_option linter.all false
set_option maxRecDepth 100000
set_option maxHeartbeats 4000000
/-! try, with several clauses, some of them with a name -/
namespace TX
open PySem PySem.Spec PyProof.Rows L2
/-- names of classes, and what they are -/
inductive NamesAll (X : Cx) : List (Str × Pos) → List Value → Prop
  | nil : NamesAll X [] []
  | cons {q : Str × Pos} {c : Value} {qs : List (Str × Pos)} {cs : List Value} : Names X q.1 c → NamesAll X qs cs → NamesAll X (q :: qs) (c :: cs)
abbrev HdS := Addr → Value → Option Addr → TS
/-! ### which of some classes -/
section
variable {M : Model} {K : PySem.W.Frag}
theorem many_cls {h : Heap} (X : K.In h) {cls : Value} : ∀ {cs : List Value} {b : Bool}, PySem.W.exmAny K cls cs = some b → PySem.W.Looks M h (forIn cs PUnit.unit fun c (_ : PUnit) => do
      if (!(← isExcClass c)) then
        rule "try.except-non-exception-class"
        raiseErrorWords "TypeError" "catching classes that do not inherit from BaseException is not allowed"
        pure (ForInStep.yield PUnit.unit)
      else pure (ForInStep.yield PUnit.unit)) PUnit.unit
  | [], b, _ => fun A Q E s k q => by
    rw [List.forIn_nil]
    exact wpAny_pure q
  | c :: cs, b, hx => fun A Q E s k q => by
    obtain ⟨b1, d1, x1, y1, _⟩ := PySem.W.exmAny_cons hx
    obtain ⟨e1, _⟩ := PySem.W.exm_cls (M := M) X x1
    rw [List.forIn_cons]
    refine wpAny_bind (wpAny_bind ((e1.keeps k).here ?_))
    rw [Bool.not_true, if_neg Bool.false_ne_true]
    exact wpAny_pure (many_cls X y1 A Q E s k q)
theorem many_sub {h : Heap} (X : K.In h) {cls : Value} : ∀ {cs : List Value} {b : Bool}, PySem.W.exmAny K cls cs = some b → PySem.W.Looks M h (forIn cs ((none : Option Bool), ()) fun c (_ : Option Bool × Unit) => do
      if (← isSubtype cls c) then pure (ForInStep.done (some true, ())) else pure (ForInStep.yield ((none : Option Bool), ()))) ((if b then some true else none), ())
  | [], b, hx => fun A Q E s k q => by
    have hx : some false = some b := hx
    cases hx
    rw [List.forIn_nil]
    exact wpAny_pure q
  | c :: cs, b, hx => fun A Q E s k q => by
    obtain ⟨b1, d1, x1, y1, z1⟩ := PySem.W.exmAny_cons hx
    obtain ⟨_, S1⟩ := PySem.W.exm_cls (M := M) X x1
    rw [List.forIn_cons]
    refine wpAny_bind (wpAny_bind ((S1.keeps k).here ?_))
    cases b1 with
    | true =>
      rw [if_pos rfl]
      subst z1
      exact wpAny_pure (wpAny_pure q)
    | false =>
      rw [if_neg Bool.false_ne_true]
      rw [Bool.false_or] at z1
      subst z1
      exact wpAny_pure (many_sub X y1 A Q E s k q)
theorem exm_many {cs : List Value} {cls : Value} {tp e : Addr} {b : Bool} {h : Heap} (X : K.In h) (LT : PySem.W.Looks M h (typeOf (.ref e)) cls) (hp : h.get? tp = some { cls := .type "tuple", data := .seq cs.toArray }) (hx : PySem.W.exmAny K cls cs = some b) :
    PySem.W.Looks M h (excMatches (.ref e) (.ref tp)) b := by
  intro A Q E s k q
  have LT0 : PySem.W.Looks M h (isInstance (.ref tp) (.type "tuple")) true := ((PySem.W.Looks.ld hp).andThen .now).andThen (PySem.W.Looks.of_pure isSubtype_tuple_tuple)
  unfold excMatches
  refine wpAny_bind ((LT0.keeps k).here ?_)
  dsimp only
  rw [if_pos rfl]
  first
    | refine wpAny_bind (wpAny_seqItems (k _ _ hp) rfl ?_)
    | refine wpAny_bind (wpAny_bind (wpAny_seqItems (k _ _ hp) rfl (wpAny_pure ?_)))
  refine wpAny_bind (wpAny_pure ?_)
  dsimp only [Option.getD_some, Option.getD]
  refine wpAny_bind (((many_cls X hx).keeps k).here ?_)
  refine wpAny_bind ((LT.keeps k).here ?_)
  refine wpAny_bind (((many_sub X hx).keeps k).here ?_)
  cases b with
  | true => exact wpAny_pure q
  | false => exact wpAny_pure q
end
/-- a class or a tuple of classes, and what they are -/
inductive TestE (X : Cx) : Expr → List Value → Prop
  | one {x : Str} {c : Value} {np : Pos} (h : Names X x c) : TestE X (.Name x np) [c]
  | tup {ns : List (Str × Pos)} {cs : List Value} {k : Nat} {p : Pos} (h : NamesAll X ns cs) (hl : cs.length ≤ 100) : TestE X (.Tuple (ns.map fun q => .Name q.1 q.2) k p) cs
/-- an error that is kept -/
def ErO (cls : Value) (d : Option Addr) (a : Addr) : HO := .ext fun h => ∃ oe : Obj, h.get? a = some oe ∧ Zc cls d oe ∧ ∃ vs, oe.data = .fields vs
/-- the ends behind a suite: the clause's name is gone, the error may still be had -/
def keptD (a : Addr) (cls : Value) (d : Option Addr) (i : Nat) (D : Ends) : Ends := { nx := fun σ H => D.nx (σ.set i none) (upd H a (ErO cls d a)), rt := D.rt, bk := fun σ H => D.bk (σ.set i none) H, ct := fun σ H => D.ct (σ.set i none) H }
/-- what the clauses wish of an exception of the body -/
def wMix (K : PySem.W.Frag) (W : WX) (D : Ends) : List (List Value × Option Nat × HdS) → WX
  | [] => W
  | (c, none, ts) :: r => fun cls d σ H => ∃ b, PySem.W.exmAny K cls c = some b ∧ (b = true → ∀ a, H a = none → ts a cls d D σ H) ∧ (b = false → wMix K W D r cls d σ H)
  | (c, some i, ts) :: r => fun cls d σ H => ∃ b, PySem.W.exmAny K cls c = some b ∧ (b = true → ∀ a, H a = none → ts a cls d (keptD a cls d i D) (σ.set i (some (.ref a))) H) ∧ (b = false → wMix K W D r cls d σ H)
/-- a suite does what is said, whatever exception it holds -/
def SuOk (X : Cx) (st : List Stmt) (ts : HdS) : Prop := ∀ (a : Addr) (oe : Obj) (cls : Value) (d : Option Addr) (pn : List (Addr × Obj)), Zc cls d oe → (∃ vs, oe.data = .fields vs) → PSs (X.suite a ((a, oe) :: pn)) st (ts a cls d)
inductive HdMix (X : Cx) : List ExceptHandler → List (List Value × Option Nat × HdS) → Prop
  | nil : HdMix X [] []
  | un {te : Expr} {c : List Value} {ts : HdS} {b₀ : Stmt} {suite : List Stmt} {pos' : Pos} {hds : List ExceptHandler} {l : List (List Value × Option Nat × HdS)} (hc : TestE X te c) (hs : SuOk X (b₀ :: suite) ts) (r : HdMix X hds l) :
      HdMix X (.ExceptHandler (some te) none (b₀ :: suite) pos' :: hds) ((c, none, ts) :: l)
  | nm {te : Expr} {n : Str} {i : Nat} {c : List Value} {ts : HdS} {b₀ : Stmt} {suite : List Stmt} {pos' : Pos} {hds : List ExceptHandler} {l : List (List Value × Option Nat × HdS)} (hc : TestE X te c) (hi : X.N[i]? = some n) (hln : X.env.kindOf n = some .local) (hs : SuOk X (b₀ :: suite) ts) (r : HdMix X hds l) :
      HdMix X (.ExceptHandler (some te) (some n) (b₀ :: suite) pos' :: hds) ((c, some i, ts) :: l)
section
variable {X : Cx}
/-- an exception that has landed: its class can be asked -/
theorem land_nf {a : Addr} {B : Heap} {l : List Env} {h : Heap} {o : Obj} {vs : Array Value} (ff : h.FunFrames B l) (e : h.get? a = some o) (dd : o.data = .fields vs) : a ∉ frs l := fun hm => by
  obtain ⟨_, o', e', hnf⟩ := ff.mem hm
  rw [e] at e'
  cases e'
  exact hnf _ dd
/-- an error stays where it lies, from now on it is known -/
theorem keep_err {pins : List (Addr × Obj)} {σ : L2.St} {H : Hp} {s : Shared} {a : Addr} {oe : Obj} {cls : Value} {d : Option Addr} {vs : Array Value} (I : Inv X pins σ H s) (e : s.heap.get? a = some oe) (n : H a = none) (z : Zc cls d oe) (hd : oe.data = .fields vs)
    (hn : ∀ o, X.s_0.heap.get? a = some o → X.H_0 a = none → a ∈ X.ex) (nL : a ≠ X.env.locals) (hp : ∀ p ∈ X.pn ++ pins, p.1 ≠ a) : Inv X pins σ (upd H a (ErO cls d a)) s := by
  have kept : ∀ {b : Addr} {u : HO}, H b = some u → upd H a (ErO cls d a) b = some u := fun {b u} q => by
    rw [upd_ne (ne_of_none q n)]
    exact q
  refine ⟨I.ok, I.os, I.bare, ⟨I.base.keep, I.base.slot, fun b o h0 n0 hx => ?_, I.base.there, fun b xs q => kept (I.base.tups b xs q), fun b o u q => kept (I.base.frzs b o u q), fun b ps q => ?_⟩, I.loc, I.cell, ?_, fun x c hc => ?_, fun p h => ?_, fun b u q => ?_, I.len⟩
  · by_cases hb : b = a
    · subst hb
      exact absurd (hn o h0 n0) hx
    · rw [upd_ne hb]
      exact I.base.free b o h0 n0 hx
  · obtain ⟨more, q2⟩ := I.base.tbls b ps q
    exact ⟨more, kept q2⟩
  · rw [upd_ne fun z => nL z.symm]
    exact I.free
  · obtain ⟨v, o, h1, h2⟩ := I.cell x c hc
    rw [upd_ne fun z => ?_]
    · exact I.freeC x c hc
    · subst z
      rw [e] at h1
      cases h1
      rw [hd] at h2
      cases h2
  · obtain ⟨p1, p2, p3, p4, p5⟩ := I.pin p h
    exact ⟨p1, by rw [upd_ne (hp p h)]; exact p2, p3, p4, p5⟩
  · by_cases hb : b = a
    · subst hb
      rw [upd_same] at q
      cases q
      exact ⟨⟨oe, e, z, vs, hd⟩, ⟨oe, e⟩, fun h1 h2 ⟨o, r1, r2, r3⟩ k => ⟨o, k o r1, r2, r3⟩⟩
    · rw [upd_ne hb] at q
      exact (I.hok b u q).stay (fun _ _ _ r => r) (fun c r => by rw [upd_ne (ne_of_none r n)]; exact r) fun c xs r => kept r
theorem ps_mix {body : List Stmt} {h₀ : ExceptHandler} {hds : List ExceptHandler} {l : List (List Value × Option Nat × HdS)} {pos : Pos} {tb : WX → TS} {W : WX} (hst : X.stack = X.env :: X.outer) (hfr0 : X.env.frame = some X.env.locals) (hN : X.N.Nodup) (tk : Takes X W)
    (hb : ∀ (W1 : WX) (pn : List (Addr × Obj)) (xe : Value → Shared → Prop), Takes (X.tr pn xe) W1 → PassesOwn (model X.prog X.w) X.A X.env xe → PSs (X.tr pn xe) body (tb W1)) (hh : HdMix X (h₀ :: hds) l) :
    PS X (.Try body (h₀ :: hds) [] [] pos) (fun D σ H => tb (wMix X.K W D l) D σ H) := by
  refine ⟨fun pins s σ H D I h => ?_⟩
  have ok := I.ok
  have fr1 : X.A.frames = some (X.env :: X.outer) := ok.frames.trans (by rw [hst])
  refine wpAny_Try_except ?_
  let xeT : Value → Shared → Prop := fun e s₁ => wpAny (model X.prog X.w) X.A (noteFrame e X.env) (fun _ s₂ => wpAny (model X.prog X.w) X.A (setFlight e none) (fun _ s₃ => wpAny (model X.prog X.w) X.A (handleBy e X.env (h₀ :: hds)) (SP X pins D) X.xe s₃) X.xe s₂) X.xe s₁
  refine wpAny_mono ((hb (wMix X.K W D l) (X.pn ++ pins) xeT (fun u s' xx => ?_) PassesOwn.looking).run [] s σ H D (I.toTry _) h) (fun f s1 hsp => ?_) (fun e s1 he => he)
  · obtain ⟨a, B, sI, pins', σ', H', cls, d, rfl, J', nb, up, sky, na, os, ag, wm⟩ := xx
    have J : Inv X pins σ' H' sI := J'.ofTry ok
    rw [show (X.tr (X.pn ++ pins) xeT).stack = X.env :: X.outer from hst] at sky
    show wpAny (model X.prog X.w) X.A (noteFrame (.ref a) X.env) _ _ _
    refine Sky.land Zc.steady fr1 hfr0 sky fun h3 fl3 up3 => ?_
    have J3 : Inv X pins σ' H' { s' with heap := h3 } := J.landed nb fl3.1 (up.trans up3) os ag
    obtain ⟨oe3, vs3, he3, hz3, hd3⟩ := fl3.there
    have nfr := land_nf fl3.2.2.1 he3 hd3
    have nL : a ≠ X.env.locals := fun z => nfr (List.mem_filterMap.mpr ⟨X.env, List.mem_cons_self, hfr0.trans (by rw [z])⟩)
    have nF : a ∉ X.fs := fun hm => by
      obtain ⟨e, he, q⟩ := List.mem_filterMap.mp hm
      exact nfr (List.mem_filterMap.mpr ⟨e, List.mem_cons_of_mem _ he, q⟩)
    /- the error is none of the things that stood at the entry -/
    have apart : ∀ p ∈ X.pn ++ pins, p.1 ≠ a := fun p hp z => by
      have e1 := (J.pin p hp).1
      rw [z] at e1
      have e2 := nb a p.2 e1 (by rw [hst]; exact nfr)
      rw [fl3.2.1] at e2
      cases e2
    have fresh : ∀ o, X.s_0.heap.get? a = some o → X.H_0 a = none → a ∈ X.ex := fun o e0 n0 => Decidable.byContradiction fun z => by
      obtain ⟨o', e1⟩ := J.base.there a o e0 z
      have nfr : a ∉ frs X.stack := by rw [hst]; exact nfr
      have e2 := nb a o' e1 nfr
      rw [fl3.2.1] at e2
      cases e2
    have grow : ∀ {g : Heap} {o : Obj}, HandSPX.FlyingZ B (X.env :: X.outer) a (Zc cls d) g → HandSPX.FlyingZ B (X.env :: X.outer) a (Zc cls d) (g.push o) := fun {g o} ⟨k1, k2, k3, oe, vs, T, oT, ts', he, hz, hdt, h1, hT, hTn, hTo, hdT, h3'⟩ =>
      ⟨fun b u q => Heap.get?_push_of_some _ (k1 b u q), k2, PySem.Heap.FunFrames.of_keeps (fun b u q _ => ⟨u, Heap.get?_push_of_some _ q, rfl⟩) k3, oe, vs, T, oT, ts', Heap.get?_push_of_some _ he, hz, hdt, h1, hT, hTn, Heap.get?_push_of_some _ hTo, hdT, h3'⟩
    /- at any grown heap -/
    have asks : ∀ {x : Str} {c : Value} {np : Pos} {Q : Value → Shared → Prop} {E : Value → Shared → Prop} {g : Heap}, HandSPX.FlyingZ B (X.env :: X.outer) a (Zc cls d) g → sI.heap.UpToSlots g → Names X x c → Q c { s' with heap := g } → wpAny (model X.prog X.w) (X.A.mark (some (.ref a))) (eval (.Name x np) X.env) Q E { s' with heap := g } := fun {x c np Q E g} flg upg hc q => by
      have Jg : Inv X pins σ' H' { s' with heap := g } := J.landed nb flg.1 upg os ag
      obtain ⟨oeg, vsg, heg, hzg, hdg⟩ := flg.there
      have Sg := Jg.suite heg hdg na nL nF
      obtain ⟨hg, hdbg, hm | ⟨hm, hv, hnn⟩⟩ := hc
      · exact ld_glob (X := X.suite a ((a, oeg) :: (X.pn ++ pins))) Sg hg hm q hdbg
      · exact ld_blt (X := X.suite a ((a, oeg) :: (X.pn ++ pins))) Sg hg hm hv q hnn hdbg
    have items : ∀ {ns : List (Str × Pos)} {cs : List Value} {Q : List Value → Shared → Prop} {E : Value → Shared → Prop} {g : Heap} {p : Pos}, HandSPX.FlyingZ B (X.env :: X.outer) a (Zc cls d) g → sI.heap.UpToSlots g → NamesAll X ns cs → Q cs { s' with heap := g } →
        wpAny (model X.prog X.w) (X.A.mark (some (.ref a))) (spliced (backTo p (starEach (ns.map fun q => Expr.Name q.1 q.2) X.env))) Q E { s' with heap := g } := by
      intro ns cs Q E g p flg upg hn
      induction hn generalizing Q with
      | nil => exact fun q => Calls.spliced_nil q
      | cons h1 _ ih => exact fun q => PyProof.Rows.args_cons (asks flg upg h1 (ih q))
    have test : ∀ {te : Expr} {cs : List Value} {b : Bool} {g : Heap} {R : Bool → Shared → Prop} {E E' : Value → Shared → Prop}, HandSPX.FlyingZ B (X.env :: X.outer) a (Zc cls d) g → sI.heap.UpToSlots g → TestE X te cs → PySem.W.exmAny X.K cls cs = some b →
        (∀ g2, HandSPX.FlyingZ B (X.env :: X.outer) a (Zc cls d) g2 → sI.heap.UpToSlots g2 → R b { s' with heap := g2 }) →
        wpAny (model X.prog X.w) (X.A.mark (some (.ref a))) (eval te X.env) (fun c s₁ => wpAny (model X.prog X.w) (X.A.mark (some (.ref a))) (excMatches (.ref a) c) R E s₁) E' { s' with heap := g } := by
      intro te cs b g R E E' flg upg ht hx hq
      have KIn : ∀ {g2 : Heap}, HandSPX.FlyingZ B (X.env :: X.outer) a (Zc cls d) g2 → sI.heap.UpToSlots g2 → X.K.In g2 := fun f u => (show Inv X pins σ' H' { s' with heap := _ } from J.landed nb f.1 u os ag).kIn
      have LT : ∀ {g2 : Heap}, HandSPX.FlyingZ B (X.env :: X.outer) a (Zc cls d) g2 → PySem.W.Looks (model X.prog X.w) g2 (typeOf (.ref a)) cls := fun {g2} f => by
        obtain ⟨oeg, vsg, heg, hzg, hdg⟩ := f.there
        exact fun A Q E s k q => wpAny_typeOf_ref (k _ _ heg) (by rw [hzg.1]; exact q)
      cases ht with
      | one hc =>
        obtain ⟨b1, d1, x1, y1, z1⟩ := PySem.W.exmAny_cons hx
        have y1 : some false = some d1 := y1
        cases y1
        rw [Bool.or_false] at z1
        subst z1
        exact asks flg upg hc ((PySem.W.exm_one (M := model X.prog X.w) (KIn flg upg) (LT flg) x1).here (hq g flg upg))
      | tup hn hl =>
        refine wpAny_Tuple (items flg upg hn ?_)
        refine ⟨Nat.le_trans hl (by decide), ?_⟩
        have upg2 : sI.heap.UpToSlots (g.push { cls := .type "tuple", data := .seq cs.toArray }) := fun b o e hd2 => by
          obtain ⟨sl, q⟩ := upg b o e hd2
          exact ⟨sl, Heap.get?_push_of_some _ q⟩
        exact (exm_many (M := model X.prog X.w) (KIn (grow flg) upg2) (LT (grow flg)) (Heap.get?_push_size g rfl) hx).here (hq _ (grow flg) upg2)
    have go : ∀ {hd : List ExceptHandler} {l' : List (List Value × Option Nat × HdS)}, HdMix X hd l' → ∀ g, HandSPX.FlyingZ B (X.env :: X.outer) a (Zc cls d) g → sI.heap.UpToSlots g → wMix X.K W D l' cls d σ' H' → wpAny (model X.prog X.w) X.A (handleBy (.ref a) X.env hd) (SP X pins D) X.xe { s' with heap := g } := by
      intro hd l' hk
      induction hk with
      | nil =>
        intro g flg upg wm
        refine wpAny_handleBy_nil ?_
        obtain ⟨k1, k2, k3, oe, vs, T, oT, ts', he, hz, hdt, h1, hr⟩ := id flg
        have fin : wpAny (model X.prog X.w) X.A (setFlight (.ref a) X.env.frame) (fun _ s4 => wpAny (model X.prog X.w) X.A (throw (.ref a) : Sem Flow) (SP X pins D) X.xe s4) X.xe { s' with heap := g } := by
          rw [hfr0]
          exact HandSPX.setFlight_upZ flg fun h4 hh4 up4 => wpAny_throw (tk _ _ ⟨a, B, sI, pins, σ', H', cls, d, rfl, J, nb, upg.trans up4, .inr (.inr (by rw [hst]; exact hh4)), na, os, ag, wm⟩)
        unfold PySem.passOn
        refine wpAny_bind (wpAny_field he hdt h1 ?_)
        have nn : ¬ ((Value.ref T == Value.none) = true) := by simp
        rw [if_neg nn]
        first
          | exact wpAny_bind (wpAny_pure (wpAny_bind fin))
          | exact wpAny_bind fin
      | @un te c ts b₀ suite pos' hds2 l2 hc hs r ih =>
        intro g flg upg wm
        obtain ⟨b, hb1, yes, no⟩ := wm
        refine wpAny_handleBy_cons (codeAny_handlers_test (test flg upg hc hb1 fun g2 fl2 up2 => ?_)) nofun
        cases b with
        | false => exact ih g2 fl2 up2 (no rfl)
        | true =>
          refine codeAny_handlers_suite (HandSPX.lands_againZ fl2 fun h4 fl4 up4 => ?_)
          have J4 : Inv X pins σ' H' { s' with heap := h4 } := J.landed nb fl4.1 (up2.trans up4) os ag
          obtain ⟨oe4, vs4, he4, hz4, hd4⟩ := fl4.there
          refine wpAny_mono ((hs a oe4 cls d (X.pn ++ pins) hz4 ⟨_, hd4⟩).run [] _ _ H' _ (J4.suite he4 hd4 na nL nF) (yes rfl a na)) (fun f s6 q => ?_) fun _ _ z => z.elim
          cases f with
          | next => exact q.imp fun σ6 q => q.imp fun H6 q => ⟨q.1.unsuite ok, q.2⟩
          | brk => exact q.imp fun σ6 q => q.imp fun H6 q => ⟨q.1.unsuite ok, q.2⟩
          | cont => exact q.imp fun σ6 q => q.imp fun H6 q => ⟨q.1.unsuite ok, q.2⟩
          | ret u => exact q.imp fun v q => q.imp fun σ6 q => q.imp fun H6 q => ⟨q.1.unsuite ok, q.2⟩
      | @nm te n i c ts b₀ suite pos' hds2 l2 hc hi hln hs r ih =>
        intro g flg upg wm
        obtain ⟨b, hb1, yes, no⟩ := wm
        refine wpAny_handleBy_cons (codeAny_handlers_test (test flg upg hc hb1 fun g2 fl2 up2 => ?_)) nofun
        cases b with
        | false => exact ih g2 fl2 up2 (no rfl)
        | true =>
          refine codeAny_handlers_suite_as (HandSPX.lands_againZ fl2 fun h4 fl4 up4 => ?_)
          have J4 : Inv X pins σ' H' { s' with heap := h4 } := J.landed nb fl4.1 (up2.trans up4) os ag
          obtain ⟨oe4, vs4, he4, hz4, hd4⟩ := fl4.there
          have S4 := J4.suite he4 hd4 na nL nF
          refine store_ok (X := X.suite a ((a, oe4) :: (X.pn ++ pins))) (v := .ref a) S4 hN hi (.inl hln) rfl (fun s5 S5 => ?_) (.inr hln)
          refine wpAny_mono ((hs a oe4 cls d (X.pn ++ pins) hz4 ⟨_, hd4⟩).run [] s5 _ H' _ S5 (yes rfl a na)) (fun f s6 q => ?_) fun _ _ z => z.elim
          have gone : ∀ {σ6 : L2.St} {H6 : Hp} {Q : Shared → Prop}, Inv (X.suite a ((a, oe4) :: (X.pn ++ pins))) [] σ6 H6 s6 → (∀ s7, Inv X pins (σ6.set i none) H6 s7 → Q s7) → wpAny (model X.prog X.w) X.A (do bindName X.env n .none; unbindBehindTheSuite X.env n pos') (fun _ s7 => Q s7) X.xe s6 :=
            fun {σ6 H6 Q} S6 hq => gone_ok (S6.unsuite ok) hN hi hln hq
          have goneK : ∀ {σ6 : L2.St} {H6 : Hp} {Q : Shared → Prop}, Inv (X.suite a ((a, oe4) :: (X.pn ++ pins))) [] σ6 H6 s6 → (∀ s7, Inv X pins (σ6.set i none) (upd H6 a (ErO cls d a)) s7 → Q s7) → wpAny (model X.prog X.w) X.A (do bindName X.env n .none; unbindBehindTheSuite X.env n pos') (fun _ s7 => Q s7) X.xe s6 :=
            fun {σ6 H6 Q} S6 hq => by
              have p6 := S6.pin (a, oe4) (List.mem_append_left _ List.mem_cons_self)
              exact gone_ok (keep_err (S6.unsuite ok) p6.1 p6.2.1 hz4 hd4 fresh nL apart) hN hi hln hq
          cases f with
          | next =>
            obtain ⟨σ6, H6, S6, q⟩ := q
            exact goneK S6 fun s7 J7 => ⟨_, _, J7, q⟩
          | brk =>
            obtain ⟨σ6, H6, S6, q⟩ := q
            exact gone S6 fun s7 J7 => ⟨_, _, J7, q⟩
          | cont =>
            obtain ⟨σ6, H6, S6, q⟩ := q
            exact gone S6 fun s7 J7 => ⟨_, _, J7, q⟩
          | ret u =>
            obtain ⟨v6, σ6, H6, S6, r6, q⟩ := q
            exact gone S6 fun s7 J7 => ⟨_, _, _, J7, r6, q⟩
    exact go hh h3 fl3 (up.trans up3) wm
  · cases f with
    | next =>
      obtain ⟨σ', H', J', q⟩ := hsp
      exact wpAny_execs_nil ⟨σ', H', J'.ofTry ok, q⟩
    | brk => exact hsp.imp fun σ6 q => q.imp fun H6 q => ⟨q.1.ofTry ok, q.2⟩
    | cont => exact hsp.imp fun σ6 q => q.imp fun H6 q => ⟨q.1.ofTry ok, q.2⟩
    | ret u => exact hsp.imp fun v q => q.imp fun σ6 q => q.imp fun H6 q => ⟨q.1.ofTry ok, q.2⟩
end
end TX

set_option Elab.async false
set_option linter.all false
set_option maxRecDepth 100000
set_option maxHeartbeats 2000000
namespace TC
open PySem L2 PySem.Spec

/-- how the drawing object of a law stands: with so many draws left, at these addresses -/
structure Rng where
  I : Nat → List Addr → Hp → Prop
  fr : ∀ {b : Nat} {R : List Addr} {H H' : Hp}, I b R H → (∀ a ∈ R, H' a = H a) → I b R H'
  hv : ∀ {b : Nat} {R : List Addr} {H : Hp}, I b R H → ∀ a ∈ R, H a ≠ none
  nx : ∀ {b : Nat} {R : List Addr} {H : Hp}, I b R H → ∀ a ∈ R, ∀ fs, H a ≠ some (.xd fs)
/-- the tables lie within the drawing object's part -/
structure TabR (T : List (Addr × Str)) (R : List Addr) (H : Hp) : Prop where
  at_ : ∀ p ∈ T, p.1 ∈ R ∧ ∃ ps : Array Value, H p.1 = some (.tbl ps) ∧ PySem.TriplesOk ps.toList ∧ ∀ (pos : Pos) (cv : Value), codeAmong pos ps.toList = some cv → ∃ c, cv = .ref c ∧ c ∈ R ∧ H c = some (LamX.CodeO c p.2)
  only : ∀ a ∈ R, (∃ ps, H a = some (.tbl ps)) ∨ ∃ c q, H a = some (LamX.CodeO c q)
theorem TabR.fr {T : List (Addr × Str)} {R : List Addr} {H H' : Hp} (t : TabR T R H) (h : ∀ a ∈ R, H' a = H a) : TabR T R H' := by
  refine ⟨fun p hp => ?_, fun a ha => ?_⟩
  · obtain ⟨h1, ps, h2, h3, h4⟩ := t.at_ p hp
    refine ⟨h1, ps, (h _ h1).trans h2, h3, fun pos cv e => ?_⟩
    obtain ⟨c, r1, r2, r3⟩ := h4 pos cv e
    exact ⟨c, r1, r2, (h _ r2).trans r3⟩
  · rw [h a ha]
    exact t.only a ha
/-- a drawing object beside the tables -/
def rgT (T : List (Addr × Str)) (rg : Rng) : Rng where
  I := fun b R H => ∃ R1 R2, R = R1 ++ R2 ∧ (∀ a ∈ R1, a ∉ R2) ∧ rg.I b R1 H ∧ TabR T R2 H
  fr := fun {b R H H'} ⟨R1, R2, e, d, i, t⟩ h => by
    subst e
    exact ⟨R1, R2, rfl, d, rg.fr i fun a ha => h a (List.mem_append_left _ ha), t.fr fun a ha => h a (List.mem_append_right _ ha)⟩
  hv := fun {b R H} ⟨R1, R2, e, d, i, t⟩ a ha => by
    subst e
    rcases List.mem_append.mp ha with q | q
    · exact rg.hv i a q
    · rcases t.only a q with ⟨ps, z⟩ | ⟨c, r, z⟩ <;> (rw [z]; exact nofun)
  nx := fun {b R H} ⟨R1, R2, e, d, i, t⟩ a ha fs => by
    subst e
    rcases List.mem_append.mp ha with q | q
    · exact rg.nx i a q fs
    · rcases t.only a q with ⟨ps, z⟩ | ⟨c, r, z⟩
      · rw [z]
        exact nofun
      · rw [z]
        unfold LamX.CodeO
        exact nofun
/-- a class of errors: its name, where it stands, the field that keeps what an error is made of -/
structure Xc where
  nm : Str
  C : Addr
  fld : Option Str
/-- a lambda that was handed to the def: where it lies, what it computes, what stood as the def began -/
structure FnA where
  f : Addr
  c : Comp Wd
  R : List Addr
  G : Hp
  H : Hp
/-- what stays through a law -/
structure Ctx where
  K : PySem.W.Frag
  am : Addr
  rg : Rng
  lv : Nat
  cl : Nat → List Wd → Comp FR
  ck : Chk
  exs : List Xc
  /-- tables of code objects of defs that make lambdas, and the lambdas' names -/
  tabs : List (Addr × Str) := []
  fa : Option FnA := none
/-- how an error lies: its class, its own dict -/
def exrOf (C : Ctx) (x : Exn) (cls : Value) (d : Option Addr) (H : Hp) : Prop := ∃ q v, C.exs[x.c]? = some q ∧ cls = .ref q.C ∧ Dq C.K (fun _ => none) v x.v ∧ match q.fld with
  | none => d = none
  | some f => ∃ dd, d = some dd ∧ H dd = some (.xd [(f, v)])

/-- .. its own dict being new -/
def exrN (C : Ctx) (x : Exn) (cls : Value) (d : Option Addr) (H0 H : Hp) : Prop := exrOf C x cls d H ∧ ∀ dd, d = some dd → H0 dd = none
theorem exrN.back {C : Ctx} {x : Exn} {cls : Value} {d : Option Addr} {H0 H1 H : Hp} (h : ∀ a, H1 a = none → H0 a = none) (e : exrN C x cls d H1 H) : exrN C x cls d H0 H := ⟨e.1, fun dd z => h dd (e.2 dd z)⟩

/-- a dict's entries, as data -/
inductive DqK (K : PySem.W.Frag) (H : Hp) : List (Key × V) → List (Key × PyData) → Prop
  | nil : DqK K H [] []
  | cons {k : Key} {v : V} {d : PyData} {ks : List (Key × V)} {ds : List (Key × PyData)} : Dq K H v d → DqK K H ks ds → DqK K H ((k, v) :: ks) ((k, d) :: ds)
theorem DqK.sub {K : PySem.W.Frag} {G H : Hp} (s : Sub G H) : ∀ {ks : List (Key × V)} {ds : List (Key × PyData)}, DqK K G ks ds → DqK K H ks ds
  | _, _, .nil => .nil
  | _, _, .cons q r => .cons (s.dp q) (DqK.sub s r)
theorem DqK.len {K : PySem.W.Frag} {G : Hp} : ∀ {ks : List (Key × V)} {ds : List (Key × PyData)}, DqK K G ks ds → ks.length = ds.length
  | _, _, .nil => rfl
  | _, _, .cons _ r => congrArg (· + 1) r.len
theorem DqK.get {K : PySem.W.Frag} {G : Hp} : ∀ {ks : List (Key × V)} {ds : List (Key × PyData)} {s : Key} {d : PyData}, DqK K G ks ds → lkD ds s = some d → ∃ v, valV ks s = some v ∧ Dq K G v d
  | _, _, s, d, .nil, h => by cases h
  | _, _, s, d, .cons (k := k) q r, h => by
    by_cases c : k = s
    · unfold lkD at h
      rw [List.find?_cons, decide_eq_true c] at h
      cases h
      exact ⟨_, valV_pos (by rw [c]), q⟩
    · rw [valV_neg (c)]
      unfold lkD at h
      rw [List.find?_cons, decide_eq_false c] at h
      exact DqK.get r h
theorem DqK.any {K : PySem.W.Frag} {G : Hp} {s : Key} : ∀ {ks : List (Key × V)} {ds : List (Key × PyData)}, DqK K G ks ds → (ks.any fun kv => decide (kv.1 = s)) = ds.any fun p => decide (p.1 = s)
  | _, _, .nil => rfl
  | _, _, .cons (k := k) q r => by
    rw [List.any_cons, List.any_cons, r.any]
theorem DqK.map {K : PySem.W.Frag} {G : Hp} {s : Key} {v : V} {d : PyData} (h : Dq K G v d) : ∀ {ks : List (Key × V)} {ds : List (Key × PyData)}, DqK K G ks ds → DqK K G (ks.map fun kv => if kv.1 = s then (kv.1, v) else kv) (ds.map fun p => if p.1 = s then (p.1, d) else p)
  | _, _, .nil => .nil
  | _, _, .cons (k := k) q r => by
    rw [List.map_cons, List.map_cons]
    by_cases c : k = s
    · rw [if_pos (by rw [c]), if_pos c]
      exact .cons h (r.map h)
    · rw [if_neg (c), if_neg c]
      exact .cons q (r.map h)
theorem DqK.snoc {K : PySem.W.Frag} {G : Hp} {s : Key} {v : V} {d : PyData} (h : Dq K G v d) : ∀ {ks : List (Key × V)} {ds : List (Key × PyData)}, DqK K G ks ds → DqK K G (ks ++ [(s, v)]) (ds ++ [(s, d)])
  | _, _, .nil => .cons h .nil
  | _, _, .cons q r => .cons q (r.snoc h)
theorem DqK.put {K : PySem.W.Frag} {G : Hp} {s : Key} {v : V} {d : PyData} {ks : List (Key × V)} {ds : List (Key × PyData)} (r : DqK K G ks ds) (h : Dq K G v d) : DqK K G (putK ks s v) (putD ds s d) := by
  unfold putK putD
  rw [r.any (s := s)]
  by_cases c : (ds.any fun p => decide (p.1 = s)) = true
  · rw [if_pos c, if_pos c]
    exact r.map h
  · rw [if_neg c, if_neg c]
    exact r.snoc h
/-- a value that stays, at the frozen part G of the heap -/
def Rep (C : Ctx) (G : Hp) (v : V) : Wd → Prop
  | .d x => Dq C.K G v x
  | .rng => v = .ref C.am
  | .scr n => ∃ a xs, v = .ref a ∧ SqL C.K G a xs ∧ xs.length = n
  | .dct kvs => ∃ a ks, v = .ref a ∧ G a = some (.dK ks) ∧ DqK C.K G ks kvs
  | .er x => ∃ a cls d, v = .ref a ∧ G a = some (TX.ErO cls d a) ∧ exrOf C x cls d G
  | .fn _ => False
theorem exrOf.sub {C : Ctx} {G G' : Hp} {x : Exn} {cls : Value} {d : Option Addr} (s : Sub G G') (h : exrOf C x cls d G) : exrOf C x cls d G' := by
  obtain ⟨q, v, h1, h2, h3, h4⟩ := h
  refine ⟨q, v, h1, h2, h3, ?_⟩
  cases hf : q.fld with
  | none =>
    rw [hf] at h4
    exact h4
  | some f =>
    rw [hf] at h4
    obtain ⟨dd, e1, e2⟩ := h4
    exact ⟨dd, e1, s _ _ e2⟩
theorem Rep.sub {C : Ctx} {G G' : Hp} {v : V} {w : Wd} (s : Sub G G') (h : Rep C G v w) : Rep C G' v w := by
  cases w with
  | d x => exact s.dp h
  | rng => exact h
  | scr n =>
    obtain ⟨a, xs, h1, h2, h3⟩ := h
    exact ⟨a, xs, h1, h2.imp s.rd id, h3⟩
  | dct kvs =>
    obtain ⟨a, ks, h1, h2, h3⟩ := h
    exact ⟨a, ks, h1, s _ _ h2, h3.sub s⟩
  | er x =>
    obtain ⟨a, cls, d, h1, h2, h3⟩ := h
    exact ⟨a, cls, d, h1, s _ _ h2, h3.sub s⟩
  | fn c => exact h
def Reps (C : Ctx) (G : Hp) : List V → List Wd → Prop
  | [], [] => True
  | v :: vs, w :: ws => Rep C G v w ∧ Reps C G vs ws
  | _, _ => False
theorem Reps.sub {C : Ctx} {G G' : Hp} (s : Sub G G') : ∀ {vs : List V} {ws : List Wd}, Reps C G vs ws → Reps C G' vs ws
  | [], [], _ => trivial
  | _ :: _, _ :: _, h => ⟨h.1.sub s, Reps.sub s h.2⟩
  | [], _ :: _, h => h
  | _ :: _, [], h => h
theorem Reps.len {C : Ctx} {G : Hp} : ∀ {vs : List V} {ws : List Wd}, Reps C G vs ws → vs.length = ws.length
  | [], [], _ => rfl
  | _ :: _, _ :: _, h => congrArg (· + 1) (Reps.len h.2)
  | [], _ :: _, h => h.elim
  | _ :: _, [], h => h.elim
theorem Reps.get {C : Ctx} {G : Hp} : ∀ {vs : List V} {ws : List Wd} {i : Nat} {w : Wd}, Reps C G vs ws → ws[i]? = some w → ∃ v, vs[i]? = some v ∧ Rep C G v w
  | _ :: _, _ :: _, 0, _, h, e => by
    obtain rfl := Option.some.inj (by simpa using e)
    exact ⟨_, rfl, h.1⟩
  | _ :: _, _ :: _, i + 1, _, h, e => by
    obtain ⟨v, h1, h2⟩ := Reps.get (i := i) h.2 (by simpa using e)
    exact ⟨v, by simpa using h1, h2⟩
  | [], [], _, _, _, e => by simp at e
  | [], _ :: _, _, _, h, _ => h.elim
  | _ :: _, [], _, _, h, _ => h.elim

/-- the heap goes on: what stood outside the drawing object stands, the frozen part grows -/
structure Stp (R : List Addr) (G H : Hp) (R' : List Addr) (G' H' : Hp) : Prop where
  g : Sub G G'
  k : ∀ a o, H a = some o → a ∉ R → H' a = some o
  r : ∀ a, a ∈ R' → a ∈ R ∨ H a = none
  o : ∀ a u, H a = some u → a ∉ R → G a = none → G' a = none
  h : ∀ a, H' a = none → H a = none
theorem upd_none {H : Hp} {p a : Addr} {o : HO} (h : upd H p o a = none) : H a = none := by
  by_cases e : a = p
  · subst e
    rw [upd_same] at h
    cases h
  · rw [upd_ne e] at h
    exact h
theorem Stp.refl {R : List Addr} {G H : Hp} : Stp R G H R G H := ⟨fun _ _ h => h, fun _ _ h _ => h, fun _ h => .inl h, fun _ _ _ _ h => h, fun _ h => h⟩
theorem Stp.notin {R R' : List Addr} {G H G' H' : Hp} (s : Stp R G H R' G' H') {a : Addr} {o : HO} (h : H a = some o) (n : a ∉ R) : a ∉ R' := fun z => by
  rcases s.r a z with q | q
  · exact n q
  · rw [h] at q
    cases q
theorem Stp.trans {R R' R2 : List Addr} {G H G' H' G2 H2 : Hp} (s : Stp R G H R' G' H') (t : Stp R' G' H' R2 G2 H2) : Stp R G H R2 G2 H2 where
  g := fun a o h => t.g a o (s.g a o h)
  k := fun a o h n => t.k a o (s.k a o h n) (s.notin h n)
  r := fun a z => by
    rcases t.r a z with q | q
    · exact s.r a q
    · by_cases n : a ∈ R
      · exact .inl n
      · cases e : H a with
        | none => exact .inr rfl
        | some o =>
          have z2 := s.k a o e n
          rw [q] at z2
          cases z2
  o := fun a u h n z => t.o a u (s.k a u h n) (s.notin h n) (s.o a u h n z)
  h := fun a q => s.h a (t.h a q)
/-- a new object at p, frozen | left open -/
theorem Stp.new {R : List Addr} {G H : Hp} {p : Addr} {o : HO} (n : H p = none) (sub : Sub G H) : Stp R G H R (upd G p o) (upd H p o) where
  g := fun a u h => by
    rw [upd_ne (ne_of_none (sub a u h) n)]
    exact h
  k := fun a u h _ => by
    rw [upd_ne (ne_of_none h n)]
    exact h
  r := fun _ h => .inl h
  o := fun a u h _ z => by
    rw [upd_ne (ne_of_none h n)]
    exact z
  h := fun _ => upd_none
theorem Stp.open {R : List Addr} {G H : Hp} {p : Addr} {o : HO} (n : H p = none) : Stp R G H R G (upd H p o) where
  g := fun _ _ h => h
  k := fun a u h _ => by
    rw [upd_ne (ne_of_none h n)]
    exact h
  r := fun _ h => .inl h
  o := fun _ _ _ _ z => z
  h := fun _ => upd_none

/-- the base of a frame's state: the frozen part, the drawing object -/
structure Bs (C : Ctx) (b : Nat) (R : List Addr) (G H : Hp) : Prop where
  sub : Sub G H
  rg : C.rg.I b R H
  dis : ∀ a ∈ R, G a = none
theorem Bs.new {C : Ctx} {b : Nat} {R : List Addr} {G H : Hp} {p : Addr} {o : HO} (B : Bs C b R G H) (n : H p = none) : Bs C b R (upd G p o) (upd H p o) where
  sub := fun a u h => by
    by_cases e : a = p
    · subst e
      rw [upd_same] at h ⊢
      exact h
    · rw [upd_ne e] at h ⊢
      exact B.sub a u h
  rg := C.rg.fr B.rg fun a ha => upd_ne fun e => C.rg.hv B.rg a ha (e ▸ n)
  dis := fun a ha => by
    have q : a ≠ p := fun e => C.rg.hv B.rg a ha (e ▸ n)
    rw [upd_ne q]
    exact B.dis a ha
/-- a write outside the frozen part and the drawing object -/
theorem Bs.put {C : Ctx} {b : Nat} {R : List Addr} {G H : Hp} {p : Addr} {o : HO} (B : Bs C b R G H) (n : G p = none) (nr : p ∉ R) : Bs C b R G (upd H p o) where
  sub := fun a u h => by
    rw [upd_ne (ne_of_none h n)]
    exact B.sub a u h
  rg := C.rg.fr B.rg fun a ha => upd_ne fun e => nr (e ▸ ha)
  dis := B.dis
theorem Bs.gnone {C : Ctx} {b : Nat} {R : List Addr} {G H : Hp} {p : Addr} (B : Bs C b R G H) (n : H p = none) : G p = none := by
  cases e : G p with
  | none => rfl
  | some o =>
    have z := B.sub p o e
    rw [n] at z
    cases z
theorem Bs.rnone {C : Ctx} {b : Nat} {R : List Addr} {G H : Hp} {p : Addr} (B : Bs C b R G H) (n : H p = none) : p ∉ R := fun z => C.rg.hv B.rg p z n
/-- from now on what stands at p stays -/
theorem Bs.freeze {C : Ctx} {b : Nat} {R : List Addr} {G H : Hp} {p : Addr} {o : HO} (B : Bs C b R G H) (h : H p = some o) (nr : p ∉ R) : Bs C b R (upd G p o) H where
  sub := fun a u q => by
    by_cases e : a = p
    · subst e
      rw [upd_same] at q
      rw [h, q]
    · rw [upd_ne e] at q
      exact B.sub a u q
  rg := B.rg
  dis := fun a ha => by
    have q : a ≠ p := fun e => nr (e ▸ ha)
    rw [upd_ne q]
    exact B.dis a ha

/-- a list that only one slot holds, at l -/
structure Own (C : Ctx) (R : List Addr) (G H : Hp) (l : Addr) (ds : List PyData) : Prop where
  at_ : ∃ vs, H l = some (.lst vs) ∧ DqAll C.K G vs ds
  g : G l = none
  r : l ∉ R
theorem Own.stp {C : Ctx} {R R' : List Addr} {G H G' H' : Hp} {l : Addr} {ds : List PyData} (o : Own C R G H l ds) (s : Stp R G H R' G' H') (g : G' l = none) : Own C R' G' H' l ds := by
  obtain ⟨vs, h, q⟩ := o.at_
  exact ⟨⟨vs, s.k _ _ h o.r, s.g.dps q⟩, g, s.notin h o.r⟩
/-- a dict that only one slot holds, at l -/
structure OwnD (C : Ctx) (R : List Addr) (G H : Hp) (l : Addr) (kvs : List (Key × PyData)) : Prop where
  at_ : ∃ ks, H l = some (.dK ks) ∧ DqK C.K G ks kvs
  g : G l = none
  r : l ∉ R
theorem OwnD.stp {C : Ctx} {R R' : List Addr} {G H G' H' : Hp} {l : Addr} {ds : List (Key × PyData)} (o : OwnD C R G H l ds) (s : Stp R G H R' G' H') (g : G' l = none) : OwnD C R' G' H' l ds := by
  obtain ⟨vs, h, q⟩ := o.at_
  exact ⟨⟨vs, s.k _ _ h o.r, q.sub s.g⟩, g, s.notin h o.r⟩
/-- what is known of a slot -/
def SlOk (C : Ctx) (R : List Addr) (G H : Hp) (v : Option (Option V)) : Sl → Prop
  | .un => True
  | .fz w => ∃ u, v = some (some u) ∧ Rep C G u w
  | .ow ds => ∃ l, v = some (some (.ref l)) ∧ Own C R G H l ds
  | .od kvs => ∃ l, v = some (some (.ref l)) ∧ OwnD C R G H l kvs
  | .cap c => ∃ q, C.fa = some q ∧ v = some (some (.ref q.f)) ∧ q.c = c
/-- slot i holds an open list at l -/
def slOpn : Sl → Prop
  | .ow _ => True
  | .od _ => True
  | _ => False
def Opn (σ : L2.St) (e : En) (i : Nat) (l : Addr) : Prop := (∃ s, e[i]? = some s ∧ slOpn s) ∧ σ[i]? = some (some (.ref l))
/-- a frame's state -/
structure St (C : Ctx) (b : Nat) (R : List Addr) (G : Hp) (σ : L2.St) (H : Hp) (e : En) : Prop where
  bs : Bs C b R G H
  len : e.length = σ.length
  sl : ∀ (i : Nat) (s : Sl), e[i]? = some s → SlOk C R G H σ[i]? s
  ap : ∀ (i j : Nat) (l : Addr), Opn σ e i l → Opn σ e j l → i = j
theorem St.opn_some {C : Ctx} {b : Nat} {R : List Addr} {G H : Hp} {σ : L2.St} {e : En} (S : St C b R G σ H e) {i : Nat} {l : Addr} (o : Opn σ e i l) : (∃ u, H l = some u) ∧ G l = none ∧ l ∉ R := by
  obtain ⟨⟨s, h, ho⟩, hs⟩ := o
  cases s with
  | un => exact ho.elim
  | cap c => exact ho.elim
  | fz w => exact ho.elim
  | ow ds =>
    obtain ⟨l', e1, ow⟩ := S.sl i _ h
    rw [hs] at e1
    obtain rfl : l = l' := by
      injection e1 with e1
      injection e1 with e1
      injection e1
    obtain ⟨vs, q, _⟩ := ow.at_
    exact ⟨⟨_, q⟩, ow.g, ow.r⟩
  | od ds =>
    obtain ⟨l', e1, ow⟩ := S.sl i _ h
    rw [hs] at e1
    obtain rfl : l = l' := by
      injection e1 with e1
      injection e1 with e1
      injection e1
    obtain ⟨vs, q, _⟩ := ow.at_
    exact ⟨⟨_, q⟩, ow.g, ow.r⟩
theorem St.stp {C : Ctx} {b b' : Nat} {R R' : List Addr} {G H G' H' : Hp} {σ : L2.St} {e : En} (S : St C b R G σ H e) (s : Stp R G H R' G' H') (B : Bs C b' R' G' H') : St C b' R' G' σ H' e where
  bs := B
  len := S.len
  sl := fun i sl h => by
    have z := S.sl i sl h
    cases sl with
    | un => trivial
    | cap c => exact z
    | fz w =>
      obtain ⟨u, e1, r⟩ := z
      exact ⟨u, e1, r.sub s.g⟩
    | ow ds =>
      obtain ⟨l, e1, o⟩ := z
      obtain ⟨⟨u, q⟩, q2, q3⟩ := S.opn_some ⟨⟨_, h, trivial⟩, e1⟩
      exact ⟨l, e1, o.stp s (s.o l u q q3 q2)⟩
    | od ds =>
      obtain ⟨l, e1, o⟩ := z
      obtain ⟨⟨u, q⟩, q2, q3⟩ := S.opn_some ⟨⟨_, h, trivial⟩, e1⟩
      exact ⟨l, e1, o.stp s (s.o l u q q3 q2)⟩
  ap := S.ap
theorem St.new {C : Ctx} {b : Nat} {R : List Addr} {G H : Hp} {σ : L2.St} {e : En} {p : Addr} {o : HO} (S : St C b R G σ H e) (n : H p = none) : St C b R (upd G p o) σ (upd H p o) e :=
  S.stp (Stp.new n S.bs.sub) (S.bs.new n)
/-- a new object that is not frozen -/
theorem St.opened {C : Ctx} {b : Nat} {R : List Addr} {G H : Hp} {σ : L2.St} {e : En} {p : Addr} {o : HO} (S : St C b R G σ H e) (n : H p = none) : St C b R G σ (upd H p o) e :=
  S.stp (Stp.open n) (S.bs.put (S.bs.gnone n) (S.bs.rnone n))
/-- a write to an open object that no slot holds -/
theorem St.write {C : Ctx} {b : Nat} {R : List Addr} {G H : Hp} {σ : L2.St} {e : En} {p : Addr} {o : HO} (S : St C b R G σ H e) (g : G p = none) (r : p ∉ R) (no : ∀ i, ¬ Opn σ e i p) : St C b R G σ (upd H p o) e where
  bs := S.bs.put g r
  len := S.len
  sl := fun i sl h => by
    have z := S.sl i sl h
    cases sl with
    | un => trivial
    | cap c => exact z
    | fz w => exact z
    | ow ds =>
      obtain ⟨l, e1, ow⟩ := z
      obtain ⟨vs, q, q2⟩ := ow.at_
      refine ⟨l, e1, ⟨vs, ?_, q2⟩, ow.g, ow.r⟩
      have ne : l ≠ p := fun z => no i (z ▸ ⟨⟨_, h, trivial⟩, e1⟩)
      rw [upd_ne ne]
      exact q
    | od ds =>
      obtain ⟨l, e1, ow⟩ := z
      obtain ⟨vs, q, q2⟩ := ow.at_
      refine ⟨l, e1, ⟨vs, ?_, q2⟩, ow.g, ow.r⟩
      have ne : l ≠ p := fun z => no i (z ▸ ⟨⟨_, h, trivial⟩, e1⟩)
      rw [upd_ne ne]
      exact q
  ap := S.ap

/-! ### a computation at a frame's state -/
def Run {α : Type} (C : Ctx) (W : WX) (σ : L2.St) (e : En) (b : Nat) (R : List Addr) (G H : Hp) (c : Comp α) (k : Nat → List Addr → Hp → Hp → α → Prop) : Prop :=
  c.wp b (fun b' a => ∀ R' G' H', Stp R G H R' G' H' → St C b' R' G' σ H' e → k b' R' G' H' a)
    fun b' x => ∀ R' G' H' cls d, Stp R G H R' G' H' → St C b' R' G' σ H' e → exrN C x cls d H H' → W cls d σ H'
section
variable {α β : Type} {C : Ctx} {W : WX} {σ : L2.St} {e : En} {b : Nat} {R : List Addr} {G H : Hp}
theorem Run.mono {c : Comp α} {k k' : Nat → List Addr → Hp → Hp → α → Prop} (h : Run C W σ e b R G H c k)
    (m : ∀ b' R' G' H' a, Stp R G H R' G' H' → St C b' R' G' σ H' e → k b' R' G' H' a → k' b' R' G' H' a) : Run C W σ e b R G H c k' :=
  Comp.wp_mono h (fun b' a q R' G' H' s S => m b' R' G' H' a s S (q R' G' H' s S)) fun _ _ q => q
theorem Run.bind {c : Comp α} {f : α → Comp β} {k : Nat → List Addr → Hp → Hp → β → Prop} (h : Run C W σ e b R G H (c.bind f) k) :
    Run C W σ e b R G H c fun b' R' G' H' a => Run C W σ e b' R' G' H' (f a) k :=
  Comp.wp_mono (Comp.wp_bind.mp h) (fun _ a q R' G' H' s S => Comp.wp_mono q (fun _ _ z R2 G2 H2 s2 S2 => z R2 G2 H2 (s.trans s2) S2) fun _ _ z R2 G2 H2 cls d s2 S2 ex => z R2 G2 H2 cls d (s.trans s2) S2 (ex.back s.h)) fun _ _ q => q
theorem Run.ret {a : α} {k : Nat → List Addr → Hp → Hp → α → Prop} (S : St C b R G σ H e) (h : Run C W σ e b R G H (.ret a) k) : k b R G H a := h R G H .refl S
theorem Run.stuck {k : Nat → List Addr → Hp → Hp → α → Prop} {p : Prop} (h : Run C W σ e b R G H (.stuck : Comp α) k) : p := h.elim
/-- the data of a value -/
theorem Run.dD {c : Comp Wd} {k : Nat → List Addr → Hp → Hp → PyData → Prop} (h : Run C W σ e b R G H (TC.dD c) k) :
    Run C W σ e b R G H c fun b' R' G' H' w => ∃ x, w = .d x ∧ k b' R' G' H' x :=
  Run.mono (Run.bind h) fun b' R' G' H' w _ S q => by
    cases w with
    | d x => exact ⟨x, rfl, Run.ret S q⟩
    | _ => exact q.stuck
theorem Run.dB {c : Comp Wd} {k : Nat → List Addr → Hp → Hp → Bool → Prop} (h : Run C W σ e b R G H (TC.dB c) k) :
    Run C W σ e b R G H c fun b' R' G' H' w => ∃ x, w = .d (.bool x) ∧ k b' R' G' H' x :=
  Run.mono (Run.bind h) fun b' R' G' H' w _ S q => by
    cases w with
    | d x => cases x <;> first | exact ⟨_, rfl, Run.ret S q⟩ | exact q.stuck
    | _ => exact q.stuck
theorem Run.dI {c : Comp Wd} {k : Nat → List Addr → Hp → Hp → Int → Prop} (h : Run C W σ e b R G H (TC.dI c) k) :
    Run C W σ e b R G H c fun b' R' G' H' w => ∃ x, w = .d (.int x) ∧ k b' R' G' H' x :=
  Run.mono (Run.bind h) fun b' R' G' H' w _ S q => by
    cases w with
    | d x => cases x <;> first | exact ⟨_, rfl, Run.ret S q⟩ | exact q.stuck
    | _ => exact q.stuck
end

/-! ### readings -/
/-- what is wanted behind a value that stays -/
abbrev KW (C : Ctx) (Q : VK) : Nat → List Addr → Hp → Hp → Wd → Prop := fun _ _ G' H' w => ∀ v, Rep C G' v w → Q v H'
/-- an expression whose value stays, by what it computes -/
def tX (C : Ctx) (W : WX) (ev : En → Comp Wd) : TE := fun σ H Q => ∃ b R G e, St C b R G σ H e ∧ Run C W σ e b R G H (ev e) (KW C Q)
theorem tX.mono {C : Ctx} {W : WX} {ev : En → Comp Wd} {σ : L2.St} {H : Hp} {Q Q' : VK} (h : tX C W ev σ H Q) (m : ∀ v H', Q v H' → Q' v H') : tX C W ev σ H Q' := by
  obtain ⟨b, R, G, e, S, h⟩ := h
  exact ⟨b, R, G, e, S, h.mono fun _ _ _ _ _ _ _ q v r => m v _ (q v r)⟩
theorem peM {X : Cx} {e : Expr} {t t' : TE} (h : L2.PE X e t) (m : ∀ σ H Q, t' σ H Q → t σ H Q) : L2.PE X e t' :=
  ⟨fun pins s σ H Q I q => h.run pins s σ H Q I (m σ H Q q)⟩
theorem ptM {X : Cx} {e : Expr} {t t' : TT} (h : L2.PT X e t) (m : ∀ σ H Q, t' σ H Q → t σ H Q) : L2.PT X e t' :=
  ⟨fun pins s σ H Q I q => h.run pins s σ H Q I (m σ H Q q)⟩
/-- an operand is read, the rest goes on from there -/
theorem tX.of {C : Ctx} {W : WX} {ev : En → Comp Wd} {σ : L2.St} {H : Hp} {e : En} {b : Nat} {R : List Addr} {G : Hp} {Q : VK} (S : St C b R G σ H e) {k : Nat → List Addr → Hp → Hp → Wd → Prop} (h : Run C W σ e b R G H (ev e) k)
    (m : ∀ b' R' G' H' w v, Stp R G H R' G' H' → St C b' R' G' σ H' e → Rep C G' v w → k b' R' G' H' w → Q v H') : tX C W ev σ H Q :=
  ⟨b, R, G, e, S, h.mono fun b' R' G' H' w s S' q v r => m b' R' G' H' w v s S' r q⟩
/-- two data operands -/
theorem tX2 {C : Ctx} {W : WX} {ca cb : En → Comp Wd} {f : En → PyData → PyData → Comp Wd} {σ : L2.St} {H : Hp} {Q : VK}
    (h : tX C W (fun e => (dD (ca e)).bind fun x => (dD (cb e)).bind fun y => f e x y) σ H Q) {Q2 : V → V → Hp → Prop}
    (m : ∀ b R G H2 e vx vy x y, St C b R G σ H2 e → Dq C.K G vx x → Dq C.K G vy y → Run C W σ e b R G H2 (f e x y) (KW C Q) → Q2 vx vy H2) :
    tX C W ca σ H fun vx H1 => tX C W cb σ H1 fun vy H2 => Q2 vx vy H2 := by
  obtain ⟨b, R, G, e, S, h⟩ := h
  refine tX.of S h.bind.dD fun b1 R1 G1 H1 w1 v1 s1 S1 r1 ⟨x, ew, q⟩ => ?_
  subst ew
  refine tX.of S1 q.bind.dD fun b2 R2 G2 H2 w2 v2 s2 S2 r2 ⟨y, ew, q2⟩ => ?_
  subst ew
  exact m b2 R2 G2 H2 e v1 v2 x y S2 (s2.g.dp r1) r2 q2
/-- one data operand -/
theorem tX1 {C : Ctx} {W : WX} {ca : En → Comp Wd} {f : En → PyData → Comp Wd} {σ : L2.St} {H : Hp} {Q : VK}
    (h : tX C W (fun e => (dD (ca e)).bind fun x => f e x) σ H Q) {Q2 : V → Hp → Prop}
    (m : ∀ b R G H2 e vx x, St C b R G σ H2 e → Dq C.K G vx x → Run C W σ e b R G H2 (f e x) (KW C Q) → Q2 vx H2) :
    tX C W ca σ H fun vx H1 => Q2 vx H1 := by
  obtain ⟨b, R, G, e, S, h⟩ := h
  refine tX.of S h.bind.dD fun b1 R1 G1 H1 w1 v1 s1 S1 r1 ⟨x, ew, q⟩ => ?_
  subst ew
  exact m b1 R1 G1 H1 e v1 x S1 r1 q
/-- an end in plain data -/
theorem endD {C : Ctx} {W : WX} {σ : L2.St} {e : En} {b : Nat} {R : List Addr} {G H : Hp} {x : PyData} {v : V} {Q : VK} (S : St C b R G σ H e) (h : Run C W σ e b R G H (.ret (.d x)) (KW C Q)) (r : Dq C.K G v x) : Q v H := Run.ret S h v r
theorem endR {C : Ctx} {W : WX} {σ : L2.St} {e : En} {b : Nat} {R : List Addr} {G H : Hp} {x : PyData} {v : V} {Q : VK} (S : St C b R G σ H e) (h : Run C W σ e b R G H (retD (.ret x)) (KW C Q)) (r : Dq C.K G v x) : Q v H := Run.ret S h v r
/-- an end in a new tuple, a new list that stays -/
theorem endT {C : Ctx} {W : WX} {σ : L2.St} {e : En} {b : Nat} {R : List Addr} {G H : Hp} {ds : List PyData} {vs : List V} {Q : VK} (S : St C b R G σ H e) (h : Run C W σ e b R G H (.ret (.d (.tuple ds))) (KW C Q)) (r : DqAll C.K G vs ds) :
    ∀ p, H p = none → Q (.ref p) (upd H p (.tup vs)) := fun p n =>
  h R _ _ (Stp.new n S.bs.sub) (S.new n) (.ref p) (Dq.tup (.inl (.inl upd_same)) ((Stp.new (R := R) n S.bs.sub).g.dps r))
theorem endL {C : Ctx} {W : WX} {σ : L2.St} {e : En} {b : Nat} {R : List Addr} {G H : Hp} {ds : List PyData} {vs : List V} {Q : VK} (S : St C b R G σ H e) (h : Run C W σ e b R G H (.ret (.d (.list ds))) (KW C Q)) (r : DqAll C.K G vs ds) :
    ∀ p, H p = none → Q (.ref p) (upd H p (.lst vs)) := fun p n =>
  h R _ _ (Stp.new n S.bs.sub) (S.new n) (.ref p) (Dq.lst (.inl upd_same) ((Stp.new (R := R) n S.bs.sub).g.dps r))

/-! ### the promises of the text's functions -/
/-- how a function's answer stands -/
def RetOk (C : Ctx) (H : Hp) (R' : List Addr) (G' H' : Hp) (v : V) : FR → Prop
  | .fz w => Rep C G' v w
  | .ow ds => ∃ l, v = .ref l ∧ H l = none ∧ Own C R' G' H' l ds
/-- a function's promise, by what it computes -/
def spG (C : Ctx) (c : List Wd → Comp FR) : Sp := fun vs H Q E => ∃ b R G ws, Bs C b R G H ∧ Reps C G vs ws ∧
  (c ws).wp b (fun b' r => ∀ R' G' H' v, Stp R G H R' G' H' → Bs C b' R' G' H' → RetOk C H R' G' H' v r → Q v H')
    (fun b' x => ∀ R' G' H' cls d, Stp R G H R' G' H' → Bs C b' R' G' H' → exrN C x cls d H H' → E cls d H')
abbrev spU (C : Ctx) (j : Nat) : Sp := spG C (C.cl j)
def spD (C : Ctx) : Sp := fun vs H Q _ => ∃ b R G n, Bs C (b + 1) R G H ∧ vs = [.ref C.am, .int n] ∧ 0 < n ∧ n < 1073741824 ∧
  ∀ r R' H', 0 ≤ r → r < n → Stp R G H R' G H' → Bs C b R' G H' → Q (.int r) H'
def bltB (x : Str) : Bool := decide (x ∈ (["len", "int", "str", "all", "sum", "tuple", "repr", "min", "max", "isinstance", "bool", "list", "range", "enumerate", "zip", "sorted", "set"] : List Str))
/-- what a call of the lambda that was handed to the def does -/
def ActOk (C : Ctx) (X : Cx) (q : FnA) : Prop := ∀ (pn : List (Addr × Obj)) (xe : Value → Shared → Prop) (W : WX) (a : Str) (i : Nat) (p1 p2 : Pos), X.N[i]? = some a → visB X.env.scope a = true → Takes (X.tr pn xe) W → PassesOwn (model X.prog X.w) X.A X.env xe →
  PE (X.tr pn xe) (.Call (.Name a p1) [] [] p2) (fun σ H Q => σ[i]? = some (some (.ref q.f)) ∧ ∃ b R G, Stp q.R q.G q.H R G H ∧ Bs C b R G H ∧
    q.c.wp b (fun b' w => ∀ R' G' H' v, Stp R G H R' G' H' → Bs C b' R' G' H' → Rep C G' v w → Q v H') (fun b' x => ∀ R' G' H' cls d, Stp R G H R' G' H' → Bs C b' R' G' H' → exrN C x cls d H H' → W cls d σ H'))
/-- the promise of a def that is handed a lambda -/
def HoG (C : Ctx) (P : Program) (w : World) (K : PySem.W.Frag) (mg : Str → Option Value) (base : Heap) (j : Nat) (g : Addr) (fd : FuncData) (par : Str) : Prop :=
  ∀ (A : Around) (outer : List Env) (s : Shared) (H : Hp) (args : Args) (q : FnA) (b : Nat) (Q : VK) (E : XK), A.guards = some [] → Room (C.lv + 2) A → Env0 P w K mg base A outer s H → BindsTo s fd args [(par, .ref q.f)] → q.H = H → Bs C b q.R q.G H →
    (∀ (N : List Str) (qual : Str) (scope : Scope) (cdv : Value), ActOk C (cxOf (L2.CX P w) P w K mg base N qual scope g cdv A outer s H E) q) →
    (C.cl j [.fn q.c]).wp b (fun b' r => ∀ R' G' H' v, Stp q.R q.G H R' G' H' → Bs C b' R' G' H' → RetOk C H R' G' H' v r → Q v H') (fun b' x => ∀ R' G' H' cls d, Stp q.R q.G H R' G' H' → Bs C b' R' G' H' → exrN C x cls d H H' → E cls d H') →
    codeAny (model P w) A (.call (.ref g) args) (CR (L2.CX P w) outer P w H s Q E) s
/-- what the text's top holds -/
structure ModOk (C : Ctx) (P : Program) (w : World) (K : PySem.W.Frag) (mg : Str → Option Value) (base : Heap) : Prop where
  hK : K = C.K
  blt : ∀ x, bltB x = true → mg x = none
  con : ∀ x v, C.ck.cons.lookup x = some v → ∃ u vv, mg x = some vv ∧ RelV u vv ∧ Dq C.K (fun _ => none) u v.val
  fn : ∀ (j : Nat) x, C.ck.fns[j]? = some x → ∃ f fd ps, mg x = some (.ref f) ∧ PySem.W.keepIn K (.ref f) = true ∧ Binds K fd ps [] ∧ FnG P w K mg base C.lv f fd ps (spU C j)
  hof : ∀ (j : Nat) x, (j, x) ∈ C.ck.hos → ∃ g fd par, mg x = some (.ref g) ∧ PySem.W.keepIn K (.ref g) = true ∧ Binds K fd [par] [] ∧ HoG C P w K mg base j g fd par
  isx : C.ck.isx = true → ∀ (c : Nat) q, C.exs[c]? = some q → ExcC K q.C
  exl : C.ck.exs = C.exs.map fun q => (q.nm, q.fld)
  ex : ∀ (c : Nat) q, C.exs[c]? = some q → ∃ B newId i bmB pn, TX.ExTx P K mg q.nm q.C B newId i bmB pn q.fld
  exd : ∀ (c c' : Nat) q q', C.exs[c]? = some q → C.exs[c']? = some q' → PySem.W.exmOne K (.ref q.C) (.ref q'.C) = some (decide (c = c'))
  drw : ∃ f fd ps, mg C.ck.dn = some (.ref f) ∧ PySem.W.keepIn K (.ref f) = true ∧ Binds K fd ps [] ∧ FnG P w K mg base C.lv f fd ps (spD C)
  sys : ∃ o, base.get? sysModules = some o
/-- what a def that makes lambdas must know of its frame -/
structure LamOk (C : Ctx) (X : Cx) : Prop where
  room : Room (C.lv + 2) X.A
  tb : ∃ c P, X.env.code = .ref c ∧ LamX.TabB X.base X.mg c P ∧ (P, X.env.qual ++ "<lambda>") ∈ C.tabs ∧ ∀ p ∈ C.tabs, p.1 = P → p.2 = X.env.qual ++ "<lambda>"
  rg : ∃ rg0, C.rg = rgT C.tabs rg0
structure XOk (C : Ctx) (W : WX) (X : Cx) : Prop where
  m : ModOk C X.prog X.w X.K X.mg X.base
  calm : X.calm = true
  gu : X.A.guards = some []
  room : Room C.lv X.A
  nd : X.N.Nodup
  tk : Takes X W
  own : PassesOwn (model X.prog X.w) X.A X.env X.xe
  lam : C.ck.lam = true → LamOk C X
end TC

set_option Elab.async false
set_option linter.all false
set_option maxRecDepth 100000
set_option maxHeartbeats 2000000
namespace TC
open PySem L2 PySem.Spec

/-! ### the forms that our syntax is read back into -/
def headB : Expr → Bool
  | .Starred .. => false
  | .Set .. => false
  | .Slice .. => false
  | .NamedExpr .. => false
  | .Yield .. => false
  | .Await .. => false
  | _ => true
theorem Ef.head (f : Ef) : headB f.em = true := by cases f <;> rfl
theorem Ee.head (e : Ee) : headB e.em = true := by
  cases e <;> first | rfl | exact Ef.head _
theorem Eb.head (e : Eb) : headB e.em = true := by
  cases e <;> first | rfl | exact Ee.head _
theorem star_of {e : Expr} (h : headB e = true) (es : List Expr) (env : Env) : starEach (e :: es) env = (false, eval e env) :: starEach es env := by
  cases e <;> first | rfl | cases h
theorem marks_of {e : Expr} (h : headB e = true) (op : CmpOp) : behindInMarks op e = false := by
  cases e <;> first | rfl | cases h
theorem plainIx_of {e : Expr} (h : headB e = true) : PlainIx e := by
  intro o i
  cases e <;> first | rfl | cases h
theorem Es.star : ∀ (es : Es) (env : Env) (pos : Pos), (backTo pos (starEach es.em env)).any (·.1) = false
  | .nil, _, _ => rfl
  | .cons e es, env, pos => by
    show (backTo pos (starEach (e.em :: es.em) env)).any (·.1) = false
    rw [star_of e.head]
    show (false || (backTo pos (starEach es.em env)).any (·.1)) = false
    rw [Es.star es env pos]
    rfl
theorem plainNm_of {x : Str} (h : plainNm x = true) : (x == ("__debug__" : Str)) = false ∧ (x == ("__classdict__" : Str)) = false ∧ x ≠ "__name__" := by
  unfold plainNm at h
  rw [Bool.and_eq_true, Bool.and_eq_true] at h
  obtain ⟨⟨h1, h2⟩, h3⟩ := h
  refine ⟨by simpa using h1, by simpa using h2, by simpa using h3⟩
theorem vis_of {sc : Scope} {x : Str} (h : visB sc x = true) : Vis sc x := by
  unfold visB at h
  rw [Bool.and_eq_true] at h
  have q := h.2
  split at q <;> first | (rename_i e; first | exact .inl e | exact .inr (.inl e) | exact .inr (.inr e)) | cases q
theorem loc_of {sc : Scope} {x : Str} (h : locB sc x = true) : Loc sc x := by
  unfold locB at h
  rw [Bool.and_eq_true] at h
  have q := h.2
  split at q <;> first | (rename_i e; first | exact .inl e | exact .inr e) | cases q
theorem gl_of {X : Cx} {x : Str} (h : glB X.env.scope x = true) : Gl X x := by
  unfold glB at h
  rw [Bool.and_eq_true] at h
  have q := h.2
  split at q <;> first | (rename_i e; exact e) | cases q
theorem nm_vis {sc : Scope} {x : Str} (h : visB sc x = true) : plainNm x = true := (Bool.and_eq_true_iff.mp h).1
theorem nm_gl {sc : Scope} {x : Str} (h : glB sc x = true) : plainNm x = true := (Bool.and_eq_true_iff.mp h).1
theorem slot_of {N : List Str} {i : Nat} {x : Str} (h : slotB N i x = true) : N[i]? = some x := by
  unfold slotB at h
  simpa using h

section
variable {C : Ctx} {W : WX} {X : Cx}
/-! ### names and constants -/
theorem e_var (hX : XOk C W X) {i : Nat} {x : Str} {p : Pos} (hN : X.N[i]? = some x) (hv : visB X.env.scope x = true) : PE X (Ee.var i x p).em (tX C W ((Ee.var i x p).ev C.cl)) := by
  have n := plainNm_of (nm_vis hv)
  refine peM (pe_var hN (vis_of hv) n.1 n.2.1) fun σ H Q h => ?_
  obtain ⟨b, R, G, e, S, h⟩ := h
  have h : Run C W σ e b R G H (varE e i) (KW C Q) := h
  unfold varE at h
  split at h
  · rename_i w ew
    obtain ⟨u, e1, r⟩ := S.sl i _ ew
    exact ⟨u, e1, Run.ret S h u r⟩
  · exact h.stuck
theorem e_con (hX : XOk C W X) {v : Cst} {x : Str} {p : Pos} (hg : glB X.env.scope x = true) (hc : C.ck.cons.lookup x = some v) : PE X (Ee.con x v p).em (tX C W ((Ee.con x v p).ev C.cl)) := by
  obtain ⟨u, vv, hm, r, d⟩ := hX.m.con x v hc
  refine peM (pe_glob (gl_of hg) hm r (plainNm_of (nm_gl hg)).1) fun σ H Q h => ?_
  obtain ⟨b, R, G, e, S, h⟩ := h
  exact Run.ret S h u ((show Sub (fun _ => none) G from fun _ _ z => nomatch z).dp d)
theorem e_non {k : Nat} {p : Pos} : PE X (Ee.non k p).em (tX C W ((Ee.non k p).ev C.cl)) :=
  peM pe_non fun σ H Q ⟨b, R, G, e, S, h⟩ => Run.ret S h _ .non
theorem e_dic {p : Pos} : PE X (Ee.dic p).em (tX C W ((Ee.dic p).ev C.cl)) :=
  peM pe_dnewK fun σ H Q ⟨b, R, G, e, S, h⟩ p n => h R _ _ (Stp.new n S.bs.sub) (S.new n) (.ref p) (.dic upd_same)
theorem e_bl {v : Bool} {k : Nat} {p : Pos} : PE X (Ee.bl v k p).em (tX C W ((Ee.bl v k p).ev C.cl)) :=
  peM pe_bl fun σ H Q ⟨b, R, G, e, S, h⟩ => Run.ret S h _ (.bl v)
theorem e_int {v : Int} {k : Nat} {p : Pos} : PE X (Ee.int v k p).em (tX C W ((Ee.int v k p).ev C.cl)) :=
  peM pe_int fun σ H Q ⟨b, R, G, e, S, h⟩ => Run.ret S h _ (.int v)
theorem e_str {v : Str} {k : Nat} {p : Pos} : PE X (Ee.str v k p).em (tX C W ((Ee.str v k p).ev C.cl)) :=
  peM pe_str fun σ H Q ⟨b, R, G, e, S, h⟩ => Run.ret S h _ (.str v)

/-! ### argument lists -/
/-- data, one after another -/
def tAs (C : Ctx) (W : WX) (ev : En → Comp (List PyData)) : TA := fun σ H Q => ∃ b R G e, St C b R G σ H e ∧ Run C W σ e b R G H (ev e) fun _ _ G' H' ds => ∀ vs, DqAll C.K G' vs ds → Q vs H'
def tWs (C : Ctx) (W : WX) (ev : En → Comp (List Wd)) : TA := fun σ H Q => ∃ b R G e, St C b R G σ H e ∧ Run C W σ e b R G H (ev e) fun b' R' G' H' ws => ∀ vs, Reps C G' vs ws → Q vs H'
theorem paM {X : Cx} {es : List Expr} {t t' : TA} (h : PA X es t) (m : ∀ σ H Q, t' σ H Q → t σ H Q) : PA X es t' :=
  ⟨fun pos pins s σ H Q I q => h.run pos pins s σ H Q I (m σ H Q q)⟩
theorem as_nil : PA X Es.nil.em (tAs C W (Es.nil.ev C.cl)) := paM pa_nil fun σ H Q ⟨b, R, G, e, S, h⟩ => Run.ret S h [] .nil
theorem as_cons {a : Ee} {es : Es} (h1 : PE X a.em (tX C W (a.ev C.cl))) (h2 : PA X es.em (tAs C W (es.ev C.cl))) : PA X (Es.cons a es).em (tAs C W ((Es.cons a es).ev C.cl)) := by
  refine paM (pa_cons h1 h2 (star_of a.head _ _)) fun σ H Q ⟨b, R, G, e, S, h⟩ => ?_
  have h : Run C W σ e b R G H ((dD (a.ev C.cl e)).bind fun d => (es.ev C.cl e).bind fun ds => .ret (d :: ds)) _ := h
  refine tX.of S h.bind.dD fun b1 R1 G1 H1 w v s1 S1 r1 ⟨x, ew, q⟩ => ?_
  subst ew
  refine ⟨b1, R1, G1, e, S1, q.bind.mono fun b2 R2 G2 H2 ds s2 S2 q2 vs r2 => ?_⟩
  exact Run.ret S2 q2 (v :: vs) (.cons (s2.g.dp r1) r2)
theorem ws_nil : PA X Es.nil.em (tWs C W (Es.nil.evW C.cl)) := paM pa_nil fun σ H Q ⟨b, R, G, e, S, h⟩ => Run.ret S h [] trivial
theorem ws_cons {a : Ee} {es : Es} (h1 : PE X a.em (tX C W (a.ev C.cl))) (h2 : PA X es.em (tWs C W (es.evW C.cl))) : PA X (Es.cons a es).em (tWs C W ((Es.cons a es).evW C.cl)) := by
  refine paM (pa_cons h1 h2 (star_of a.head _ _)) fun σ H Q ⟨b, R, G, e, S, h⟩ => ?_
  have h : Run C W σ e b R G H ((a.ev C.cl e).bind fun d => (es.evW C.cl e).bind fun ds => .ret (d :: ds)) _ := h
  refine tX.of S h.bind fun b1 R1 G1 H1 w v s1 S1 r1 q => ?_
  refine ⟨b1, R1, G1, e, S1, q.bind.mono fun b2 R2 G2 H2 ds s2 S2 q2 vs r2 => ?_⟩
  exact Run.ret S2 q2 (v :: vs) ⟨r1.sub s2.g, r2⟩

/-! ### displays -/
theorem lim_line {n : Nat} (h : n ≤ LIM) : n ≤ sizeLine := Nat.le_trans h (by decide)
theorem es_len (cl : Nat → List Wd → Comp FR) : ∀ (es : Es) (e : En), (es.ev cl e).All fun ds => ds.length = es.len
  | .nil, e => rfl
  | .cons a es, e => Comp.all_bind (Comp.all_true _) fun d _ => Comp.all_bind (es_len cl es e) fun ds h => congrArg (· + 1) h
theorem Run.all {α : Type} {σ : L2.St} {e : En} {b : Nat} {R : List Addr} {G H : Hp} {c : Comp α} {k : Nat → List Addr → Hp → Hp → α → Prop} {P : α → Prop} (h : Run C W σ e b R G H c k) (a : c.All P) : Run C W σ e b R G H c fun b' R' G' H' x => P x ∧ k b' R' G' H' x :=
  Comp.wp_mono (Comp.wp_all h a) (fun _ _ z R' G' H' s S => ⟨z.1, z.2 R' G' H' s S⟩) fun _ _ z => z
theorem e_tup {es : Es} {k : Nat} {p : Pos} (h1 : PA X es.em (tAs C W (es.ev C.cl))) (hl : es.len ≤ 1000) : PE X (Ee.tup es k p).em (tX C W ((Ee.tup es k p).ev C.cl)) := by
  refine peM (pe_tup h1) fun σ H Q ⟨b, R, G, e, S, h⟩ => ⟨b, R, G, e, S, ((Run.bind h).all (es_len C.cl es e)).mono fun b1 R1 G1 H1 ds s1 S1 ⟨hn, q⟩ vs r => ?_⟩
  refine ⟨?_, endT S1 q r⟩
  rw [dps_length r, hn]
  exact lim_line (by unfold LIM; omega)
/-- a list that is only now made, open still -/
abbrev KF (C : Ctx) (σ : L2.St) (e : En) (Q : VK) : Nat → List Addr → Hp → Hp → List PyData → Prop := fun b' R' G' H' ds => ∀ l H2, H' l = none → Stp R' G' H' R' G' H2 → St C b' R' G' σ H2 e → (∃ vs, H2 l = some (.lst vs) ∧ DqAll C.K G' vs ds) → Q (.ref l) H2
/-- an expression that makes a new list -/
def tF (C : Ctx) (W : WX) (ev : En → Comp (List PyData)) : TE := fun σ H Q => ∃ b R G e, St C b R G σ H e ∧ Run C W σ e b R G H (ev e) (KF C σ e Q)
/-- the new list is written down -/
theorem endF {b : Nat} {R : List Addr} {G H : Hp} {σ : L2.St} {e : En} {Q : VK} {ds : List PyData} {vs : List V} (S : St C b R G σ H e) (h : Run C W σ e b R G H (.ret ds) (KF C σ e Q)) (r : DqAll C.K G vs ds) : ∀ l, H l = none → Q (.ref l) (upd H l (.lst vs)) :=
  fun l n => Run.ret S h l _ n (Stp.open n) (S.opened n) ⟨vs, upd_same, r⟩
theorem f_lst {es : Es} {p : Pos} (h1 : PA X es.em (tAs C W (es.ev C.cl))) (hl : es.len ≤ 1000) : PE X (Ef.lst es p).em (tF C W ((Ef.lst es p).ev C.cl)) := by
  refine peM (pe_lst h1) fun σ H Q ⟨b, R, G, e, S, h⟩ => ⟨b, R, G, e, S, (Run.all h (es_len C.cl es e)).mono fun b1 R1 G1 H1 ds s1 S1 ⟨hn, q⟩ vs r => ⟨?_, fun l n => ?_⟩⟩
  · rw [dps_length r, hn]
    exact lim_line (by unfold LIM; omega)
  · exact q l _ n (Stp.open n) (S1.opened n) ⟨vs, upd_same, r⟩
/-- a new list that from its making on stays -/
theorem e_frz {f : Ef} (h1 : PE X f.em (tF C W (f.ev C.cl))) : PE X (Ee.frz f).em (tX C W ((Ee.frz f).ev C.cl)) := by
  refine peM h1 fun σ H Q ⟨b, R, G, e, S, h⟩ => ⟨b, R, G, e, S, (Run.bind h).mono fun b1 R1 G1 H1 ds s1 S1 q l H2 n s2 S2 ⟨vs, hv, r⟩ => ?_⟩
  have nr : l ∉ R1 := S1.bs.rnone n
  have B := S2.bs.freeze hv nr
  have st : Stp R1 G1 H1 R1 (upd G1 l (.lst vs)) H2 := ⟨fun a u q => by
    have ne : a ≠ l := ne_of_none (S1.bs.sub a u q) n
    rw [upd_ne ne]
    exact q, s2.k, s2.r, fun a u h _ z => by
    rw [upd_ne (ne_of_none h n)]
    exact z, s2.h⟩
  have S3 : St C b1 R1 (upd G1 l (.lst vs)) σ H2 e := S1.stp st B
  exact q R1 _ H2 st S3 (.ref l) (.lst (.inl upd_same) (st.g.dps r))
end
end TC

set_option Elab.async false
set_option linter.all false
set_option maxRecDepth 100000
set_option maxHeartbeats 2000000
namespace TC
open PySem L2 PySem.Spec
section
variable {C : Ctx} {W : WX} {X : Cx}

/-! ### operators -/
theorem opOr {f : Value → Value → Sem Value} {r r' : R2} (h : OpR X f r) (h' : OpR X f r') : OpR X f (fun x y H Q => r x y H Q ∨ r' x y H Q) :=
  fun pins s σ H x y v u Q I rx ry q => q.elim (h pins s σ H x y v u Q I rx ry) (h' pins s σ H x y v u Q I rx ry)
/-- the reading of a two-place operator, by its rule r -/
theorem bin_of (hX : XOk C W X) {o : BO} {r : R2} {a b : Ee} {p : Pos} (ho : OpR X (binaryOp o.op) r) (ha : PE X a.em (tX C W (a.ev C.cl))) (hb : PE X b.em (tX C W (b.ev C.cl)))
    (m : ∀ (n : Nat) R G H (σ : L2.St) e vx vy x y Q, St C n R G σ H e → Dq C.K G vx x → Dq C.K G vy y → Run C W σ e n R G H (retD (binE o x y)) (KW C Q) → r vx vy H Q) :
    PE X (Ee.bin o a b p).em (tX C W ((Ee.bin o a b p).ev C.cl)) :=
  peM (pe_op ho ha hb) fun σ H Q h => tX2 h fun n R G H2 e vx vy x y S rx ry q => m n R G H2 σ e vx vy x y Q S rx ry q
theorem okB_run {σ : L2.St} {e : En} {b : Nat} {R : List Addr} {G H : Hp} {c : Bool} {d : PyData} {Q : VK} (h : Run C W σ e b R G H (retD (okB c d)) (KW C Q)) : c = true ∧ Run C W σ e b R G H (retD (.ret d)) (KW C Q) := by
  cases c with
  | true => exact ⟨rfl, h⟩
  | false => exact h.elim
theorem dps_nil {K : PySem.W.Frag} {G : Hp} {vs : List V} (h : DqAll K G vs []) : vs = [] := by cases h; rfl
theorem dps_ne {K : PySem.W.Frag} {G : Hp} {vs : List V} {ds : List PyData} (h : DqAll K G vs ds) : vs = [] ↔ ds = [] := by
  have e := dps_length h
  constructor
  · rintro rfl
    exact List.eq_nil_of_length_eq_zero e.symm
  · rintro rfl
    exact List.eq_nil_of_length_eq_zero e
theorem e_add (hX : XOk C W X) {a b : Ee} {p : Pos} (ha : PE X a.em (tX C W (a.ev C.cl))) (hb : PE X b.em (tX C W (b.ev C.cl))) : PE X (Ee.bin .add a b p).em (tX C W ((Ee.bin .add a b p).ev C.cl)) := by
  refine bin_of hX (opOr op_add (opOr op_add_str op_catA)) ha hb fun n R G H σ e vx vy x y Q S rx ry q => ?_
  cases x <;> cases y <;> first | exact q.elim | skip
  · cases rx
    cases ry
    exact .inl ⟨_, _, rfl, rfl, endR S q (.int _)⟩
  · cases rx
    cases ry
    obtain ⟨c, q⟩ := okB_run q
    exact .inr (.inl ⟨_, _, rfl, rfl, lim_line (of_decide_eq_true c), endR S q (.str _)⟩)
  · obtain ⟨c, q⟩ := okB_run q
    have c := of_decide_eq_true c
    cases rx with
    | tup hx dx =>
      cases ry with
      | tup hy dy =>
        have hx2 := S.bs.sub.sqT hx
        have hy2 := S.bs.sub.sqT hy
        refine .inr (.inr ?_)
        rw [hX.m.hK]
        refine ⟨_, _, _, _, rfl, rfl, hx2, hy2, ?_, fun z => ?_, fun _ z => ?_, fun _ _ l hl => ?_⟩
        · rw [dps_length dx, dps_length dy]
          exact lim_line c
        · obtain rfl := (dps_ne dx).mp z
          exact endR S q (.tup hy dy)
        · obtain rfl := (dps_ne dy).mp z
          rw [List.append_nil] at q
          exact endR S q (.tup hx dx)
        · exact endT S q (dps_append dx dy) l hl
theorem e_sub (hX : XOk C W X) {a b : Ee} {p : Pos} (ha : PE X a.em (tX C W (a.ev C.cl))) (hb : PE X b.em (tX C W (b.ev C.cl))) : PE X (Ee.bin .sub a b p).em (tX C W ((Ee.bin .sub a b p).ev C.cl)) := by
  refine bin_of hX op_sub ha hb fun n R G H σ e vx vy x y Q S rx ry q => ?_
  cases x <;> cases y <;> first | exact q.elim | skip
  cases rx
  cases ry
  exact ⟨_, _, rfl, rfl, endR S q (.int _)⟩
theorem e_div (hX : XOk C W X) {a b : Ee} {p : Pos} (ha : PE X a.em (tX C W (a.ev C.cl))) (hb : PE X b.em (tX C W (b.ev C.cl))) : PE X (Ee.bin .div a b p).em (tX C W ((Ee.bin .div a b p).ev C.cl)) := by
  refine bin_of hX op_fdivW ha hb fun n R G H σ e vx vy x y Q S rx ry q => ?_
  cases x <;> cases y <;> first | exact q.elim | skip
  cases rx
  cases ry
  obtain ⟨c, q⟩ := okB_run q
  rw [Bool.and_eq_true] at c
  exact ⟨_, _, rfl, rfl, ⟨of_decide_eq_true c.1, of_decide_eq_true c.2⟩, endR S q (.int _)⟩
theorem e_mod (hX : XOk C W X) {a b : Ee} {p : Pos} (ha : PE X a.em (tX C W (a.ev C.cl))) (hb : PE X b.em (tX C W (b.ev C.cl))) : PE X (Ee.bin .mod a b p).em (tX C W ((Ee.bin .mod a b p).ev C.cl)) := by
  refine bin_of hX op_mod ha hb fun n R G H σ e vx vy x y Q S rx ry q => ?_
  cases x <;> cases y <;> first | exact q.elim | skip
  cases rx
  cases ry
  obtain ⟨c, q⟩ := okB_run q
  exact ⟨_, _, rfl, rfl, of_decide_eq_true c, endR S q (.int _)⟩
theorem e_pow (hX : XOk C W X) {a b : Ee} {p : Pos} (ha : PE X a.em (tX C W (a.ev C.cl))) (hb : PE X b.em (tX C W (b.ev C.cl))) : PE X (Ee.bin .pow a b p).em (tX C W ((Ee.bin .pow a b p).ev C.cl)) := by
  refine bin_of hX op_pow ha hb fun n R G H σ e vx vy x y Q S rx ry q => ?_
  cases x <;> cases y <;> first | exact q.elim | skip
  cases rx
  cases ry
  obtain ⟨c, q⟩ := okB_run q
  rw [Bool.and_eq_true, Bool.and_eq_true] at c
  have c1 := of_decide_eq_true c.1.1
  have c2 := of_decide_eq_true c.1.2
  have c3 := of_decide_eq_true c.2
  exact ⟨_, _, rfl, rfl, ⟨c1, by omega, Nat.lt_trans c3 (by decide)⟩, endR S q (.int _)⟩
end
end TC

set_option Elab.async false
set_option linter.all false
set_option maxRecDepth 100000
set_option maxHeartbeats 4000000
namespace TC
open PySem L2 PySem.Spec PyProof.Rows
/-- the same object: nothing in it, or once -/
theorem tup_mul1 (l : Addr) (items : Array Value) (n : Nat) (dd : Option Addr) (sl : Array (Option Value)) (x : Int) (u : Tok) (k0 : (decide (x < -(2 ^ 63)) || decide (x ≥ 2 ^ 63)) = false) (k1 : (items.isEmpty || x == 1) = true) :
    Meets (Builtin.«tuple.__mul__» ⟨[.ref l, .int x u], []⟩) (fun _ R s => s.heap.get? l = some { cls := .type "tuple", dict := dd, data := .seq items n, slots := sl } ∧ R (.ok (.ret (.ref l))) s) :=
  .of_wp fun prog w A R s h => by
    obtain ⟨hp, g, d, tk, os⟩ := s
    obtain ⟨hl, h⟩ := h
    have f1 := AutoSeq1.idx_int
    wp_walk using wpAny_loadPart' hl
    repeat (first
      | (refine wpAny_ite_false (decide_eq_false (by rw [k0]; exact Bool.false_ne_true)) ?_; wp_walk using wpAny_loadPart' hl)
      | (refine wpAny_ite_true (decide_eq_true k1) ?_; wp_walk using wpAny_loadPart' hl))
    exact ⟨_, rfl, h⟩
/-- no times -/
theorem tup_mul0 (l : Addr) (items : Array Value) (n : Nat) (dd : Option Addr) (sl : Array (Option Value)) (x : Int) (u : Tok) (k0 : (decide (x < -(2 ^ 63)) || decide (x ≥ 2 ^ 63)) = false) (k1 : (items.isEmpty || x == 1) = false) (k2 : (decide (x ≤ 0) || items.isEmpty) = true) :
    Meets (Builtin.«tuple.__mul__» ⟨[.ref l, .int x u], []⟩) (fun _ R s => s.heap.get? l = some { cls := .type "tuple", dict := dd, data := .seq items n, slots := sl } ∧
      R (.ok (.ret (Value.ref s.heap.objs.size))) { s with heap := s.heap.push { cls := Value.type "tuple", data := Data.seq #[] }, toks := s.toks }) :=
  .of_wp fun prog w A R s h => by
    obtain ⟨hp, g, d, tk, os⟩ := s
    obtain ⟨hl, h⟩ := h
    have f1 := AutoSeq1.idx_int
    wp_walk using wpAny_loadPart' hl
    repeat (first
      | (refine wpAny_ite_false (decide_eq_false (by rw [k0]; exact Bool.false_ne_true)) ?_; wp_walk using wpAny_loadPart' hl)
      | (refine wpAny_ite_false (decide_eq_false (by rw [k1]; exact Bool.false_ne_true)) ?_; wp_walk using wpAny_loadPart' hl)
      | (refine wpAny_ite_true (decide_eq_true k2) ?_; wp_walk using wpAny_loadPart' hl))
    exact ⟨_, rfl, h⟩
section
variable {X : Cx}
theorem op_rep01 : OpR X (binaryOp .Mult) (fun x y H Q => ∃ l k xs, x = .ref l ∧ y = .int k ∧ SqT X.K H l xs ∧ 0 ≤ k ∧ k < 2 ^ 63 ∧ (((xs = [] ∨ k = 1) ∧ Q (.ref l) H) ∨ (xs ≠ [] ∧ k = 0 ∧ ∀ p, H p = none → Q (.ref p) (upd H p (.tup []))))) := by
  intro pins s σ H x y v u Q I rx ry h
  obtain ⟨l, k, xs, rfl, rfl, hT, h0, h1, q⟩ := h
  cases rx
  obtain ⟨t, rfl⟩ := ry
  obtain ⟨us, rv, ⟨⟨cls, dd, data, sl⟩, ho, hc, n, hd⟩, _⟩ := I.tuple hT
  simp only at hc hd
  subst hc hd
  have hl := rv.length
  have k0 : (decide (k < -(2 ^ 63)) || decide (k ≥ 2 ^ 63)) = false := by
    rw [decide_eq_false (by omega), decide_eq_false (by omega)]
    rfl
  rcases q with ⟨hk, q⟩ | ⟨hne, hk, q⟩
  · have k1 : (us.toArray.isEmpty || k == 1) = true := by
      rcases hk with hk | hk
      · rw [hk] at hl
        rw [List.eq_nil_of_length_eq_zero hl.symm]
        rfl
      · rw [hk, Bool.or_eq_true]
        exact .inr rfl
    exact wpAny_binaryOp_repeat_ref (T := "tuple") (U := "int") (by decide) ⟨_, ho, rfl⟩ (fun s' => typeIs_int s' k t) noFill_tuple_mul F.fills_int_mul F.slot_int_rmul repeat_tuple F.slot_int_index.lookup
      (call_meets F.slot_int_rmul (typeIs_int s k t) F.entry_int_rmul (F.args_int_rmul_2 _ _) (int_rmul_tuple k t l us.toArray n dd sl)
        ⟨ho, rfl, ⟨_, ho, rfl⟩, call_meets F.slot_tuple_mul ⟨_, ho, rfl⟩ F.entry_tuple_mul (F.args_tuple_mul_2 _ _) (tup_mul1 l us.toArray n dd sl k t k0 k1) ⟨ho, ⟨.ref l, H, I, rfl, q⟩⟩⟩)
  · have e1 : us.toArray.isEmpty = false := by
      cases us with
      | nil => exact absurd (List.eq_nil_of_length_eq_zero hl) hne
      | cons a b => rfl
    subst hk
    have k1 : (us.toArray.isEmpty || (0 : Int) == 1) = false := by rw [e1]; rfl
    have k2 : (decide ((0 : Int) ≤ 0) || us.toArray.isEmpty) = true := rfl
    exact wpAny_binaryOp_repeat_ref (T := "tuple") (U := "int") (by decide) ⟨_, ho, rfl⟩ (fun s' => typeIs_int s' 0 t) noFill_tuple_mul F.fills_int_mul F.slot_int_rmul repeat_tuple F.slot_int_index.lookup
      (call_meets F.slot_int_rmul (typeIs_int s 0 t) F.entry_int_rmul (F.args_int_rmul_2 _ _) (int_rmul_tuple 0 t l us.toArray n dd sl)
        ⟨ho, rfl, ⟨_, ho, rfl⟩, call_meets F.slot_tuple_mul ⟨_, ho, rfl⟩ F.entry_tuple_mul (F.args_tuple_mul_2 _ _) (tup_mul0 l us.toArray n dd sl 0 t k0 k1 k2) ⟨ho,
          ⟨.ref s.heap.objs.size, _, I.laid (t' := s.toks) (o := .tup []) (fun b ob z => Heap.get?_push_of_some _ z) (Nat.le_refl _) ⟨Nat.zero_le _, [], .nil, IsTup.new _ _⟩, rfl, q _ (I.hok.fresh (Nat.le_refl _))⟩⟩⟩)
end
end TC

set_option Elab.async false
set_option linter.all false
set_option maxRecDepth 100000
set_option maxHeartbeats 2000000
namespace TC
open PySem L2 PySem.Spec
section
variable {C : Ctx} {W : WX} {X : Cx}
theorem line_num : sizeLine = 16777216 := by decide
theorem fold_len (z : Array Nat) : ∀ (n : Nat) (acc : Array Nat), ((List.replicate n z).foldl (· ++ ·) acc).size = acc.size + n * z.size
  | 0, acc => by simp
  | n + 1, acc => by
    rw [List.replicate_succ, List.foldl_cons, fold_len z n, Array.size_append, Nat.succ_mul]
    omega
theorem op_mul_str : OpR X (binaryOp .Mult) (fun x y H Q => ∃ z k, x = .str z ∧ y = .int k ∧ 0 ≤ k ∧ k ≤ 1000 ∧ z.length ≤ 100 ∧ Q (.str (if k < 1 then Str.empty else if (k == 1 || z.length == 0) = true then z else ⟨(List.replicate k.toNat z.cps).foldl (· ++ ·) #[]⟩)) H) := by
  intro pins s σ H x y v u Q I rx ry h
  obtain ⟨z, k, rfl, rfl, h0, h1, hz, q⟩ := h
  obtain ⟨t, rfl⟩ := rx
  obtain ⟨t', rfl⟩ := ry
  have hm : (z.length : Int) * k ≤ 100000 := by
    have a1 : (z.length : Int) * k ≤ 100 * k := Int.mul_le_mul_of_nonneg_right (by omega) h0
    omega
  have hmn : z.length * k.toNat ≤ 100000 := by
    have a1 : z.length * k.toNat ≤ 100 * 1000 := Nat.mul_le_mul hz (by omega)
    omega
  refine P.mul_str (by
    have e1 : ¬ k < -(2 ^ 63 : Int) := by omega
    have e2 : ¬ k ≥ 2 ^ 63 := by omega
    rw [decide_eq_false e1, decide_eq_false e2]
    rfl) (fun e1 _ => ?_) (fun _ _ => ?_) ?_
  · have e3 : (z.length : Int) ≤ (2 ^ 63 - 1) / k := by
      rw [Int.le_ediv_iff_mul_le (by omega)]
      omega
    omega
  · show decide _ = false
    have e9 := line_num
    exact decide_eq_false (by omega)
  · by_cases c1 : k < 1
    · rw [if_pos c1] at q ⊢
      exact ⟨by decide, V.str _, H, I.tok _, ⟨_, rfl⟩, q⟩
    · rw [if_neg c1] at q ⊢
      by_cases c2 : (k == 1 || z.length == 0) = true
      · rw [if_pos c2] at q ⊢
        exact ⟨V.str _, H, I, ⟨_, rfl⟩, q⟩
      · rw [if_neg c2] at q ⊢
        refine ⟨?_, V.str _, H, I.tok _, ⟨_, rfl⟩, q⟩
        show ((List.replicate k.toNat z.cps).foldl (· ++ ·) #[]).size ≤ sizeLine
        rw [fold_len, line_num]
        have e : z.cps.size = z.length := rfl
        rw [e]
        have e2 : k.toNat * z.length = z.length * k.toNat := Nat.mul_comm _ _
        have e3 : (#[] : Array Nat).size = 0 := rfl
        omega
theorem e_mul (hX : XOk C W X) {a b : Ee} {p : Pos} (ha : PE X a.em (tX C W (a.ev C.cl))) (hb : PE X b.em (tX C W (b.ev C.cl))) : PE X (Ee.bin .mul a b p).em (tX C W ((Ee.bin .mul a b p).ev C.cl)) := by
  refine bin_of hX (opOr op_mul (opOr op_mul_str (opOr op_repT op_rep01))) ha hb fun n R G H σ e vx vy x y Q S rx ry q => ?_
  cases x <;> cases y <;> first | exact q.elim | skip
  · cases rx
    cases ry
    obtain ⟨c, q⟩ := okB_run q
    rw [Bool.or_eq_true] at c
    unfold smallI at c
    rw [Bool.and_eq_true, Bool.and_eq_true, decide_eq_true_eq, decide_eq_true_eq, decide_eq_true_eq, decide_eq_true_eq] at c
    exact .inl ⟨_, _, rfl, rfl, (by unfold CMul; omega), endR S q (.int _)⟩
  · cases rx
    cases ry
    obtain ⟨c, q⟩ := okB_run q
    rw [Bool.and_eq_true, Bool.and_eq_true, decide_eq_true_eq, decide_eq_true_eq, decide_eq_true_eq] at c
    exact .inr (.inl ⟨_, _, rfl, rfl, c.1.1, c.1.2, c.2, endR S q (.str _)⟩)
  · rename_i xs k
    obtain ⟨c, q⟩ := okB_run q
    rw [Bool.and_eq_true, Bool.and_eq_true, decide_eq_true_eq, decide_eq_true_eq, decide_eq_true_eq] at c
    cases ry
    cases rx with
    | tup hx dx =>
      refine .inr (.inr ?_)
      rw [hX.m.hK]
      by_cases c1 : xs = []
      · subst c1
        refine .inr ⟨_, _, _, rfl, rfl, S.bs.sub.sqT hx, c.1.1, by omega, .inl ⟨.inl (dps_nil dx), ?_⟩⟩
        have e : (List.replicate k.toNat ([] : List PyData)).flatten = [] := by
          generalize k.toNat = n
          induction n with
          | zero => rfl
          | succ n ih => rw [List.replicate_succ, List.flatten_cons, ih]; rfl
        rw [e] at q
        exact endR S q (.tup hx dx)
      · have n1 := fun z => c1 ((dps_ne dx).mp z)
        by_cases c2 : k = 1
        · subst c2
          refine .inr ⟨_, _, _, rfl, rfl, S.bs.sub.sqT hx, by decide, by decide, .inl ⟨.inr rfl, ?_⟩⟩
          have e : (List.replicate (1 : Int).toNat xs).flatten = xs := by simp
          rw [e] at q
          exact endR S q (.tup hx dx)
        · by_cases c3 : k = 0
          · subst c3
            refine .inr ⟨_, _, _, rfl, rfl, S.bs.sub.sqT hx, by decide, by decide, .inr ⟨n1, rfl, fun l hl => endT S q .nil l hl⟩⟩
          · refine .inl ⟨_, _, _, rfl, rfl, S.bs.sub.sqT hx, n1, by omega, c.1.2, ?_, fun l hl => endT S q (dps_rep dx _) l hl⟩
            rw [dps_length dx]
            omega
theorem e_neg {a : Ee} {p : Pos} (ha : PE X a.em (tX C W (a.ev C.cl))) : PE X (Ee.neg a p).em (tX C W ((Ee.neg a p).ev C.cl)) :=
  peM (pe_un un_neg ha) fun σ H Q h => tX1 h fun n R G H2 e vx x S rx q => by
    cases x <;> first | exact q.elim | skip
    cases rx
    exact ⟨_, rfl, endR S q (.int _)⟩

/-! ### tests -/
def tT (C : Ctx) (W : WX) (ev : En → Comp Wd) : TT := fun σ H Q => ∃ b R G e, St C b R G σ H e ∧ Run C W σ e b R G H (ev e) fun _ _ _ H' w => ∃ t, w = .d (.bool t) ∧ Q t H'
def plainTB : Expr → Bool
  | .UnaryOp .Not _ _ => false
  | .BoolOp .. => false
  | .IfExp .. => false
  | .Compare .. => false
  | _ => true
theorem plain_of {e : Expr} (h : plainTB e = true) (env : Env) (whole : Sem Value) : isTrue e env whole = (do let v ← whole; standAt e.pos; holding [v] (truthy v)) := by
  cases e <;> first | rfl | (rename_i op _ _; cases op <;> first | rfl | cases h) | cases h
theorem t_val {e : Expr} {ev : En → Comp Wd} (h : PE X e (tX C W ev)) (hp : plainTB e = true) : PT X e (tT C W ev) :=
  ptM (pt_val h fun whole => plain_of hp _ _) fun σ H Q ⟨b, R, G, en, S, h⟩ => tX.of S h fun b1 R1 G1 H1 w v s1 S1 r1 ⟨t, ew, q⟩ => by
    subst ew
    cases r1
    exact ⟨t, rfl, q⟩
theorem t_not {a : Ee} {p : Pos} (h : PT X a.em (tT C W (a.ev C.cl))) : PT X (Ee.nt a p).em (tT C W ((Ee.nt a p).ev C.cl)) :=
  ptM (pt_not h) fun σ H Q ⟨b, R, G, en, S, h⟩ => ⟨b, R, G, en, S, (Run.bind h).dB.mono fun b1 R1 G1 H1 w s1 S1 ⟨t, ew, q⟩ => ⟨t, ew, by
    obtain ⟨t2, e, q⟩ := Run.ret S1 q
    injection e with e
    injection e with e
    subst e
    exact q⟩⟩
theorem e_not {a : Ee} {p : Pos} (h : PE X a.em (tX C W (a.ev C.cl))) : PE X (Ee.nt a p).em (tX C W ((Ee.nt a p).ev C.cl)) :=
  peM (pe_not h) fun σ H Q ⟨b, R, G, en, S, h⟩ => tX.of S (Run.bind h).dB fun b1 R1 G1 H1 w v s1 S1 r1 ⟨t, ew, q⟩ => by
    subst ew
    cases r1
    exact ⟨t, rfl, endD S1 q (.bl _)⟩
end
end TC

set_option Elab.async false
set_option linter.all false
set_option maxRecDepth 100000
set_option maxHeartbeats 2000000
namespace TC
open PySem L2 PySem.Spec
section
variable {C : Ctx} {W : WX} {X : Cx} {σ : L2.St} {e : En} {b : Nat} {R : List Addr} {G H : Hp}

/-! ### operands that are only looked at -/
/-- how a looked-at value stands: it stays, or it is what an open slot holds -/
def RepB (C : Ctx) (σ : L2.St) (e : En) (G : Hp) (v : V) (d : PyData) : Prop :=
  Dq C.K G v d ∨ ∃ (i : Nat) (ds : List PyData) (l : Addr), e[i]? = some (.ow ds) ∧ d = .list ds ∧ σ[i]? = some (some (.ref l)) ∧ v = .ref l
theorem RepB.sub {G' : Hp} {v : V} {d : PyData} (h : RepB C σ e G v d) (s : Sub G G') : RepB C σ e G' v d := h.imp s.dp id
theorem RepB.own {v : V} {d : PyData} (h : RepB C σ e G v d) (S : St C b R G σ H e) : Dq C.K G v d ∨ ∃ l ds, v = .ref l ∧ d = .list ds ∧ Own C R G H l ds := by
  rcases h with h | ⟨i, ds, l, h1, rfl, h2, rfl⟩
  · exact .inl h
  · obtain ⟨l', q1, q2⟩ := S.sl i _ h1
    rw [h2] at q1
    injection q1 with q1
    injection q1 with q1
    injection q1 with q1
    subst q1
    exact .inr ⟨l, ds, rfl, rfl, q2⟩
theorem RepB.dp {v : V} {d : PyData} (h : RepB C σ e G v d) (S : St C b R G σ H e) (hd : d.hasDict = false) : Dp C.K H v d := by
  rcases h.own S with h | ⟨l, ds, rfl, rfl, o⟩
  · exact (S.bs.sub.dp h).dp hd
  · obtain ⟨vs, q, r⟩ := o.at_
    exact .lst (.inl (.inl q)) ((S.bs.sub.dps r).dp (by simpa only [PyData.hasDict] using hd))
theorem shp_nd {d : PyData} (h : SeqAt.shaped d = true) : d.hasDict = false := PyData.hasDict_of_canLay d (SeqAt.canLay_of_shaped h)
theorem RepB.lst {v : V} {ds : List PyData} (h : RepB C σ e G v (.list ds)) (S : St C b R G σ H e) : ∃ a vs, v = .ref a ∧ Rd H a (.lst vs) ∧ DqAll C.K G vs ds := by
  rcases h.own S with h | ⟨l, ds, rfl, q, o⟩
  · cases h with
    | lst q r => exact ⟨_, _, rfl, S.bs.sub.rd q, r⟩
  · injection q with q
    subst q
    obtain ⟨vs, q, r⟩ := o.at_
    exact ⟨l, vs, rfl, .inl q, r⟩
/-- a list that is no object of the top: written or tracked as a list -/
theorem RepB.stay {v : V} {d : PyData} (h : RepB C σ e G v d) (n : ∀ ds, d ≠ .list ds) : Dq C.K G v d := by
  rcases h with h | ⟨i, ds, l, h1, rfl, h2, rfl⟩
  · exact h
  · exact absurd rfl (n ds)
theorem RepB.tup {v : V} {ds : List PyData} (h : RepB C σ e G v (.tuple ds)) (S : St C b R G σ H e) : ∃ a vs, v = .ref a ∧ SqT C.K H a vs ∧ vs.length = ds.length := by
  cases h.stay fun _ z => nomatch z with
  | tup q r => exact ⟨_, _, rfl, S.bs.sub.sqT q, dps_length r⟩
abbrev KB (C : Ctx) (σ : L2.St) (e : En) (Q : VK) : Nat → List Addr → Hp → Hp → PyData → Prop := fun _ _ G' H' d => ∀ v, RepB C σ e G' v d → Q v H'
/-- an operand -/
def tB (C : Ctx) (W : WX) (ev : En → CP) : TE := fun σ H Q => ∃ b R G e, St C b R G σ H e ∧ Run C W σ e b R G H (ev e) (KB C σ e Q)
theorem b_ex {a : Ee} (h : PE X a.em (tX C W (a.ev C.cl))) : PE X (Eb.ex a).em (tB C W ((Eb.ex a).ev C.cl)) :=
  peM h fun σ H Q ⟨b, R, G, e, S, h⟩ => tX.of S (Run.dD h) fun b1 R1 G1 H1 w v s1 S1 r1 ⟨x, ew, q⟩ => by
    subst ew
    exact q v (.inl r1)
theorem b_ov (hX : XOk C W X) {i : Nat} {x : Str} {p : Pos} (hN : X.N[i]? = some x) (hv : visB X.env.scope x = true) : PE X (Eb.ov i x p).em (tB C W ((Eb.ov i x p).ev C.cl)) := by
  have n := plainNm_of (nm_vis hv)
  refine peM (pe_var hN (vis_of hv) n.1 n.2.1) fun σ H Q ⟨b, R, G, e, S, h⟩ => ?_
  have h : Run C W σ e b R G H (match e[i]? with
    | some (.ow ds) => .ret (.list ds)
    | _ => .stuck) (KB C σ e Q) := h
  split at h
  · rename_i ds ew
    obtain ⟨l, e1, o⟩ := S.sl i _ ew
    exact ⟨.ref l, e1, Run.ret S h (.ref l) (.inr ⟨i, ds, l, ew, rfl, e1, rfl⟩)⟩
  · exact h.stuck
theorem tB.of {ev : En → CP} {Q : VK} (S : St C b R G σ H e) {k : Nat → List Addr → Hp → Hp → PyData → Prop} (h : Run C W σ e b R G H (ev e) k)
    (m : ∀ b' R' G' H' d v, Stp R G H R' G' H' → St C b' R' G' σ H' e → RepB C σ e G' v d → k b' R' G' H' d → Q v H') : tB C W ev σ H Q :=
  ⟨b, R, G, e, S, h.mono fun b' R' G' H' d s S' q v r => m b' R' G' H' d v s S' r q⟩

/-! ### comparisons -/
theorem room64 {k : Nat} {A : Around} (r : Room k A) : A.units + 65 < cLine := by have := r.un; omega
/-- == | != of data -/
theorem op_inT (hu : X.A.units + 65 < cLine) : OpR X (compareOp .In) (fun x y H Q => ∃ d ds, Dp X.K H x d ∧ Dp X.K H y (.tuple ds) ∧ SeqAt.shaped d = true ∧ SeqAt.shaped (.tuple ds) = true ∧ Q (.bl (ds.any fun z => PyData.eqv z d)) H) := by
  intro pins s σ H x y v u Q I rx ry h
  obtain ⟨d, ds, hd, he, sd, se, q⟩ := h
  obtain ⟨as, r1⟩ := Dp.reads I d x v hd rx
  obtain ⟨bs, r2⟩ := Dp.reads I _ y u he ry
  have q1 := SeqAt.canLay_of_shaped sd
  have q2 := SeqAt.canLay_of_shaped se
  have q3 := SeqAt.depth_of_shaped sd
  exact PySem.SeqAt.in_tuple_reads r2 r1 q2 q1 (by have := Nat.min_le_right (PyData.depthAll ds) d.depth; omega) ⟨.bl _, H, I, rfl, q⟩
theorem op_notInT (hu : X.A.units + 65 < cLine) : OpR X (compareOp .NotIn) (fun x y H Q => ∃ d ds, Dp X.K H x d ∧ Dp X.K H y (.tuple ds) ∧ SeqAt.shaped d = true ∧ SeqAt.shaped (.tuple ds) = true ∧ Q (.bl (!ds.any fun z => PyData.eqv z d)) H) := by
  intro pins s σ H x y v u Q I rx ry h
  obtain ⟨d, ds, hd, he, sd, se, q⟩ := h
  obtain ⟨as, r1⟩ := Dp.reads I d x v hd rx
  obtain ⟨bs, r2⟩ := Dp.reads I _ y u he ry
  have q1 := SeqAt.canLay_of_shaped sd
  have q2 := SeqAt.canLay_of_shaped se
  have q3 := SeqAt.depth_of_shaped sd
  exact PySem.SeqAt.notIn_tuple_reads r2 r1 q2 q1 (by have := Nat.min_le_right (PyData.depthAll ds) d.depth; omega) ⟨.bl _, H, I, rfl, q⟩
inductive EqIs : PyData → PyData → Bool → Prop where
  | int (i j : Int) : EqIs (.int i) (.int j) (decide (i = j))
  | str (i j : Str) : EqIs (.str i) (.str j) (decide (i = j))
  | bool (i j : Bool) : EqIs (.bool i) (.bool j) (decide (i = j))
  | any (d d2 : PyData) (h1 : SeqAt.shaped d = true) (h2 : SeqAt.shaped d2 = true) : EqIs d d2 (PyData.eqv d d2)
  | emp (ds : List PyData) : EqIs (.tuple ds) (.tuple []) ds.isEmpty
  | empL (ds : List PyData) : EqIs (.list ds) (.list []) ds.isEmpty
theorem eqE_ret {d d2 : PyData} {z : Bool} (h : eqE d d2 = .ret z) : EqIs d d2 z := by
  unfold eqE at h
  split at h
  · injection h with h
    rw [← h]
    exact .int _ _
  · injection h with h
    rw [← h]
    exact .str _ _
  · injection h with h
    rw [← h]
    exact .bool _ _
  · split at h
    · rename_i c
      rw [Bool.and_eq_true] at c
      injection h with h
      rw [← h]
      exact .any _ _ c.1 c.2
    · split at h
      · injection h with h
        rw [← h]
        exact .emp _
      · injection h with h
        rw [← h]
        exact .empL _
      · cases h
/-- a tuple beside () -/
def rEmp (K : PySem.W.Frag) (n : Bool) : R2 := fun x y H Q => ∃ a c xs, x = .ref a ∧ y = .ref c ∧ SqT K H a xs ∧ SqT K H c [] ∧ Q (.bl (if n then !xs.isEmpty else xs.isEmpty)) H
theorem op_eqEmp (hu : X.A.units < cLine) : OpR X (compareOp .Eq) (rEmp X.K false) := by
  intro pins s σ H x y v u Q I rx ry h
  obtain ⟨a, c, xs, rfl, rfl, h1, h2, q⟩ := h
  cases (show v = Value.ref a from rx)
  cases (show u = Value.ref c from ry)
  obtain ⟨us, r1, p1, _⟩ := I.tuple h1
  obtain ⟨ws, r2, p2, _⟩ := I.tuple h2
  cases r2
  have z := SeqAt.RcAt.tuples (e := fun _ => true) (A := X.A) p1 p2 hu (fun j _ h2 => absurd h2 (by simp))
  have e : ((List.range (min us.toArray.size ([] : List Value).toArray.size)).all (fun _ => true) && us.toArray.size == ([] : List Value).toArray.size) = xs.isEmpty := by
    have l := r1.length
    cases xs with
    | nil =>
      cases us with
      | nil => rfl
      | cons _ _ => cases l
    | cons _ _ =>
      cases us with
      | nil => cases l
      | cons _ _ => simp
  rw [e] at z
  exact z _ _ _ _ ⟨.bl _, H, I, rfl, q⟩
theorem op_neEmp (hu : X.A.units < cLine) : OpR X (compareOp .NotEq) (rEmp X.K true) := by
  intro pins s σ H x y v u Q I rx ry h
  obtain ⟨a, c, xs, rfl, rfl, h1, h2, q⟩ := h
  cases (show v = Value.ref a from rx)
  cases (show u = Value.ref c from ry)
  obtain ⟨us, r1, p1, _⟩ := I.tuple h1
  obtain ⟨ws, r2, p2, _⟩ := I.tuple h2
  cases r2
  have z := SeqAt.RcNeAt.tuples (e := fun _ => true) (A := X.A) p1 p2 hu (fun j _ h2 => absurd h2 (by simp))
  have e : (!((List.range (min us.toArray.size ([] : List Value).toArray.size)).all (fun _ => true) && us.toArray.size == ([] : List Value).toArray.size)) = !xs.isEmpty := by
    have l := r1.length
    cases xs with
    | nil =>
      cases us with
      | nil => rfl
      | cons _ _ => cases l
    | cons _ _ =>
      cases us with
      | nil => cases l
      | cons _ _ => simp
  rw [e] at z
  exact z _ _ _ _ ⟨.bl _, H, I, rfl, q⟩
/-- a list beside [] -/
def rEmpL (K : PySem.W.Frag) (n : Bool) : R2 := fun x y H Q => ∃ a c xs, x = .ref a ∧ y = .ref c ∧ SqL K H a xs ∧ SqL K H c [] ∧ Q (.bl (if n then !xs.isEmpty else xs.isEmpty)) H
theorem plainL_is {h : Heap} {a : Addr} {its : Array Value} (p : PlainL h a its) : h.IsList a its := by
  obtain ⟨o, n, h1, h2, h3, h4⟩ := p
  exact ⟨o, h1, h2, n, h4⟩
theorem op_eqEmpL (hu : X.A.units < cLine) : OpR X (compareOp .Eq) (rEmpL X.K false) := by
  intro pins s σ H x y v u Q I rx ry h
  obtain ⟨a, c, xs, rfl, rfl, h1, h2, q⟩ := h
  cases (show v = Value.ref a from rx)
  cases (show u = Value.ref c from ry)
  obtain ⟨us, r1, p1, _⟩ := I.list h1
  obtain ⟨ws, r2, p2, _⟩ := I.list h2
  cases r2
  have p1 := plainL_is p1
  have p2 := plainL_is p2
  cases us with
  | nil =>
    have e : xs.isEmpty = true := by
      have l := r1.length
      cases xs with
      | nil => rfl
      | cons _ _ => cases l
    have q : Q (.bl xs.isEmpty) H := q
    rw [e] at q
    have z := SeqAt.RcAt.lists (e := fun _ => true) (A := X.A) p1 p2 rfl hu (fun j _ h2 => absurd h2 (by simp))
    exact z _ _ _ _ ⟨.bl _, H, I, rfl, q⟩
  | cons w ws =>
    have e : xs.isEmpty = false := by
      have l := r1.length
      cases xs with
      | nil => cases l
      | cons _ _ => rfl
    have q : Q (.bl xs.isEmpty) H := q
    rw [e] at q
    have z := SeqAt.RcAt.lists_lengths (A := X.A) p1 p2 (by simp) hu
    exact z _ _ _ _ ⟨.bl _, H, I, rfl, q⟩
theorem op_neEmpL (hu : X.A.units < cLine) : OpR X (compareOp .NotEq) (rEmpL X.K true) := by
  intro pins s σ H x y v u Q I rx ry h
  obtain ⟨a, c, xs, rfl, rfl, h1, h2, q⟩ := h
  cases (show v = Value.ref a from rx)
  cases (show u = Value.ref c from ry)
  obtain ⟨us, r1, p1, _⟩ := I.list h1
  obtain ⟨ws, r2, p2, _⟩ := I.list h2
  cases r2
  have p1 := plainL_is p1
  have p2 := plainL_is p2
  cases us with
  | nil =>
    have e : xs.isEmpty = true := by
      have l := r1.length
      cases xs with
      | nil => rfl
      | cons _ _ => cases l
    have q : Q (.bl !xs.isEmpty) H := q
    rw [e] at q
    have z := SeqAt.RcNeAt.lists (e := fun _ => true) (A := X.A) p1 p2 rfl hu (fun j _ h2 => absurd h2 (by simp))
    exact z _ _ _ _ ⟨.bl _, H, I, rfl, q⟩
  | cons w ws =>
    have e : xs.isEmpty = false := by
      have l := r1.length
      cases xs with
      | nil => cases l
      | cons _ _ => rfl
    have q : Q (.bl !xs.isEmpty) H := q
    rw [e] at q
    have z := SeqAt.RcNeAt.lists_lengths (A := X.A) p1 p2 (by simp) hu
    exact z _ _ _ _ ⟨.bl _, H, I, rfl, q⟩
theorem RepB.int {v : V} {i : Int} (h : RepB C σ e G v (.int i)) : v = .int i := by
  cases h.stay fun _ z => nomatch z
  rfl
theorem RepB.str {v : V} {i : Str} (h : RepB C σ e G v (.str i)) : v = .str i := by
  cases h.stay fun _ z => nomatch z
  rfl
theorem RepB.bl {v : V} {i : Bool} (h : RepB C σ e G v (.bool i)) : v = .bl i := by
  cases h.stay fun _ z => nomatch z
  rfl
theorem dec_int (i j : Int) : decide (V.int i = V.int j) = decide (i = j) := by simp
theorem dec_str (i j : Str) : decide (V.str i = V.str j) = decide (i = j) := by simp
theorem dec_bl (i j : Bool) : decide (V.bl i = V.bl j) = decide (i = j) := by simp
/-- the rule of a comparison, over data -/
def rC (C : Ctx) (o : CO) : R2 := fun x y H Q => ∃ b R G σ e d d2 z, St C b R G σ H e ∧ RepB C σ e G x d ∧ RepB C σ e G y d2 ∧ cmpE o d d2 = .ret z ∧ Q (.bl z) H
theorem opM {f : Value → Value → Sem Value} {r r' : R2} (h : OpR X f r) (m : ∀ x y H Q, r' x y H Q → r x y H Q) : OpR X f r' :=
  fun pins s σ H x y v u Q I rx ry q => h pins s σ H x y v u Q I rx ry (m x y H Q q)
theorem c_eq (hX : XOk C W X) : OpR X (compareOp .Eq) (rC C .eq) :=
  opM (opOr op_eq (opOr (op_eqD hX.room.units) (opOr (op_eqEmp (by have := hX.room.units; omega)) (op_eqEmpL (by have := hX.room.units; omega))))) fun x y H Q ⟨b, R, G, σ, e, d, d2, z, S, r1, r2, h, q⟩ => by
    cases eqE_ret h with
    | int i j =>
      obtain rfl := r1.int
      obtain rfl := r2.int
      exact .inl ⟨rfl, by rw [dec_int]; exact q⟩
    | str i j =>
      obtain rfl := r1.str
      obtain rfl := r2.str
      exact .inl ⟨rfl, by rw [dec_str]; exact q⟩
    | bool i j =>
      obtain rfl := r1.bl
      obtain rfl := r2.bl
      exact .inl ⟨rfl, by rw [dec_bl]; exact q⟩
    | any d d2 h1 h2 =>
      refine .inr (.inl ?_)
      rw [hX.m.hK]
      exact ⟨d, d2, r1.dp S (shp_nd h1), r2.dp S (shp_nd h2), h1, h2, q⟩
    | emp ds =>
      obtain ⟨a, vs, rfl, h1, l1⟩ := r1.tup S
      obtain ⟨c, us, rfl, h2, l2⟩ := r2.tup S
      obtain rfl := List.length_eq_zero_iff.mp l2
      refine .inr (.inr (.inl ?_))
      rw [hX.m.hK]
      have e : vs.isEmpty = ds.isEmpty := by
        cases vs <;> cases ds <;> first | rfl | cases l1
      exact ⟨a, c, vs, rfl, rfl, h1, h2, by rw [e]; exact q⟩
    | empL ds =>
      obtain ⟨a, vs, rfl, h1, l1⟩ := r1.lst S
      obtain ⟨c, us, rfl, h2, l2⟩ := r2.lst S
      have l1 := dps_length l1
      obtain rfl := List.length_eq_zero_iff.mp (dps_length l2)
      refine .inr (.inr (.inr ?_))
      rw [hX.m.hK]
      have e : vs.isEmpty = ds.isEmpty := by
        cases vs <;> cases ds <;> first | rfl | cases l1
      exact ⟨a, c, vs, rfl, rfl, .inl h1, .inl h2, by rw [e]; exact q⟩
theorem neg_ret {c : Comp Bool} {z : Bool} (h : (c.bind fun b => .ret (!b)) = .ret z) : c = .ret (!z) := by
  cases c with
  | ret b =>
    have h : Comp.ret (!b) = Comp.ret z := h
    injection h with h
    rw [← h, Bool.not_not]
  | raise x => cases h
  | draw n k => cases h
  | stuck => cases h
theorem c_ne (hX : XOk C W X) : OpR X (compareOp .NotEq) (rC C .ne) :=
  opM (opOr op_ne (opOr (op_neD hX.room.units) (opOr (op_neEmp (by have := hX.room.units; omega)) (op_neEmpL (by have := hX.room.units; omega))))) fun x y H Q ⟨b, R, G, σ, e, d, d2, z, S, r1, r2, h, q0⟩ => by
    have q : Q (.bl (!(!z))) H := by rw [Bool.not_not]; exact q0
    generalize hz : (!z) = z2 at q
    have h := neg_ret h
    rw [hz] at h
    cases eqE_ret h with
    | int i j =>
      obtain rfl := r1.int
      obtain rfl := r2.int
      exact .inl ⟨rfl, by rw [dec_int]; exact q⟩
    | str i j =>
      obtain rfl := r1.str
      obtain rfl := r2.str
      exact .inl ⟨rfl, by rw [dec_str]; exact q⟩
    | bool i j =>
      obtain rfl := r1.bl
      obtain rfl := r2.bl
      exact .inl ⟨rfl, by rw [dec_bl]; exact q⟩
    | any d d2 h1 h2 =>
      refine .inr (.inl ?_)
      rw [hX.m.hK]
      exact ⟨d, d2, r1.dp S (shp_nd h1), r2.dp S (shp_nd h2), h1, h2, q⟩
    | emp ds =>
      obtain ⟨a, vs, rfl, h1, l1⟩ := r1.tup S
      obtain ⟨c, us, rfl, h2, l2⟩ := r2.tup S
      obtain rfl := List.length_eq_zero_iff.mp l2
      refine .inr (.inr (.inl ?_))
      rw [hX.m.hK]
      have e : vs.isEmpty = ds.isEmpty := by
        cases vs <;> cases ds <;> first | rfl | cases l1
      refine ⟨a, c, vs, rfl, rfl, h1, h2, ?_⟩
      rw [e]
      exact q
    | empL ds =>
      obtain ⟨a, vs, rfl, h1, l1⟩ := r1.lst S
      obtain ⟨c, us, rfl, h2, l2⟩ := r2.lst S
      have l1 := dps_length l1
      obtain rfl := List.length_eq_zero_iff.mp (dps_length l2)
      refine .inr (.inr (.inr ?_))
      rw [hX.m.hK]
      have e : vs.isEmpty = ds.isEmpty := by
        cases vs <;> cases ds <;> first | rfl | cases l1
      refine ⟨a, c, vs, rfl, rfl, .inl h1, .inl h2, ?_⟩
      rw [e]
      exact q
theorem c_lt : OpR X (compareOp .Lt) (rC C .lt) :=
  opM (opOr op_lt op_lt_str) fun x y H Q ⟨b, R, G, σ, e, d, d2, z, S, r1, r2, h, q⟩ => by
    cases d <;> cases d2 <;> first | cases h | skip
    · exact .inl ⟨_, _, r1.int, r2.int, q⟩
    · exact .inr ⟨_, _, r1.str, r2.str, q⟩
theorem c_le : OpR X (compareOp .LtE) (rC C .le) :=
  opM op_le fun x y H Q ⟨b, R, G, σ, e, d, d2, z, S, r1, r2, h, q⟩ => by
    cases d <;> cases d2 <;> first | cases h | skip
    exact ⟨_, _, r1.int, r2.int, q⟩
theorem c_gt : OpR X (compareOp .Gt) (rC C .gt) :=
  opM op_gt fun x y H Q ⟨b, R, G, σ, e, d, d2, z, S, r1, r2, h, q⟩ => by
    cases d <;> cases d2 <;> first | cases h | skip
    exact ⟨_, _, r1.int, r2.int, q⟩
theorem c_ge : OpR X (compareOp .GtE) (rC C .ge) :=
  opM op_ge fun x y H Q ⟨b, R, G, σ, e, d, d2, z, S, r1, r2, h, q⟩ => by
    cases d <;> cases d2 <;> first | cases h | skip
    exact ⟨_, _, r1.int, r2.int, q⟩
/-- what «in» says, by the right operand's kind -/
inductive InIs : PyData → PyData → Bool → Prop where
  | sign (c : Nat) (z : Str) : InIs (.str ⟨#[c]⟩) (.str z) (decide (c ∈ z.cps.toList))
  | str (x z : Str) : InIs (.str x) (.str z) (!(Builtin.Str.occurrences z x 0 z.length 1).isEmpty)
  | list (d : PyData) (ds : List PyData) (h1 : SeqAt.shaped d = true) (h2 : SeqAt.shaped (.list ds) = true) : InIs d (.list ds) (ds.any fun z => PyData.eqv z d)
  | tuple (d : PyData) (ds : List PyData) (h1 : SeqAt.shaped d = true) (h2 : SeqAt.shaped (.tuple ds) = true) : InIs d (.tuple ds) (ds.any fun z => PyData.eqv z d)
theorem inE_ret {d d2 : PyData} {z : Bool} (h : inE d d2 = .ret z) : InIs d d2 z := by
  unfold inE at h
  split at h
  · rename_i x w
    split at h
    · rename_i c ec
      injection h with h
      subst h
      have e : x = #[c] := by
        rw [← Array.toArray_toList (xs := x), ec]
      subst e
      exact .sign c w
    · injection h with h
      subst h
      exact .str _ _
  · split at h
    · rename_i c
      rw [Bool.and_eq_true] at c
      injection h with h
      subst h
      exact .list _ _ c.1 c.2
    · cases h
  · split at h
    · rename_i c
      rw [Bool.and_eq_true] at c
      injection h with h
      subst h
      exact .tuple _ _ c.1 c.2
    · cases h
  · cases h
theorem c_in (hX : XOk C W X) : OpR X (compareOp .In) (rC C .inn) :=
  opM (opOr op_in_sign (opOr op_in_str (opOr (op_inD (room64 hX.room)) (op_inT (room64 hX.room))))) fun x y H Q ⟨b, R, G, σ, e, d, d2, z, S, r1, r2, h, q⟩ => by
    cases inE_ret h with
    | sign c w => exact .inl ⟨_, _, r1.str, r2.str, q⟩
    | str c w => exact .inr (.inl ⟨_, _, r1.str, r2.str, q⟩)
    | list d ds h1 h2 =>
      refine .inr (.inr (.inl ?_))
      rw [hX.m.hK]
      exact ⟨_, _, r1.dp S (shp_nd h1), r2.dp S (shp_nd h2), h1, h2, q⟩
    | tuple d ds h1 h2 =>
      refine .inr (.inr (.inr ?_))
      rw [hX.m.hK]
      exact ⟨_, _, r1.dp S (shp_nd h1), r2.dp S (shp_nd h2), h1, h2, q⟩
theorem c_nin (hX : XOk C W X) : OpR X (compareOp .NotIn) (rC C .nin) :=
  opM (opOr op_notIn_sign (opOr op_notin_str (opOr (op_notInD (room64 hX.room)) (op_notInT (room64 hX.room))))) fun x y H Q ⟨b, R, G, σ, e, d, d2, z, S, r1, r2, h, q⟩ => by
    have q : Q (.bl (!(!z))) H := by rw [Bool.not_not]; exact q
    generalize hz : (!z) = z2 at q
    have h := neg_ret h
    rw [hz] at h
    cases inE_ret h with
    | sign c w => exact .inl ⟨_, _, r1.str, r2.str, q⟩
    | str c w => exact .inr (.inl ⟨_, _, r1.str, r2.str, q⟩)
    | list d ds h1 h2 =>
      refine .inr (.inr (.inl ?_))
      rw [hX.m.hK]
      exact ⟨_, _, r1.dp S (shp_nd h1), r2.dp S (shp_nd h2), h1, h2, q⟩
    | tuple d ds h1 h2 =>
      refine .inr (.inr (.inr ?_))
      rw [hX.m.hK]
      exact ⟨_, _, r1.dp S (shp_nd h1), r2.dp S (shp_nd h2), h1, h2, q⟩
theorem c_any (hX : XOk C W X) : ∀ o : CO, OpR X (compareOp o.op) (rC C o)
  | .eq => c_eq hX
  | .ne => c_ne hX
  | .lt => c_lt
  | .le => c_le
  | .gt => c_gt
  | .ge => c_ge
  | .inn => c_in hX
  | .nin => c_nin hX
/-- a comparison of data neither draws nor raises -/
theorem cmp_form (o : CO) (d d2 : PyData) : (∃ z, cmpE o d d2 = .ret z) ∨ cmpE o d d2 = .stuck := by
  have e1 : (∃ z, eqE d d2 = .ret z) ∨ eqE d d2 = .stuck := by
    unfold eqE
    split <;> first | exact .inl ⟨_, rfl⟩ | (split <;> first | exact .inl ⟨_, rfl⟩ | (split <;> first | exact .inl ⟨_, rfl⟩ | exact .inr rfl))
  have e2 : (∃ z, inE d d2 = .ret z) ∨ inE d d2 = .stuck := by
    unfold inE
    split <;> first | exact .inr rfl | (split <;> first | exact .inl ⟨_, rfl⟩ | exact .inr rfl)
  have ng : ∀ c : Comp Bool, ((∃ z, c = .ret z) ∨ c = .stuck) → (∃ z, (c.bind fun b => .ret (!b)) = .ret z) ∨ (c.bind fun b => .ret (!b)) = .stuck := fun c h => by
    rcases h with ⟨z, rfl⟩ | rfl
    · exact .inl ⟨_, rfl⟩
    · exact .inr rfl
  cases o with
  | eq => exact e1
  | ne => exact ng _ e1
  | inn => exact e2
  | nin => exact ng _ e2
  | lt => cases d <;> cases d2 <;> first | exact .inl ⟨_, rfl⟩ | exact .inr rfl
  | le => cases d <;> cases d2 <;> first | exact .inl ⟨_, rfl⟩ | exact .inr rfl
  | gt => cases d <;> cases d2 <;> first | exact .inl ⟨_, rfl⟩ | exact .inr rfl
  | ge => cases d <;> cases d2 <;> first | exact .inl ⟨_, rfl⟩ | exact .inr rfl
theorem cmp_run {o : CO} {d d2 : PyData} {α : Type} {f : Bool → Comp α} {k : Nat → List Addr → Hp → Hp → α → Prop} (h : Run C W σ e b R G H ((cmpE o d d2).bind f) k) : ∃ z, cmpE o d d2 = .ret z ∧ Run C W σ e b R G H (f z) k := by
  rcases cmp_form o d d2 with ⟨z, q⟩ | q
  · rw [q] at h
    exact ⟨z, q, h⟩
  · rw [q] at h
    exact h.elim
theorem e_cmp (hX : XOk C W X) {o : CO} {a c : Eb} {p : Pos} (ha : PE X a.em (tB C W (a.ev C.cl))) (hc : PE X c.em (tB C W (c.ev C.cl))) : PE X (Ee.cmp o a c p).em (tX C W ((Ee.cmp o a c p).ev C.cl)) :=
  peM (pe_cmpR (c_any hX o) ha hc (marks_of c.head _)) fun σ H Q ⟨b, R, G, e, S, h⟩ => tB.of S (Run.bind h) fun b1 R1 G1 H1 d v s1 S1 r1 q => tB.of S1 q.bind fun b2 R2 G2 H2 d2 v2 s2 S2 r2 q2 => by
    obtain ⟨z, ez, q3⟩ := cmp_run q2
    exact ⟨b2, R2, G2, σ, e, d, d2, z, S2, r1.sub s2.g, r2, ez, endD S2 q3 (.bl z)⟩
theorem t_cmp (hX : XOk C W X) {o : CO} {a c : Eb} {p : Pos} (ha : PE X a.em (tB C W (a.ev C.cl))) (hc : PE X c.em (tB C W (c.ev C.cl))) : PT X (Ee.cmp o a c p).em (tT C W ((Ee.cmp o a c p).ev C.cl)) :=
  ptM (pt_cmpR (c_any hX o) ha hc (marks_of c.head _)) fun σ H Q ⟨b, R, G, e, S, h⟩ => tB.of S (Run.bind h) fun b1 R1 G1 H1 d v s1 S1 r1 q => tB.of S1 q.bind fun b2 R2 G2 H2 d2 v2 s2 S2 r2 q2 => by
    obtain ⟨z, ez, q3⟩ := cmp_run q2
    obtain ⟨z2, ew, q4⟩ := Run.ret S2 q3
    injection ew with ew
    injection ew with ew
    subst ew
    exact ⟨b2, R2, G2, σ, e, d, d2, z, S2, r1.sub s2.g, r2, ez, z, rfl, q4⟩
end
end TC

set_option Elab.async false
set_option linter.all false
set_option maxRecDepth 100000
set_option maxHeartbeats 2000000
namespace TC
open PySem L2 PySem.Spec
section
variable {C : Ctx} {W : WX} {X : Cx} {σ : L2.St} {e : En} {b : Nat} {R : List Addr} {G H : Hp}
/-! ### a chain of two comparisons -/
theorem marks2_of {o1 o2 : CmpOp} {c d : Expr} (h : headB d = true) : lastMarks [o1, o2] [c, d] = false := by
  show behindInMarks o2 d = false
  exact marks_of h _
theorem e_chn (hX : XOk C W X) {o1 o2 : CO} {a c d : Ee} {p : Pos} (ha : PE X a.em (tX C W (a.ev C.cl))) (hc : PE X c.em (tX C W (c.ev C.cl))) (hd : PE X d.em (tX C W (d.ev C.cl))) : PE X (Ee.chn o1 o2 a c d p).em (tX C W ((Ee.chn o1 o2 a c d p).ev C.cl)) :=
  peM (pe_chain (c_any hX o1) (c_any hX o2) ha hc hd (marks2_of d.head)) fun σ H Q h => tX2 h fun n R G H2 e vx vy x y S rx ry q => by
    obtain ⟨z, ez, q⟩ := cmp_run q
    refine ⟨n, R, G, σ, e, x, y, z, S, .inl rx, .inl ry, ez, z, rfl, ?_⟩
    cases z with
    | false => exact endD S q (.bl false)
    | true =>
      have q : Run C W σ e n R G H2 ((dD (d.ev C.cl e)).bind fun u => retB (cmpE o2 y u)) (KW C Q) := q
      refine tX.of S q.bind.dD fun b3 R3 G3 H3 w3 v3 s3 S3 r3 ⟨u, ew, q3⟩ => ?_
      subst ew
      obtain ⟨z, ez, q4⟩ := cmp_run q3
      exact ⟨b3, R3, G3, σ, e, y, u, z, S3, .inl (s3.g.dp ry), .inl r3, ez, endD S3 q4 (.bl z)⟩
theorem t_chn (hX : XOk C W X) {o1 o2 : CO} {a c d : Ee} {p : Pos} (ha : PE X a.em (tX C W (a.ev C.cl))) (hc : PE X c.em (tX C W (c.ev C.cl))) (hd : PE X d.em (tX C W (d.ev C.cl))) : PT X (Ee.chn o1 o2 a c d p).em (tT C W ((Ee.chn o1 o2 a c d p).ev C.cl)) :=
  ptM (pt_chain (c_any hX o1) (c_any hX o2) ha hc hd (marks2_of d.head)) fun σ H Q ⟨b, R, G, e, S, h⟩ => by
    have h2 : tX C W (fun e => (dD (a.ev C.cl e)).bind fun x => (dD (c.ev C.cl e)).bind fun y => (cmpE o1 x y).bind fun z => if z then (dD (d.ev C.cl e)).bind fun u => retB (cmpE o2 y u) else .ret (.d (.bool false))) σ H
        (fun v H' => ∃ k, v = .bl k ∧ Q k H') := ⟨b, R, G, e, S, Run.mono h fun b' R' G' H' w s S' ⟨x, ew, q⟩ v r => by
          subst ew
          cases r
          exact ⟨x, rfl, q⟩⟩
    refine tX2 h2 fun n R G H2 e vx vy x y S rx ry q => ?_
    obtain ⟨z, ez, q⟩ := cmp_run q
    refine ⟨n, R, G, σ, e, x, y, z, S, .inl rx, .inl ry, ez, z, rfl, ?_⟩
    cases z with
    | false => exact endD S q (.bl false)
    | true =>
      have q : Run C W σ e n R G H2 ((dD (d.ev C.cl e)).bind fun u => retB (cmpE o2 y u)) (KW C fun v H' => ∃ k, v = .bl k ∧ Q k H') := q
      refine tX.of S q.bind.dD fun b3 R3 G3 H3 w3 v3 s3 S3 r3 ⟨u, ew, q3⟩ => ?_
      subst ew
      obtain ⟨z, ez, q4⟩ := cmp_run q3
      exact ⟨b3, R3, G3, σ, e, y, u, z, S3, .inl (s3.g.dp ry), .inl r3, ez, endD S3 q4 (.bl z)⟩
/-! ### is None -/
theorem isn_run {n : Bool} {w : Wd} {Q : VK} {v : V} (S : St C b R G σ H e) (r : Rep C G v w) (h : Run C W σ e b R G H (isnE n w) (KW C Q)) : Q (.bl (if n then !decide (v = .non) else decide (v = .non))) H := by
  cases w with
  | d x => cases x <;> cases r <;> (cases n <;> exact endD S h (.bl _))
  | er x =>
    obtain ⟨a, cls, d, rfl, _⟩ := r
    cases n <;> exact endD S h (.bl _)
  | rng => exact h.elim
  | scr _ => exact h.elim
  | dct _ => exact h.elim
  | fn _ => exact h.elim
theorem e_isn {n : Bool} {a : Ee} {k : Nat} {pn p : Pos} (ha : PE X a.em (tX C W (a.ev C.cl))) : PE X (Ee.isn n a k pn p).em (tX C W ((Ee.isn n a k pn p).ev C.cl)) := by
  cases n with
  | false =>
    exact peM (pe_cmp (pc_isN ha) (by rfl)) fun σ H Q ⟨b, R, G, e, S, h⟩ => tX.of S (Run.bind h) fun b1 R1 G1 H1 w v s1 S1 r1 q => isn_run (n := false) S1 r1 q
  | true =>
    exact peM (pe_cmp (pc_notN ha) (by rfl)) fun σ H Q ⟨b, R, G, e, S, h⟩ => tX.of S (Run.bind h) fun b1 R1 G1 H1 w v s1 S1 r1 q => isn_run (n := true) S1 r1 q
theorem t_isn {n : Bool} {a : Ee} {k : Nat} {pn p : Pos} (ha : PE X a.em (tX C W (a.ev C.cl))) : PT X (Ee.isn n a k pn p).em (tT C W ((Ee.isn n a k pn p).ev C.cl)) := by
  have key : ∀ {σ : L2.St} {H : Hp} {Q : Bool → Hp → Prop}, tT C W ((Ee.isn n a k pn p).ev C.cl) σ H Q → tX C W (a.ev C.cl) σ H fun v H1 => ∃ c, V.bl (if n then !decide (v = .non) else decide (v = .non)) = .bl c ∧ Q c H1 := fun {σ H Q} ⟨b, R, G, e, S, h⟩ =>
    tX.of S (Run.bind h) fun b1 R1 G1 H1 w v s1 S1 r1 q => ⟨_, rfl, by
      have q2 := isn_run (Q := fun v H' => ∃ t, v = .bl t ∧ Q t H') S1 r1 (q.mono fun b' R' G' H' w s S' ⟨x, ew, q⟩ v r => by
        subst ew
        cases r
        exact ⟨x, rfl, q⟩)
      obtain ⟨t, et, q3⟩ := q2
      injection et with et
      rw [et]
      exact q3⟩
  cases n with
  | false => exact ptM (pt_cmp (pc_isN ha) (by rfl)) fun σ H Q h => key h
  | true => exact ptM (pt_cmp (pc_notN ha) (by rfl)) fun σ H Q h => key h
/-! ### a if t else b -/
theorem e_ife {c a d : Ee} {p : Pos} (hc : PT X c.em (tT C W (c.ev C.cl))) (ha : PE X a.em (tX C W (a.ev C.cl))) (hd : PE X d.em (tX C W (d.ev C.cl))) : PE X (Ee.ife c a d p).em (tX C W ((Ee.ife c a d p).ev C.cl)) :=
  peM (pe_ifExp hc ha hd) fun σ H Q ⟨b, R, G, e, S, h⟩ => ⟨b, R, G, e, S, (Run.bind h).dB.mono fun b1 R1 G1 H1 w s1 S1 ⟨t, ew, q⟩ => ⟨t, ew, by
    cases t with
    | true => exact ⟨b1, R1, G1, e, S1, q⟩
    | false => exact ⟨b1, R1, G1, e, S1, q⟩⟩⟩
theorem pt_ifExp {c a d : Expr} {p : Pos} {tc ta td : TT} (hc : PT X c tc) (ha : PT X a ta) (hd : PT X d td) : PT X (.IfExp c a d p) (fun σ H Q => tc σ H fun t H1 => if t = true then ta σ H1 Q else td σ H1 Q) :=
  ⟨fun pins s σ H Q I h => PyProof.Rows.isTrue_IfExp (thn (hc.run pins s σ H _ I h) fun t s1 ⟨H1, I1, q1⟩ => by
    cases t with
    | true => exact ha.run pins s1 σ H1 Q I1 q1
    | false => exact hd.run pins s1 σ H1 Q I1 q1)⟩
theorem t_ife {c a d : Ee} {p : Pos} (hc : PT X c.em (tT C W (c.ev C.cl))) (ha : PT X a.em (tT C W (a.ev C.cl))) (hd : PT X d.em (tT C W (d.ev C.cl))) : PT X (Ee.ife c a d p).em (tT C W ((Ee.ife c a d p).ev C.cl)) :=
  ptM (pt_ifExp hc ha hd) fun σ H Q ⟨b, R, G, e, S, h⟩ => ⟨b, R, G, e, S, (Run.bind h).dB.mono fun b1 R1 G1 H1 w s1 S1 ⟨t, ew, q⟩ => ⟨t, ew, by
    cases t with
    | true => exact ⟨b1, R1, G1, e, S1, q⟩
    | false => exact ⟨b1, R1, G1, e, S1, q⟩⟩⟩
/-! ### and, or -/
def tAnds (C : Ctx) (W : WX) (es : Es) : TE := tX C W (es.evAnd C.cl)
def tOrs (C : Ctx) (W : WX) (es : Es) : TE := tX C W (es.evOr C.cl)
theorem and_one {a : Ee} {p : Pos} (h : PE X a.em (tX C W (a.ev C.cl))) : PE X (.BoolOp .And (Es.cons a .nil).em p) (tX C W ((Es.cons a .nil).evAnd C.cl)) := pe_one h
theorem and_cons {a a2 : Ee} {es : Es} {p : Pos} (h : PE X a.em (tX C W (a.ev C.cl))) (h2 : PE X (.BoolOp .And (Es.cons a2 es).em p) (tX C W ((Es.cons a2 es).evAnd C.cl))) :
    PE X (.BoolOp .And (Es.cons a (.cons a2 es)).em p) (tX C W ((Es.cons a (.cons a2 es)).evAnd C.cl)) :=
  peM (pe_and h h2) fun σ H Q ⟨b, R, G, e, S, h⟩ => tX.of S (Run.bind h).dB fun b1 R1 G1 H1 w v s1 S1 r1 ⟨t, ew, q⟩ => by
    subst ew
    cases r1
    refine ⟨t, rfl, ?_⟩
    cases t with
    | true => exact ⟨b1, R1, G1, e, S1, q⟩
    | false => exact endD S1 q (.bl false)
theorem or_one {a : Ee} {p : Pos} (h : PE X a.em (tX C W (a.ev C.cl))) : PE X (.BoolOp .Or (Es.cons a .nil).em p) (tX C W ((Es.cons a .nil).evOr C.cl)) := pe_one h
theorem or_cons {a a2 : Ee} {es : Es} {p : Pos} (h : PE X a.em (tX C W (a.ev C.cl))) (h2 : PE X (.BoolOp .Or (Es.cons a2 es).em p) (tX C W ((Es.cons a2 es).evOr C.cl))) :
    PE X (.BoolOp .Or (Es.cons a (.cons a2 es)).em p) (tX C W ((Es.cons a (.cons a2 es)).evOr C.cl)) :=
  peM (pe_or h h2) fun σ H Q ⟨b, R, G, e, S, h⟩ => tX.of S (Run.bind h).dB fun b1 R1 G1 H1 w v s1 S1 r1 ⟨t, ew, q⟩ => by
    subst ew
    cases r1
    refine ⟨t, rfl, ?_⟩
    cases t with
    | true => exact endD S1 q (.bl true)
    | false => exact ⟨b1, R1, G1, e, S1, q⟩
theorem wand_one {a : Ee} {p : Pos} (h : PT X a.em (tT C W (a.ev C.cl))) : PW X (.BoolOp .And (Es.cons a .nil).em p) (tT C W ((Es.cons a .nil).evAnd C.cl)) := pw_and1 h
theorem wand_cons {a a2 : Ee} {es : Es} {p : Pos} (h : PT X a.em (tT C W (a.ev C.cl))) (h2 : PW X (.BoolOp .And (Es.cons a2 es).em p) (tT C W ((Es.cons a2 es).evAnd C.cl))) :
    PW X (.BoolOp .And (Es.cons a (.cons a2 es)).em p) (tT C W ((Es.cons a (.cons a2 es)).evAnd C.cl)) :=
  ⟨fun wh pins s σ H Q I q => (pw_and h h2).run wh pins s σ H Q I (by
    obtain ⟨b, R, G, e, S, h⟩ := q
    refine ⟨b, R, G, e, S, (Run.bind h).dB.mono fun b1 R1 G1 H1 w s1 S1 ⟨t, ew, q⟩ => ⟨t, ew, ?_⟩⟩
    cases t with
    | true => exact ⟨b1, R1, G1, e, S1, q⟩
    | false =>
      obtain ⟨t2, e2, q⟩ := Run.ret S1 q
      injection e2 with e2
      injection e2 with e2
      subst e2
      exact q)⟩
theorem wor_one {a : Ee} {p : Pos} (h : PT X a.em (tT C W (a.ev C.cl))) : PW X (.BoolOp .Or (Es.cons a .nil).em p) (tT C W ((Es.cons a .nil).evOr C.cl)) := pw_or1 h
theorem wor_cons {a a2 : Ee} {es : Es} {p : Pos} (h : PT X a.em (tT C W (a.ev C.cl))) (h2 : PW X (.BoolOp .Or (Es.cons a2 es).em p) (tT C W ((Es.cons a2 es).evOr C.cl))) :
    PW X (.BoolOp .Or (Es.cons a (.cons a2 es)).em p) (tT C W ((Es.cons a (.cons a2 es)).evOr C.cl)) :=
  ⟨fun wh pins s σ H Q I q => (pw_or h h2).run wh pins s σ H Q I (by
    obtain ⟨b, R, G, e, S, h⟩ := q
    refine ⟨b, R, G, e, S, (Run.bind h).dB.mono fun b1 R1 G1 H1 w s1 S1 ⟨t, ew, q⟩ => ⟨t, ew, ?_⟩⟩
    cases t with
    | false => exact ⟨b1, R1, G1, e, S1, q⟩
    | true =>
      obtain ⟨t2, e2, q⟩ := Run.ret S1 q
      injection e2 with e2
      injection e2 with e2
      subst e2
      exact q)⟩
end
end TC

set_option Elab.async false
set_option linter.all false
set_option maxRecDepth 100000
set_option maxHeartbeats 4000000
/-! an error as a value: its class asked, its field read -/
namespace TX
open PySem PySem.Spec PySem.Calls PyProof.Rows PySem.W
section
variable {prog : Program} {w : World} {K : Frag} {x D : Addr} {ox : Obj} {od : Option Obj}
/-- what is found of __class__, whatever the own dict holds -/
theorem find_cls (hc : hasDictIn K D = true) (ha : findIn K (.ref D) "__class__" = some (some (.builtin "object.__class__"))) (hn : specialIn K (.builtin "object.__class__") "__get__" = some (some (.builtin "getset_descriptor.__get__"))) (ht : takesIn K (.builtin "object.__class__") = some true) :
    findObj K D od "__class__" = some (.bind (.builtin "getset_descriptor.__get__") (.builtin "object.__class__")) := by
  obtain ⟨cd, q, _⟩ := any_some hc
  unfold findObj
  rw [q, Option.bind_some, ha, Option.bind_some]
  simp [hn, ht]
theorem cls_asked {A : Around} {E : Value → Shared → Prop} {s : Shared} {Q : Option Value → Shared → Prop} (C : L2.ExcC K D) (X : K.In s.heap) (I : InstAt s.heap x ox D od) (h : Q (some (.ref D)) { s with toks := s.toks + 1 }) :
    wpAny (model prog w) A (getAttr? (.ref x) "__class__") Q E s := by
  have found := find_cls (od := od) C.hd C.ha C.hn C.ht
  obtain ⟨hp, g, dr, tk, os⟩ := s
  have kind := I.type (M := model prog w)
  have byGa := looks_findIn (M := model prog w) X C.hg
  have byGt := looks_findIn (M := model prog w) X C.hk
  have own := looks_find (M := model prog w) X I found
  have under : Looks (model prog w) hp (isInstance (.ref x) (.type "BaseException")) true := kind.andThen (looks_subIn X C.hs)
  have n1 : (false && onTheHeap (Value.builtin "BaseException.__getattribute__")) = false := rfl
  have n2 : (Value.builtin "BaseException.__getattribute__" == Value.builtin "object.__getattribute__") = false := by decide +kernel
  have n3 : (onTheHeap (Value.ref D) && Value.builtin "BaseException.__getattribute__" == Value.builtin "object.__getattribute__") = false := (congrArg (onTheHeap (Value.ref D) && ·) n2).trans rfl
  unfold getAttr? getAttrBy? getAttrBy
  refine wpAny_bind (wpAny_mkText (wpAny_bind (wpAny_attempt (wpAny_holding (wpAny_bind (kind.at (wpAny_bind (byGa.at ?_))))))))
  show wpAny _ _ (if (onTheHeap (Value.ref D) && Value.builtin "BaseException.__getattribute__" == Value.builtin "object.__getattribute__") = true then _ else _) _ _ _
  rw [n3]
  rw [if_neg Bool.false_ne_true]
  unfold getAttrByItsOwn
  unfold hookBefore
  refine wpAny_bind ?_
  have oh : onTheHeap (Value.ref D) = true := rfl
  rw [if_pos oh]
  refine byGt.at ?_
  refine wpAny_bind (wpAny_attempt ?_)
  refine wpAny_holding ?_
  unfold callGetattribute
  rw [n1]
  rw [if_neg Bool.false_ne_true]
  unfold boundAndCalled
  rw [PySem.F.excAttr_ValueError.ga.bind (.ref x)]
  refine wpAny_bind ?_
  refine wpAny_pure ?_
  show wpAny _ _ (call (.builtin "BaseException.__getattribute__") [.ref x, .str "__class__" tk]) _ _ _
  refine wpAny_call ?_
  refine codeAny_call_builtin PySem.F.excAttr_ValueError.ga.plain PySem.F.entry_bexc_ga ?_
  refine @check_slot (model prog w) _ _ ⟨hp, g, dr, tk + 1, os⟩ "BaseException.__getattribute__" "BaseException" "__getattribute__" (.ref x) [.str "__class__" tk] [] _ (by decide +kernel) (by decide +kernel) under (PySem.F.args_bexc_ga (.ref x) (.str "__class__" tk)) ?_
  unfold Builtin.«object.__getattribute__»
  refine wpAny_bind (wpAny_of_eq (a := ((Value.ref x : Value), [Value.str "__class__" tk])) (by first | rfl | (simp only [slotArgs]; rfl)) ?_)
  refine wpAny_bind ?_
  refine wpAny_pure ?_
  refine wpAny_bind (kind.at (wpAny_bind (own.at ?_)))
  show wpAny _ _ (holding [Value.builtin "object.__class__"] (call (.builtin "getset_descriptor.__get__") [.builtin "object.__class__", .ref x, .ref D]) >>= ret) _ _ _
  refine wpAny_bind (wpAny_holding ?_)
  refine wpAny_call (class_get (s := ⟨hp, g, dr, tk + 1, os⟩) (ox := ox) (od := od) X I C.hm ?_)
  refine wpAny_pure ?_
  show wpAny _ _ (handedOut (.ref D)) _ _ _
  rw [handedOut_of (v := .ref D) rfl]
  first
    | exact wpAny_pure h
    | exact wpAny_pure (wpAny_pure h)
    | exact wpAny_pure (wpAny_bind (wpAny_pure (wpAny_pure h)))
theorem kit_err (C : L2.ExcC K D) : KitX K (.ref x) (.ref D) (fun h => InstAt h x ox D od) := by
  obtain ⟨cd, hcd, _⟩ := any_some C.hd
  unfold clsIn at hcd
  refine ⟨fun _ _ _ I => I.type, fun _ _ X _ => ?_, fun h tp dd its n sl X htp => ?_, fun X I k => cls_asked C X I k⟩
  · split at hcd
    · rename_i ho
      intro A' Q' E' s' k q
      unfold isType loadHead
      exact wpAny_bind (wpAny_loadPart (k _ _ (X _ _ ho)) (wpAny_pure q))
    · cases hcd
  · refine Bool.eq_false_iff.mpr fun q => ?_
    obtain rfl : D = tp := Value.ref.inj (beq_iff_eq.mp q)
    split at hcd
    · rename_i ho
      cases (X _ _ ho).symm.trans htp
    · cases hcd
end
end TX
namespace TC
open PySem L2 PySem.Spec PyProof.Rows
section
variable {X : Cx} {pins : List (Addr × Obj)} {σ : L2.St} {H : Hp} {s : Shared}
/-- how a kept error lies in the model's heap -/
theorem err_at (I : Inv X pins σ H s) {a D : Addr} {d : Option Addr} (h : H a = some (TX.ErO (.ref D) d a)) (hd : d = none ∨ ∃ dd fs, d = some dd ∧ H dd = some (.xd fs)) :
    ∃ (oe : Obj) (od : Option Obj), PySem.W.InstAt s.heap a oe D od := by
  obtain ⟨⟨oe, e, z, vs, hv⟩, _⟩ := I.hok a _ h
  have nc : PySem.W.notCls oe = true := by
    unfold PySem.W.notCls
    rw [hv] <;> rfl
  rcases hd with rfl | ⟨dd, fs, rfl, q⟩
  · exact ⟨oe, none, e, z.1, nc, by rw [z.2]; trivial⟩
  · have hx : ObjOk X.prog X.w H s.heap dd (.xd fs) := I.hok dd _ q
    obtain ⟨mA, hns, _⟩ := hx
    obtain ⟨od, ho, _⟩ := lookIn_ns hns
    exact ⟨oe, some od, e, z.1, nc, by rw [z.2]; exact ho⟩
/-- isinstance(e, c), e a kept error -/
def rIsX (K : PySem.W.Frag) : List V → Hp → VK → Prop := fun xs H Q => ∃ (a D c : Addr) (d : Option Addr) (b : Bool), xs = [.ref a, .ref c] ∧ H a = some (TX.ErO (.ref D) d a) ∧ (d = none ∨ ∃ dd fs, d = some dd ∧ H dd = some (.xd fs)) ∧ ExcC K D ∧ PySem.W.kitOne K (.ref D) (.ref c) = some b ∧ Q (.bl b) H
theorem call_isX {X : Cx} : CallR X (.builtin "isinstance") (rIsX X.K) := by
  intro pins s σ H xs us Q I r h
  obtain ⟨a, D, c, d, b, rfl, ha, hd, hC, e, q⟩ := h
  cases r with
  | cons rx rr =>
    cases rr with
    | cons rt rr =>
      cases rr
      cases rx
      cases rt
      obtain ⟨oe, od, J⟩ := err_at I ha hd
      exact PySem.W.kia_one (TX.kit_err hC) I.kIn J e (fun z => nomatch z) fun tk => ⟨.bl b, H, I.kept (t' := tk) fun _ _ z => z, rfl, q⟩
/-- e.f, e a kept error -/
def tEfl (K : PySem.W.Frag) (f : Str) (te : TE) : TE := fun σ H Q => te σ H fun x H1 => ∃ (a D dd : Addr) (fs : List (Str × V)) (v : V), x = .ref a ∧ H1 a = some (TX.ErO (.ref D) (some dd) a) ∧ XfC K D ∧ PySem.W.findIn K (.ref D) f = some none ∧ H1 dd = some (.xd fs) ∧ fs.lookup f = some v ∧ Q v H1
theorem pe_efl {X : Cx} {e : Expr} {te : TE} {pos : Pos} {n : Str} (he : PE X e te) (hb : attributeBase e n X.env (eval e X.env) = eval e X.env) : PE X (.Attribute e n pos) (tEfl X.K n te) := by
  refine ⟨fun pins s σ H Q I h => attr_of hb (thn (he.run pins s σ H _ I h) fun u s1 hh => ?_)⟩
  obtain ⟨x, H1, I1, rx, a, D, dd, fs, v, rfl, ha, T, hno, hdd, hl, q⟩ := hh
  obtain rfl : u = Value.ref a := rx
  obtain ⟨⟨oe, e, z, vs, hv⟩, _⟩ := I1.hok a _ ha
  have hx : ObjOk X.prog X.w H1 s1.heap dd (.xd fs) := I1.hok dd _ hdd
  obtain ⟨mA, hns, hr⟩ := hx
  obtain ⟨od, ho, hlk⟩ := lookIn_ns hns
  obtain ⟨u, hu, ru⟩ := RelO.some_of (v := v) (o := mA n) ((hl ▸ hr n : RelO (some v) (mA n)))
  have nc : PySem.W.notCls oe = true := by
    unfold PySem.W.notCls
    rw [hv] <;> rfl
  have J : PySem.W.InstAt s1.heap a oe D (some od) := ⟨e, z.1, nc, by rw [z.2]; exact ho⟩
  exact HandSPX.exc_get I1.kIn J T.ga T.gg T.exC (PySem.W.findObj_own T.hdC hno rfl (by rw [hlk, hu])) (handed_of ru) ⟨v, H1, I1.tok _, ru, q⟩
end
end TC

set_option Elab.async false
set_option linter.all false
set_option maxRecDepth 100000
set_option maxHeartbeats 2000000
namespace TC
open PySem L2 PySem.Spec
section
variable {C : Ctx} {W : WX} {X : Cx} {σ : L2.St} {e : En} {b : Nat} {R : List Addr} {G H : Hp}
/-! ### items and cuts -/
theorem lim_le {n : Nat} (h : decide (n ≤ LIM) = true) : n ≤ sizeLine := lim_line (of_decide_eq_true h)
inductive IdxIs : PyData → Int → PyData → Prop where
  | list (ds : List PyData) (i : Int) (x : PyData) (h : atI ds i = some x) : IdxIs (.list ds) i x
  | tuple (ds : List PyData) (i : Int) (x : PyData) (h : atI ds i = some x) : IdxIs (.tuple ds) i x
  | str (z : Str) (i : Int) (c : Nat) (hz : z.length ≤ LIM) (h : atI z.cps.toList i = some c) : IdxIs (.str z) i (.str ⟨#[c]⟩)
theorem idx_form (d y : PyData) : (∃ i x, y = .int i ∧ IdxIs d i x ∧ idxE d y = .ret x) ∨ idxE d y = .stuck := by
  cases d <;> cases y <;> first | exact .inr rfl | skip
  · rename_i z i
    show _ ∨ (if z.length ≤ LIM then (match atI z.cps.toList i with | some c => Comp.ret (PyData.str ⟨#[c]⟩) | none => .stuck) else .stuck) = Comp.stuck
    by_cases hz : z.length ≤ LIM
    · cases ea : atI z.cps.toList i with
      | none =>
        right
        rw [if_pos hz]
      | some x =>
        left
        refine ⟨i, _, rfl, .str z i x hz ea, ?_⟩
        show (if z.length ≤ LIM then (match atI z.cps.toList i with | some c => Comp.ret (PyData.str ⟨#[c]⟩) | none => .stuck) else .stuck) = _
        rw [if_pos hz, ea]
    · right
      rw [if_neg hz]
  · rename_i ds i
    show _ ∨ (match atI ds i with | some d => Comp.ret d | none => .stuck) = Comp.stuck
    cases ea : atI ds i with
    | none => exact .inr rfl
    | some x =>
      left
      refine ⟨i, x, rfl, .list ds i x ea, ?_⟩
      show (match atI ds i with | some d => Comp.ret d | none => .stuck) = _
      rw [ea]
  · rename_i ds i
    show _ ∨ (match atI ds i with | some d => Comp.ret d | none => .stuck) = Comp.stuck
    cases ea : atI ds i with
    | none => exact .inr rfl
    | some x =>
      left
      refine ⟨i, x, rfl, .tuple ds i x ea, ?_⟩
      show (match atI ds i with | some d => Comp.ret d | none => .stuck) = _
      rw [ea]
theorem e_idx (hX : XOk C W X) {a : Eb} {i : Ee} {p : Pos} (ha : PE X a.em (tB C W (a.ev C.cl))) (hi : PE X i.em (tX C W (i.ev C.cl))) : PE X (Ee.idx a i p).em (tX C W ((Ee.idx a i p).ev C.cl)) :=
  peM (pe_ix ix_seq ha hi (plainIx_of i.head)) fun σ H Q ⟨b, R, G, e, S, h⟩ => tB.of S (Run.bind h) fun b1 R1 G1 H1 d v s1 S1 r1 q => tX.of S1 q.bind.dD fun b2 R2 G2 H2 w2 v2 s2 S2 r2 ⟨y, ew, q2⟩ => by
    subst ew
    have r1 := r1.sub s2.g
    rcases idx_form d y with ⟨i, x, rfl, ix, e0⟩ | e0
    · rw [e0] at q2
      cases r2
      cases ix with
      | list ds _ _ ea =>
        obtain ⟨l, vs, rfl, h1, h2⟩ := r1.lst S2
        obtain ⟨u, h3, h4⟩ := atI_dps h2 ea
        refine .inl ?_
        rw [hX.m.hK]
        exact ⟨l, vs, i, u, rfl, rfl, .inl h1, h3, endR S2 q2 h4⟩
      | tuple ds _ _ ea =>
        cases r1.stay fun _ z => nomatch z with
        | tup h1 h2 =>
        obtain ⟨u, h3, h4⟩ := atI_dps h2 ea
        refine .inr (.inl ?_)
        rw [hX.m.hK]
        exact ⟨_, _, i, u, rfl, rfl, S2.bs.sub.sqT h1, h3, endR S2 q2 h4⟩
      | str z _ c hz ea =>
        obtain rfl := r1.str
        exact .inr (.inr ⟨z, i, c, rfl, rfl, lim_line hz, ea, endR S2 q2 (.str _)⟩)
    · rw [e0] at q2
      exact q2.elim
/-- a bound of a cut -/
def tO (C : Ctx) (W : WX) (ev : En → Comp (Option Int)) : TO := fun σ H Q => ∃ b R G e, St C b R G σ H e ∧ Run C W σ e b R G H (ev e) fun _ _ _ H' o => Q o H'
theorem o_no : PO X Eo.no.em (tO C W (Eo.no.ev C.cl)) := ⟨fun pins s σ H Q I h => po_none.run pins s σ H Q I (by
  obtain ⟨b, R, G, e, S, h⟩ := h
  exact Run.ret S h)⟩
theorem o_so {a : Ee} (h : PE X a.em (tX C W (a.ev C.cl))) : PO X (Eo.so a).em (tO C W ((Eo.so a).ev C.cl)) := ⟨fun pins s σ H Q I h2 => (po_some h).run pins s σ H Q I (by
  obtain ⟨b, R, G, e, S, h⟩ := h2
  refine tX.of S (Run.bind h).dI fun b1 R1 G1 H1 w v s1 S1 r1 ⟨i, ew, q⟩ => ?_
  subst ew
  cases r1
  exact ⟨i, rfl, Run.ret S1 q⟩)⟩
theorem tO.of {ev : En → Comp (Option Int)} {Q : Option Int → Hp → Prop} (S : St C b R G σ H e) {k : Nat → List Addr → Hp → Hp → Option Int → Prop} (h : Run C W σ e b R G H (ev e) k)
    (m : ∀ b' R' G' H' o, Stp R G H R' G' H' → St C b' R' G' σ H' e → k b' R' G' H' o → Q o H') : tO C W ev σ H Q :=
  ⟨b, R, G, e, S, h.mono fun b' R' G' H' o s S' q => m b' R' G' H' o s S' q⟩
theorem dps_cut {K : PySem.W.Frag} {vs : List V} {ds : List PyData} (h : DqAll K G vs ds) (lo hi : Option Int) : DqAll K G (cutV vs lo hi) (cutP ds lo hi) := by
  unfold cutV cutP
  rw [dps_length h]
  exact dps_take _ (dps_drop _ h)
theorem cut_whole {ds : List PyData} {lo hi : Option Int} (h : HT.sIx ds.length 0 lo = 0 ∧ HT.sIx ds.length ds.length hi = ds.length) : cutP ds lo hi = ds := by
  unfold cutP
  rw [h.1, h.2, List.drop_zero, Nat.sub_zero, List.take_length]
theorem e_slc (hX : XOk C W X) {a : Eb} {lo hi : Eo} {ps p : Pos} (ha : PE X a.em (tB C W (a.ev C.cl))) (hl : PO X lo.em (tO C W (lo.ev C.cl))) (hh : PO X hi.em (tO C W (hi.ev C.cl))) : PE X (Ee.slc a lo hi ps p).em (tX C W ((Ee.slc a lo hi ps p).ev C.cl)) :=
  peM (pe_slice (sl_str.or sl_tupA) ha hl hh) fun σ H Q ⟨b, R, G, e, S, h⟩ => tB.of S (Run.bind h) fun b1 R1 G1 H1 d v s1 S1 r1 q => tO.of S1 q.bind fun b2 R2 G2 H2 l s2 S2 q2 => tO.of S2 q2.bind fun b3 R3 G3 H3 u s3 S3 q3 => by
    have r1 := r1.sub (s2.trans s3).g
    cases d <;> first | exact q3.elim | skip
    · obtain rfl := r1.str
      obtain ⟨c, q⟩ := okB_run q3
      exact .inl ⟨_, rfl, lim_le c, endR S3 q (.str _)⟩
    · cases r1.stay fun _ z => nomatch z with
      | tup h1 h2 =>
      refine .inr ?_
      rw [hX.m.hK]
      refine ⟨_, _, rfl, S3.bs.sub.sqT h1, fun z => ?_, fun _ l hl => endT S3 q3 (dps_cut h2 _ _) l hl⟩
      rw [dps_length h2] at z
      have q4 : Run C W σ e b3 R3 G3 H3 (retD (.ret (.tuple (cutP _ l u)))) (KW C Q) := q3
      rw [cut_whole z] at q4
      exact endR S3 q4 (.tup h1 h2)
/-! ### calls of the built-ins -/
theorem blt_none (hX : XOk C W X) {x : Str} (h : bltB x = true) : X.mg x = none := hX.m.blt x h
/-- a call with one operand -/
theorem e_f1 {f : F1} {a : Eb} {pf p : Pos} {r : List V → Hp → VK → Prop} (hp : PE X (.Call (.Name f.nm pf) [a.em] [] p) (tCB r (tCons (tB C W (a.ev C.cl)) tNil)))
    (m : ∀ (n : Nat) R G H (σ : L2.St) e v d Q, St C n R G σ H e → RepB C σ e G v d → Run C W σ e n R G H (retD (f1E f d)) (KW C Q) → r [v] H Q) : PE X (Ee.f1 f pf a p).em (tX C W ((Ee.f1 f pf a p).ev C.cl)) :=
  peM hp fun σ H Q ⟨b, R, G, e, S, h⟩ => tB.of S (Run.bind h) fun b1 R1 G1 H1 d v s1 S1 r1 q => m b1 R1 G1 H1 σ e v d Q S1 r1 q
theorem star1 (a : Eb) (env : Env) : starEach [a.em] env = (false, eval a.em env) :: starEach [] env := star_of a.head _ _
theorem pa_1 {a : Expr} {t : TE} (h : PE X a t) (hd : headB a = true) : PA X [a] (tCons t tNil) := pa_cons h pa_nil (star_of hd _ _)
theorem nmB {x : Str} (h : glB X.env.scope x = true) : x ≠ "__name__" ∧ (x == ("__debug__" : Str)) = false := ⟨(plainNm_of (nm_gl h)).2.2, (plainNm_of (nm_gl h)).1⟩
theorem e_len (hX : XOk C W X) {a : Eb} {pf p : Pos} (hg : glB X.env.scope F1.len.nm = true) (ha : PE X a.em (tB C W (a.ev C.cl))) : PE X (Ee.f1 .len pf a p).em (tX C W ((Ee.f1 .len pf a p).ev C.cl)) :=
  e_f1 (pe_callB call_len (gl_of hg) (blt_none hX (by decide +kernel)) boot_len (pa_1 ha a.head) (nmB hg).1 (nmB hg).2 (star1 a _) (by rfl)) fun n R G H σ e v d Q S r q => by
    rw [hX.m.hK]
    cases d <;> first | exact q.elim | skip
    · obtain rfl := r.str
      obtain ⟨c, q⟩ := okB_run q
      exact ⟨_, _, rfl, ⟨lim_le c, rfl⟩, endR S q (.int _)⟩
    · obtain ⟨l, vs, rfl, h1, h2⟩ := r.lst S
      refine ⟨_, _, rfl, .inl ⟨vs, .inl h1, rfl⟩, ?_⟩
      rw [dps_length h2]
      exact endR S q (.int _)
    · cases r.stay fun _ z => nomatch z with
      | tup h1 h2 =>
      refine ⟨_, _, rfl, .inr ⟨_, S.bs.sub.sqT h1, rfl⟩, ?_⟩
      rw [dps_length h2]
      exact endR S q (.int _)
theorem e_intF (hX : XOk C W X) {a : Eb} {pf p : Pos} (hg : glB X.env.scope F1.int.nm = true) (ha : PE X a.em (tB C W (a.ev C.cl))) : PE X (Ee.f1 .int pf a p).em (tX C W ((Ee.f1 .int pf a p).ev C.cl)) :=
  e_f1 (pe_callTy (call_int1.or call_int_str) (gl_of hg) (blt_none hX (by decide +kernel)) (by decide +kernel) (pa_1 ha a.head) (nmB hg).1 (nmB hg).2 (star1 a _) (by rfl)) fun n R G H σ e v d Q S r q => by
    cases d <;> first | exact q.elim | skip
    · rename_i k
      obtain rfl := r.bl
      exact .inl (.inr ⟨_, rfl, endR S q (.int _)⟩)
    · obtain rfl := r.int
      exact .inl (.inl ⟨_, rfl, endR S q (.int _)⟩)
    · rename_i z
      obtain rfl := r.str
      have q : Run C W σ e n R G H (retD (match intText? z with | some n => okB (decide (z.length ≤ 640)) (.int n) | none => .stuck)) (KW C Q) := q
      cases ez : intText? z with
      | none => rw [ez] at q; exact q.elim
      | some k =>
        rw [ez] at q
        obtain ⟨c, q⟩ := okB_run q
        exact .inr ⟨z, k, rfl, ez, of_decide_eq_true c, endR S q (.int _)⟩
theorem e_strF (hX : XOk C W X) {a : Eb} {pf p : Pos} (hg : glB X.env.scope F1.str.nm = true) (ha : PE X a.em (tB C W (a.ev C.cl))) : PE X (Ee.f1 .str pf a p).em (tX C W ((Ee.f1 .str pf a p).ev C.cl)) :=
  e_f1 (pe_callTy call_str_int (gl_of hg) (blt_none hX (by decide +kernel)) (by decide +kernel) (pa_1 ha a.head) (nmB hg).1 (nmB hg).2 (star1 a _) (by rfl)) fun n R G H σ e v d Q S r q => by
    cases d <;> first | exact q.elim | skip
    obtain rfl := r.int
    obtain ⟨c, q⟩ := okB_run q
    exact ⟨_, rfl, of_decide_eq_true c, endR S q (.str _)⟩
theorem e_all (hX : XOk C W X) {a : Eb} {pf p : Pos} (hg : glB X.env.scope F1.all.nm = true) (ha : PE X a.em (tB C W (a.ev C.cl))) : PE X (Ee.f1 .all pf a p).em (tX C W ((Ee.f1 .all pf a p).ev C.cl)) :=
  e_f1 (pe_callB (cr_all hX.calm) (gl_of hg) (blt_none hX (by decide +kernel)) (by decide +kernel) (pa_1 ha a.head) (nmB hg).1 (nmB hg).2 (star1 a _) (by rfl)) fun n R G H σ e v d Q S r q => by
    rw [hX.m.hK]
    cases d <;> first | exact q.elim | skip
    rename_i ds
    have q : Run C W σ e n R G H (retD (match boolsP ds with | some bs => .ret (.bool (bs.all id)) | none => .stuck)) (KW C Q) := q
    obtain ⟨l, vs, rfl, h1, h2⟩ := r.lst S
    cases ez : boolsP ds with
    | none => rw [ez] at q; exact q.elim
    | some bs =>
      rw [ez] at q
      rw [dps_bools h2 ez] at h1
      exact ⟨l, bs, rfl, .inl h1, endR S q (.bl _)⟩
theorem cr_sumT (hc : X.calm = true) : CallR X (.builtin "sum") (fun xs H Q => ∃ (a : Addr) (ns : List Int), xs = [V.ref a] ∧ SqT X.K H a (ns.map V.int) ∧ Q (.int ns.sum) H) := by
  intro pins s σ H vs us Q I r h
  obtain ⟨a, ns, rfl, hs, q⟩ := h
  obtain ⟨its, rv, ht, _⟩ := I.tuple hs
  rw [Vals.ref1 r]
  obtain ⟨xs, e⟩ := rv.ints.allInts.items
  have hn : numsOf (intItems xs).toList = ns := by
    rw [← e]
    exact rv.ints.numsOf
  rw [nums_intItems] at hn
  have ht : s.heap.IsTuple a its.toArray := ht
  rw [e] at ht
  refine PySem.W.ktm_sumG (I.ok.hd hc) ht fun h' tk t' hk => ?_
  rw [preSum_eq, List.take_of_length_le (by simp), hn]
  exact ⟨.int _, H, I.kept hk, ⟨_, rfl⟩, q⟩
theorem e_sum (hX : XOk C W X) {a : Eb} {pf p : Pos} (hg : glB X.env.scope F1.sum.nm = true) (ha : PE X a.em (tB C W (a.ev C.cl))) : PE X (Ee.f1 .sum pf a p).em (tX C W ((Ee.f1 .sum pf a p).ev C.cl)) :=
  e_f1 (pe_callB ((cr_sum hX.calm).or (cr_sumT hX.calm)) (gl_of hg) (blt_none hX (by decide +kernel)) (by decide +kernel) (pa_1 ha a.head) (nmB hg).1 (nmB hg).2 (star1 a _) (by rfl)) fun n R G H σ e v d Q S r q => by
    rw [hX.m.hK]
    cases d with
    | list ds =>
      have q : Run C W σ e n R G H (retD (match intsP ds with | some ns => .ret (.int ns.sum) | none => .stuck)) (KW C Q) := q
      obtain ⟨l, vs, rfl, h1, h2⟩ := r.lst S
      cases ez : intsP ds with
      | none => rw [ez] at q; exact q.elim
      | some bs =>
        rw [ez] at q
        rw [dps_ints h2 ez] at h1
        exact .inl ⟨l, bs, rfl, .inl h1, endR S q (.int _)⟩
    | tuple ds =>
      have q : Run C W σ e n R G H (retD (match intsP ds with | some ns => .ret (.int ns.sum) | none => .stuck)) (KW C Q) := q
      cases r.stay fun _ z => nomatch z with
      | tup h1 h2 =>
      cases ez : intsP ds with
      | none => rw [ez] at q; exact q.elim
      | some bs =>
        rw [ez] at q
        rw [dps_ints h2 ez] at h1
        exact .inr ⟨_, bs, rfl, S.bs.sub.sqT h1, endR S q (.int _)⟩
    | _ => exact q.elim
theorem maxI_mem : ∀ {n : Int} {ns : List Int}, maxI (n :: ns) ∈ n :: ns
  | n, [] => List.mem_singleton.mpr rfl
  | n, m :: ns => by
    have z := maxI_mem (n := m) (ns := ns)
    unfold maxI
    split
    · exact List.mem_cons_self ..
    · exact List.mem_cons_of_mem _ z
theorem maxI_ge : ∀ {n : Int} {ns : List Int}, ∀ y ∈ n :: ns, y ≤ maxI (n :: ns)
  | n, [], y, h => by
    rw [List.mem_singleton.mp h]
    exact Int.le_refl n
  | n, m :: ns, y, h => by
    have z := maxI_ge (n := m) (ns := ns)
    have e : maxI (n :: m :: ns) = if n > maxI (m :: ns) then n else maxI (m :: ns) := by rw [maxI]
    rw [e]
    rcases List.mem_cons.mp h with rfl | h
    · split <;> omega
    · have := z y h
      split <;> omega
theorem e_maxF (hX : XOk C W X) {a : Eb} {pf p : Pos} (hg : glB X.env.scope F1.max.nm = true) (ha : PE X a.em (tB C W (a.ev C.cl))) : PE X (Ee.f1 .max pf a p).em (tX C W ((Ee.f1 .max pf a p).ev C.cl)) :=
  e_f1 (pe_callB (cr_max hX.calm) (gl_of hg) (blt_none hX (by decide +kernel)) (by decide +kernel) (pa_1 ha a.head) (nmB hg).1 (nmB hg).2 (star1 a _) (by rfl)) fun n R G H σ e v d Q S r q => by
    rw [hX.m.hK]
    cases d with
    | list ds =>
      have q : Run C W σ e n R G H (retD (match intsP ds with | some (n :: ns) => .ret (.int (maxI (n :: ns))) | _ => .stuck)) (KW C Q) := q
      obtain ⟨l, vs, rfl, h1, h2⟩ := r.lst S
      cases ez : intsP ds with
      | none => rw [ez] at q; exact q.elim
      | some bs =>
        cases bs with
        | nil => rw [ez] at q; exact q.elim
        | cons b bs =>
          rw [ez] at q
          rw [dps_ints h2 ez] at h1
          refine ⟨l, b :: bs, rfl, .inl h1, Nat.zero_lt_succ _, fun m hm hb => ?_⟩
          have e : m = maxI (b :: bs) := Int.le_antisymm (maxI_ge m hm) (hb _ maxI_mem)
          rw [e]
          exact endR S q (.int _)
    | _ => exact q.elim
theorem e_tupF (hX : XOk C W X) {a : Eb} {pf p : Pos} (hg : glB X.env.scope F1.tuple.nm = true) (ha : PE X a.em (tB C W (a.ev C.cl))) : PE X (Ee.f1 .tuple pf a p).em (tX C W ((Ee.f1 .tuple pf a p).ev C.cl)) :=
  e_f1 (pe_callTy call_tuple_of (gl_of hg) (blt_none hX (by decide +kernel)) (by decide +kernel) (pa_1 ha a.head) (nmB hg).1 (nmB hg).2 (star1 a _) (by rfl)) fun n R G H σ e v d Q S r q => by
    rw [hX.m.hK]
    cases d <;> first | exact q.elim | skip
    · obtain ⟨l, vs, rfl, h1, h2⟩ := r.lst S
      exact ⟨_, _, rfl, .inl ⟨.inl h1, fun l hl => endT S q h2 l hl⟩⟩
    · cases r.stay fun _ z => nomatch z with
      | tup h1 h2 => exact ⟨_, _, rfl, .inr ⟨S.bs.sub.sqT h1, endR S q (.tup h1 h2)⟩⟩
end
end TC

set_option Elab.async false
set_option linter.all false
set_option maxRecDepth 100000
set_option maxHeartbeats 2000000
namespace TC
open PySem L2 PySem.Spec
section
variable {C : Ctx} {W : WX} {X : Cx} {σ : L2.St} {e : En} {b : Nat} {R : List Addr} {G H : Hp}
/-! ### repr -/
section
variable {pins : List (Addr × Obj)} {s : Shared}
mutual
/-- data are read; no list and no dict of theirs stands where sys.modules does -/
theorem Dq.reads (I : Inv X pins σ H s) (hn : H sysModules = none) : ∀ {d : PyData} {v : V} {u : Value}, Dq X.K H v d → RelV v u → ∃ as, Reads s.heap u d as ∧ sysModules ∉ as
  | _, _, _, .non, r => by
    cases r
    exact ⟨_, Reads.none, List.not_mem_nil⟩
  | _, _, _, .bl b, r => by
    cases r
    exact ⟨_, Reads.bool b, List.not_mem_nil⟩
  | _, _, _, .int i, r => by
    obtain ⟨t, rfl⟩ := r
    exact ⟨_, Reads.int i t, List.not_mem_nil⟩
  | _, _, _, .str x, r => by
    obtain ⟨t, rfl⟩ := r
    exact ⟨_, Reads.str x t, List.not_mem_nil⟩
  | _, _, _, .lst (a := a) q rs, r => by
    cases r
    obtain ⟨its, rv, ⟨o, n, ho, hc, _, hd⟩, _⟩ := I.list (.inl q)
    obtain ⟨as, hr, hs⟩ := Dq.readsAll I hn rs rv
    refine ⟨_, Reads.list ho hc hd hr, fun z => ?_⟩
    rcases List.mem_cons.mp z with e | e
    · rcases q with q | ⟨_, q⟩ <;> (rw [← e, hn] at q; cases q)
    · exact hs e
  | _, _, _, .tup q rs, r => by
    cases r
    obtain ⟨its, rv, ⟨o, ho, hc, n, hd⟩, _⟩ := I.tuple q
    obtain ⟨as, hr, hs⟩ := Dq.readsAll I hn rs rv
    exact ⟨_, Reads.tuple ho hc hd hr, hs⟩
  | _, _, _, .dic (a := a) q, r => by
    cases r
    obtain ⟨_, ha, vs, kv, o, es, ep, ho, hx, hd, _, hp, _⟩ := dk_of I.hok q
    cases kv
    have he : es.toList = [] := by
      generalize es.toList = l at hp
      cases hp
      rfl
    have z := Reads.dict (kvs := []) ho hx.1 hd (by rw [he]; exact ReadsAll.nil) (by rw [he]; exact ReadsAll.nil)
    refine ⟨_, z, fun w => ?_⟩
    simp at w
    rw [w] at ha
    simp at ha
theorem Dq.readsAll (I : Inv X pins σ H s) (hn : H sysModules = none) : ∀ {ds : List PyData} {vs : List V} {us : List Value}, DqAll X.K H vs ds → Vals vs us → ∃ as, ReadsAll s.heap us ds as ∧ sysModules ∉ as
  | _, _, _, .nil, r => by
    cases r
    exact ⟨_, ReadsAll.nil, List.not_mem_nil⟩
  | _, _, _, .cons q rs, r => by
    cases r with
    | cons r1 r2 =>
      obtain ⟨as, h1, n1⟩ := Dq.reads I hn q r1
      obtain ⟨bs, h2, n2⟩ := Dq.readsAll I hn rs r2
      exact ⟨_, ReadsAll.cons h1 h2, fun z => (List.mem_append.mp z).elim n1 n2⟩
end
end
theorem RepB.dq {v : V} {d : PyData} (h : RepB C σ e G v d) (S : St C b R G σ H e) : Dq C.K H v d := by
  rcases h.own S with h | ⟨l, ds, rfl, rfl, o⟩
  · exact S.bs.sub.dp h
  · obtain ⟨vs, q, r⟩ := o.at_
    exact .lst (.inl q) (S.bs.sub.dps r)
theorem cr_repr {k : Nat} (gu : X.A.guards = some []) (hr : Room k X.A) (hsy : ∃ o, X.base.get? sysModules = some o) : CallR X (.builtin "repr") (fun xs H Q => ∃ v d, xs = [v] ∧ Dq X.K H v d ∧ d.showable = true ∧ d.depth ≤ 60 ∧ d.shown.length ≤ sizeLine ∧ Q (.str d.shown) H) := by
  intro pins s σ H xs us Q I r h
  obtain ⟨v, d, rfl, hd, hs, hdp, hz, q⟩ := h
  obtain ⟨so, hso⟩ := hsy
  have hn := (I.bs _ so hso).2
  cases r with
  | cons r rr =>
  cases rr
  have un := hr.un
  have far : ∀ {a : Addr} {u : Value}, u = .ref a → RelV v u → wpAny (model X.prog X.w) X.A (PySem.call (.builtin "repr") [u]) (EP X pins σ Q) X.xe s := by
    rintro a u rfl rv
    obtain ⟨as, rd, hm⟩ := Dq.reads I hn hd rv
    exact repr_of_reads' rd hs (fun _ => hm) gu (by omega) (fun _ _ e => e) (fun h' u tk k => ⟨V.str _, H, I.kept k, ⟨_, rfl⟩, q⟩) hz
  cases hd with
  | non =>
    cases r
    exact P.repr_of_none ⟨V.str _, H, I.tok _, ⟨_, rfl⟩, q⟩
  | bl c =>
    cases r
    refine P.repr_of_bool ⟨V.str _, H, I.tok _, ⟨_, rfl⟩, ?_⟩
    cases c <;> exact q
  | int i =>
    obtain ⟨t, rfl⟩ := r
    exact P.repr_of_int (of_decide_eq_true hs) ⟨V.str _, H, I.tok _, ⟨_, rfl⟩, q⟩
  | str x =>
    obtain ⟨t, rfl⟩ := r
    exact P.repr_of_str ⟨V.str _, H, I.tok _, ⟨_, rfl⟩, q⟩ hz
  | lst h1 h2 => exact far r r
  | tup h1 h2 => exact far r r
  | dic h1 => exact far r r
theorem lim10 {n : Nat} (h : n ≤ 10000000) : n ≤ sizeLine := Nat.le_trans h (by decide)
theorem e_repr (hX : XOk C W X) {a : Eb} {pf p : Pos} (hg : glB X.env.scope F1.repr.nm = true) (ha : PE X a.em (tB C W (a.ev C.cl))) : PE X (Ee.f1 .repr pf a p).em (tX C W ((Ee.f1 .repr pf a p).ev C.cl)) :=
  e_f1 (pe_callB (cr_repr hX.gu hX.room hX.m.sys) (gl_of hg) (blt_none hX (by decide +kernel)) (by decide +kernel) (pa_1 ha a.head) (nmB hg).1 (nmB hg).2 (star1 a _) (by rfl)) fun n R G H σ e v d Q S r q => by
    rw [hX.m.hK]
    obtain ⟨c, q⟩ := okB_run (c := d.showable && decide (d.depth ≤ 60) && decide (d.shown.length ≤ 10000000)) (d := .str d.shown) q
    rw [Bool.and_eq_true, Bool.and_eq_true, decide_eq_true_eq, decide_eq_true_eq] at c
    exact ⟨v, d, rfl, r.dq S, c.1.1, c.1.2, lim10 c.2, endR S q (.str _)⟩
theorem e_f1_any (hX : XOk C W X) (f : F1) {a : Eb} {pf p : Pos} (hg : glB X.env.scope f.nm = true) (ha : PE X a.em (tB C W (a.ev C.cl))) : PE X (Ee.f1 f pf a p).em (tX C W ((Ee.f1 f pf a p).ev C.cl)) := by
  cases f with
  | len => exact e_len hX hg ha
  | int => exact e_intF hX hg ha
  | str => exact e_strF hX hg ha
  | all => exact e_all hX hg ha
  | sum => exact e_sum hX hg ha
  | tuple => exact e_tupF hX hg ha
  | repr => exact e_repr hX hg ha
  | max => exact e_maxF hX hg ha
/-! ### min, max, isinstance -/
theorem pa_2 {a c : Expr} {t u : TE} (h : PE X a t) (h2 : PE X c u) (hd : headB a = true) (hd2 : headB c = true) : PA X [a, c] (tCons t (tCons u tNil)) := pa_cons h (pa_1 h2 hd2) (star_of hd _ _)
theorem star2 {a c : Expr} (h : headB c = true) (pos : Pos) (env : Env) : (backTo pos (starEach [c] env)).any (·.1) = false := by
  rw [star_of h]
  rfl
theorem e_f2 (hX : XOk C W X) (f : F2) {a c : Ee} {pf p : Pos} (hg : glB X.env.scope f.nm = true) (ha : PE X a.em (tX C W (a.ev C.cl))) (hc : PE X c.em (tX C W (c.ev C.cl))) : PE X (Ee.f2 f pf a c p).em (tX C W ((Ee.f2 f pf a c p).ev C.cl)) := by
  cases f with
  | min =>
    exact peM (pe_callB (call_min2 hX.calm) (gl_of hg) (blt_none hX (by decide +kernel)) (by decide +kernel) (pa_2 ha hc a.head c.head) (nmB hg).1 (nmB hg).2 (star_of a.head _ _) (star2 (a := a.em) c.head _ _)) fun σ H Q h => tX2 h fun n R G H2 e vx vy x y S rx ry q => by
      cases x <;> cases y <;> first | exact q.elim | skip
      cases rx
      cases ry
      exact ⟨_, _, rfl, endR S q (.int _)⟩
  | max =>
    exact peM (pe_callB (call_max2 hX.calm) (gl_of hg) (blt_none hX (by decide +kernel)) (by decide +kernel) (pa_2 ha hc a.head c.head) (nmB hg).1 (nmB hg).2 (star_of a.head _ _) (star2 (a := a.em) c.head _ _)) fun σ H Q h => tX2 h fun n R G H2 e vx vy x y S rx ry q => by
      cases x <;> cases y <;> first | exact q.elim | skip
      cases rx
      cases ry
      exact ⟨_, _, rfl, endR S q (.int _)⟩
def tyOf : PyData → String
  | .none => "NoneType" | .bool _ => "bool" | .int _ => "int" | .str _ => "str" | .list _ => "list" | .tuple _ => "tuple" | .dict _ => "dict"
def Ty.id : Ty → String
  | .int => "int" | .str => "str" | .bool => "bool" | .tuple => "tuple" | .list => "list"
theorem ty_at {v : V} {d : PyData} (h : Dq C.K H v d) : TyX C.K H v (.type (tyOf d)) := by
  cases h with
  | non => exact .base .non
  | bl c => exact .base (.bl c)
  | int i => exact .base (.int i)
  | str x => exact .base (.str x)
  | lst h1 h2 =>
    rcases h1 with h1 | ⟨o, h1⟩
    · exact .base (.lst h1)
    · exact .base (.frz h1)
  | tup h1 h2 =>
    rcases h1 with (h1 | ⟨o, h1⟩) | ⟨o, its, n, h1, h3, _⟩
    · exact .base (.tup h1)
    · exact .fTuple h1
    · exact .kTuple h1 h3
  | dic h => exact .base (.dK h)
def isiT : Ty → String → Bool
  | .int, s => s == "int" || s == "bool"
  | t, s => s == t.id
theorem isi_eq (t : Ty) (d : PyData) : isiE t d = isiT t (tyOf d) := by
  cases d <;> cases t <;> rfl
theorem kit_at (t : Ty) (d : PyData) : kitB (tyOf d) t.id = some (isiE t d) := by
  rw [isi_eq]
  cases d with
  | dict kvs => show kitB "dict" t.id = some (isiT t "dict"); cases t <;> decide +kernel
  | none => show kitB "NoneType" t.id = some (isiT t "NoneType"); cases t <;> decide +kernel
  | bool c => show kitB "bool" t.id = some (isiT t "bool"); cases t <;> decide +kernel
  | int c => show kitB "int" t.id = some (isiT t "int"); cases t <;> decide +kernel
  | str c => show kitB "str" t.id = some (isiT t "str"); cases t <;> decide +kernel
  | list c => show kitB "list" t.id = some (isiT t "list"); cases t <;> decide +kernel
  | tuple c => show kitB "tuple" t.id = some (isiT t "tuple"); cases t <;> decide +kernel
theorem Ty.boot (t : Ty) : bootBuiltins t.nm = some (.type t.id) := by cases t <;> decide +kernel
theorem Ty.blt (t : Ty) : bltB t.nm = true := by cases t <;> decide +kernel
theorem e_isi (hX : XOk C W X) {t : Ty} {a : Ee} {pf pt p : Pos} (hg : glB X.env.scope "isinstance" = true) (hgt : glB X.env.scope t.nm = true) (ha : PE X a.em (tX C W (a.ev C.cl))) : PE X (Ee.isi pf a t pt p).em (tX C W ((Ee.isi pf a t pt p).ev C.cl)) :=
  peM (pe_callB call_isi (gl_of hg) (blt_none hX (by decide +kernel)) (by decide +kernel) (pa_2 ha (pe_bltn (v := .ty t.id) (gl_of hgt) (blt_none hX t.blt) t.boot rfl (nmB hgt).1 (nmB hgt).2) a.head rfl) (nmB hg).1 (nmB hg).2 (star_of a.head _ _) (by rfl)) fun σ H Q h => tX1 h fun n R G H2 e vx x S rx q => by
    rw [hX.m.hK]
    refine ⟨vx, _, _, _, _, rfl, .ty _, ty_at (S.bs.sub.dp rx), kit_ty (kit_at t x), endD S q (.bl _)⟩
/-! ### methods of texts -/
def recvB : Expr → Bool
  | .Call _ [] _ _ => false
  | _ => true
theorem base_of {o : Expr} (h : recvB o = true) (m : Str) (env : Env) : attributeBase o m env (eval o env) = eval o env := by
  unfold attributeBase
  split
  · cases h
  · rfl
theorem Ee.recv_em {o : Ee} (h : o.recv = true) : recvB o.em = true := by
  cases o <;> first | rfl | cases h
/-- the reading of a text's method -/
theorem tM_of {r : V → List V → Hp → VK → Prop} {ev : En → Comp Wd} {f : En → Str → Comp Wd} {te : TE} {Q : VK} (h : tX C W (fun e => (dD (ev e)).bind fun x => (asS x).bind fun z => f e z) σ H Q)
    (m : ∀ b1 R1 G1 H1 e z, St C b1 R1 G1 σ H1 e → Run C W σ e b1 R1 G1 H1 (f e z) (KW C Q) → te σ H1 fun y H2 => r (.str z) [y] H2 Q) : tM1 r (tX C W ev) te σ H Q := by
  obtain ⟨b, R, G, e, S, h⟩ := h
  refine tX.of S (Run.bind h).dD fun b1 R1 G1 H1 w v s1 S1 r1 ⟨x, ew, q⟩ => ?_
  subst ew
  cases x <;> first | exact (Run.bind q).elim | skip
  cases r1
  exact ⟨⟨_, rfl⟩, m b1 R1 G1 H1 e _ S1 q⟩
theorem e_m1 (hX : XOk C W X) (m : M1) {o : Ee} {a : Eb} {pa p : Pos} (ho : PE X o.em (tX C W (o.ev C.cl))) (ha : PE X a.em (tB C W (a.ev C.cl))) (hr : o.recv = true) (hl : (pa.endLine == p.line) = true) : PE X (Ee.m1 m o pa a p).em (tX C W ((Ee.m1 m o pa a p).ev C.cl)) := by
  have bs := fun (m : Str) => base_of (Ee.recv_em hr) m X.env
  cases m with
  | join =>
    refine peM (pe_join ho ha (star1 a _) (bs _) hl) fun σ H Q h => tM_of h fun b1 R1 G1 H1 e z S1 q => tB.of S1 q.bind fun b2 R2 G2 H2 y v2 s2 S2 r2 q2 => ?_
    rw [hX.m.hK]
    cases y <;> first | exact q2.elim | skip
    · rename_i ds
      have q2 : Run C W σ e b2 R2 G2 H2 (retD (match strsP ds with | some ys => joinE z ys | none => .stuck)) (KW C Q) := q2
      obtain ⟨l, vs, rfl, h1, h2⟩ := r2.lst S2
      cases ez : strsP ds with
      | none => rw [ez] at q2; exact q2.elim
      | some ys =>
        rw [ez] at q2
        rw [dps_strs h2 ez] at h1
        obtain ⟨c, q2⟩ := okB_run q2
        exact ⟨z, l, ys, rfl, rfl, .inl (.inl h1), Nat.le_trans (of_decide_eq_true c) (by decide), endR S2 q2 (.str _)⟩
    · rename_i ds
      have q2 : Run C W σ e b2 R2 G2 H2 (retD (match strsP ds with | some ys => joinE z ys | none => .stuck)) (KW C Q) := q2
      cases r2.stay fun _ z => nomatch z with
      | tup h1 h2 =>
      cases ez : strsP ds with
      | none => rw [ez] at q2; exact q2.elim
      | some ys =>
        rw [ez] at q2
        rw [dps_strs h2 ez] at h1
        obtain ⟨c, q2⟩ := okB_run q2
        exact ⟨z, _, ys, rfl, rfl, .inr (S2.bs.sub.sqT h1), Nat.le_trans (of_decide_eq_true c) (by decide), endR S2 q2 (.str _)⟩
  | find =>
    refine peM (pe_m1 F.slot_str_find F.type_str_find mt_find ho ha (star1 a _) (bs _) hl) fun σ H Q h => tM_of h fun b1 R1 G1 H1 e z S1 q => tB.of S1 q.bind fun b2 R2 G2 H2 y v2 s2 S2 r2 q2 => ?_
    cases y <;> first | exact q2.elim | skip
    obtain rfl := r2.str
    exact ⟨_, _, rfl, rfl, endR S2 q2 (.int _)⟩
  | count =>
    refine peM (pe_m1 F.slot_str_count F.type_str_count mt_count ho ha (star1 a _) (bs _) hl) fun σ H Q h => tM_of h fun b1 R1 G1 H1 e z S1 q => tB.of S1 q.bind fun b2 R2 G2 H2 y v2 s2 S2 r2 q2 => ?_
    cases y <;> first | exact q2.elim | skip
    obtain rfl := r2.str
    exact ⟨_, _, rfl, rfl, endR S2 q2 (.int _)⟩
  | startswith =>
    refine peM (pe_m1 F.slot_str_startswith F.type_str_startswith mt_startswith ho ha (star1 a _) (bs _) hl) fun σ H Q h => tM_of h fun b1 R1 G1 H1 e z S1 q => tB.of S1 q.bind fun b2 R2 G2 H2 y v2 s2 S2 r2 q2 => ?_
    cases y <;> first | exact q2.elim | skip
    obtain rfl := r2.str
    exact ⟨_, _, rfl, rfl, endR S2 q2 (.bl _)⟩
/-! ### calls of the text's own functions -/
/-- the heap without an object that no one holds -/
def hide (H : Hp) (l : Addr) : Hp := fun a => if a = l then none else H a
theorem hide_ne {l a : Addr} (h : a ≠ l) : hide H l a = H a := if_neg h
theorem hide_self {l : Addr} : hide H l l = none := if_pos rfl
theorem upd_hide {l : Addr} {o : HO} (h : H l = some o) : upd (hide H l) l o = H := by
  funext a
  by_cases e : a = l
  · subst e
    rw [upd_same, h]
  · rw [upd_ne e, hide_ne e]
theorem Bs.hide {l : Addr} (B : Bs C b R G H) (g : G l = none) (r : l ∉ R) : Bs C b R G (TC.hide H l) where
  sub := fun a o h => by
    have ne : a ≠ l := ne_of_none h g
    rw [hide_ne ne]
    exact B.sub a o h
  rg := C.rg.fr B.rg fun a ha => hide_ne fun z => r (z ▸ ha)
  dis := B.dis
theorem St.hide {l : Addr} (S : St C b R G σ H e) (g : G l = none) (r : l ∉ R) (no : ∀ i, ¬ Opn σ e i l) : St C b R G σ (TC.hide H l) e where
  bs := S.bs.hide g r
  len := S.len
  sl := fun i sl h => by
    have z := S.sl i sl h
    cases sl with
    | un => trivial
    | cap c => exact z
    | fz w => exact z
    | ow ds =>
      obtain ⟨l', e1, ow⟩ := z
      obtain ⟨vs, q, q2⟩ := ow.at_
      refine ⟨l', e1, ⟨vs, ?_, q2⟩, ow.g, ow.r⟩
      have ne : l' ≠ l := fun z => no i (z ▸ ⟨⟨_, h, trivial⟩, e1⟩)
      rw [hide_ne ne]
      exact q
    | od ds =>
      obtain ⟨l', e1, ow⟩ := z
      obtain ⟨vs, q, q2⟩ := ow.at_
      refine ⟨l', e1, ⟨vs, ?_, q2⟩, ow.g, ow.r⟩
      have ne : l' ≠ l := fun z => no i (z ▸ ⟨⟨_, h, trivial⟩, e1⟩)
      rw [hide_ne ne]
      exact q
  ap := S.ap
/-- the same heap, the new list not yet there -/
theorem hid {b' : Nat} {R' : List Addr} {G' H' : Hp} {l : Addr} {ds : List PyData} {vs : List V} (S : St C b R G σ H e) (s : Stp R G H R' G' H') (S' : St C b' R' G' σ H' e) (n0 : H l = none) (o : Own C R' G' H' l ds) (hv : H' l = some (.lst vs)) :
    St C b' R' G' σ (hide H' l) e ∧ Stp R G H R' G' (hide H' l) ∧ Stp R' G' (hide H' l) R' G' H' ∧ Stp R' G' (hide H' l) R' (upd G' l (.lst vs)) H' := by
  have no : ∀ i, ¬ Opn σ e i l := fun i op => by
    obtain ⟨⟨u, hu⟩, _⟩ := S.opn_some op
    rw [n0] at hu
    cases hu
  have k : ∀ a u, hide H' l a = some u → a ∉ R' → H' a = some u := fun a u h _ => by
    have ne : a ≠ l := ne_of_none h hide_self
    rw [hide_ne ne] at h
    exact h
  have hn : ∀ a, H' a = none → hide H' l a = none := fun a z => by
    unfold TC.hide
    split
    · rfl
    · exact z
  refine ⟨S'.hide o.g o.r no, ⟨s.g, fun a u h n => ?_, s.r, s.o, fun a z => ?_⟩, ⟨fun _ _ z => z, k, fun _ z => .inl z, fun _ _ _ _ z => z, hn⟩, ⟨fun a u q => ?_, k, fun _ z => .inl z, fun a u h _ z => ?_, hn⟩⟩
  · have ne : a ≠ l := ne_of_none h n0
    rw [hide_ne ne]
    exact s.k a u h n
  · by_cases c : a = l
    · rw [c]
      exact n0
    · rw [hide_ne c] at z
      exact s.h a z
  · have ne : a ≠ l := ne_of_none q o.g
    rw [upd_ne ne]
    exact q
  · have ne : a ≠ l := ne_of_none h hide_self
    rw [upd_ne ne]
    exact z
/-- a function's promise, from what it computes on plain data -/
theorem call_run {α : Type} {j : Nat} {ws : List Wd} {vs : List V} {Q : VK} {f : FR → Comp α} {k : Nat → List Addr → Hp → Hp → α → Prop} (S : St C b R G σ H e) (r : Reps C G vs ws)
    (h : Run C W σ e b R G H (C.cl j ws) fun b' R' G' H' fr => Run C W σ e b' R' G' H' (f fr) k)
    (m : ∀ b' R' G' H' v fr, Stp R G H R' G' H' → St C b' R' G' σ H' e → RetOk C H R' G' H' v fr → (∀ R2 G2 H2, Stp R G H R2 G2 H2 → St C b' R2 G2 σ H2 e → Run C W σ e b' R2 G2 H2 (f fr) k) → Q v H') : spU C j vs H Q (fun cls d H2 => W cls d σ H2) :=
  ⟨b, R, G, ws, S.bs, r, Comp.wp_mono h (fun b' fr q R' G' H' v s B ro => m b' R' G' H' v fr s (S.stp s B) ro q)
    fun b' x q R' G' H' cls d s B ex => q R' G' H' cls d s (S.stp s B) ex⟩
/-- what a function hands back, from here on kept -/
theorem frz_run {Q : VK} {fr : FR} {v : V} {b0 : Nat} {R0 : List Addr} {G0 H0 : Hp} (S0 : St C b0 R0 G0 σ H0 e) (s : Stp R0 G0 H0 R G H) (S : St C b R G σ H e) (ro : RetOk C H0 R G H v fr)
    (h : ∀ R2 G2 H2, Stp R0 G0 H0 R2 G2 H2 → St C b R2 G2 σ H2 e → Run C W σ e b R2 G2 H2 (frC fr) (KW C Q)) : Q v H := by
  cases fr with
  | fz w => exact Run.ret S (h R G H s S) v ro
  | ow ds =>
    obtain ⟨l, rfl, n0, o⟩ := ro
    obtain ⟨vs, hv, dv⟩ := o.at_
    obtain ⟨S3, s3, _, st⟩ := hid S0 s S n0 o hv
    have B := S.bs.freeze hv o.r
    exact h R G _ s3 S3 R _ H st (S3.stp st B) (.ref l) (.lst (.inl upd_same) (st.g.dps dv))
theorem e_call (hX : XOk C W X) {j : Nat} {x : Str} {es : Es} {pf p : Pos} (hg : glB X.env.scope x = true) (hf : C.ck.fns[j]? = some x) (ha : PA X es.em (tWs C W (es.evW C.cl))) : PE X (Ee.call j x pf es p).em (tX C W ((Ee.call j x pf es p).ev C.cl)) := by
  obtain ⟨f, fd, ps, hm, hk, hb, F⟩ := hX.m.fn j x hf
  have fin : ∀ σ H Q, tX C W ((Ee.call j x pf es p).ev C.cl) σ H Q → tCallW (spU C j) W (tWs C W (es.evW C.cl)) σ H Q := fun σ H Q ⟨b, R, G, e, S, h⟩ =>
    ⟨b, R, G, e, S, (Run.bind h).mono fun b1 R1 G1 H1 ws s1 S1 q vs r => call_run S1 r q.bind fun b2 R2 G2 H2 v fr s2 S2 ro q2 => frz_run S1 s2 S2 ro q2⟩
  cases es with
  | nil =>
    exact peM (pe_callG0 F hX.gu hX.room (gl_of hg) hm hk hb hX.tk (nmB hg).2) fun σ H Q h => by
      obtain ⟨b, R, G, e, S, h⟩ := fin σ H Q h
      exact Run.ret S h [] trivial
  | cons a es => exact peM (pe_callG F hX.gu hX.room (gl_of hg) hm hk hb hX.tk ha (nmB hg).2 (star_of a.head _ _) (Es.star es _ _)) fin
/-! ### the script's length -/
theorem e_lns (hX : XOk C W X) {i : Nat} {x : Str} {px pf p : Pos} (hN : X.N[i]? = some x) (hv : visB X.env.scope x = true) (hg : glB X.env.scope "len" = true) : PE X (Ee.lns i x px pf p).em (tX C W ((Ee.lns i x px pf p).ev C.cl)) :=
  peM (pe_callB call_len_seq (gl_of hg) (blt_none hX (by decide +kernel)) boot_len (pa_1 (e_var hX (p := px) hN hv) rfl) (nmB hg).1 (nmB hg).2 rfl (by rfl)) fun σ H Q ⟨b, R, G, e, S, h⟩ => tX.of S (Run.bind h) fun b1 R1 G1 H1 w v s1 S1 r1 q => by
    rw [hX.m.hK]
    cases w with
    | scr n =>
      obtain ⟨a, xs, rfl, h2, rfl⟩ := r1
      exact ⟨a, xs, rfl, .inl (h2.imp S1.bs.sub.rd id), Run.ret S1 q (.int _) (.int _)⟩
    | _ => exact q.elim
/-! ### a draw -/
theorem e_drw (hX : XOk C W X) {x : Str} {m a : Ee} {pf p : Pos} (hg : glB X.env.scope x = true) (hd : x = C.ck.dn) (hm : PE X m.em (tX C W (m.ev C.cl))) (ha : PE X a.em (tX C W (a.ev C.cl))) : PE X (Ee.drw x pf m a p).em (tX C W ((Ee.drw x pf m a p).ev C.cl)) := by
  subst hd
  obtain ⟨f, fd, ps, hmg, hk, hb, F⟩ := hX.m.drw
  refine peM (pe_callG F hX.gu hX.room (gl_of hg) hmg hk hb hX.tk (pa_2 hm ha m.head a.head) (nmB hg).2 (star_of m.head _ _) (star2 (a := m.em) a.head _ _)) fun σ H Q ⟨b, R, G, e, S, h⟩ => ?_
  refine tX.of S (Run.bind h) fun b1 R1 G1 H1 w v s1 S1 r1 q => tX.of S1 q.bind.dD fun b2 R2 G2 H2 w2 v2 s2 S2 r2 ⟨y, ew, q2⟩ => ?_
  subst ew
  cases w with
  | d x => cases y <;> exact q2.elim
  | scr n => cases y <;> exact q2.elim
  | dct n => cases y <;> exact q2.elim
  | er n => cases y <;> exact q2.elim
  | fn n => cases y <;> exact q2.elim
  | rng =>
    cases y <;> first | exact q2.elim | skip
    cases r2
    obtain ⟨c, rfl, h1, h2, h3⟩ := q2
    obtain rfl : v = .ref C.am := r1
    refine ⟨c, R2, G2, _, S2.bs, rfl, h1, h2, fun r R3 H3 r0 r1 s3 B3 => ?_⟩
    exact h3 r r0 r1 R3 G2 H3 s3 (S2.stp s3 B3) (.int r) (.int r)
end
end TC

set_option Elab.async false
set_option linter.all false
set_option maxRecDepth 100000
set_option maxHeartbeats 2000000
namespace TC
open PySem L2 PySem.Spec
section
variable {C : Ctx} {W : WX} {X : Cx} {σ : L2.St} {e : En} {b : Nat} {R : List Addr} {G H : Hp}
theorem nuMax_ints (i j k : Int) : nuMax3 (.int i) (.int j) (.int k) = some (.int (if k > (if j > i then j else i) then k else if j > i then j else i)) := by
  have e : ∀ a c : Int, nuMax2 (.int a) (.int c) = some (.int (if c > a then c else a)) := fun a c => by
    have z : nuLt (.int a) (.int c) = some (decide (a < c)) := rfl
    unfold nuMax2
    rw [z]
    by_cases h : a < c
    · rw [decide_eq_true h, if_pos h]
      rfl
    · rw [decide_eq_false h, if_neg h]
      rfl
  unfold nuMax3
  rw [e]
  exact e _ k
theorem nuMin_ints (i j k : Int) : nuMin3 (.int i) (.int j) (.int k) = some (.int (if k < (if j < i then j else i) then k else if j < i then j else i)) := by
  have e : ∀ a c : Int, nuMin2 (.int a) (.int c) = some (.int (if c < a then c else a)) := fun a c => by
    have z : nuLt (.int c) (.int a) = some (decide (c < a)) := rfl
    unfold nuMin2
    rw [z]
    by_cases h : c < a
    · rw [decide_eq_true h, if_pos h]
      rfl
    · rw [decide_eq_false h, if_neg h]
      rfl
  unfold nuMin3
  rw [e]
  exact e _ k
theorem tX3 {ca cb cc : En → Comp Wd} {f : En → PyData → PyData → PyData → Comp Wd} {Q : VK}
    (h : tX C W (fun e => (dD (ca e)).bind fun x => (dD (cb e)).bind fun y => (dD (cc e)).bind fun z => f e x y z) σ H Q) {Q2 : V → V → V → Hp → Prop}
    (m : ∀ b R G H2 e vx vy vz x y z, St C b R G σ H2 e → Dq C.K G vx x → Dq C.K G vy y → Dq C.K G vz z → Run C W σ e b R G H2 (f e x y z) (KW C Q) → Q2 vx vy vz H2) :
    tX C W ca σ H fun vx H1 => tX C W cb σ H1 fun vy H2 => tX C W cc σ H2 fun vz H3 => Q2 vx vy vz H3 := by
  obtain ⟨b, R, G, e, S, h⟩ := h
  refine tX.of S h.bind.dD fun b1 R1 G1 H1 w1 v1 s1 S1 r1 ⟨x, ew, q⟩ => ?_
  subst ew
  refine tX.of S1 q.bind.dD fun b2 R2 G2 H2 w2 v2 s2 S2 r2 ⟨y, ew, q2⟩ => ?_
  subst ew
  refine tX.of S2 q2.bind.dD fun b3 R3 G3 H3 w3 v3 s3 S3 r3 ⟨z, ew, q3⟩ => ?_
  subst ew
  exact m b3 R3 G3 H3 e v1 v2 v3 x y z S3 (s3.g.dp (s2.g.dp r1)) (s3.g.dp r2) r3 q3
theorem e_f3 (hX : XOk C W X) (f : F2) {a c d : Ee} {pf p : Pos} (hg : glB X.env.scope f.nm = true) (ha : PE X a.em (tX C W (a.ev C.cl))) (hc : PE X c.em (tX C W (c.ev C.cl))) (hd : PE X d.em (tX C W (d.ev C.cl))) : PE X (Ee.f3 f pf a c d p).em (tX C W ((Ee.f3 f pf a c d p).ev C.cl)) := by
  have pa : PA X [a.em, c.em, d.em] (tCons (tX C W (a.ev C.cl)) (tCons (tX C W (c.ev C.cl)) (tCons (tX C W (d.ev C.cl)) tNil))) := pa_cons ha (pa_2 hc hd c.head d.head) (star_of a.head _ _)
  have st : (backTo p (starEach [c.em, d.em] X.env)).any (·.1) = false := by
    rw [star_of c.head, star_of d.head]
    rfl
  cases f with
  | min =>
    exact peM (pe_callB (call_min3Nu hX.calm) (gl_of hg) (blt_none hX (by decide +kernel)) (by decide +kernel) pa (nmB hg).1 (nmB hg).2 (star_of a.head _ _) st) fun σ H Q h => tX3 h fun n R G H2 e vx vy vz x y z S rx ry rz q => by
      cases x <;> cases y <;> cases z <;> first | exact q.elim | skip
      cases rx
      cases ry
      cases rz
      exact ⟨_, _, _, _, rfl, nuMin_ints _ _ _, endR S q (.int _)⟩
  | max =>
    exact peM (pe_callB (call_max3Nu hX.calm) (gl_of hg) (blt_none hX (by decide +kernel)) (by decide +kernel) pa (nmB hg).1 (nmB hg).2 (star_of a.head _ _) st) fun σ H Q h => tX3 h fun n R G H2 e vx vy vz x y z S rx ry rz q => by
      cases x <;> cases y <;> cases z <;> first | exact q.elim | skip
      cases rx
      cases ry
      cases rz
      exact ⟨_, _, _, _, rfl, nuMax_ints _ _ _, endR S q (.int _)⟩
end
end TC

set_option Elab.async false
set_option linter.all false
set_option maxRecDepth 100000
set_option maxHeartbeats 2000000
namespace TC
open PySem L2 PySem.Spec
section
variable {C : Ctx} {W : WX} {X : Cx} {σ : L2.St} {e : En} {b : Nat} {R : List Addr} {G H : Hp}
/-! ### new lists -/
theorem rd_obj {pins : List (Addr × Obj)} {s : Shared} {l : Addr} {xs : List V} (I : Inv X pins σ H s) (h : Rd H l (.lst xs)) : ∃ (its : List Value) (n : Nat), Vals xs its ∧ xs.length = its.length ∧ xs.length ≤ sizeLine ∧ s.heap.get? l = some { cls := .type "list", data := .seq its.toArray n } := by
  obtain ⟨z, its, n, r, e⟩ := h.ok I.hok
  exact ⟨its, n, r, r.length, z, e⟩
/-- two lists that are read, put together -/
theorem op_catR : OpR X (binaryOp .Add) (fun x y H Q => ∃ l m xs zs, x = .ref l ∧ y = .ref m ∧ Rd H l (.lst xs) ∧ Rd H m (.lst zs) ∧ xs.length + zs.length ≤ sizeLine ∧ ∀ p, H p = none → Q (.ref p) (upd H p (.lst (xs ++ zs)))) := by
  intro pins s σ H x y v u Q I rx ry h
  obtain ⟨l, m, xs, zs, rfl, rfl, h1, h2, hz, q⟩ := h
  cases rx
  cases ry
  obtain ⟨a1, n1, r1, e1, _, g1⟩ := rd_obj I h1
  obtain ⟨a2, n2, r2, e2, _, g2⟩ := rd_obj I h2
  refine PySem.P.add_list g1 g2 ?_ (by rw [List.size_toArray, List.size_toArray, ← e1, ← e2]; exact hz)
  have e3 : a1.toArray ++ a2.toArray = (a1 ++ a2).toArray := by simp
  rw [e3]
  exact ⟨.ref _, _, I.lnew (t' := s.toks) (r1.append r2) (by rw [List.length_append]; exact hz), rfl, q _ I.fresh⟩
theorem limL_run {ds : List PyData} {k : Nat → List Addr → Hp → Hp → List PyData → Prop} (h : Run C W σ e b R G H (limL ds) k) : ds.length ≤ LIM ∧ Run C W σ e b R G H (.ret ds) k := by
  unfold limL at h
  by_cases c : ds.length ≤ LIM
  · rw [if_pos c] at h
    exact ⟨c, h⟩
  · rw [if_neg c] at h
    exact h.elim
theorem f_cat (hX : XOk C W X) {a c : Eb} {p : Pos} (ha : PE X a.em (tB C W (a.ev C.cl))) (hc : PE X c.em (tB C W (c.ev C.cl))) : PE X (Ef.cat a c p).em (tF C W ((Ef.cat a c p).ev C.cl)) :=
  peM (pe_op op_catR ha hc) fun σ H Q ⟨b, R, G, e, S, h⟩ => tB.of S (Run.bind h) fun b1 R1 G1 H1 d v s1 S1 r1 q => tB.of S1 q.bind fun b2 R2 G2 H2 d2 v2 s2 S2 r2 q2 => by
    have r1 := r1.sub s2.g
    have q2 := q2.bind
    cases d <;> first | exact q2.elim | skip
    have q3 := Run.bind (Run.ret S2 q2)
    cases d2 <;> first | exact q3.elim | skip
    obtain ⟨c, q4⟩ := limL_run (Run.ret S2 q3)
    obtain ⟨l, vs, rfl, h1, d1⟩ := r1.lst S2
    obtain ⟨l2, vs2, rfl, h2, d2⟩ := r2.lst S2
    refine ⟨l, l2, vs, vs2, rfl, rfl, h1, h2, ?_, fun l hl => endF S2 q4 (dps_append d1 d2) l hl⟩
    rw [List.length_append] at c
    rw [dps_length d1, dps_length d2]
    exact lim_line c
theorem f_call (hX : XOk C W X) {j : Nat} {x : Str} {es : Es} {pf p : Pos} (hg : glB X.env.scope x = true) (hf : C.ck.fns[j]? = some x) (ha : PA X es.em (tWs C W (es.evW C.cl))) : PE X (Ef.call j x pf es p).em (tF C W ((Ef.call j x pf es p).ev C.cl)) := by
  obtain ⟨f, fd, ps, hm, hk, hb, F⟩ := hX.m.fn j x hf
  have fin : ∀ σ H Q, tF C W ((Ef.call j x pf es p).ev C.cl) σ H Q → tCallW (spU C j) W (tWs C W (es.evW C.cl)) σ H Q := fun σ H Q ⟨b, R, G, e, S, h⟩ =>
    ⟨b, R, G, e, S, (Run.bind h).mono fun b1 R1 G1 H1 ws s1 S1 q vs r => call_run S1 r q.bind fun b2 R2 G2 H2 v fr s2 S2 ro q => by
      cases fr with
      | fz w => exact (q R2 G2 H2 s2 S2).elim
      | ow ds =>
        obtain ⟨l, rfl, n0, o⟩ := ro
        obtain ⟨vs, hv, dv⟩ := o.at_
        obtain ⟨S3, s3, st, _⟩ := hid S1 s2 S2 n0 o hv
        exact Run.ret S3 (q R2 G2 _ s3 S3) l H2 hide_self st S2 ⟨vs, hv, dv⟩⟩
  cases es with
  | nil =>
    exact peM (pe_callG0 F hX.gu hX.room (gl_of hg) hm hk hb hX.tk (nmB hg).2) fun σ H Q h => by
      obtain ⟨b, R, G, e, S, h⟩ := fin σ H Q h
      exact Run.ret S h [] trivial
  | cons a es => exact peM (pe_callG F hX.gu hX.room (gl_of hg) hm hk hb hX.tk ha (nmB hg).2 (star_of a.head _ _) (Es.star es _ _)) fin
theorem f_lof (hX : XOk C W X) {a : Eb} {pf p : Pos} (hg : glB X.env.scope "list" = true) (ha : PE X a.em (tB C W (a.ev C.cl))) : PE X (Ef.lof pf a p).em (tF C W ((Ef.lof pf a p).ev C.cl)) :=
  peM (pe_callTy call_list_of (gl_of hg) (blt_none hX (by decide +kernel)) (by decide +kernel) (pa_1 ha a.head) (nmB hg).1 (nmB hg).2 (star1 a _) (by rfl)) fun σ H Q ⟨b, R, G, e, S, h⟩ => tB.of S (Run.bind h) fun b1 R1 G1 H1 d v s1 S1 r q => by
    rw [hX.m.hK]
    cases d <;> first | exact q.elim | skip
    · obtain ⟨l, vs, rfl, h1, h2⟩ := r.lst S1
      exact ⟨_, _, rfl, .inl (.inl h1), fun l hl => endF S1 q h2 l hl⟩
    · cases r.stay fun _ z => nomatch z with
      | tup h1 h2 => exact ⟨_, _, rfl, .inr (S1.bs.sub.sqT h1), fun l hl => endF S1 q h2 l hl⟩
theorem dps_rng (a b : Int) : DqAll C.K G (rgV a b) (rngP a b) := by
  unfold rgV rngP
  generalize List.range (b - a).toNat = l
  induction l with
  | nil => exact .nil
  | cons n l ih => exact .cons (.int _) ih
theorem f_lofr (hX : XOk C W X) {a : Ee} {pf pr pq p : Pos} (hg : glB X.env.scope "list" = true) (hg2 : glB X.env.scope "range" = true) (ha : PE X a.em (tX C W (a.ev C.cl))) : PE X (Ef.lofr pf pr a pq p).em (tF C W ((Ef.lofr pf pr a pq p).ev C.cl)) :=
  peM (pe_listRg hX.calm (gl_of hg) (blt_none hX (by decide +kernel)) (prg_1 (gl_of hg2) (blt_none hX (by decide +kernel)) ha (star_of a.head _ _)) (by rfl)) fun σ H Q ⟨b, R, G, e, S, h⟩ => tX.of S (Run.bind h).dI fun b1 R1 G1 H1 w v s1 S1 r1 ⟨k, ew, q⟩ => by
    subst ew
    cases r1
    by_cases c : (decide (-100000 ≤ k) && decide (k ≤ 100000)) = true
    · have q : Run C W σ e b1 R1 G1 H1 (.ret (rngP 0 k)) (KF C σ e Q) := by rw [if_pos c] at q; exact q
      rw [Bool.and_eq_true, decide_eq_true_eq, decide_eq_true_eq] at c
      exact ⟨k, rfl, ⟨by omega, by omega, by omega, by omega, by omega⟩, fun l hl => endF S1 q (dps_rng 0 k) l hl⟩
    · rw [if_neg c] at q
      exact q.elim
theorem f_slc (hX : XOk C W X) {a : Eb} {lo hi : Eo} {ps p : Pos} (ha : PE X a.em (tB C W (a.ev C.cl))) (hl : PO X lo.em (tO C W (lo.ev C.cl))) (hh : PO X hi.em (tO C W (hi.ev C.cl))) : PE X (Ef.slc a lo hi ps p).em (tF C W ((Ef.slc a lo hi ps p).ev C.cl)) :=
  peM (pe_slice sl_list ha hl hh) fun σ H Q ⟨b, R, G, e, S, h⟩ => tB.of S (Run.bind h) fun b1 R1 G1 H1 d v s1 S1 r1 q => tO.of S1 q.bind fun b2 R2 G2 H2 l s2 S2 q2 => tO.of S2 q2.bind fun b3 R3 G3 H3 u s3 S3 q3 => by
    have r1 := r1.sub (s2.trans s3).g
    have q3 := q3.bind
    cases d <;> first | exact q3.elim | skip
    obtain ⟨a, vs, rfl, h1, h2⟩ := r1.lst S3
    rw [hX.m.hK]
    exact ⟨a, vs, rfl, .inl h1, fun l hl => endF S3 (Run.ret S3 q3) (dps_cut h2 _ _) l hl⟩
theorem f_split (hX : XOk C W X) {o a : Ee} {pa p : Pos} (ho : PE X o.em (tX C W (o.ev C.cl))) (ha : PE X a.em (tX C W (a.ev C.cl))) (hr : o.recv = true) (hl : (pa.endLine == p.line) = true) : PE X (Ef.split o pa a p).em (tF C W ((Ef.split o pa a p).ev C.cl)) :=
  peM (pe_split ho ha (star_of a.head _ _) (base_of (Ee.recv_em hr) _ _) hl) fun σ H Q ⟨b, R, G, e, S, h⟩ => tX.of S (Run.bind h).dD fun b1 R1 G1 H1 w v s1 S1 r1 ⟨x, ew, q⟩ => by
    subst ew
    cases x with
    | str z =>
      cases r1
      refine ⟨⟨_, rfl⟩, tX.of S1 (Run.bind (Run.ret S1 (Run.bind q))).dD fun b2 R2 G2 H2 w2 v2 s2 S2 r2 ⟨y, ew, q2⟩ => ?_⟩
      subst ew
      cases y with
      | str w =>
        cases r2
        have q2 : Run C W σ e b2 R2 G2 H2 (if (w.length != 0) && decide (z.length ≤ LIM) then .ret ((Txt.split z w).map .str) else .stuck) (KF C σ e Q) := q2
        by_cases c : ((w.length != 0) && decide (z.length ≤ LIM)) = true
        · rw [if_pos c] at q2
          rw [Bool.and_eq_true, decide_eq_true_eq] at c
          refine ⟨z, w, rfl, rfl, by simpa using c.1, ?_, fun l hl => ?_⟩
          · have := c.2
            rw [line_num]
            unfold LIM at this
            omega
          · have := dps_of_strs (K := C.K) (G := G2) (Txt.split z w)
            exact endF S2 q2 this l hl
        · rw [if_neg c] at q2
          exact q2.elim
      | _ => exact q2.elim
    | _ => exact (Run.bind q).elim
end
end TC

set_option Elab.async false
set_option linter.all false
set_option maxRecDepth 100000
set_option maxHeartbeats 2000000
namespace TC
open PySem L2 PySem.Spec
section
variable {C : Ctx} {W : WX} {X : Cx} {σ : L2.St} {e : En} {b : Nat} {R : List Addr} {G H : Hp}
/-! ### what is walked -/
/-- an item as it comes: it stays, or it is a new tuple of what stays -/
def Com (C : Ctx) (G H : Hp) (x : V) (H' : Hp) (d : PyData) : Prop :=
  (H' = H ∧ Dq C.K G x d) ∨ ∃ p vs es, H p = none ∧ H' = upd H p (.tup vs) ∧ x = .ref p ∧ d = .tuple es ∧ DqAll C.K G vs es
/-- the walk J yields ds, one after another, while what is frozen at G stands -/
structure Wk (C : Ctx) (J : It) (G : Hp) (ds : List PyData) : Prop where
  go : ∀ i H, i < ds.length → Sub G H → J.go i H
  stop : ∀ i H, ds.length ≤ i → Sub G H → J.stop i H
  yld : ∀ i H x H' d, ds[i]? = some d → Sub G H → J.yld i H x H' → Com C G H x H' d
def tI (C : Ctx) (W : WX) (ev : En → Comp (List PyData)) : TI := fun σ H K => ∃ b R G e, St C b R G σ H e ∧ Run C W σ e b R G H (ev e) fun b' R' G' H' ds => St C b' R' G' σ H' e → ∀ J, Wk C J G' ds → K J H'
theorem piM {X : Cx} {tg : Expr} {e : Expr} {t t' : TI} (h : PI X tg e t) (m : ∀ σ H K, t' σ H K → t σ H K) : PI X tg e t' :=
  ⟨fun pins s σ H K I q => h.run pins s σ H K I (m σ H K q)⟩
theorem piOr {X : Cx} {tg : Expr} {e : Expr} {t t' : TI} (h : PI X tg e t) (h' : PI X tg e t') : PI X tg e (fun σ H K => t σ H K ∨ t' σ H K) :=
  ⟨fun pins s σ H K I q => q.elim (h.run pins s σ H K I) (h'.run pins s σ H K I)⟩
theorem wk_list {a : Addr} {vs : List V} {ds : List PyData} {K : PySem.W.Frag} (h : Rd G a (.lst vs)) (d : DqAll C.K G vs ds) : Wk C (Itl K a) G ds where
  go := fun i H hi s => ⟨vs, vs[i]'(by rw [dps_length d]; exact hi), .inl (s.rd h), List.getElem?_eq_getElem _⟩
  stop := fun i H hi s => ⟨vs, .inl (s.rd h), by rw [dps_length d]; exact hi⟩
  yld := fun i H x H' u e s ⟨q1, q2⟩ => by
    obtain ⟨v, h1, h2⟩ := dps_get d e
    have z := q2 vs (.inl (s.rd h))
    rw [h1] at z
    injection z with z
    subst z
    exact .inl ⟨q1, h2⟩
theorem wk_tup {a : Addr} {vs : List V} {ds : List PyData} (h : SqT C.K G a vs) (d : DqAll C.K G vs ds) : Wk C (Itt C.K a) G ds where
  go := fun i H hi s => ⟨vs, vs[i]'(by rw [dps_length d]; exact hi), s.sqT h, List.getElem?_eq_getElem _⟩
  stop := fun i H hi s => ⟨vs, s.sqT h, by rw [dps_length d]; exact hi⟩
  yld := fun i H x H' u e s ⟨q1, q2⟩ => by
    obtain ⟨v, h1, h2⟩ := dps_get d e
    have z := q2 vs (s.sqT h)
    rw [h1] at z
    injection z with z
    subst z
    exact .inl ⟨q1, h2⟩
theorem wk_str (x : Str) : Wk C (Its x) G (x.cps.toList.map fun c => .str ⟨#[c]⟩) where
  go := fun i H hi _ => by
    rw [List.length_map, Array.length_toList] at hi
    exact hi
  stop := fun i H hi _ => by
    rw [List.length_map, Array.length_toList] at hi
    exact hi
  yld := fun i H v H' u e _ ⟨q1, c, q2, q3⟩ => by
    rw [List.getElem?_map, Array.getElem?_toList, q2] at e
    injection e with e
    subst e q3
    exact .inl ⟨q1, .str _⟩
theorem wk_rng (a b : Int) : Wk C (Itr a (b - a).toNat) G (rngP a b) where
  go := fun i H hi _ => by
    unfold rngP at hi
    rw [List.length_map, List.length_range] at hi
    exact hi
  stop := fun i H hi _ => by
    unfold rngP at hi
    rw [List.length_map, List.length_range] at hi
    exact hi
  yld := fun i H v H' u e _ ⟨q1, q2⟩ => by
    unfold rngP at e
    rw [List.getElem?_map] at e
    obtain ⟨n, h1, h2⟩ := Option.map_eq_some_iff.mp e
    obtain ⟨h3, h4⟩ := List.getElem?_eq_some_iff.mp h1
    rw [List.getElem_range] at h4
    subst h4 h2 q2
    exact .inl ⟨q1, .int _⟩
theorem wk_rgc (a b : Int) : Wk C (Itc a (-1) (a - b).toNat) G (rg3P a b) where
  go := fun i H hi _ => by
    unfold rg3P at hi
    rw [List.length_map, List.length_range] at hi
    exact hi
  stop := fun i H hi _ => by
    unfold rg3P at hi
    rw [List.length_map, List.length_range] at hi
    exact hi
  yld := fun i H v H' u e _ ⟨q1, q2⟩ => by
    unfold rg3P at e
    rw [List.getElem?_map] at e
    obtain ⟨n, h1, h2⟩ := Option.map_eq_some_iff.mp e
    obtain ⟨h3, h4⟩ := List.getElem?_eq_some_iff.mp h1
    rw [List.getElem_range] at h4
    subst h4 h2 q2
    exact .inl ⟨q1, .int _⟩
/-- a list, a tuple or a text is walked -/
theorem pi_any {tg l : Expr} {tl : TE} (hl : PE X l tl) : PI X tg l (fun σ H K => tl σ H fun x H1 => (∃ a xs, x = .ref a ∧ Rd H1 a (.lst xs) ∧ K (Itl X.K a) H1) ∨ (∃ a xs, x = .ref a ∧ SqT X.K H1 a xs ∧ K (Itt X.K a) H1) ∨ (∃ z, x = .str z ∧ K (Its z) H1)) := by
  refine ⟨fun pins s σ H K I h => thn (hl.run pins s σ H _ I h) fun v s1 ⟨x, H1, I1, r1, q1⟩ => ?_⟩
  rcases q1 with ⟨a, xs, rfl, h1, q⟩ | ⟨a, xs, rfl, h1, q⟩ | ⟨z, rfl, q⟩
  · cases r1
    obtain ⟨its, rv, p, hz⟩ := I1.list (.inl h1)
    exact wpAny_pyIter_list p.isList (pi_one (tk := s1.toks) I1 _ (turn_list a _) ⟨_, Heap.get?_push_size _ rfl, rfl, rfl⟩ q)
  · cases r1
    obtain ⟨its, rv, p, hz⟩ := I1.tuple h1
    exact wpAny_pyIter_tuple (show s1.heap.IsTuple a its.toArray from p) (pi_one (tk := s1.toks) I1 _ (turn_tuple a _) ⟨_, Heap.get?_push_size _ rfl, rfl, rfl⟩ q)
  · obtain ⟨t, rfl⟩ := r1
    cases ha : z.cps.all (· < 128)
    · exact wpAny_pyIter_wide ha (pi_one (tk := s1.toks) I1 _ (turn_str _ z t "str_iterator" (.inr rfl)) ⟨_, Heap.get?_push_size _ rfl, rfl, rfl⟩ q)
    · exact wpAny_pyIter_ascii ha (pi_one (tk := s1.toks) I1 _ (turn_str _ z t "str_ascii_iterator" (.inl rfl)) ⟨_, Heap.get?_push_size _ rfl, rfl, rfl⟩ q)
theorem i_seq (hX : XOk C W X) {tg : Expr} {a : Ee} (ha : PE X a.em (tX C W (a.ev C.cl))) : PI X tg (Ei.seq a).em (tI C W ((Ei.seq a).ev C.cl)) :=
  piM (pi_any ha) fun σ H K ⟨b, R, G, e, S, h⟩ => tX.of S (Run.bind h).dD fun b1 R1 G1 H1 w v s1 S1 r1 ⟨x, ew, q⟩ => by
    subst ew
    rw [hX.m.hK]
    cases x with
    | list ds =>
      cases r1 with
      | lst h1 h2 => exact .inl ⟨_, _, rfl, S1.bs.sub.rd h1, Run.ret S1 q S1 _ (wk_list h1 h2)⟩
    | tuple ds =>
      cases r1 with
      | tup h1 h2 => exact .inr (.inl ⟨_, _, rfl, S1.bs.sub.sqT h1, Run.ret S1 q S1 _ (wk_tup h1 h2)⟩)
    | str z =>
      cases r1
      exact .inr (.inr ⟨z, rfl, Run.ret S1 q S1 _ (wk_str z)⟩)
    | _ => exact q.elim
theorem i_rg1 (hX : XOk C W X) {tg : Expr} {a : Ee} {pf p : Pos} (hg : glB X.env.scope "range" = true) (ha : PE X a.em (tX C W (a.ev C.cl))) : PI X tg (Ei.rg1 pf a p).em (tI C W ((Ei.rg1 pf a p).ev C.cl)) :=
  piM (pi_range1 (gl_of hg) (blt_none hX (by decide +kernel)) (pa_1 ha a.head) (star_of a.head _ _)) fun σ H K ⟨b, R, G, e, S, h⟩ => tX.of S (Run.bind h).dI fun b1 R1 G1 H1 w v s1 S1 r1 ⟨k, ew, q⟩ => by
    subst ew
    cases r1
    by_cases c : bigI k = true
    · rw [if_pos c] at q
      unfold bigI at c
      rw [Bool.and_eq_true, decide_eq_true_eq, decide_eq_true_eq] at c
      have z := Run.ret S1 q S1 _ (wk_rng 0 k)
      rw [Int.sub_zero] at z
      exact ⟨k, rfl, by omega, by omega, z⟩
    · rw [if_neg c] at q
      exact q.elim
theorem i_rg2 (hX : XOk C W X) {tg : Expr} {a c : Ee} {pf p : Pos} (hg : glB X.env.scope "range" = true) (ha : PE X a.em (tX C W (a.ev C.cl))) (hc : PE X c.em (tX C W (c.ev C.cl))) : PI X tg (Ei.rg2 pf a c p).em (tI C W ((Ei.rg2 pf a c p).ev C.cl)) :=
  piM (pi_range2 (gl_of hg) (blt_none hX (by decide +kernel)) (pa_2 ha hc a.head c.head) ((star_of a.head _ _).trans (congrArg _ (star_of c.head _ _))) (star_of c.head _ _)) fun σ H K ⟨b, R, G, e, S, h⟩ => tX.of S (Run.bind h).dI fun b1 R1 G1 H1 w v s1 S1 r1 ⟨k, ew, q⟩ => by
    subst ew
    refine tX.of S1 (Run.bind q).dI fun b2 R2 G2 H2 w2 v2 s2 S2 r2 ⟨k2, ew, q⟩ => ?_
    subst ew
    cases r1
    cases r2
    by_cases c : (bigI k && bigI k2) = true
    · rw [if_pos c] at q
      unfold bigI at c
      rw [Bool.and_eq_true, Bool.and_eq_true, Bool.and_eq_true, decide_eq_true_eq, decide_eq_true_eq, decide_eq_true_eq, decide_eq_true_eq] at c
      exact ⟨k, k2, rfl, ⟨by omega, by omega, by omega, by omega⟩, Run.ret S2 q S2 _ (wk_rng k k2)⟩
    · rw [if_neg c] at q
      exact q.elim
theorem i_rg3 (hX : XOk C W X) {tg : Expr} {a c d : Ee} {pf p : Pos} (hg : glB X.env.scope "range" = true) (ha : PE X a.em (tX C W (a.ev C.cl))) (hc : PE X c.em (tX C W (c.ev C.cl))) (hd : PE X d.em (tX C W (d.ev C.cl))) : PI X tg (Ei.rg3 pf a c d p).em (tI C W ((Ei.rg3 pf a c d p).ev C.cl)) :=
  piM (pi_range3 (gl_of hg) (blt_none hX (by decide +kernel)) (pa_cons ha (pa_2 hc hd c.head d.head) (star_of a.head _ _)) (star_of a.head _ _) (by
    rw [star_of c.head, star_of d.head]
    rfl)) fun σ H K ⟨b, R, G, e, S, h⟩ => tX.of S (Run.bind h).dI fun b1 R1 G1 H1 w v s1 S1 r1 ⟨k, ew, q⟩ => by
    subst ew
    refine tX.of S1 (Run.bind q).dI fun b2 R2 G2 H2 w2 v2 s2 S2 r2 ⟨k2, ew, q⟩ => ?_
    subst ew
    refine tX.of S2 (Run.bind q).dI fun b3 R3 G3 H3 w3 v3 s3 S3 r3 ⟨k3, ew, q⟩ => ?_
    subst ew
    cases r1
    cases r2
    cases r3
    by_cases c : rgOkB k k2 k3 = true
    · rw [if_pos c] at q
      unfold rgOkB at c
      rw [Bool.and_eq_true, Bool.and_eq_true, Bool.and_eq_true, Bool.and_eq_true, decide_eq_true_eq, decide_eq_true_eq, decide_eq_true_eq, decide_eq_true_eq, decide_eq_true_eq] at c
      obtain ⟨⟨⟨⟨rfl, c2⟩, c3⟩, c4⟩, c5⟩ := c
      exact ⟨k, k2, -1, (k - k2).toNat, rfl, RgC.neg (by omega) (by omega) (by omega) (by omega), Run.ret S3 q S3 _ (wk_rgc k k2)⟩
    · rw [if_neg c] at q
      exact q.elim
theorem zipw_get {α β γ : Type} (f : α → β → γ) : ∀ {xs : List α} {ys : List β} {i : Nat} {z : γ}, (xs.zipWith f ys)[i]? = some z → ∃ x y, xs[i]? = some x ∧ ys[i]? = some y ∧ z = f x y
  | x :: xs, y :: ys, 0, z, h => ⟨x, y, rfl, rfl, (Option.some.inj h).symm⟩
  | x :: xs, y :: ys, i + 1, z, h => by
    obtain ⟨u, v, h1, h2, h3⟩ := zipw_get f (xs := xs) (ys := ys) (i := i) h
    exact ⟨u, v, h1, h2, h3⟩
  | [], _, _, _, h => by simp at h
  | _ :: _, [], _, _, h => by simp at h
theorem wk_enu {a : Addr} {vs : List V} {ds : List PyData} {K : PySem.W.Frag} (h : Rd G a (.lst vs)) (d : DqAll C.K G vs ds) : Wk C (Ite K a) G (enuP ds) where
  go := fun i H hi s => by
    have hi : i < vs.length := by
      unfold enuP at hi
      rw [List.length_zipWith, List.length_range, Nat.min_self] at hi
      rw [dps_length d]
      exact hi
    exact ⟨vs, vs[i], .inl (s.rd h), List.getElem?_eq_getElem _⟩
  stop := fun i H hi s => by
    unfold enuP at hi
    rw [List.length_zipWith, List.length_range, Nat.min_self] at hi
    exact ⟨vs, .inl (s.rd h), by rw [dps_length d]; exact hi⟩
  yld := fun i H x H' u e s ⟨T, x1, q1, q2, q3, q4⟩ => by
    obtain ⟨n, y, h1, h2, rfl⟩ := zipw_get _ e
    obtain ⟨h3, h4⟩ := List.getElem?_eq_some_iff.mp h1
    rw [List.getElem_range] at h4
    subst h4
    obtain ⟨v, g1, g2⟩ := dps_get d h2
    have z := q4 vs (.inl (s.rd h))
    rw [g1] at z
    injection z with z
    subst z
    exact .inr ⟨T, _, _, q2, q3, q1, rfl, .cons (.int _) (.cons g2 .nil)⟩
theorem wk_enuT {a : Addr} {vs : List V} {ds : List PyData} (h : SqT C.K G a vs) (d : DqAll C.K G vs ds) : Wk C (TZ.ItE C.K a) G (enuP ds) where
  go := fun i H hi s => by
    unfold enuP at hi
    rw [List.length_zipWith, List.length_range] at hi
    have e1 := dps_length d
    exact ⟨vs, vs[i]'(by omega), s.sqT h, List.getElem?_eq_getElem _⟩
  stop := fun i H hi s => by
    unfold enuP at hi
    rw [List.length_zipWith, List.length_range] at hi
    have e1 := dps_length d
    exact ⟨vs, s.sqT h, by omega⟩
  yld := fun i H x H' u e s ⟨T, x1, q1, q2, q3, q4⟩ => by
    obtain ⟨n, y, g1, g2, rfl⟩ := zipw_get _ e
    obtain ⟨v, k1, k2⟩ := dps_get d g2
    have z1 := q4 vs (s.sqT h)
    rw [k1] at z1
    injection z1 with z1
    obtain ⟨hl, g3⟩ := List.getElem?_eq_some_iff.mp g1
    rw [List.getElem_range] at g3
    subst z1 g3
    exact .inr ⟨T, _, _, q2, q3, q1, rfl, .cons (.int _) (.cons k2 .nil)⟩
theorem i_enu (hX : XOk C W X) {elts : List Expr} {kk : Nat} {tpos : Pos} {a : Ee} {pf p : Pos} (hg : glB X.env.scope "enumerate" = true) (ha : PE X a.em (tX C W (a.ev C.cl))) : PI X (.Tuple elts kk tpos) (Ei.enu pf a p).em (tI C W ((Ei.enu pf a p).ev C.cl)) :=
  piM (TZ.pi_one1 (gl_of hg) (blt_none hX (by decide +kernel)) (pa_1 ha a.head) (star_of a.head _ _)) fun σ H K ⟨b, R, G, e, S, h⟩ => tX.of S (Run.bind h).dD fun b1 R1 G1 H1 w v s1 S1 r1 ⟨x, ew, q⟩ => by
    subst ew
    rw [hX.m.hK]
    cases x with
    | list ds =>
      cases r1 with
      | lst h1 h2 => exact ⟨_, .l (.inl (S1.bs.sub.rd h1)), Run.ret S1 q S1 _ (wk_enu h1 h2)⟩
    | tuple ds =>
      cases r1 with
      | tup h1 h2 => exact ⟨_, .t (S1.bs.sub.sqT h1), Run.ret S1 q S1 _ (wk_enuT h1 h2)⟩
    | _ => exact q.elim
theorem wk_zip {a c : Addr} {vs us : List V} {ds es : List PyData} {K : PySem.W.Frag} (h : Rd G a (.lst vs)) (h2 : Rd G c (.lst us)) (d : DqAll C.K G vs ds) (d2 : DqAll C.K G us es) : Wk C (Itz K a c) G (zipP ds es) where
  go := fun i H hi s => by
    unfold zipP at hi
    rw [List.length_zipWith] at hi
    have e1 := dps_length d
    have e2 := dps_length d2
    exact ⟨vs, us, vs[i]'(by omega), us[i]'(by omega), .inl (s.rd h), .inl (s.rd h2), List.getElem?_eq_getElem _, List.getElem?_eq_getElem _⟩
  stop := fun i H hi s => by
    unfold zipP at hi
    rw [List.length_zipWith] at hi
    have e1 := dps_length d
    have e2 := dps_length d2
    exact ⟨vs, us, .inl (s.rd h), .inl (s.rd h2), by omega⟩
  yld := fun i H x H' u e s ⟨T, x1, y1, q1, q2, q3, q4, q5⟩ => by
    obtain ⟨n, y, g1, g2, rfl⟩ := zipw_get _ e
    obtain ⟨v, k1, k2⟩ := dps_get d g1
    obtain ⟨v2, k3, k4⟩ := dps_get d2 g2
    have z := q4 vs (.inl (s.rd h))
    rw [k1] at z
    injection z with z
    have z2 := q5 us (.inl (s.rd h2))
    rw [k3] at z2
    injection z2 with z2
    subst z z2
    exact .inr ⟨T, _, _, q2, q3, q1, rfl, .cons k2 (.cons k4 .nil)⟩
theorem wk_zipT {a c : Addr} {vs us : List V} {ds es : List PyData} (h : SqT C.K G a vs) (h2 : SqT C.K G c us) (d : DqAll C.K G vs ds) (d2 : DqAll C.K G us es) : Wk C (RZ.ItzT C.K a c) G (zipP ds es) where
  go := fun i H hi s => by
    unfold zipP at hi
    rw [List.length_zipWith] at hi
    have e1 := dps_length d
    have e2 := dps_length d2
    exact ⟨vs, us, vs[i]'(by omega), us[i]'(by omega), s.sqT h, s.sqT h2, List.getElem?_eq_getElem _, List.getElem?_eq_getElem _⟩
  stop := fun i H hi s => by
    unfold zipP at hi
    rw [List.length_zipWith] at hi
    have e1 := dps_length d
    have e2 := dps_length d2
    exact ⟨vs, us, s.sqT h, s.sqT h2, by omega⟩
  yld := fun i H x H' u e s ⟨T, x1, y1, q1, q2, q3, q4, q5⟩ => by
    obtain ⟨n, y, g1, g2, rfl⟩ := zipw_get _ e
    obtain ⟨v, k1, k2⟩ := dps_get d g1
    obtain ⟨v2, k3, k4⟩ := dps_get d2 g2
    have z := q4 vs (s.sqT h)
    rw [k1] at z
    injection z with z
    have z2 := q5 us (s.sqT h2)
    rw [k3] at z2
    injection z2 with z2
    subst z z2
    exact .inr ⟨T, _, _, q2, q3, q1, rfl, .cons k2 (.cons k4 .nil)⟩
theorem wk_zipTL {a c : Addr} {vs us : List V} {ds es : List PyData} (h : SqT C.K G a vs) (h2 : Rd G c (.lst us)) (d : DqAll C.K G vs ds) (d2 : DqAll C.K G us es) : Wk C (TZ.ItTL C.K a c) G (zipP ds es) where
  go := fun i H hi s => by
    unfold zipP at hi
    rw [List.length_zipWith] at hi
    have e1 := dps_length d
    have e2 := dps_length d2
    exact ⟨vs, us, vs[i]'(by omega), us[i]'(by omega), s.sqT h, (.inl (s.rd h2)), List.getElem?_eq_getElem _, List.getElem?_eq_getElem _⟩
  stop := fun i H hi s => by
    unfold zipP at hi
    rw [List.length_zipWith] at hi
    have e1 := dps_length d
    have e2 := dps_length d2
    exact ⟨vs, us, s.sqT h, (.inl (s.rd h2)), by omega⟩
  yld := fun i H x H' u e s ⟨T, x1, y1, q1, q2, q3, q4, q5⟩ => by
    obtain ⟨n, y, g1, g2, rfl⟩ := zipw_get _ e
    obtain ⟨v, k1, k2⟩ := dps_get d g1
    obtain ⟨v2, k3, k4⟩ := dps_get d2 g2
    have z := q4 vs (s.sqT h)
    rw [k1] at z
    injection z with z
    have z2 := q5 us ((.inl (s.rd h2)))
    rw [k3] at z2
    injection z2 with z2
    subst z z2
    exact .inr ⟨T, _, _, q2, q3, q1, rfl, .cons k2 (.cons k4 .nil)⟩
theorem wk_zs {a : Addr} {vs : List V} {ds : List PyData} {K : PySem.W.Frag} {z : Str} (h : Rd G a (.lst vs)) (d : DqAll C.K G vs ds) : Wk C (TZ.ItS K a z) G (zipP ds (z.cps.toList.map fun c => .str ⟨#[c]⟩)) where
  go := fun i H hi s => by
    unfold zipP at hi
    rw [List.length_zipWith, List.length_map] at hi
    have ez : z.cps.toList.length = z.cps.size := Array.length_toList
    have e1 := dps_length d
    exact ⟨vs, vs[i]'(by omega), .inl (s.rd h), List.getElem?_eq_getElem _, by omega⟩
  stop := fun i H hi s => by
    unfold zipP at hi
    rw [List.length_zipWith, List.length_map] at hi
    have ez : z.cps.toList.length = z.cps.size := Array.length_toList
    have e1 := dps_length d
    exact ⟨vs, .inl (s.rd h), by omega⟩
  yld := fun i H x H' u e s ⟨T, x1, c, q1, q2, q3, q4, q5⟩ => by
    obtain ⟨n, y, g1, g2, rfl⟩ := zipw_get _ e
    obtain ⟨v, k1, k2⟩ := dps_get d g1
    have z1 := q4 vs (.inl (s.rd h))
    rw [k1] at z1
    injection z1 with z1
    rw [List.getElem?_map, Array.getElem?_toList, q5] at g2
    injection g2 with g2
    subst z1 g2
    exact .inr ⟨T, _, _, q2, q3, q1, rfl, .cons k2 (.cons (.str _) .nil)⟩
theorem i_zip (hX : XOk C W X) {elts : List Expr} {kk : Nat} {tpos : Pos} {a c : Ee} {pf p : Pos} (hg : glB X.env.scope "zip" = true) (ha : PE X a.em (tX C W (a.ev C.cl))) (hc : PE X c.em (tX C W (c.ev C.cl))) : PI X (.Tuple elts kk tpos) (Ei.zip pf a c p).em (tI C W ((Ei.zip pf a c p).ev C.cl)) :=
  piM (TZ.pi_two (gl_of hg) (blt_none hX (by decide +kernel)) (pa_2 ha hc a.head c.head) (star_of a.head _ _) (star2 (a := a.em) c.head _ _)) fun σ H K ⟨b, R, G, e, S, h⟩ => tX.of S (Run.bind h).dD fun b1 R1 G1 H1 w v s1 S1 r1 ⟨x, ew, q⟩ => by
    subst ew
    refine tX.of S1 (Run.bind q).dD fun b2 R2 G2 H2 w2 v2 s2 S2 r2 ⟨y, ew, q⟩ => ?_
    subst ew
    have r1 := s2.g.dp (show Dq C.K G1 v x from r1)
    rw [hX.m.hK]
    cases x with
    | list ds =>
      cases y with
      | list es =>
        cases r1 with
        | lst h1 h2 =>
        cases r2 with
        | lst h3 h4 => exact ⟨_, .ll (.inl (S2.bs.sub.rd h1)) (.inl (S2.bs.sub.rd h3)), Run.ret S2 q S2 _ (wk_zip h1 h3 h2 h4)⟩
      | str z =>
        cases r1 with
        | lst h1 h2 =>
        cases r2
        exact ⟨_, .ls (.inl (S2.bs.sub.rd h1)), Run.ret S2 q S2 _ (wk_zs h1 h2)⟩
      | _ => exact q.elim
    | tuple ds =>
      cases y with
      | tuple es =>
        cases r1 with
        | tup h1 h2 =>
        cases r2 with
        | tup h3 h4 => exact ⟨_, .tt (S2.bs.sub.sqT h1) (S2.bs.sub.sqT h3), Run.ret S2 q S2 _ (wk_zipT h1 h3 h2 h4)⟩
      | list es =>
        cases r1 with
        | tup h1 h2 =>
        cases r2 with
        | lst h3 h4 => exact ⟨_, .tl (S2.bs.sub.sqT h1) (.inl (S2.bs.sub.rd h3)), Run.ret S2 q S2 _ (wk_zipTL h1 h3 h2 h4)⟩
      | _ => exact q.elim
    | _ => cases y <;> exact q.elim
end
end TC

set_option Elab.async false
set_option linter.all false
set_option maxRecDepth 100000
set_option maxHeartbeats 2000000
namespace TC
open PySem L2 PySem.Spec
section
variable {C : Ctx} {W : WX} {X : Cx} {σ : L2.St} {e : En} {b : Nat} {R : List Addr} {G H : Hp}
/-! ### slots are set -/
theorem fz_no {w : Wd} : ¬ slOpn (.fz w) := fun h => h
theorem opn_set {k : Nat} {x : Option V} {s : Sl} {i : Nat} {l : Addr} (ns : ¬ slOpn s) (o : Opn (σ.set k x) (e.set k s) i l) : i ≠ k ∧ Opn σ e i l := by
  obtain ⟨⟨ds, h1, ho⟩, h2⟩ := o
  have ne : i ≠ k := fun z => by
    subst z
    by_cases c : i < e.length
    · rw [List.getElem?_set_self c] at h1
      exact ns (Option.some.inj h1 ▸ ho)
    · rw [List.getElem?_eq_none (by rw [List.length_set]; omega)] at h1
      cases h1
  rw [List.getElem?_set_ne (Ne.symm ne)] at h1 h2
  exact ⟨ne, ⟨ds, h1, ho⟩, h2⟩
theorem St.setN {k : Nat} {x : Option V} {s : Sl} (S : St C b R G σ H e) (ns : ¬ slOpn s) (ok : SlOk C R G H (some x) s) : St C b R G (σ.set k x) H (e.set k s) where
  bs := S.bs
  len := by rw [List.length_set, List.length_set, S.len]
  sl := fun i sl h => by
    by_cases c : k = i
    · subst c
      by_cases c : k < e.length
      · rw [List.getElem?_set_self c] at h
        obtain rfl := Option.some.inj h
        rw [List.getElem?_set_self (by rw [← S.len]; exact c)]
        exact ok
      · rw [List.getElem?_eq_none (by rw [List.length_set]; omega)] at h
        cases h
    · rw [List.getElem?_set_ne c] at h ⊢
      exact S.sl i sl h
  ap := fun i j l o1 o2 => S.ap i j l (opn_set ns o1).2 (opn_set ns o2).2
theorem St.setF {k : Nat} {v : V} {w : Wd} (S : St C b R G σ H e) (r : Rep C G v w) : St C b R G (σ.set k (some v)) H (e.set k (.fz w)) := S.setN fz_no ⟨v, rfl, r⟩
theorem St.setO {k : Nat} {l : Addr} {ds : List PyData} (S : St C b R G σ H e) (o : Own C R G H l ds) (no : ∀ i, ¬ Opn σ e i l) : St C b R G (σ.set k (some (.ref l))) H (e.set k (.ow ds)) where
  bs := S.bs
  len := by rw [List.length_set, List.length_set, S.len]
  sl := fun i sl h => by
    by_cases c : k = i
    · subst c
      by_cases c : k < e.length
      · rw [List.getElem?_set_self c] at h
        obtain rfl := Option.some.inj h
        rw [List.getElem?_set_self (by rw [← S.len]; exact c)]
        exact ⟨l, rfl, o⟩
      · rw [List.getElem?_eq_none (by rw [List.length_set]; omega)] at h
        cases h
    · rw [List.getElem?_set_ne c] at h ⊢
      exact S.sl i sl h
  ap := fun i j m o1 o2 => by
    have at_k : ∀ {i m}, Opn (σ.set k (some (.ref l))) (e.set k (.ow ds)) i m → i = k ∧ m = l ∨ i ≠ k ∧ Opn σ e i m := fun {i m} o => by
      obtain ⟨⟨es, h1, ho⟩, h2⟩ := o
      by_cases c : i = k
      · subst c
        by_cases c : i < σ.length
        · rw [List.getElem?_set_self c] at h2
          injection h2 with h2
          injection h2 with h2
          injection h2 with h2
          exact .inl ⟨rfl, h2.symm⟩
        · rw [List.getElem?_eq_none (by rw [List.length_set]; omega)] at h2
          cases h2
      · rw [List.getElem?_set_ne (Ne.symm c)] at h1 h2
        exact .inr ⟨c, ⟨es, h1, ho⟩, h2⟩
    rcases at_k o1 with ⟨e1, e2⟩ | ⟨e1, q1⟩ <;> rcases at_k o2 with ⟨e3, e4⟩ | ⟨e3, q3⟩
    · rw [e1, e3]
    · exact absurd (e2 ▸ q3) (no j)
    · exact absurd (e4 ▸ q1) (no i)
    · exact S.ap i j m q1 q3
theorem St.setD {k : Nat} {l : Addr} {ds : List (Key × PyData)} (S : St C b R G σ H e) (o : OwnD C R G H l ds) (no : ∀ i, ¬ Opn σ e i l) : St C b R G (σ.set k (some (.ref l))) H (e.set k (.od ds)) where
  bs := S.bs
  len := by rw [List.length_set, List.length_set, S.len]
  sl := fun i sl h => by
    by_cases c : k = i
    · subst c
      by_cases c : k < e.length
      · rw [List.getElem?_set_self c] at h
        obtain rfl := Option.some.inj h
        rw [List.getElem?_set_self (by rw [← S.len]; exact c)]
        exact ⟨l, rfl, o⟩
      · rw [List.getElem?_eq_none (by rw [List.length_set]; omega)] at h
        cases h
    · rw [List.getElem?_set_ne c] at h ⊢
      exact S.sl i sl h
  ap := fun i j m o1 o2 => by
    have at_k : ∀ {i m}, Opn (σ.set k (some (.ref l))) (e.set k (.od ds)) i m → i = k ∧ m = l ∨ i ≠ k ∧ Opn σ e i m := fun {i m} o => by
      obtain ⟨⟨es, h1, ho⟩, h2⟩ := o
      by_cases c : i = k
      · subst c
        by_cases c : i < σ.length
        · rw [List.getElem?_set_self c] at h2
          injection h2 with h2
          injection h2 with h2
          injection h2 with h2
          exact .inl ⟨rfl, h2.symm⟩
        · rw [List.getElem?_eq_none (by rw [List.length_set]; omega)] at h2
          cases h2
      · rw [List.getElem?_set_ne (Ne.symm c)] at h1 h2
        exact .inr ⟨c, ⟨es, h1, ho⟩, h2⟩
    rcases at_k o1 with ⟨e1, e2⟩ | ⟨e1, q1⟩ <;> rcases at_k o2 with ⟨e3, e4⟩ | ⟨e3, q3⟩
    · rw [e1, e3]
    · exact absurd (e2 ▸ q3) (no j)
    · exact absurd (e4 ▸ q1) (no i)
    · exact S.ap i j m q1 q3
theorem St.wipe (S : St C b R G σ H e) : ∀ vs : List Nat, St C b R G (L2.wipe σ vs) H (wipeE e vs)
  | [] => S
  | v :: vs => (S.wipe vs).setN (fun h => h) trivial
/-! ### targets -/
theorem wipe_set {x : Option V} {i : Nat} : ∀ {vs : List Nat}, i ∈ vs → L2.wipe (σ.set i x) vs = L2.wipe σ vs
  | v :: vs, h => by
    unfold L2.wipe
    by_cases c : i ∈ vs
    · rw [wipe_set c]
    · have c2 : i = v := by
        rcases List.mem_cons.mp h with z | z
        · exact z
        · exact absurd z c
      subst c2
      have q : ∀ {us : List Nat}, i ∉ us → L2.wipe (σ.set i x) us = (L2.wipe σ us).set i x := fun {us} => by
        induction us with
        | nil => exact fun _ => rfl
        | cons u us ih =>
          intro n
          have n1 : u ≠ i := fun z => n (z ▸ List.mem_cons_self)
          unfold L2.wipe
          rw [ih fun z => n (List.mem_cons_of_mem _ z), List.set_comm _ _ (Ne.symm n1)]
      rw [q c, List.set_set]
def gTs (K : PySem.W.Frag) : Ts → TGs
  | .nil => gNil
  | .cons i _ _ ts => gCons (gName i) (gTs K ts)
  | .nest ts1 _ _ ts => gCons (gTup K ts1.len (gTs K ts1)) (gTs K ts)
def gT (K : PySem.W.Frag) : Tt → TG
  | .nm i _ _ => gName i
  | .tp ts _ _ => gTup K ts.len (gTs K ts)
theorem ts_each (env : Env) : ∀ ts : Ts, (assignEach ts.em env).length = ts.len ∧ (assignEach ts.em env).findIdx? (·.1) = none
  | .nil => ⟨rfl, rfl⟩
  | .cons i x p ts => by
    obtain ⟨h1, h2⟩ := ts_each env ts
    refine ⟨congrArg (· + 1) h1, ?_⟩
    show List.findIdx? (·.1) ((false, assign (.Name x p) env) :: assignEach ts.em env) = none
    rw [List.findIdx?_cons, h2]
    rfl
  | .nest ts1 k p ts => by
    obtain ⟨h1, h2⟩ := ts_each env ts
    refine ⟨congrArg (· + 1) h1, ?_⟩
    show List.findIdx? (·.1) ((false, assign (.Tuple ts1.em k p) env) :: assignEach ts.em env) = none
    rw [List.findIdx?_cons, h2]
    rfl
theorem bindTs_len : ∀ {ts : Ts} {ds : List PyData} {e e2 : En}, bindTs ts ds e = .ret e2 → ds.length = ts.len
  | .nil, [], _, _, _ => rfl
  | .cons i _ _ ts, d :: ds, e, e2, h => congrArg (· + 1) (bindTs_len (ts := ts) h)
  | .nest ts1 _ _ ts, .tuple ds1 :: ds, e, e2, h => by
    have h : ((bindTs ts1 ds1 e).bind fun e1 => bindTs ts ds e1) = .ret e2 := h
    cases z : bindTs ts1 ds1 e with
    | ret e1 =>
      rw [z] at h
      exact congrArg (· + 1) (bindTs_len (ts := ts) h)
    | raise x =>
      rw [z] at h
      cases h
    | draw n k =>
      rw [z] at h
      cases h
    | stuck =>
      rw [z] at h
      cases h
theorem nest_ret {ts1 ts : Ts} {ds1 ds : List PyData} {e e2 : En} {k : Nat} {p : Pos} (h : bindTs (.nest ts1 k p ts) (.tuple ds1 :: ds) e = .ret e2) : ∃ e1, bindTs ts1 ds1 e = .ret e1 ∧ bindTs ts ds e1 = .ret e2 := by
  have h : ((bindTs ts1 ds1 e).bind fun e1 => bindTs ts ds e1) = .ret e2 := h
  cases z : bindTs ts1 ds1 e with
  | ret e1 =>
    rw [z] at h
    exact ⟨e1, rfl, h⟩
  | raise x =>
    rw [z] at h
    cases h
  | draw n k =>
    rw [z] at h
    cases h
  | stuck =>
    rw [z] at h
    cases h
theorem pgs_of {sc : Scope} {vs : Option (List Nat)} (hc : X.calm = true) (hN : X.N.Nodup) (hn : ∀ x, locB sc x = true → Loc X.env.scope x ∧ (X.fn x = true ∨ X.env.scope.names.lookup x = some .local)) : ∀ ts : Ts, ts.ok X.N sc vs = true → PGs X ts.em (gTs X.K ts)
  | .nil, _ => pgs_nil
  | .cons i x p ts, h => by
    unfold Ts.ok at h
    rw [Bool.and_eq_true, Bool.and_eq_true, Bool.and_eq_true] at h
    exact pgs_cons (pg_name hN (slot_of h.1.1.1) (hn x h.1.1.2).1 (hn x h.1.1.2).2) (pgs_of hc hN hn ts h.2)
  | .nest ts1 k p ts, h => by
    unfold Ts.ok at h
    rw [Bool.and_eq_true] at h
    exact pgs_cons (pg_tup hc (pgs_of hc hN hn ts1 h.1) (ts_each _ ts1).1 (ts_each _ ts1).2) (pgs_of hc hN hn ts h.2)
theorem pg_of {sc : Scope} {vs : Option (List Nat)} (hc : X.calm = true) (hN : X.N.Nodup) (hn : ∀ x, locB sc x = true → Loc X.env.scope x ∧ (X.fn x = true ∨ X.env.scope.names.lookup x = some .local)) : ∀ t : Tt, t.ok X.N sc vs = true → PG X t.em (gT X.K t)
  | .nm i x p, h => by
    unfold Tt.ok at h
    rw [Bool.and_eq_true, Bool.and_eq_true] at h
    exact pg_name hN (slot_of h.1.1) (hn x h.1.2).1 (hn x h.1.2).2
  | .tp ts k p, h => pg_tup hc (pgs_of hc hN hn ts h) (ts_each _ ts).1 (ts_each _ ts).2
theorem bindTs_form : ∀ (ts : Ts) (ds : List PyData) (e : En), (∃ e2, bindTs ts ds e = .ret e2) ∨ bindTs ts ds e = .stuck
  | .nil, [], e => .inl ⟨e, rfl⟩
  | .nil, _ :: _, _ => .inr rfl
  | .cons .., [], _ => .inr rfl
  | .cons i _ _ ts, d :: ds, e => bindTs_form ts ds _
  | .nest .., [], _ => .inr rfl
  | .nest ts1 _ _ ts, d :: ds, e => by
    cases d with
    | tuple ds1 =>
      show (∃ e2, ((bindTs ts1 ds1 e).bind fun e1 => bindTs ts ds e1) = .ret e2) ∨ ((bindTs ts1 ds1 e).bind fun e1 => bindTs ts ds e1) = .stuck
      rcases bindTs_form ts1 ds1 e with ⟨e2, z⟩ | z
      · rw [z]
        exact bindTs_form ts ds e2
      · rw [z]
        exact .inr rfl
    | _ => exact .inr rfl
theorem bindT_form (t : Tt) (d : PyData) (e : En) : (∃ e2, bindT t d e = .ret e2) ∨ bindT t d e = .stuck := by
  cases t with
  | nm i x p => exact .inl ⟨_, rfl⟩
  | tp ts k p =>
    cases d with
    | tuple ds => exact bindTs_form ts ds e
    | _ => exact .inr rfl
theorem gs_bind {N : List Str} {sc : Scope} {ol : Option (List Nat)} : ∀ {ts : Ts} {ds : List PyData} {e e2 : En} {σ : L2.St} {xs : List V} {Q : L2.St → Hp → Prop}, bindTs ts ds e = .ret e2 → ts.ok N sc ol = true → St C b R G σ H e → DqAll C.K G xs ds →
    (∀ σ2, St C b R G σ2 H e2 → (∀ l, ol = some l → L2.wipe σ2 l = L2.wipe σ l) → Q σ2 H) → gTs C.K ts xs σ H Q ∧ xs.length = ts.len
  | .nil, [], e, e2, σ, xs, Q, h, _, S, r, m => by
    cases r
    injection h with h
    subst h
    exact ⟨⟨rfl, m σ S fun _ _ => rfl⟩, rfl⟩
  | .cons i x p ts, d :: ds, e, e2, σ, xs, Q, h, o, S, r, m => by
    cases r with
    | cons r rs =>
    unfold Ts.ok at o
    rw [Bool.and_eq_true, Bool.and_eq_true, Bool.and_eq_true] at o
    have z := gs_bind (Q := Q) (show bindTs ts ds (e.set i (.fz (.d d))) = .ret e2 from h) o.2 (S.setF (k := i) (w := .d d) r) rs fun σ2 S2 w => m σ2 S2 fun l hl => by
      have oi := o.1.2
      rw [hl] at oi
      rw [w l hl, wipe_set (of_decide_eq_true oi)]
    exact ⟨⟨_, _, rfl, z.1⟩, congrArg (· + 1) z.2⟩
  | .nest ts1 k p ts, .tuple ds1 :: ds, e, e2, σ, xs, Q, h, o, S, r, m => by
    cases r with
    | cons r rs =>
    unfold Ts.ok at o
    rw [Bool.and_eq_true] at o
    obtain ⟨e1, z1, z2⟩ := nest_ret h
    cases r with
    | tup h1 h2 =>
      have ln := bindTs_len z2
      rw [← dps_length rs] at ln
      have z := gs_bind (Q := fun σ' H' => gTs C.K ts _ σ' H' Q) z1 o.1 S h2 fun σ1 S1 w1 => (gs_bind (Q := Q) z2 o.2 S1 rs fun σ2 S2 w2 => m σ2 S2 fun l hl => (w2 l hl).trans (w1 l hl)).1
      exact ⟨⟨_, _, rfl, _, _, rfl, S.bs.sub.sqT h1, z.2, z.1⟩, congrArg (· + 1) ln⟩
theorem g_bind {N : List Str} {sc : Scope} {ol : Option (List Nat)} {t : Tt} {d : PyData} {e e2 : En} {σ : L2.St} {v : V} {Q : L2.St → Hp → Prop} {K : PySem.W.Frag} (hK : K = C.K) (h : bindT t d e = .ret e2) (o : t.ok N sc ol = true) (S : St C b R G σ H e) (r : Dq C.K G v d)
    (m : ∀ σ2, St C b R G σ2 H e2 → (∀ l, ol = some l → L2.wipe σ2 l = L2.wipe σ l) → Q σ2 H) : gT K t v σ H Q := by
  subst hK
  cases t with
  | nm i x p =>
    unfold Tt.ok at o
    rw [Bool.and_eq_true, Bool.and_eq_true] at o
    injection h with h
    subst h
    exact m _ (S.setF (w := .d d) r) fun l hl => by
      have oi := o.2
      rw [hl] at oi
      exact wipe_set (of_decide_eq_true oi)
  | tp ts k p =>
    cases d with
    | tuple ds =>
      cases r with
      | tup h1 h2 =>
        have z := gs_bind (Q := Q) h o S h2 m
        exact ⟨_, _, rfl, S.bs.sub.sqT h1, z.2, z.1⟩
    | _ => cases h
/-! ### a comprehension -/
theorem wp_nox {α : Type} {Q : Nat → α → Prop} {E : Nat → Exn → Prop} {c : Comp α} {b : Nat} (h : (nox c).wp b Q E) : c.wp b Q fun _ _ => False := Comp.wp_tie.mp h
theorem com_st {H' : Hp} {x : V} {d : PyData} {G0 : Hp} (S : St C b R G σ H e) (s : Sub G0 G) (c : Com C G0 H x H' d) : ∃ G', Stp R G H R G' H' ∧ St C b R G' σ H' e ∧ Dq C.K G' x d := by
  rcases c with ⟨rfl, r⟩ | ⟨p, vs, es, n, rfl, rfl, rfl, r⟩
  · exact ⟨G, .refl, S, s.dp r⟩
  · have st := Stp.new (R := R) (o := .tup vs) n S.bs.sub
    exact ⟨_, st, S.new n, Dq.tup (.inl (.inl upd_same)) (st.g.dps (s.dps r))⟩
theorem Stp.but {R' : List Addr} {G' H' H2 : Hp} {p : Addr} (s : Stp R G H R' G' H') (n : H p = none) (h : ∀ a, a ≠ p → H2 a = H' a) : Stp R G H R' G' H2 :=
  ⟨s.g, fun a o q m => by rw [h a (ne_of_none q n)]; exact s.k a o q m, s.r, s.o, fun a q => by
    by_cases c : a = p
    · rw [c]
      exact n
    · rw [h a c] at q
      exact s.h a q⟩
def tYs (C : Ctx) (W : WX) (ev : En → Comp Bool) : TT := fun σ H Q => ∃ b R G e, St C b R G σ H e ∧ Run C W σ e b R G H (ev e) fun _ _ _ H' t => Q t H'
theorem ys_no : PTs X Eo.no.ems (tYs C W (Eo.no.evT C.cl)) :=
  ⟨fun pins s σ H Q I ⟨b, R, G, e, S, h⟩ => pts_nil.run pins s σ H Q I (Run.ret S h)⟩
theorem ys_so {a : Ee} (h : PT X a.em (tT C W (a.ev C.cl))) : PTs X (Eo.so a).ems (tYs C W ((Eo.so a).evT C.cl)) :=
  ⟨fun pins s σ H Q I ⟨b, R, G, e, S, hr⟩ => (pts_one h).run pins s σ H Q I ⟨b, R, G, e, S, (Run.dB hr).mono fun _ _ _ _ w _ _ ⟨x, ew, q⟩ => ⟨x, ew, q⟩⟩⟩
def noW : WX := fun _ _ _ _ => False
/-- what stays true from turn to turn -/
structure LcI (C : Ctx) (σ : L2.St) (e : En) (f : PyData → Comp (Option PyData)) (Q : VK) (R1 : List Addr) (G1 H1 : Hp) (ds : List PyData) (D : Addr) (i : Nat) (H : Hp) : Prop where
  go : ∃ b R G acc as, St C b R G σ H e ∧ Stp R1 G1 H1 R G H ∧ H D = some (.lst acc) ∧ G D = none ∧ D ∉ R ∧ DqAll C.K G acc as ∧ acc.length ≤ i ∧
    (mapC f (ds.drop i)).wp b (fun b2 rs => ∀ R2 G2 H2, Stp R1 G1 H1 R2 G2 H2 → St C b2 R2 G2 σ H2 e → KF C σ e Q b2 R2 G2 H2 (as ++ rs)) fun _ _ => False
theorem lc_red (hX : XOk C W X) {a : Ee} {t : Tt} {it : Ei} {o : Eo} {own : List (Str × Nat)} {sc2 : Scope} {p : Pos} {N : List Str} (ht : t.ok N sc2 (some (own.map (·.2))) = true) {σ : L2.St} {H : Hp} {Q : VK}
    (h : tF C W ((Ef.lc a t it o own sc2 p).ev C.cl) σ H Q) : tLc (tI C W (it.ev C.cl)) (gT X.K t) (tYs C noW (o.evT C.cl)) (tX C noW (a.ev C.cl)) (own.map (·.2)) σ H Q := by
  obtain ⟨b, R, G, e, S, h⟩ := h
  refine ⟨b, R, G, e, S, (Run.bind h).mono fun b1 R1 G1 H1 ds s1 S1 q _ J wk D n => ?_⟩
  obtain ⟨hl, q⟩ := limL_run (Run.bind q)
  have q := wp_nox (Run.ret S1 q)
  generalize hf : (fun d => (bindT t d (wipeE e (own.map (·.2)))).bind fun e2 => (o.evT C.cl e2).bind fun b => if b then (dD (a.ev C.cl e2)).bind fun y => .ret (some y) else .ret none) = f at q
  have noD : ∀ i, ¬ Opn σ e i D := fun i op => by
    obtain ⟨⟨u, hu⟩, _⟩ := S1.opn_some op
    rw [n] at hu
    cases hu
  refine ⟨fun i m H => m = ds.length - i ∧ i ≤ ds.length ∧ LcI C σ e f Q R1 G1 H1 ds D i H, ⟨ds.length, by simp, Nat.zero_le _, ⟨b1, R1, G1, [], [], S1.opened n, Stp.open n, upd_same, S1.bs.gnone n, S1.bs.rnone n, .nil, Nat.le_refl _, ?_⟩⟩, ?_⟩
  · exact q
  · rintro i m Hc ⟨rfl, hi, ⟨b', R', G', acc, as, S', s', hD, gD, rD, r, la, w⟩⟩
    by_cases hlt : i < ds.length
    · refine .inr ⟨wk.go i Hc hlt fun a o z => S'.bs.sub a o (s'.g a o z), fun H' => LcI C σ e f Q R1 G1 H1 ds D (i + 1) H', fun H' z => ⟨ds.length - (i + 1), by omega, rfl, hlt, z⟩, fun x H' y => ?_⟩
      have hd : ds[i]? = some ds[i] := List.getElem?_eq_getElem hlt
      obtain ⟨G2, s2, S2, rx⟩ := com_st S' s'.g (wk.yld i Hc x H' _ hd (fun a o z => S'.bs.sub a o (s'.g a o z)) y)
      rw [List.drop_eq_getElem_cons hlt] at w
      have w := Comp.wp_bind.mp (show ((f ds[i]).bind fun r => (mapC f (ds.drop (i + 1))).bind fun rs => .ret (consO r rs)).wp _ _ _ from w)
      subst hf
      rcases bindT_form t ds[i] (wipeE e (own.map (·.2))) with ⟨e2, hb⟩ | hb
      · refine g_bind hX.m.hK hb ht (S2.wipe (own.map (·.2))) rx fun σ2 S3 hw => ⟨?_, ?_⟩
        · rw [hw _ rfl]
          generalize own.map (·.2) = vs
          have : ∀ us vs : List Nat, (∀ u ∈ us, u ∈ vs) → L2.wipe (L2.wipe σ us) vs = L2.wipe σ vs := fun us => by
            induction us with
            | nil => exact fun _ _ => rfl
            | cons u us ih =>
              intro vs h
              show L2.wipe ((L2.wipe σ us).set u none) vs = _
              rw [wipe_set (h u List.mem_cons_self), ih vs fun z hz => h z (List.mem_cons_of_mem _ hz)]
          exact this vs vs fun _ h => h
        · have w : ((bindT t ds[i] (wipeE e (own.map (·.2)))).bind fun e2 => (o.evT C.cl e2).bind fun b => if b then (dD (a.ev C.cl e2)).bind fun y => .ret (some y) else .ret none).wp _ _ _ := w
          rw [hb] at w
          have w : Run C noW σ2 e2 b' R' G2 H' ((o.evT C.cl e2).bind fun b => if b then (dD (a.ev C.cl e2)).bind fun y => .ret (some y) else .ret none) _ := Comp.wp_mono (show Comp.wp _ _ _ _ from w) (fun b2 a q R2 G2 H2 _ _ => q) fun _ _ z => z.elim
          refine ⟨b', R', G2, e2, S3, w.bind.mono fun b3 R3 G3 H3 tt s3 S4 w2 => ?_⟩
          have kD : ∀ {R4 G4 H4}, Stp R' G2 H' R4 G4 H4 → H4 D = some (.lst acc) ∧ G4 D = none ∧ D ∉ R4 := fun {R4 G4 H4} s4 => by
            have z := s2.trans s4
            exact ⟨z.k D _ hD rD, z.o D _ hD rD gD, z.notin hD rD⟩
          have back : ∀ {b4 R4 G4 H4 e4 σ4}, Stp R' G2 H' R4 G4 H4 → St C b4 R4 G4 σ4 H4 e4 → St C b4 R4 G4 σ H4 e := fun {b4 R4 G4 H4 e4 σ4} s4 S5 => S'.stp (s2.trans s4) S5.bs
          cases tt with
          | true =>
            rw [if_pos rfl] at w2
            show ite _ _ _
            rw [if_pos rfl]
            refine tX.of S4 w2.bind.dD fun b4 R4 G4 H4 w4 v4 s4 S5 r4 ⟨y, ew, q4⟩ => ?_
            subst ew
            obtain ⟨d1, d2, d3⟩ := kD (s3.trans s4)
            refine ⟨acc, d1, by have := lim_line hl; omega, ⟨b4, R4, G4, acc ++ [v4], as ++ [y], (back (s3.trans s4) S5).write d2 d3 noD, (s'.trans (s2.trans (s3.trans s4))).but n fun a ha => upd_ne ha, upd_same, d2, d3, dps_append ((s2.trans (s3.trans s4)).g.dps r) (.cons r4 .nil), by
              rw [List.length_append]
              exact Nat.succ_le_succ la, ?_⟩⟩
            refine Comp.wp_mono (Comp.wp_bind.mp (Run.ret S5 q4)) (fun b5 rs z R5 G5 H5 s5 S6 => ?_) fun _ _ z => z
            have := z R5 G5 H5 s5 S6
            rw [List.append_assoc]
            exact this
          | false =>
            rw [if_neg (by decide)] at w2
            show ite _ _ _
            rw [if_neg (by decide)]
            obtain ⟨d1, d2, d3⟩ := kD s3
            exact ⟨b3, R3, G3, acc, as, back s3 S4, s'.trans (s2.trans s3), d1, d2, d3, (s2.trans s3).g.dps r, Nat.le_succ_of_le la, Comp.wp_bind.mp (Run.ret S4 w2)⟩
      · have w : ((bindT t ds[i] (wipeE e (own.map (·.2)))).bind fun e2 => (o.evT C.cl e2).bind fun b => if b then (dD (a.ev C.cl e2)).bind fun y => .ret (some y) else .ret none).wp _ _ _ := w
        rw [hb] at w
        exact w.elim
    · have ei : i = ds.length := by omega
      subst ei
      refine .inl ⟨wk.stop _ Hc (Nat.le_refl _) fun a o z => S'.bs.sub a o (s'.g a o z), ?_⟩
      rw [List.drop_length] at w
      obtain ⟨S3, s3, st, _⟩ := hid S1 s' S' n ⟨⟨acc, hD, r⟩, gD, rD⟩ hD
      have z := w R' G' _ s3 S3 D Hc hide_self st S' ⟨acc, hD, ?_⟩
      · exact z
      · rw [List.append_nil]
        exact r
theorem rel_keep {sc sc2 : Scope} {x : Str} {k : NameKind} (hk : k ≠ .free) : sc2.names.lookup x = some k → (relS sc2 sc).names.lookup x = some k := by
  unfold relS
  generalize sc2.names = ns
  induction ns with
  | nil => exact fun h => by cases h
  | cons y ns ih =>
    obtain ⟨n, k'⟩ := y
    intro h
    rw [List.map_cons]
    rw [List.lookup_cons] at h
    cases hx : x == n with
    | true =>
      rw [hx] at h
      injection h with h
      subst h
      have c : (k' == NameKind.free && sc.kind == .function && sc.names.lookup n == some .cell) = false := by
        cases k' <;> first | rfl | exact absurd rfl hk
      show List.lookup x ((if (k' == NameKind.free && sc.kind == .function && sc.names.lookup n == some .cell) = true then (n, NameKind.cell) else (n, k')) :: _) = _
      rw [c, if_neg (by decide), List.lookup_cons, hx]
    | false =>
      rw [hx] at h
      have q := ih h
      show List.lookup x ((if (k' == NameKind.free && sc.kind == .function && sc.names.lookup n == some .cell) = true then (n, NameKind.cell) else (n, k')) :: _) = _
      split <;> (rw [List.lookup_cons, hx]; exact q)
theorem XOk.blk (hX : XOk C W X) (s : Shared) (H : Hp) (D : Addr) (cl : List (Str × Addr)) (fp : List Addr) (sc2 : Scope) : XOk C noW (X.blk s H sc2 (compEnvC sc2 cl D X.env) fp) where
  m := hX.m
  calm := hX.calm
  gu := hX.gu
  room := hX.room
  nd := hX.nd
  tk := fun _ _ ⟨_, _, _, _, _, _, _, _, _, _, _, _, _, _, _, _, z⟩ => z
  own := .never
  lam := fun h => let z := hX.lam h; ⟨z.room, z.tb, z.rg⟩
theorem blk_nm {s : Shared} {H : Hp} {D : Addr} {cl : List (Str × Addr)} {fp : List Addr} {sc2 : Scope} (x : Str) (h : locB sc2 x = true) : Loc (X.blk s H sc2 (compEnvC sc2 cl D X.env) fp).env.scope x ∧ ((X.blk s H sc2 (compEnvC sc2 cl D X.env) fp).fn x = true ∨ (X.blk s H sc2 (compEnvC sc2 cl D X.env) fp).env.scope.names.lookup x = some .local) := by
  have z := loc_of h
  rcases z with z | z
  · have q : (relS sc2 X.env.scope).names.lookup x = some .local := rel_keep (by decide) z
    exact ⟨.inl q, .inr q⟩
  · have q : (relS sc2 X.env.scope).names.lookup x = some .cell := rel_keep (by decide) z
    refine ⟨.inr q, .inl ?_⟩
    show (sc2.names.lookup x == some .cell) = true
    rw [z]
    rfl
end
end TC

set_option Elab.async false
set_option linter.all false
set_option maxRecDepth 100000
set_option maxHeartbeats 2000000
/-! ### t[::-1] of a tuple: a new tuple, from behind -/
namespace TV
open PySem L2 PySem.Spec HT PyProof.Rows
theorem fm_congr {α β : Type} {f g : α → Option β} : ∀ {l : List α}, (∀ a ∈ l, f a = g a) → l.filterMap f = l.filterMap g
  | [], _ => rfl
  | a :: l, h => by
    rw [List.filterMap_cons, List.filterMap_cons, h a List.mem_cons_self, fm_congr fun b hb => h b (List.mem_cons_of_mem _ hb)]
section
variable {prog : Program} {w : World} {A : Around} {E : Value → Shared → Prop} {s : Shared}
theorem adjust_rev (n : Nat) : Builtin.Slice.sliceAdjust none none (-1) (n : Int) = ((n : Int) - 1, -1) := by
  have h1 : (-1 : Int) < 0 := by omega
  unfold Builtin.Slice.sliceAdjust
  simp only [h1, if_true]
theorem places_rev (n : Nat) : Builtin.Slice.slicePlaces ((n : Int) - 1) (-1) (-1) = n := by
  unfold Builtin.Slice.slicePlaces
  have h1 : ¬ ((-1 : Int) > 0) := by omega
  simp only [h1, if_false, Int.neg_neg, Int.ediv_one]
  split <;> omega
theorem pick_rev (xs : Array Value) : ((List.range xs.size).filterMap fun (k : Nat) => xs[((xs.size : Int) - 1 + (k : Int) * (-1)).toNat]?).toArray = xs.toList.reverse.toArray := by
  have e : ((List.range xs.size).filterMap fun (k : Nat) => xs[((xs.size : Int) - 1 + (k : Int) * (-1)).toNat]?) = (List.range xs.size).filterMap fun (k : Nat) => (xs.toList.reverse.toArray)[((0 : Nat) : Int).toNat + k]? := by
    refine fm_congr fun k hk => ?_
    have hk : k < xs.size := List.mem_range.mp hk
    have e1 : ((xs.size : Int) - 1 + (k : Int) * (-1)).toNat = xs.size - 1 - k := by omega
    have e2 : ((0 : Nat) : Int).toNat + k = k := by omega
    rw [e1, e2]
    show xs[xs.size - 1 - k]? = xs.toList.reverse.toArray[k]?
    have r1 : xs.toList.reverse.toArray[k]? = xs.toList.reverse[k]? := List.getElem?_toArray
    have r2 : xs[xs.size - 1 - k]? = xs.toList[xs.size - 1 - k]? := by rw [Array.getElem?_toList]
    rw [r1, r2, List.getElem?_reverse (by rw [Array.length_toList]; exact hk), Array.length_toList]
  rw [e]
  have z := pick_gen xs.toList.reverse.toArray 0 xs.size
  have e3 : (fun (m : Nat) => (xs.toList.reverse.toArray)[(((0 : Nat) : Int) + (m : Int) * 1).toNat]?) = fun (k : Nat) => (xs.toList.reverse.toArray)[((0 : Nat) : Int).toNat + k]? := by
    funext m
    have : (((0 : Nat) : Int) + (m : Int) * 1).toNat = ((0 : Nat) : Int).toNat + m := by omega
    rw [this]
  rw [e3] at z
  rw [z]
  have l : xs.toList.reverse.length = xs.size := by rw [List.length_reverse, Array.length_toList]
  rw [List.drop_zero, List.take_of_length_le (by rw [List.length_reverse, Array.length_toList]; exact Nat.le_refl _)]
theorem sliceApplied_rev {sl : Addr} {vs : Value} {n : Nat} {Q : Int × Int × Nat → Shared → Prop} (hs : s.heap.IsSliceOf sl .none .none vs) (ps : IsPart vs (some (-1)))
    (h : Q ((n : Int) - 1, -1, n) s) : wpAny (model prog w) A (Builtin.Slice.sliceApplied (.ref sl) (pure (n : Int))) Q E s := by
  obtain ⟨os, hos, hcs, hds⟩ := id hs
  unfold Builtin.Slice.sliceApplied Builtin.Slice.sliceFields
  refine wpAny_bind (wpAny_bind (wpAny_field hos hds (x := .none) rfl (wpAny_bind (wpAny_field hos hds (x := .none) rfl (wpAny_bind (wpAny_field hos hds (x := vs) rfl (wpAny_pure ?_)))))))
  refine wpAny_bind (slicePart_ ps ?_)
  show wpAny _ _ (if ((-1 : Int) == 0) = true then _ else _) _ _ s
  rw [if_neg (by decide)]
  refine wpAny_bind (slicePart_none (wpAny_bind (slicePart_none (wpAny_bind (wpAny_pure ?_)))))
  show wpAny _ _ (match Builtin.Slice.sliceAdjust none none (-1) (n : Int) with | (lo, hi) => pure (lo, (-1 : Int), Builtin.Slice.slicePlaces lo hi (-1))) _ _ s
  rw [adjust_rev]
  show wpAny _ _ (pure ((n : Int) - 1, (-1 : Int), Builtin.Slice.slicePlaces ((n : Int) - 1) (-1) (-1))) _ _ s
  rw [places_rev]
  exact wpAny_pure h
theorem getItem_tuple_rev {t sl : Addr} {items : Array Value} {vs : Value} {Q : Value → Shared → Prop} (ht : IsTup s.heap t items) (hs : s.heap.IsSliceOf sl .none .none vs) (ps : IsPart vs (some (-1)))
    (h : Q (.ref s.heap.objs.size) { s with heap := s.heap.push { cls := .type "tuple", data := .seq items.toList.reverse.toArray } })
    (hsz : items.size ≤ sizeLine) : wpAny (model prog w) A (getItem (.ref t) (.ref sl)) Q E s := by
  have htake : sizeOk (.seq items.toList.reverse.toArray) := by
    show items.toList.reverse.toArray.size ≤ sizeLine
    rw [List.size_toArray, List.length_reverse, Array.length_toList]
    exact hsz
  obtain ⟨os, hos, hcs, hds⟩ := id hs
  have hTs : s.TypeIs (.ref sl) "slice" := ⟨os, hos, hcs⟩
  unfold getItem
  try with_reducible refine wpAny_holding ?_
  first | refine wpAny_bind (wpAny_pure ?_) | skip
  refine wpAny_bind (wpAny_sequenceKey ht.typeIs (by decide) ?_)
  refine wpAny_bind (wpAny_callSpecial?_slot (name := Str.ofString "__getitem__") ht.typeIs PyProof.Rows.slot_tuple_getitem
    (wpAny_call_entry PyProof.Rows.slot_tuple_getitem ht.typeIs PyProof.Rows.entry_tuple_getitem ?_ (PyProof.Rows.args_tuple_getitem _ _)))
  show wpAny _ _ (Builtin.Tuple.tupleItemsOf (.ref t) >>= _) _ _ s
  refine wpAny_bind (PyProof.Rows.tupleItemsOf_ ht ?_)
  refine wpAny_bind (wpAny_typeOf hTs ?_)
  rw [if_pos (by decide)]
  refine wpAny_bind (sliceApplied_rev hs ps ?_)
  have hno : ¬ ((((items.size : Int) - 1) == 0 && (-1 : Int) == 1 && items.size == items.size) = true) := by
    intro q
    rw [Bool.and_eq_true, Bool.and_eq_true] at q
    exact absurd q.1.2 (by decide)
  show wpAny _ _ (if (((items.size : Int) - 1) == 0 && (-1 : Int) == 1 && items.size == items.size) = true then _ else _) _ _ s
  rw [if_neg hno, pick_rev]
  first
    | exact wpAny_bind (m := Builtin.Tuple.tupleExact _) (wpAny_newObj_type (wpAny_pure ⟨_, rfl, wpAny_pure h⟩) htake)
    | exact wpAny_bind (m := Builtin.Tuple.tupleExact _) (wpAny_newObj_type (wpAny_bind (wpAny_pure (wpAny_pure ⟨_, rfl, wpAny_pure h⟩))) htake)
    | exact wpAny_bind (wpAny_bind (m := Builtin.Tuple.tupleExact _) (wpAny_newObj_type (wpAny_pure (wpAny_pure ⟨_, rfl, wpAny_pure h⟩)) htake))
    | exact wpAny_bind (wpAny_bind (m := Builtin.Tuple.tupleExact _) (wpAny_newObj_type (wpAny_pure ⟨_, rfl, wpAny_pure h⟩) htake))
end
def tRevT (K : PySem.W.Frag) (te : TE) : TE := fun σ H Q => te σ H fun x H1 => ∃ a xs, x = .ref a ∧ SqT K H1 a xs ∧ ∀ p, H1 p = none → Q (.ref p) (upd H1 p (.tup xs.reverse))
theorem pe_revT {X : Cx} {e : Expr} {te : TE} {k : Nat} {p1 p2 p3 pos : Pos} (he : PE X e te) : PE X (.Subscript e (.Slice none none (some (.UnaryOp .USub (.Constant (.int 1) k p1) p2)) p3) pos) (tRevT X.K te) := by
  refine ⟨fun pins s σ H Q I h => ?_⟩
  refine Subscript_ (thn (he.run pins s σ H _ I h) fun v s1 ⟨x, H1, I1, r1, q1⟩ => ?_)
  obtain ⟨a, xs, ex, hx, q⟩ := q1
  subst ex
  cases r1
  have hst : PO X (some (.UnaryOp .USub (.Constant (.int 1) k p1) p2)) (tPart (tUn (rU fun i => .int (-i)) (tC (.int 1)))) := po_some (pe_un un_neg pe_int)
  refine wpAny_Slice ?_
  rw [evalPart_none]
  refine wpAny_pure ?_
  refine wpAny_pure ?_
  refine thn (hst.run pins s1 σ H1 (fun o H4 => o = some (-1) ∧ H4 = H1) I1 ⟨1, rfl, -1, rfl, rfl, rfl⟩) fun vs s4 ⟨o, H4, I4, ps, eo, e4⟩ => ?_
  subst eo e4
  have I5 : Inv X pins σ H4 { s4 with heap := s4.heap.push { cls := .type "slice", data := .fields #[.none, .none, vs] } } := I4.kept (t' := s4.toks) fun b ob q => Heap.get?_push_of_some _ q
  obtain ⟨its, r, ht, hz⟩ := I5.tuple hx
  have hlen := r.length
  show wpAny (model X.prog X.w) X.A (subscriptTail e (.Slice none none (some (.UnaryOp .USub (.Constant (.int 1) k p1) p2)) p3) (.ref a) (.ref s4.heap.objs.size)) (EP X pins σ Q) X.xe { s4 with heap := s4.heap.push { cls := .type "slice", data := .fields #[.none, .none, vs] } }
  refine tail_any (ops := [.ref a, .ref s4.heap.objs.size]) ht.typeIs (PyProof.Rows.slot_tuple_getitem.lookup) ?_ (by with_unfolding_all rfl)
  refine getItem_tuple_rev ht (Heap.IsSliceOf.new _ .none .none vs) ps ?_ (by rw [List.size_toArray]; omega)
  refine ⟨.ref _, _, I5.laid (t' := s4.toks) (o := .tup xs.reverse) (fun b ob q => Heap.get?_push_of_some _ q) (Nat.le_refl _) ?_, rfl, q _ (I5.hok.fresh (Nat.le_refl _))⟩
  exact ⟨by rw [List.length_reverse]; exact hz, _, r.reverse, IsTup.new _ _⟩
end TV

set_option Elab.async false
set_option linter.all false
set_option maxRecDepth 100000
set_option maxHeartbeats 2000000
namespace TC
open PySem L2 PySem.Spec
section
variable {C : Ctx} {W : WX} {X : Cx} {σ : L2.St} {e : En} {b : Nat} {R : List Addr} {G H : Hp}
theorem hu_ok (hX : XOk C W X) : X.A.units + 1 < cLine := hu_of hX.room
/-! ### a dict is read -/
theorem dget_end {kvs : List (Key × PyData)} {s : Key} {a : Addr} {ks : List (Key × V)} {c : Comp Wd} {Q : VK} (S : St C b R G σ H e) (hk : H a = some (.dK ks)) (d : DqK C.K G ks kvs)
    (q : Run C W σ e b R G H (match lkD kvs s with | some d => .ret (.d d) | none => .stuck) (KW C Q)) : ∃ a' v, V.ref a = .ref a' ∧ DGet H a' (kV s) (some v) ∧ Q v H := by
  cases hl : lkD kvs s with
  | none =>
    rw [hl] at q
    exact q.elim
  | some x =>
    rw [hl] at q
    obtain ⟨v, hv, dv⟩ := d.get hl
    have z := DGet.k (k := s) hk
    rw [hv] at z
    exact ⟨a, v, rfl, z, endD S q dv⟩
theorem e_dget (hX : XOk C W X) {a : Ee} {s : Str} {k : Nat} {pk p : Pos} (ha : PE X a.em (tX C W (a.ev C.cl))) : PE X (Ee.dget a s k pk p).em (tX C W ((Ee.dget a s k pk p).ev C.cl)) :=
  peM (pe_dget (hu_ok hX) ha pe_str (fun _ _ => rfl)) fun σ H Q ⟨b, R, G, e, S, h⟩ => tX.of S (Run.bind h) fun b1 R1 G1 H1 w v s1 S1 r1 q => by
    cases w with
    | dct kvs =>
      obtain ⟨a, ks, rfl, g, d⟩ := r1
      exact dget_end (c := .stuck) S1 (S1.bs.sub _ _ g) d q
    | _ => exact q.elim
theorem e_dgo (hX : XOk C W X) {i : Nat} {x s : Str} {k : Nat} {px pk p : Pos} (hN : X.N[i]? = some x) (hv : visB X.env.scope x = true) : PE X (Ee.dgo i x px s k pk p).em (tX C W ((Ee.dgo i x px s k pk p).ev C.cl)) := by
  have n := plainNm_of (nm_vis hv)
  refine peM (pe_dget (hu_ok hX) (pe_var hN (vis_of hv) n.1 n.2.1) pe_str (fun _ _ => rfl)) fun σ H Q ⟨b, R, G, e, S, h⟩ => ?_
  have h : Run C W σ e b R G H (dgoE e i (.inr s)) (KW C Q) := h
  unfold dgoE at h
  split at h
  · rename_i kvs ew
    obtain ⟨l, e1, o⟩ := S.sl i _ ew
    obtain ⟨ks, hk, d⟩ := o.at_
    exact ⟨.ref l, e1, dget_end (c := .stuck) S hk d h⟩
  · exact h.stuck
theorem isDW_run {i : Nat} {c : Comp Wd} {k : Nat → List Addr → Hp → Hp → Wd → Prop} (h : Run C W σ e b R G H (isDW e i c) k) : (∃ ds, e[i]? = some (.od ds)) ∧ Run C W σ e b R G H c k := by
  unfold isDW at h
  split at h
  · rename_i ds eq
    exact ⟨⟨ds, eq⟩, h⟩
  · exact h.stuck
theorem nosl_of {a : Expr} (h : headB a = true) : NoSl a := by
  intro o i
  cases a <;> first | rfl | cases h
/-- a key's value -/
theorem key_run {d : PyData} {v : V} {k : Key → Comp Wd} {q : Nat → List Addr → Hp → Hp → Wd → Prop} (r : Dq C.K G v d) (h : Run C W σ e b R G H ((keyE d).bind k) q) : ∃ s : Key, v = kV s ∧ Run C W σ e b R G H (k s) q := by
  cases d <;> first | exact h.elim | skip
  · cases r
    exact ⟨.inl _, rfl, h⟩
  · cases r
    exact ⟨.inr _, rfl, h⟩
theorem e_dgi (hX : XOk C W X) {i : Nat} {x : Str} {px p : Pos} {a : Ee} (hN : X.N[i]? = some x) (hv : visB X.env.scope x = true) (ha : PE X a.em (tX C W (a.ev C.cl))) : PE X (Ee.dgi i x px a p).em (tX C W ((Ee.dgi i x px a p).ev C.cl)) := by
  have n := plainNm_of (nm_vis hv)
  refine peM (pe_dget (hu_ok hX) (pe_var hN (vis_of hv) n.1 n.2.1) ha (nosl_of a.head)) fun σ H Q ⟨b, R, G, e, S, h⟩ => ?_
  obtain ⟨⟨kvs, ew⟩, h⟩ := isDW_run h
  obtain ⟨l, e1, o⟩ := S.sl i _ ew
  refine ⟨.ref l, e1, tX.of S (Run.bind h).dD fun b1 R1 G1 H1 w v s1 S1 r1 ⟨d, ed, q⟩ => ?_⟩
  subst ed
  obtain ⟨s, rfl, q⟩ := key_run r1 q
  obtain ⟨l', e2, o⟩ := S1.sl i _ ew
  obtain ⟨ks, hk, dk⟩ := o.at_
  rw [e1] at e2
  cases e2
  unfold dgoE at q
  rw [ew] at q
  exact dget_end (c := .stuck) S1 hk dk q
theorem DqK.none {K : PySem.W.Frag} {G : Hp} {s : Key} : ∀ {ks : List (Key × V)} {ds : List (Key × PyData)}, DqK K G ks ds → lkD ds s = .none → valV ks s = .none
  | _, _, .nil, _ => rfl
  | _, _, .cons (k := k) q r, h => by
    by_cases c : k = s
    · unfold lkD at h
      rw [List.find?_cons, decide_eq_true c] at h
      cases h
    · rw [valV_neg (c)]
      unfold lkD at h
      rw [List.find?_cons, decide_eq_false c] at h
      exact DqK.none r h
theorem DqK.val {K : PySem.W.Frag} {G : Hp} {s : Key} {ks : List (Key × V)} {ds : List (Key × PyData)} (r : DqK K G ks ds) : (valV ks s).isSome = (lkD ds s).isSome := by
  cases h : lkD ds s with
  | none =>
    rw [r.none h]
    rfl
  | some d =>
    obtain ⟨v, hv, _⟩ := r.get h
    rw [hv]
    rfl
theorem din_end {i : Nat} {s : Key} {n : Bool} {x : Bool → Wd} {k : Nat → List Addr → Hp → Hp → Wd → Prop} (S : St C b R G σ H e) (h : Run C W σ e b R G H ((dinE e i s).bind fun z => .ret (x z)) k) : ∃ l o, σ[i]? = some (some (V.ref l)) ∧ DGet H l (kV s) o ∧ k b R G H (x o.isSome) := by
  unfold dinE at h
  cases ew : e[i]? with
  | none =>
    rw [ew] at h
    exact h.elim
  | some sl =>
    rw [ew] at h
    cases sl with
    | od kvs =>
      obtain ⟨l, e1, o⟩ := S.sl i _ ew
      obtain ⟨ks, hk, dk⟩ := o.at_
      have h := Run.ret S h
      rw [← dk.val] at h
      exact ⟨l, _, e1, DGet.k (k := s) hk, h⟩
    | _ => exact h.elim
theorem e_din (hX : XOk C W X) (n : Bool) {i : Nat} {x : Str} {px p : Pos} {a : Ee} (hN : X.N[i]? = some x) (hv : visB X.env.scope x = true) (ha : PE X a.em (tX C W (a.ev C.cl))) : PE X (Ee.din n i x px a p).em (tX C W ((Ee.din n i x px a p).ev C.cl)) := by
  have m := plainNm_of (nm_vis hv)
  cases n with
  | false =>
    refine peM (pe_cmp (pc_din (hu_ok hX) ha (pe_var hN (vis_of hv) m.1 m.2.1)) (marks_of rfl _)) fun σ H Q ⟨b, R, G, e, S, h⟩ => tX.of S (Run.bind h).dD fun b1 R1 G1 H1 w v s1 S1 r1 ⟨d, ed, q⟩ => ?_
    subst ed
    obtain ⟨s, rfl, q⟩ := key_run r1 q
    obtain ⟨l, o, e1, g, k⟩ := din_end (n := false) S1 q
    exact ⟨.ref l, e1, l, o, rfl, g, k _ (.bl _)⟩
  | true =>
    refine peM (pe_cmp (pc_dnotin (hu_ok hX) ha (pe_var hN (vis_of hv) m.1 m.2.1)) (marks_of rfl _)) fun σ H Q ⟨b, R, G, e, S, h⟩ => tX.of S (Run.bind h).dD fun b1 R1 G1 H1 w v s1 S1 r1 ⟨d, ed, q⟩ => ?_
    subst ed
    obtain ⟨s, rfl, q⟩ := key_run r1 q
    obtain ⟨l, o, e1, g, k⟩ := din_end (n := true) S1 q
    exact ⟨.ref l, e1, l, o, rfl, g, k _ (.bl _)⟩
theorem t_din (hX : XOk C W X) (n : Bool) {i : Nat} {x : Str} {px p : Pos} {a : Ee} (hN : X.N[i]? = some x) (hv : visB X.env.scope x = true) (ha : PE X a.em (tX C W (a.ev C.cl))) : PT X (Ee.din n i x px a p).em (tT C W ((Ee.din n i x px a p).ev C.cl)) := by
  have m := plainNm_of (nm_vis hv)
  cases n with
  | false =>
    refine ptM (pt_cmp (pc_din (hu_ok hX) ha (pe_var hN (vis_of hv) m.1 m.2.1)) (marks_of rfl _)) fun σ H Q ⟨b, R, G, e, S, h⟩ => tX.of S (Run.bind h).dD fun b1 R1 G1 H1 w v s1 S1 r1 ⟨d, ed, q⟩ => ?_
    subst ed
    obtain ⟨s, rfl, q⟩ := key_run r1 q
    obtain ⟨l, o, e1, g, t, et, k⟩ := din_end (n := false) S1 q
    cases et
    exact ⟨.ref l, e1, l, o, rfl, g, _, rfl, k⟩
  | true =>
    refine ptM (pt_cmp (pc_dnotin (hu_ok hX) ha (pe_var hN (vis_of hv) m.1 m.2.1)) (marks_of rfl _)) fun σ H Q ⟨b, R, G, e, S, h⟩ => tX.of S (Run.bind h).dD fun b1 R1 G1 H1 w v s1 S1 r1 ⟨d, ed, q⟩ => ?_
    subst ed
    obtain ⟨s, rfl, q⟩ := key_run r1 q
    obtain ⟨l, o, e1, g, t, et, k⟩ := din_end (n := true) S1 q
    cases et
    exact ⟨.ref l, e1, l, o, rfl, g, _, rfl, k⟩
theorem e_dgt (hX : XOk C W X) {i : Nat} {x : Str} {px pa p : Pos} {a c : Ee} (hN : X.N[i]? = some x) (hv : visB X.env.scope x = true) (ha : PE X a.em (tX C W (a.ev C.cl))) (hc : PE X c.em (tX C W (c.ev C.cl))) (hl : (pa.endLine == p.line) = true) : PE X (Ee.dgt i x px pa a c p).em (tX C W ((Ee.dgt i x px pa a c p).ev C.cl)) := by
  have n := plainNm_of (nm_vis hv)
  have s2 : starEach [a.em, c.em] X.env = [(false, eval a.em X.env), (false, eval c.em X.env)] := by
    rw [star_of a.head, star_of c.head]
    rfl
  refine peM (pe_dget2 (hu_ok hX) (pe_var hN (vis_of hv) n.1 n.2.1) ha hc ⟨base_of rfl _ _, by rw [s2]; rfl, hl, by rw [s2]; rfl⟩) fun σ H Q ⟨b, R, G, e, S, h⟩ => ?_
  obtain ⟨⟨kvs, ew⟩, h⟩ := isDW_run h
  obtain ⟨l, e1, o⟩ := S.sl i _ ew
  obtain ⟨ks0, hk0, dk0⟩ := o.at_
  refine ⟨.ref l, e1, l, rfl, .inl ⟨_, .inl hk0⟩, tX.of S (Run.bind h).dD fun b1 R1 G1 H1 w v s1 S1 r1 ⟨d, ed, q⟩ => ?_⟩
  subst ed
  obtain ⟨s, rfl, q⟩ := key_run r1 q
  refine tX.of S1 (Run.bind q).dD fun b2 R2 G2 H2 w2 v2 s2 S2 r2 ⟨d2, ed, q⟩ => ?_
  subst ed
  obtain ⟨l', e2, o⟩ := S2.sl i _ ew
  obtain ⟨ks, hk, dk⟩ := o.at_
  rw [e1] at e2
  cases e2
  unfold dgtE at q
  rw [ew] at q
  refine ⟨valV ks s, DGet.k (k := s) hk, endD S2 q ?_⟩
  cases hx : lkD kvs s with
  | none =>
    rw [dk.none hx]
    exact r2
  | some d =>
    obtain ⟨v, hv, dv⟩ := dk.get hx
    rw [hv]
    exact dv
theorem dq_rev {K : PySem.W.Frag} {G : Hp} : ∀ {vs : List V} {ds : List PyData}, DqAll K G vs ds → DqAll K G vs.reverse ds.reverse
  | _, _, .nil => .nil
  | _, _, .cons q r => by
    rw [List.reverse_cons, List.reverse_cons]
    exact dps_append (dq_rev r) (.cons q .nil)
theorem e_rvt (hX : XOk C W X) {a : Ee} {k : Nat} {p1 p2 p3 p : Pos} (ha : PE X a.em (tX C W (a.ev C.cl))) : PE X (Ee.rvt a k p1 p2 p3 p).em (tX C W ((Ee.rvt a k p1 p2 p3 p).ev C.cl)) :=
  peM (TV.pe_revT ha) fun σ H Q ⟨b, R, G, e, S, h⟩ => tX.of S (Run.bind h).dD fun b1 R1 G1 H1 w v s1 S1 r1 ⟨x, ew, q⟩ => by
    subst ew
    rw [hX.m.hK]
    cases x <;> first | exact q.elim | skip
    cases r1 with
    | tup h1 hs => exact ⟨_, _, rfl, S1.bs.sub.sqT h1, endT S1 q (dq_rev hs)⟩
/-! ### is True, is False -/
theorem e_isb (n : Bool) {a : Ee} {v : Bool} {k : Nat} {pn p : Pos} (ha : PE X a.em (tX C W (a.ev C.cl))) : PE X (Ee.isb n a v k pn p).em (tX C W ((Ee.isb n a v k pn p).ev C.cl)) := by
  cases n with
  | false =>
    exact peM (pe_cmpR op_is_bl ha pe_bl rfl) fun σ H Q ⟨b, R, G, e, S, h⟩ => tX.of S (Run.bind h).dB fun b1 R1 G1 H1 w u s1 S1 r1 ⟨x, ew, q⟩ => by
      subst ew
      cases r1
      exact ⟨x, v, rfl, rfl, endD S1 q (.bl _)⟩
  | true =>
    exact peM (pe_cmpR op_isnot_bl ha pe_bl rfl) fun σ H Q ⟨b, R, G, e, S, h⟩ => tX.of S (Run.bind h).dB fun b1 R1 G1 H1 w u s1 S1 r1 ⟨x, ew, q⟩ => by
      subst ew
      cases r1
      exact ⟨x, v, rfl, rfl, endD S1 q (.bl _)⟩
theorem t_isb (n : Bool) {a : Ee} {v : Bool} {k : Nat} {pn p : Pos} (ha : PE X a.em (tX C W (a.ev C.cl))) : PT X (Ee.isb n a v k pn p).em (tT C W ((Ee.isb n a v k pn p).ev C.cl)) := by
  cases n with
  | false =>
    exact ptM (pt_cmpR op_is_bl ha pe_bl rfl) fun σ H Q ⟨b, R, G, e, S, h⟩ => tX.of S (Run.bind h).dB fun b1 R1 G1 H1 w u s1 S1 r1 ⟨x, ew, q⟩ => by
      subst ew
      cases r1
      obtain ⟨z, ez, q⟩ := Run.ret S1 q
      cases ez
      exact ⟨x, v, rfl, rfl, _, rfl, q⟩
  | true =>
    exact ptM (pt_cmpR op_isnot_bl ha pe_bl rfl) fun σ H Q ⟨b, R, G, e, S, h⟩ => tX.of S (Run.bind h).dB fun b1 R1 G1 H1 w u s1 S1 r1 ⟨x, ew, q⟩ => by
      subst ew
      cases r1
      obtain ⟨z, ez, q⟩ := Run.ret S1 q
      cases ez
      exact ⟨x, v, rfl, rfl, _, rfl, q⟩
/-! ### isinstance of a value that may be a dict -/
theorem kit_dict (t : Ty) : kitB "dict" t.id = some false := by cases t <;> decide +kernel
theorem e_isw (hX : XOk C W X) {t : Ty} {a : Ee} {pf pt p : Pos} (hg : glB X.env.scope "isinstance" = true) (hgt : glB X.env.scope t.nm = true) (ha : PE X a.em (tX C W (a.ev C.cl))) : PE X (Ee.isw pf a t pt p).em (tX C W ((Ee.isw pf a t pt p).ev C.cl)) :=
  peM (pe_callB call_isi (gl_of hg) (blt_none hX (by decide +kernel)) (by decide +kernel) (pa_2 ha (pe_bltn (v := .ty t.id) (gl_of hgt) (blt_none hX t.blt) t.boot rfl (nmB hgt).1 (nmB hgt).2) a.head rfl) (nmB hg).1 (nmB hg).2 (star_of a.head _ _) (by rfl)) fun σ H Q ⟨b, R, G, e, S, h⟩ => tX.of S (Run.bind h) fun b1 R1 G1 H1 w v s1 S1 r1 q => by
    rw [hX.m.hK]
    cases w with
    | d x => exact ⟨v, _, _, _, _, rfl, .ty _, ty_at (S1.bs.sub.dp r1), kit_ty (kit_at t x), endD S1 q (.bl _)⟩
    | dct kvs =>
      obtain ⟨a, ks, rfl, g, d⟩ := r1
      exact ⟨_, _, _, _, _, rfl, .ty _, .base (.dK (S1.bs.sub _ _ g)), kit_ty (kit_dict t), endD S1 q (.bl _)⟩
    | _ => exact q.elim
/-! ### a dict is made -/
def trsD (C : Ctx) (W : WX) : List (Str × Nat × Pos) → Es → List (TE × TE)
  | q :: ks, .cons a es => (tC (.str q.1), tX C W (a.ev C.cl)) :: trsD C W ks es
  | _, _ => []
def prsV (ks : List (Str × Nat × Pos)) (vs : List V) : List (V × V) := (ks.zip vs).map fun p => (.str p.1.1, p.2)
theorem tPairs_wp : ∀ (es : Es) (ks : List (Str × Nat × Pos)) {b : Nat} {R : List Addr} {G H : Hp} {K : Nat → List PyData → Prop} {Q : List (V × V) → Hp → Prop}, ks.length = es.len → St C b R G σ H e →
    (es.ev C.cl e).wp b K (fun b' x => ∀ R' G' H' cls d, Stp R G H R' G' H' → St C b' R' G' σ H' e → exrN C x cls d H H' → W cls d σ H') →
    (∀ b' R' G' H' ds vs, Stp R G H R' G' H' → St C b' R' G' σ H' e → DqAll C.K G' vs ds → K b' ds → Q (prsV ks vs) H') → tPairs (trsD C W ks es) σ H Q
  | .nil, [], b, R, G, H, K, Q, hl, S, h, m => m b R G H [] [] .refl S .nil h
  | .cons a es, q :: ks, b, R, G, H, K, Q, hl, S, h, m => by
    have h : ((dD (a.ev C.cl e)).bind fun d => (es.ev C.cl e).bind fun ds => .ret (d :: ds)).wp b K _ := h
    have h1 := Comp.wp_bind.mp h
    have r : Run C W σ e b R G H (dD (a.ev C.cl e)) fun b' R' G' H' d => ((es.ev C.cl e).bind fun ds => .ret (d :: ds)).wp b' K (fun b' x => ∀ R' G' H' cls d, Stp R G H R' G' H' → St C b' R' G' σ H' e → exrN C x cls d H H' → W cls d σ H') :=
      Comp.wp_mono h1 (fun _ _ z _ _ _ _ _ => z) fun _ _ z => z
    refine tX.of S r.dD fun b1 R1 G1 H1 w v s1 S1 r1 ⟨x, ew, q1⟩ => ?_
    subst ew
    have q2 := Comp.wp_bind.mp q1
    refine tPairs_wp es ks (K := fun b' ds => K b' (x :: ds)) (Nat.succ.inj hl) S1 (Comp.wp_mono q2 (fun _ _ z => z) fun _ _ z R' G' H' cls d s S' ex => z R' G' H' cls d (s1.trans s) S' (ex.back s1.h)) fun b' R' G' H' ds vs s2 S2 dq k => ?_
    exact m b' R' G' H' (x :: ds) (v :: vs) (s1.trans s2) S2 (.cons (s2.g.dp r1) dq) k
  | .nil, _ :: _, _, _, _, _, _, _, hl, _, _, _ => nomatch hl
  | .cons _ _, [], _, _, _, _, _, _, hl, _, _, _ => nomatch hl
def kvsV (ks : List (Str × Nat × Pos)) (vs : List V) : List (Key × V) := (ks.zip vs).map fun p => (.inr p.1.1, p.2)
theorem prs_kvs (ks : List (Str × Nat × Pos)) (vs : List V) : prsV ks vs = (kvsV ks vs).map fun kv => (kV kv.1, kv.2) := by
  unfold prsV kvsV
  rw [List.map_map]
  rfl
theorem dqk_merge {K : PySem.W.Frag} {G : Hp} : ∀ {ks : List (Str × Nat × Pos)} {vs : List V} {ds : List PyData} {a1 : List (Key × V)} {a2 : List (Key × PyData)}, DqAll K G vs ds → DqK K G a1 a2 →
    DqK K G (mergeK a1 (kvsV ks vs)) (((ks.map (·.1)).zip ds).foldl (fun acc p => putD acc (.inr p.1) p.2) a2)
  | [], _, _, _, _, _, h => h
  | q :: ks, _, _, _, _, .nil, h => h
  | q :: ks, _, _, _, _, .cons r rs, h => dqk_merge (ks := ks) rs (h.put r)
/-- the dict's display: the heap behind it, once its values are made -/
theorem disp_run {es : Es} {ks : List (Str × Nat × Pos)} {K : Nat → List PyData → Prop} {Q : VK} (hl : ks.length = es.len) (h15 : es.len ≤ 15) (S : St C b R G σ H e)
    (h : (es.ev C.cl e).wp b K (fun b' x => ∀ R' G' H' cls d, Stp R G H R' G' H' → St C b' R' G' σ H' e → exrN C x cls d H H' → W cls d σ H'))
    (m : ∀ b1 R1 G1 H2 p kvs ds, H p = none → Stp R G H R1 G1 H2 → St C b1 R1 G1 σ H2 e → Stp R G H R1 (upd G1 p (.dK kvs)) H2 → St C b1 R1 (upd G1 p (.dK kvs)) σ H2 e → Sub G1 (upd G1 p (.dK kvs)) → H2 p = some (.dK kvs) → G1 p = none → p ∉ R1 → DqK C.K G1 kvs (mkD (ks.map (·.1)) ds) → K b1 ds → Q (.ref p) H2) :
    tDisp (trsD C W ks es) σ H Q := by
  intro p np
  have S0 : St C b R G σ (upd H p (.dK [])) e := S.opened np
  have st0 : Stp R G H R G (upd H p (.dK [])) := Stp.open np
  refine tPairs_wp es ks hl S0 (Comp.wp_mono h (fun _ _ z => z) fun _ _ z R' G' H' cls d s S' ex => z R' G' H' cls d (st0.trans s) S' (ex.back st0.h)) fun b1 R1 G1 H1 ds vs s1 S1 dq k => ?_
  have rn := S.bs.rnone np
  have gn := S.bs.gnone np
  have hp : H1 p = some (.dK []) := s1.k p _ upd_same rn
  have g1 : G1 p = none := s1.o p _ upd_same rn gn
  have r1 : p ∉ R1 := s1.notin upd_same rn
  have sub : Sub G1 (upd G1 p (.dK (mergeK [] (kvsV ks vs)))) := fun a u q => by
    rw [upd_ne (fun z => by rw [z, g1] at q; cases q)]
    exact q
  have big : ∀ G2, (∀ a u, G1 a = some u → G2 a = some u) → (∀ a, a ≠ p → G2 a = G1 a) → Stp R G H R1 G2 (upd H1 p (.dK (mergeK [] (kvsV ks vs)))) := fun G2 h1 h2 => by
    refine ⟨fun a u q => h1 a u (s1.g a u q), fun a u q n => ?_, fun a ha => (s1.r a ha).imp id upd_none, fun a u q n z => ?_, fun a q => upd_none (s1.h a (upd_none q))⟩
    · have ne : a ≠ p := ne_of_none q np
      rw [upd_ne ne]
      exact s1.k a u (by rw [upd_ne ne]; exact q) n
    · have ne : a ≠ p := ne_of_none q np
      rw [h2 a ne]
      exact s1.o a u (by rw [upd_ne ne]; exact q) n z
  have B1 : Bs C b1 R1 G1 (upd H1 p (.dK (mergeK [] (kvsV ks vs)))) := S1.bs.put g1 r1
  have big1 := big G1 (fun _ _ z => z) fun _ _ => rfl
  have big2 := big (upd G1 p (.dK (mergeK [] (kvsV ks vs)))) sub fun a ne => upd_ne ne
  have B2 := B1.freeze (o := .dK (mergeK [] (kvsV ks vs))) upd_same r1
  refine ⟨hp, kvsV ks vs, prs_kvs ks vs, ?_, m b1 R1 G1 _ p _ ds np big1 (S.stp big1 B1) big2 (S.stp big2 B2) sub upd_same g1 r1 (dqk_merge dq .nil) k⟩
  unfold kvsV
  rw [List.length_map, List.length_zip]
  omega
theorem keys_some (ks : List (Str × Nat × Pos)) : (keysE ks).all (·.isSome) = true := by
  unfold keysE
  rw [List.all_map]
  exact List.all_eq_true.mpr fun _ _ => rfl
theorem es_em_len : ∀ es : Es, es.em.length = es.len
  | .nil => rfl
  | .cons _ es => congrArg (· + 1) (es_em_len es)
theorem pe_dispD {es : Es} {ks : List (Str × Nat × Pos)} {p : Pos} (hp : PPs X p (keysE ks) es.em (trsD C W ks es)) (hl : ks.length = es.len) (h0 : 0 < es.len) (h15 : es.len ≤ 15) : PE X (.Dict (keysE ks) es.em p) (tDisp (trsD C W ks es)) := by
  have e1 : (keysE ks).length = ks.length := by simp [keysE]
  exact pe_disp hp (keys_some ks) (by rw [e1, es_em_len, hl]) (fun z => by rw [z] at e1; simp at e1; omega) (by omega)
theorem e_dmk {es : Es} {ks : List (Str × Nat × Pos)} {p : Pos} (hp : PPs X p (keysE ks) es.em (trsD C W ks es)) (hl : ks.length = es.len) (h0 : 0 < es.len) (h15 : es.len ≤ 15) : PE X (Ee.dmk ks es p).em (tX C W ((Ee.dmk ks es p).ev C.cl)) :=
  peM (pe_dispD hp hl h0 h15) fun σ H Q ⟨b, R, G, e, S, h⟩ => by
    have h : ((es.ev C.cl e).bind fun ds => Comp.ret (Wd.dct (mkD (ks.map (·.1)) ds))).wp b (fun b' a => ∀ R' G' H', Stp R G H R' G' H' → St C b' R' G' σ H' e → KW C Q b' R' G' H' a) (fun b' x => ∀ R' G' H' cls d, Stp R G H R' G' H' → St C b' R' G' σ H' e → exrN C x cls d H H' → W cls d σ H') := h
    refine disp_run hl h15 S (Comp.wp_bind.mp h) fun b1 R1 G1 H2 p kvs ds np s1 S1 s2 S2 sub hv g1 r1 d k => ?_
    exact k R1 _ H2 s2 S2 (.ref p) ⟨p, kvs, rfl, upd_same, d.sub sub⟩
end
end TC

set_option Elab.async false
set_option linter.all false
set_option maxRecDepth 100000
set_option maxHeartbeats 2000000
namespace TC
open PySem L2 PySem.Spec
section
variable {C : Ctx} {W : WX} {X : Cx} {σ : L2.St} {e : En} {b : Nat} {R : List Addr} {G H : Hp}
/-- the parts of a comprehension's block -/
structure LcB (C : Ctx) (X : Cx) (a : Ee) (o : Eo) (sc2 : Scope) : Prop where
  te : ∀ (s : Shared) (H : Hp) (D : Addr) (cl : List (Str × Addr)) (fp : List Addr), PE (X.blk s H sc2 (compEnvC sc2 cl D X.env) fp) a.em (tX C noW (a.ev C.cl))
  tt : ∀ (s : Shared) (H : Hp) (D : Addr) (cl : List (Str × Addr)) (fp : List Addr), PTs (X.blk s H sc2 (compEnvC sc2 cl D X.env) fp) o.ems (tYs C noW (o.evT C.cl))
theorem fold_of {it : Ei} (x : Value) (env : Env) : foldedSetIterable it.em env x = pure x := by
  cases it with
  | seq a => cases a <;> first | rfl | (rename_i f; cases f <;> rfl)
  | _ => rfl
theorem f_lc (hX : XOk C W X) {a : Ee} {t : Tt} {it : Ei} {o : Eo} {own : List (Str × Nat)} {sc2 : Scope} {p : Pos} (hb : blkC X.N X.env.scope sc2 own = true) (hi : PI X t.em it.em (tI C W (it.ev C.cl))) (ht : t.ok X.N sc2 (some (own.map (·.2))) = true) (B : LcB C X a o sc2) :
    PE X (Ef.lc a t it o own sc2 p).em (tF C W ((Ef.lc a t it o own sc2 p).ev C.cl)) :=
  peM (pe_lc hX.calm hX.nd hi (blkOk_by hb) (fun s H D cl fp => pg_of (X := X.blk s H sc2 (compEnvC sc2 cl D X.env) fp) hX.calm hX.nd blk_nm t ht) B.tt B.te (fun x => fold_of x _)) fun _ _ _ h => lc_red hX ht h
theorem s_setLc (hX : XOk C W X) {i : Nat} {y : Str} {py : Pos} {a : Ee} {t : Tt} {it : Ei} {o : Eo} {own : List (Str × Nat)} {sc2 : Scope} {p pos : Pos} (hy : X.N[i]? = some y) (hyl : X.env.scope.names.lookup y = some .local)
    (hsw : swapsWith (Ef.lc a t it o own sc2 p).em (some (.Name y py)) pos.line X.env = pure true) (hb : blkC X.N X.env.scope sc2 own = true) (hi : PI X t.em it.em (tI C W (it.ev C.cl))) (ht : t.ok X.N sc2 (some (own.map (·.2))) = true) (B : LcB C X a o sc2) :
    PS X (.Assign [.Name y py] (Ef.lc a t it o own sc2 p).em pos) (fun D σ H => tF C W ((Ef.lc a t it o own sc2 p).ev C.cl) σ H fun x H1 => gName i x σ H1 D.nx) :=
  ⟨fun pins s σ H D I h => (ps_setLc hX.calm hX.nd hy hyl hsw hi (blkOk_by hb) (fun s H D cl fp => pg_of (X := X.blk s H sc2 (compEnvC sc2 cl D X.env) fp) hX.calm hX.nd blk_nm t ht) B.tt B.te (fun x => fold_of x _)).run pins s σ H D I (lc_red hX ht h)⟩
/-! ### how many texts are unlike -/
theorem e_lsc (hX : XOk C W X) {a : Ee} {i : Nat} {x : Str} {pf px pe ps p : Pos} {sc2 : Scope} (hb : blkC X.N X.env.scope sc2 [(x, i)] = true) (hi : slotB X.N i x = true) (hl : locB sc2 x = true) (hv : visB (relS sc2 X.env.scope) x = true) (ha : PE X a.em (tX C W (a.ev C.cl)))
    (hg : glB X.env.scope "len" = true) : PE X (Ee.lsc pf a i x px pe sc2 ps p).em (tX C W ((Ee.lsc pf a i x px pe sc2 ps p).ev C.cl)) := by
  have n := plainNm_of (nm_vis hv)
  refine peM (pe_callB TS.len_met (gl_of hg) (blt_none hX (by decide +kernel)) boot_len (pa_1 (TS.pe_scT hX.calm hX.nd ha (blkOk_by hb) (fun x => fold_of (it := .seq a) x _)
    (fun s H D cl fp => pg_name (X := X.blk s H sc2 (compEnvC sc2 cl D X.env) fp) hX.nd (slot_of hi) (blk_nm x hl).1 (blk_nm x hl).2)
    (fun s H D cl fp => pe_var (X := X.blk s H sc2 (compEnvC sc2 cl D X.env) fp) (slot_of hi) (vis_of hv) n.1 n.2.1)) rfl) (nmB hg).1 (nmB hg).2 rfl (by rfl)) fun σ H Q ⟨b, R, G, e, S, h⟩ => tX.of S (Run.bind h).dD fun b1 R1 G1 H1 w v s1 S1 r1 ⟨d, ew, q⟩ => ?_
  subst ew
  rw [hX.m.hK]
  cases d with
  | tuple ds =>
    have q : Run C W σ e b1 R1 G1 H1 (retD (match strsP ds with | some ys => (if ys.length ≤ 1000 then .ret (.int (TS.cnt ys)) else .stuck) | none => .stuck)) (KW C Q) := q
    cases r1 with
    | tup h1 h2 =>
    cases ez : strsP ds with
    | none => rw [ez] at q; exact q.elim
    | some ys =>
      rw [ez] at q
      rw [dps_strs h2 ez] at h1
      have hq := S1.bs.sub.sqT h1
      have q : Run C W σ e b1 R1 G1 H1 (retD (if ys.length ≤ 1000 then .ret (.int (TS.cnt ys)) else .stuck)) (KW C Q) := q
      by_cases c : ys.length ≤ 1000
      · rw [if_pos c] at q
        exact ⟨_, rfl, ⟨_, hq⟩, _, ys, rfl, hq, c, fun D nD => ⟨D, ys, rfl, upd_same, c, q R1 G1 _ (Stp.open nD) (S1.opened nD) (.int _) (.int _)⟩⟩
      · rw [if_neg c] at q
        exact q.elim
  | _ => exact q.elim
/-- a list that is read, so many times -/
theorem op_repR : OpR X (binaryOp .Mult) (fun x y H Q => ∃ l k xs, x = .ref l ∧ y = .int k ∧ Rd H l (.lst xs) ∧ 0 ≤ k ∧ k < 2 ^ 63 ∧ xs.length * k.toNat ≤ sizeLine ∧ ∀ p, H p = none → Q (.ref p) (upd H p (.lst (List.replicate k.toNat xs).flatten))) := by
  intro pins s σ H x y v u Q I rx ry h
  obtain ⟨l, k, xs, rfl, rfl, hH, k0, k1, kz, q⟩ := h
  cases rx
  obtain ⟨tk, rfl⟩ := ry
  obtain ⟨us, m, rv, el, _, ob⟩ := rd_obj I hH
  have z1 : us.toArray.size * k.toNat ≤ sizeLine := by rw [List.size_toArray, ← el]; exact kz
  have z2 : ¬ us.toArray.size * k.toNat > (2 ^ 63 - 1) / 8 := by
    have z3 : (sizeLine : Nat) ≤ (2 ^ 63 - 1) / 8 := by decide
    omega
  have z4 : ¬ (!Builtin.List.listFitsIndex k) = true := by rw [fitsIndex_both (by omega) k1]; exact nofun
  have z5 : ¬ Builtin.List.listTooLong (us.toArray.size * k.toNat) = true := by rw [notLongL z1]; exact nofun
  have z6 : List.foldl (fun x1 x2 => x1 ++ x2) #[] (List.replicate (if us.toArray.isEmpty = true then 0 else k.toNat) us.toArray) = (List.replicate k.toNat us).flatten.toArray := by
    have z7 : ∀ j : Nat, List.foldl (fun x1 x2 => x1 ++ x2) #[] (List.replicate j us.toArray) = (List.replicate j us).flatten.toArray := fun j => by
      have z8 := foldl_rep us j []
      rwa [List.nil_append] at z8
    rw [z7]
    cases us with
    | nil => simp
    | cons a r => rw [if_neg (by simp)]
  refine wpAny_binaryOp_repeat_ref (T := "list") (U := "int") (by decide) ⟨_, ob, rfl⟩ (fun s' => typeIs_int s' k tk) noFill_list_mul F.fills_int_mul F.slot_int_rmul repeat_list F.slot_int_index.lookup
    (call_meets F.slot_int_rmul (typeIs_int s k tk) F.entry_int_rmul (F.args_int_rmul_2 _ _) (int___rmul___int_list k tk l us.toArray m)
      ⟨ob, rfl, ⟨_, ob, rfl⟩, call_meets F.slot_list_mul ⟨_, ob, rfl⟩ F.entry_list_mul (F.args_list_mul_2 _ _) (AutoListH.list___mul___list_int_3 l us.toArray m k tk z4 z2 z5) ⟨ob, ?_⟩⟩)
  rw [z6]
  refine ⟨.ref _, _, I.lnew (t' := s.toks) (rv.rep k.toNat) ?_, rfl, q _ I.fresh⟩
  rw [PyProof.Rows.lm_len_rep_flat, Nat.mul_comm]
  exact kz
theorem f_rep (hX : XOk C W X) {a : Eb} {n : Ee} {p : Pos} (ha : PE X a.em (tB C W (a.ev C.cl))) (hn : PE X n.em (tX C W (n.ev C.cl))) : PE X (Ef.rep a n p).em (tF C W ((Ef.rep a n p).ev C.cl)) :=
  peM (pe_op op_repR ha hn) fun σ H Q ⟨b, R, G, e, S, h⟩ => tB.of S (Run.bind h) fun b1 R1 G1 H1 d v s1 S1 r1 q => tX.of S1 q.bind.dD fun b2 R2 G2 H2 w v2 s2 S2 r2 ⟨y, ew, q2⟩ => by
    subst ew
    have r1 := r1.sub s2.g
    cases d with
    | list xs =>
      cases y with
      | int k =>
        have q2 : Run C W σ e b2 R2 G2 H2 (if decide (0 ≤ k) && decide (k ≤ 1000) && decide (xs.length ≤ 100) then .ret (List.replicate k.toNat xs).flatten else .stuck) (KF C σ e Q) := q2
        by_cases c : (decide (0 ≤ k) && decide (k ≤ 1000) && decide (xs.length ≤ 100)) = true
        · rw [if_pos c] at q2
          rw [Bool.and_eq_true, Bool.and_eq_true, decide_eq_true_eq, decide_eq_true_eq, decide_eq_true_eq] at c
          obtain ⟨l, vs, rfl, h1, d1⟩ := r1.lst S2
          cases r2
          refine ⟨l, k, vs, rfl, rfl, h1, c.1.1, by omega, ?_, fun l hl => endF S2 q2 (dps_rep d1 _) l hl⟩
          rw [dps_length d1]
          have : xs.length * k.toNat ≤ 100 * 1000 := Nat.mul_le_mul c.2 (by omega)
          have := line_num
          omega
        · rw [if_neg c] at q2
          exact q2.elim
      | _ => exact q2.elim
    | _ => exact q2.elim
end
end TC

set_option Elab.async false
set_option linter.all false
set_option maxRecDepth 100000
set_option maxHeartbeats 4000000
namespace TC
open PySem L2 PySem.Spec PyProof.Rows
/-! ### comprehensions of many clauses -/
section
variable {elt : Expr} {gs : List Comprehension} {scope : Scope} {pos : Pos} {it acc : Value} {env : Env} {d : Nat} {t0 i0 t1 i1 : Expr} {f0 f1 : List Expr}
theorem turn_mid (h : gs[d]? = some ⟨t0, i0, f0, 0⟩) (h1 : gs[d + 1]? = some ⟨t1, i1, f1, 0⟩) : compTurn (.ListComp elt gs scope pos) d it acc env = (do
    standAt i0.pos
    match ← pyNext it with
    | none => pure (.done .next)
    | some u =>
      letOwnedTupleGo t0 it u
      assign t0 env u
      let mut go := true
      for c in f0 do
        if go then go ← isTrue c env (eval c env)
      if go then
        let src ← eval i1 env
        standAt i1.pos
        let src ← foldedSetIterable i1 env src
        let _ ← runOwn (.compStart (.ListComp elt gs scope pos) (d + 1) (← holding [src] (pyIter src)) acc env) env
      again (.compLoop (.ListComp elt gs scope pos) d it acc env)) := by
  unfold compTurn
  simp only [h, h1]
  rfl
theorem turn_last (h : gs[d]? = some ⟨t0, i0, f0, 0⟩) (h1 : gs[d + 1]? = none) : compTurn (.ListComp elt gs scope pos) d it acc env = (do
    standAt i0.pos
    match ← pyNext it with
    | none => pure (.done .next)
    | some u =>
      letOwnedTupleGo t0 it u
      assign t0 env u
      let mut go := true
      for c in f0 do
        if go then go ← isTrue c env (eval c env)
      if go then
        (do let _ ← call (.builtin "list.append") [acc, ← eval elt env])
      again (.compLoop (.ListComp elt gs scope pos) d it acc env)) := by
  unfold compTurn
  simp only [h, h1]
  rfl
variable {prog : Program} {w : World} {A : Around} {R : Result → Shared → Prop} {s : Shared}
abbrev noX : Value → Shared → Prop := fun _ _ => False
abbrev testsOf (ifs : List Expr) (env : Env) : Sem Bool := forIn ifs true fun c r => if r = true then do let ok ← isTrue c env (eval c env); pure (ForInStep.yield ok) else pure (ForInStep.yield r)
/-- one turn, up to what follows the tests -/
def TurnOf (prog : Program) (w : World) (A : Around) (R : Result → Shared → Prop) (t0 : Expr) (f0 : List Expr) (it : Value) (env : Env) (next : Shared → Prop) (again : Shared → Prop) (s : Shared) : Prop :=
  wpAny (model prog w) A (pyNext it) (fun r s1 => match r with
    | none => R (.ok .next) s1
    | some u => wpAny (model prog w) A (letOwnedTupleGo t0 it u) (fun _ s2 => wpAny (model prog w) A (assign t0 env u) (fun _ s3 => wpAny (model prog w) A (testsOf f0 env) (fun ok s4 => if ok = true then next s4 else again s4) noX s3) noX s2) noX s1) noX s
theorem loop_mid (h : gs[d]? = some ⟨t0, i0, f0, 0⟩) (h1 : gs[d + 1]? = some ⟨t1, i1, f1, 0⟩) (hs : ∀ x, foldedSetIterable i1 env x = pure x) (I : Nat → Shared → Prop)
    (turn : ∀ n s, I n s → TurnOf prog w A R t0 f0 it env (fun s4 => wpAny (model prog w) A (eval i1 env) (fun x s5 => wpAny (model prog w) A (pyIter x) (fun it1 s6 =>
      codeAny (model prog w) A (.compStart (.ListComp elt gs scope pos) (d + 1) it1 acc env) (fun r s' => match r with
        | .ok _ => ∃ m, m < n ∧ I m s'
        | .error _ => False) s6) noX s5) noX s4) (fun s4 => ∃ m, m < n ∧ I m s4) s) (n : Nat) (hI : I n s) : codeAny (model prog w) A (.compLoop (.ListComp elt gs scope pos) d it acc env) R s := by
  refine codeAny_loop rfl I (fun n s hI => ?_) n hI
  show wpAny _ A ((compTurn (.ListComp elt gs scope pos) d it acc env).onRaise (fun x => do noteFrame x env; theTreesLotGoes x)) _ _ s
  refine wpAny_noted ?_
  rw [turn_mid h h1]
  refine wpAny_bind (wpAny_standAt (wpAny_bind (thnF (turn n s hI) fun r s1 k1 => ?_)))
  cases r with
  | none => exact wpAny_pure k1
  | some u =>
    refine wpAny_bind (thnF k1 fun _ s2 k2 => wpAny_bind (thnF k2 fun _ s3 k3 => wpAny_bind (thnF k3 fun ok s4 k4 => ?_)))
    cases ok with
    | false => exact wpAny_pure ⟨rfl, k4⟩
    | true =>
      refine wpAny_bind (thnF k4 fun src s5 k5 => ?_)
      refine wpAny_bind (wpAny_standAt (wpAny_bind (wpAny_of_eq (hs src) (wpAny_bind (wpAny_holding (thnF k5 fun it1 s6 k6 => ?_))))))
      refine wpAny_bind (wpAny_runOwn ?_)
      rw [Around.mark_none]
      refine codeAny_mono k6 fun r s7 k7 => ?_
      cases r with
      | error e => exact k7.elim
      | ok f => first | exact wpAny_pure ⟨rfl, k7⟩ | exact wpAny_bind (wpAny_pure (wpAny_pure ⟨rfl, k7⟩))
theorem loop_last (h : gs[d]? = some ⟨t0, i0, f0, 0⟩) (h1 : gs[d + 1]? = none) (I : Nat → Shared → Prop)
    (turn : ∀ n s, I n s → TurnOf prog w A R t0 f0 it env (fun s4 => wpAny (model prog w) A (eval elt env) (fun x s5 => wpAny (model prog w) A (call (.builtin "list.append") [acc, x]) (fun _ s6 => ∃ m, m < n ∧ I m s6) noX s5) noX s4) (fun s4 => ∃ m, m < n ∧ I m s4) s)
    (n : Nat) (hI : I n s) : codeAny (model prog w) A (.compLoop (.ListComp elt gs scope pos) d it acc env) R s := by
  refine codeAny_loop rfl I (fun n s hI => ?_) n hI
  show wpAny _ A ((compTurn (.ListComp elt gs scope pos) d it acc env).onRaise (fun x => do noteFrame x env; theTreesLotGoes x)) _ _ s
  refine wpAny_noted ?_
  rw [turn_last h h1]
  refine wpAny_bind (wpAny_standAt (wpAny_bind (thnF (turn n s hI) fun r s1 k1 => ?_)))
  cases r with
  | none => exact wpAny_pure k1
  | some u =>
    refine wpAny_bind (thnF k1 fun _ s2 k2 => wpAny_bind (thnF k2 fun _ s3 k3 => wpAny_bind (thnF k3 fun ok s4 k4 => ?_)))
    cases ok with
    | false => exact wpAny_pure ⟨rfl, k4⟩
    | true => exact wpAny_bind (wpAny_bind (thnF k4 fun x s5 k5 => wpAny_bind (thnF k5 fun _ s6 k6 => wpAny_pure (wpAny_pure ⟨rfl, k6⟩))))
theorem start_mid (h : gs[d]? = some ⟨t0, i0, f0, 0⟩) (h0 : codeAny (model prog w) A (.compLoop (.ListComp elt gs scope pos) d it acc env) R s)
    (hi : wpAny (model prog w) A (pyIter it) (fun it' s' => codeAny (model prog w) A (.compLoop (.ListComp elt gs scope pos) d it' acc env) R s') (notedBy (model prog w) A env fun x s' => R (.error x) s') s) :
    codeAny (model prog w) A (.compStart (.ListComp elt gs scope pos) d it acc env) R s := by
  have hc : (clausesOf (.ListComp elt gs scope pos))[d]? = some ⟨t0, i0, f0, 0⟩ := h
  refine codeAny_of_tree ?_
  show wpAny _ _ ((compStart (.ListComp elt gs scope pos) d it acc env).onRaise (fun x => do noteFrame x env; standAt theWindowsPlace)) _ _ s
  refine wpAny_notedAt ?_
  unfold compStart
  rw [hc]
  show wpAny _ _ (ask >>= _) _ _ s
  refine wpAny_bind (wpAny_askSetting (wpAny_ite ?_))
  split
  · first
      | exact wpAny_bind (wpAny_pure (wpAny_pure (And.intro rfl h0)))
      | exact wpAny_pure (And.intro rfl h0)
  · refine wpAny_bind (wpAny_rule ?_)
    show wpAny _ _ (standAt i0.pos >>= _) _ _ s
    exact wpAny_bind (wpAny_standAt (wpAny_bind (wpAny_mono hi (fun it' s' k => wpAny_pure (And.intro rfl k)) fun _ _ x => x)))
end
end TC

set_option Elab.async false
set_option linter.all false
set_option maxRecDepth 100000
set_option maxHeartbeats 4000000
namespace TC
open PySem L2 PySem.Spec PyProof.Rows
/-- a clause with its readings -/
structure Cr where
  t : Expr
  i : Expr
  ifs : List Expr
  wi : TI
  g : TG
  tt : TT
  vs : List Nat
def Cr.c (c : Cr) : Comprehension := ⟨c.t, c.i, c.ifs, 0⟩
def allV : List Cr → List Nat
  | [] => []
  | c :: cs => c.vs ++ allV cs
structure CrOk (X : Cx) (c : Cr) : Prop where
  pi : PI X c.t c.i c.wi
  pg : PG X c.t c.g
  pt : PTs X c.ifs c.tt
  hs : ∀ x, foldedSetIterable c.i X.env x = pure x
/-- the loop of clause c: V the slots that it and what is within it set, Nx what it is to reach, bd what a turn does -/
def LoopR (c : Cr) (V : List Nat) (bd : L2.St → Hp → (Hp → Prop) → Prop) (J : It) (σ : L2.St) (H : Hp) (Nx : Hp → Prop) : Prop :=
  ∃ W1 : Nat → Nat → Hp → Prop, (∃ m, W1 0 m H) ∧ ∀ j k H, W1 j k H → (J.stop j H ∧ Nx H) ∨ (J.go j H ∧ ∃ N1 : Hp → Prop, (∀ H', N1 H' → ∃ k', k' < k ∧ W1 (j + 1) k' H') ∧
    ∀ x H', J.yld j H x H' → c.g x (L2.wipe σ V) H' fun σ3 H5 => L2.wipe σ3 V = L2.wipe σ V ∧ c.tt σ3 H5 fun b H6 => if b = true then bd σ3 H6 N1 else N1 H6)
/-- what stands within the clauses cs -/
def tIn (te : TE) (D : Addr) : List Cr → L2.St → Hp → (Hp → Prop) → Prop
  | [], σ, H, Nx => te σ H fun y H7 => ∃ acc, H7 D = some (.lst acc) ∧ acc.length < sizeLine ∧ Nx (upd H7 D (.lst (acc ++ [y])))
  | c :: cs, σ, H, Nx => c.wi σ H fun J H4 => LoopR c (c.vs ++ allV cs) (tIn te D cs) J σ H4 Nx
theorem pin_add {X : Cx} {pins : List (Addr × Obj)} {σ : L2.St} {H : Hp} {s : Shared} {fp : List Addr} {s7 : Shared} (I : Inv X (pins ++ pinsAt fp s7.heap) σ H s) {b : Addr} (hb : b ∈ fp) {o : Obj} (e : s7.heap.get? b = some o) : s.heap.get? b = some o ∧ H b = none :=
  have z := I.pin (b, o) (List.mem_append_right _ (List.mem_append_right _ (mem_pinsAt hb e)))
  ⟨z.1, z.2.1⟩
theorem loopC {X : Cx} (hc : X.calm = true) {elt : Expr} {gs : List Comprehension} {scope : Scope} {pos : Pos} {D : Addr} {te : TE} (he : PE X.nox elt te) : ∀ (cs : List Cr) (c : Cr) (d : Nat), gs[d]? = some c.c → gs.drop (d + 1) = cs.map Cr.c → (∀ z ∈ c :: cs, CrOk X.nox z) →
    ∀ {R : Result → Shared → Prop} {it : Addr} {fp : List Addr} {tn : Nat → Heap → Prop} {J : It} {pins : List (Addr × Obj)} {s : Shared} {σ : L2.St} {H : Hp} {Nx : Hp → Prop}, Turn X.prog X.w X.K c.t J fp it tn → Inv X.nox pins (L2.wipe σ (c.vs ++ allV cs)) H s → tn 0 s.heap → (∀ b ∈ fp, FpOk X.nox pins H b) →
    LoopR c (c.vs ++ allV cs) (tIn te D cs) J σ H Nx → (∀ H' s', Inv X.nox pins (L2.wipe σ (c.vs ++ allV cs)) H' s' → Nx H' → R (.ok .next) s') →
    codeAny (model X.prog X.w) X.A (.compLoop (.ListComp elt gs scope pos) d (.ref it) (.ref D) X.env) R s := by
  intro cs
  induction cs with
  | nil =>
    intro c d h0 h1 ok R it fp tn J pins s σ H Nx T I st fr ⟨W1, ⟨m0, w0⟩, turn⟩ fin
    have cok := ok c List.mem_cons_self
    have h1 : gs[d + 1]? = none := by
      have z := congrArg List.length h1
      rw [List.length_drop] at z
      have z2 : gs.length - (d + 1) = 0 := z
      exact List.getElem?_eq_none (by omega)
    have fr2 : ∀ {H' : Hp}, (∀ b ∈ fp, H' b = none) → ∀ b ∈ fp, FpOk X.nox pins H' b := fun hn b hb => ⟨hn b hb, (fr b hb).2⟩
    refine loop_last h0 h1 (fun k s' => ∃ j H', Inv X.nox pins (L2.wipe σ (c.vs ++ allV [])) H' s' ∧ tn j s'.heap ∧ (∀ b ∈ fp, H' b = none) ∧ W1 j k H') ?_ m0 ⟨0, H, I, st, fun b hb => (fr b hb).1, w0⟩
    rintro k s1 ⟨j, H1, I1, st1, n1, w1⟩
    rcases turn j k H1 w1 with ⟨stop, nx⟩ | ⟨go, N1, hN1, step⟩
    · refine thnF (T.done X.nox rfl rfl rfl hc j pins s1 _ H1 noX I1 (fr2 n1) st1 stop) fun r s2 ⟨hr, I2⟩ => ?_
      subst hr
      exact fin H1 s2 I2 nx
    · refine thnF (T.item X.nox rfl rfl rfl hc j pins s1 _ H1 noX I1 (fr2 n1) st1 go) fun r s2 ⟨u, hr, k2⟩ => ?_
      subst hr
      refine thnF k2 fun _ s3 ⟨x, H3, I3, r3, y3, st3, n3⟩ => ?_
      have P3 := I3.pinned (fr2 n3) (T.obj _ _ st3)
      refine thnF (cok.pg.run _ s3 _ H3 x u _ P3 r3 (step x H3 y3)) fun _ s4 ⟨σ4, H4, I4, hw, q4⟩ => ?_
      refine thnF (cok.pt.run _ s4 σ4 H4 _ I4 q4) fun b s5 ⟨H5, I5, q5⟩ => ?_
      have on : ∀ {s' : Shared} {H' : Hp}, Inv X.nox (pins ++ pinsAt fp s3.heap) σ4 H' s' → N1 H' → ∃ m, m < k ∧ ∃ j H', Inv X.nox pins (L2.wipe σ (c.vs ++ allV [])) H' s' ∧ tn j s'.heap ∧ (∀ b ∈ fp, H' b = none) ∧ W1 j m H' := fun {s' H'} I' nx => by
        obtain ⟨m', hm, w'⟩ := hN1 H' nx
        refine ⟨m', hm, j + 1, H', I'.unpinned.weak (by rw [← hw, wipe_length]) (fun j v z => by rw [← hw] at z; exact (wipe_some z).1), T.keep _ _ _ st3 fun b hb o z => (pin_add I' hb z).1, fun b hb => ?_, w'⟩
        obtain ⟨o, z, _⟩ := T.obj _ _ st3 b hb
        exact (pin_add I' hb z).2
      cases b with
      | false =>
        show ∃ m, _
        exact on I5 q5
      | true =>
        show wpAny _ _ (eval elt X.env) _ _ _
        have q5 : te σ4 H5 fun y H7 => ∃ acc, H7 D = some (.lst acc) ∧ acc.length < sizeLine ∧ N1 (upd H7 D (.lst (acc ++ [y]))) := q5
        refine thnF (he.run _ s5 σ4 H5 _ I5 q5) fun z s6 ⟨yv, H6, I6, r6, ac, hD, hz, nx⟩ => ?_
        exact app_ok (X := X.nox) I6 hD hz r6 fun s7 I7 => on I7 nx
  | cons c1 cs ih =>
    intro c d h0 h1 ok R it fp tn J pins s σ H Nx T I st fr ⟨W1, ⟨m0, w0⟩, turn⟩ fin
    have cok := ok c List.mem_cons_self
    have cok1 := ok c1 (List.mem_cons_of_mem _ List.mem_cons_self)
    have g1 : gs[d + 1]? = some c1.c := by
      have z := congrArg (·[0]?) h1
      simpa [List.getElem?_drop] using z
    have g2 : gs.drop (d + 1 + 1) = cs.map Cr.c := by
      have z := congrArg (List.drop 1) h1
      simpa [List.drop_drop] using z
    have fr2 : ∀ {H' : Hp}, (∀ b ∈ fp, H' b = none) → ∀ b ∈ fp, FpOk X.nox pins H' b := fun hn b hb => ⟨hn b hb, (fr b hb).2⟩
    refine loop_mid h0 g1 cok1.hs (fun k s' => ∃ j H', Inv X.nox pins (L2.wipe σ (c.vs ++ allV (c1 :: cs))) H' s' ∧ tn j s'.heap ∧ (∀ b ∈ fp, H' b = none) ∧ W1 j k H') ?_ m0 ⟨0, H, I, st, fun b hb => (fr b hb).1, w0⟩
    rintro k s1 ⟨j, H1, I1, st1, n1, w1⟩
    rcases turn j k H1 w1 with ⟨stop, nx⟩ | ⟨go, N1, hN1, step⟩
    · refine thnF (T.done X.nox rfl rfl rfl hc j pins s1 _ H1 noX I1 (fr2 n1) st1 stop) fun r s2 ⟨hr, I2⟩ => ?_
      subst hr
      exact fin H1 s2 I2 nx
    · refine thnF (T.item X.nox rfl rfl rfl hc j pins s1 _ H1 noX I1 (fr2 n1) st1 go) fun r s2 ⟨u, hr, k2⟩ => ?_
      subst hr
      refine thnF k2 fun _ s3 ⟨x, H3, I3, r3, y3, st3, n3⟩ => ?_
      have P3 := I3.pinned (fr2 n3) (T.obj _ _ st3)
      refine thnF (cok.pg.run _ s3 _ H3 x u _ P3 r3 (step x H3 y3)) fun _ s4 ⟨σ4, H4, I4, hw, q4⟩ => ?_
      refine thnF (cok.pt.run _ s4 σ4 H4 _ I4 q4) fun b s5 ⟨H5, I5, q5⟩ => ?_
      have on : ∀ {σ' : L2.St} {s' : Shared} {H' : Hp}, Inv X.nox (pins ++ pinsAt fp s3.heap) σ' H' s' → σ'.length = σ4.length → (∀ (j : Nat) v, (L2.wipe σ4 (allV (c1 :: cs)))[j]? = some (some v) → σ'[j]? = some (some v)) → N1 H' →
          ∃ m, m < k ∧ ∃ j H', Inv X.nox pins (L2.wipe σ (c.vs ++ allV (c1 :: cs))) H' s' ∧ tn j s'.heap ∧ (∀ b ∈ fp, H' b = none) ∧ W1 j m H' := fun {σ' s' H'} I' hl hk nx => by
        obtain ⟨m', hm, w'⟩ := hN1 H' nx
        refine ⟨m', hm, j + 1, H', I'.unpinned.weak (by rw [← hw, wipe_length, hl]) (fun j v z => ?_), T.keep _ _ _ st3 fun b hb o z => (pin_add I' hb z).1, fun b hb => ?_, w'⟩
        · rw [← hw] at z
          obtain ⟨z1, z2⟩ := wipe_some z
          refine hk j v ?_
          rw [wipe_out fun q => z2 (List.mem_append_right _ q)]
          exact z1
        · obtain ⟨o, z, _⟩ := T.obj _ _ st3 b hb
          exact (pin_add I' hb z).2
      cases b with
      | false =>
        show ∃ m, _
        exact on I5 rfl (fun j v z => (wipe_some z).1) q5
      | true =>
        show wpAny _ _ (eval c1.i X.env) _ _ _
        have q5 : c1.wi σ4 H5 fun J H4 => LoopR c1 (c1.vs ++ allV cs) (tIn te D cs) J σ4 H4 N1 := q5
        refine thnF (cok1.pi.run _ s5 σ4 H5 _ I5 q5) fun xv s6 k6 => thnF k6 fun iv s7 ⟨it1, fp1, tn1, J1, H7, e7, I7, T1, st7, f7, lr⟩ => ?_
        subst e7
        have inner := ih c1 (d + 1) g1 g2 (fun z hz => ok z (List.mem_cons_of_mem _ hz)) (R := fun r s' => match r with
          | .ok _ => ∃ m, m < k ∧ ∃ j H', Inv X.nox pins (L2.wipe σ (c.vs ++ allV (c1 :: cs))) H' s' ∧ tn j s'.heap ∧ (∀ b ∈ fp, H' b = none) ∧ W1 j m H'
          | .error _ => False) T1 (I7.weak (wipe_length _ _) fun j v z => (wipe_some z).1) st7 f7 lr fun H' s' I' nx => on I' (wipe_length _ _) (fun j v z => z) nx
        exact start_mid g1 inner (T1.self X.A 0 _ _ _ st7 inner)
end TC

set_option Elab.async false
set_option linter.all false
set_option maxRecDepth 100000
set_option maxHeartbeats 4000000
namespace TC
open PySem L2 PySem.Spec PyProof.Rows
def tLcN (te : TE) (c0 : Cr) (cs : List Cr) : TE := fun σ H Q => c0.wi σ H fun J H1 => ∀ D, H1 D = none → LoopR c0 (c0.vs ++ allV cs) (tIn te D cs) J σ (upd H1 D (.lst [])) fun H' => Q (.ref D) H'
/-- what is asked of the clauses within the block -/
structure NestOk (X : Cx) (elt : Expr) (scope : Scope) (te : TE) (c0 : Cr) (cs : List Cr) : Prop where
  pg : ∀ (s : Shared) (H : Hp) (D : Addr) (cl : List (Str × Addr)) (fp : List Addr), PG (X.blk s H scope (compEnvC scope cl D X.env) fp) c0.t c0.g
  pt : ∀ (s : Shared) (H : Hp) (D : Addr) (cl : List (Str × Addr)) (fp : List Addr), PTs (X.blk s H scope (compEnvC scope cl D X.env) fp) c0.ifs c0.tt
  cs : ∀ (s : Shared) (H : Hp) (D : Addr) (cl : List (Str × Addr)) (fp : List Addr), ∀ c ∈ cs, CrOk (X.blk s H scope (compEnvC scope cl D X.env) fp) c
  te : ∀ (s : Shared) (H : Hp) (D : Addr) (cl : List (Str × Addr)) (fp : List Addr), PE (X.blk s H scope (compEnvC scope cl D X.env) fp) elt te
  hs : ∀ env x, foldedSetIterable c0.i env x = pure x
section
variable {X : Cx} {elt : Expr} {scope : Scope} {own : List (Str × Nat)} {pos : Pos} {te : TE} {c0 : Cr} {cs : List Cr}
theorem nest_core {pins : List (Addr × Obj)} {s : Shared} {σ : L2.St} {H : Hp} {Q : VK} {pos' : Pos} {use : Option (Value → Sem Unit)} {Qf : Value → Shared → Prop} (hc : X.calm = true) (hN : X.N.Nodup) (I : Inv X pins σ H s) (hi : PI X c0.t c0.i c0.wi) (ok : BlkOk X.N X.env.scope scope own)
    (hV : own.map (·.2) = c0.vs ++ allV cs) (B : NestOk X elt scope te c0 cs) (h : tLcN te c0 cs σ H Q)
    (hRR : ∀ D C s' m H', Inv X pins σ H' s' → Q (.ref D) H' → s'.heap.Ns C m → FpOk X pins H' C → compPost (model X.prog X.w) X.A X.xe use Qf (.ref D) C (.ok .next) s') :
    wpAny (model X.prog X.w) X.A (comprehension (.ListComp elt (c0.c :: cs.map Cr.c) scope pos) scope X.env pos' (newList []) false (eval c0.i X.env) use) Qf X.xe s := by
  have free : ∀ y ∈ scope.names, y.2 = .free → ∃ c, X.env.cells.lookup y.1 = some c := fun y hy e => (ok.free y hy e).elim (fun k => I.ok.has _ (.inl k)) fun k => I.ok.has _ (.inr k)
  refine wpAny_comprehension_free (g := c0.c) (gs := cs.map Cr.c) (use := use) rfl (fun x => B.hs _ x) (closure_ok free) ok.kind (fun y hy e => by rw [ok.uniq y hy, e]) (thn (hi.run pins s σ H _ I h) fun xv s1 k1 => thn k1 fun iv s2 ⟨it, fp, tn, J, H2, e2, I2, T, st2, f2, q⟩ => ?_)
  subst e2
  refine wpAny_newObj_type (newEnv_comp ?_) (by show 0 ≤ sizeLine; decide)
  generalize eD : s2.heap.objs.size = D
  have nD : H2 D = none := I2.hok.fresh (Nat.le_of_eq eD)
  have lr := q D nD
  generalize e3 : ({ s2 with heap := s2.heap.push { cls := .type "list", data := .seq ([] : List Value).toArray } } : Shared) = s3
  have h3 : s3.heap = s2.heap.push { cls := .type "list", data := .seq ([] : List Value).toArray } := by rw [← e3]
  have at3 : ∀ b u, s2.heap.get? b = some u → s3.heap.get? b = some u := fun b u z => by
    rw [h3]
    exact Heap.get?_push_of_some _ z
  have I3 : Inv X pins σ (upd H2 D (.lst [])) s3 := by
    have z := I2.laid (h' := s3.heap) (t' := s2.toks) (o := .lst []) at3 (Nat.le_of_eq eD) ⟨Nat.zero_le _, [], 0, .nil, by
      rw [h3, ← eD]
      exact Heap.get?_push_size _ rfl⟩
    rw [← e3] at z ⊢
    exact z
  have lt : ∀ b ∈ fp, b < s2.heap.objs.size := fun b hb => by
    obtain ⟨o, z, _⟩ := T.obj _ _ st2 b hb
    exact Heap.lt_size z
  have f3 : ∀ b ∈ fp, FpOk X pins (upd H2 D (.lst [])) b ∧ b < s3.heap.objs.size := fun b hb => by
    have l1 := lt b hb
    refine ⟨⟨?_, (f2 b hb).2⟩, ?_⟩
    · rw [upd_ne (fun z => absurd l1 (by rw [z, eD]; exact Nat.lt_irrefl _))]
      exact (f2 b hb).1
    · rw [h3, Heap.size_push]
      exact Nat.lt_succ_of_lt l1
  have st3 : tn 0 s3.heap := T.keep _ _ _ st2 fun b _ o z => at3 b o z
  have I4 := block_start I3 ok hN f3
  generalize e4 : cellsFrom (s3.heap.objs.size + 1) scope.names (cloFrom X.env.cells scope.names []) = cl at I4
  show codeAny _ _ (.compStart (.ListComp elt (c0.c :: cs.map Cr.c) scope pos) 0 (.ref it) (.ref D) (compEnvC scope cl s3.heap.objs.size X.env)) (compPost (model X.prog X.w) X.A X.xe use Qf (.ref D) s3.heap.objs.size) { s3 with heap := pushCells (s3.heap.push { cls := .type "dict", data := .dict #[] }) scope.names }
  have b1 := B.pg s3 (upd H2 D (.lst [])) s3.heap.objs.size cl fp
  have b2 := B.pt s3 (upd H2 D (.lst [])) s3.heap.objs.size cl fp
  have b3 := B.cs s3 (upd H2 D (.lst [])) s3.heap.objs.size cl fp
  have b4 := B.te s3 (upd H2 D (.lst [])) s3.heap.objs.size cl fp
  generalize eE : compEnvC scope cl s3.heap.objs.size X.env = ce at I4 b1 b2 b3 b4 ⊢
  have cL : ce.locals = s3.heap.objs.size := by rw [← eE]; rfl
  generalize e5 : ({ s3 with heap := pushCells (s3.heap.push { cls := .type "dict", data := .dict #[] }) scope.names } : Shared) = s4 at I4 ⊢
  have st4 : tn 0 s4.heap := T.keep _ _ _ st3 fun b _ o z => by
    rw [← e5]
    exact pushCells_keeps _ _ _ _ (Heap.get?_push_of_some _ z)
  rw [hV] at I4
  have fr : ∀ b ∈ fp, FpOk (X.blk s3 (upd H2 D (.lst [])) scope ce fp) [] (upd H2 D (.lst [])) b := fun b hb =>
    ⟨(f3 b hb).1.1, (I4.ok.exf b hb).1, I4.ok.exfs b hb, .inl hb, fun x c z => (I4.ok.exf b hb).2 x c z, fun p hp => (List.not_mem_nil (show p ∈ ([] : List (Addr × Obj)) from hp)).elim⟩
  have loop : codeAny (model X.prog X.w) X.A (.compLoop (.ListComp elt (c0.c :: cs.map Cr.c) scope pos) 0 (.ref it) (.ref D) ce) (compPost (model X.prog X.w) X.A X.xe use Qf (.ref D) s3.heap.objs.size) s4 := by
    refine loopC (X := X.blk s3 (upd H2 D (.lst [])) scope ce fp) hc b4 cs { c0 with wi := fun _ _ _ => False } 0 rfl rfl (fun z hz => ?_) T I4 st4 fr lr fun H' s' I' q' => ?_
    · rcases List.mem_cons.mp hz with hz | hz
      · rw [hz]
        exact ⟨⟨fun _ _ _ _ _ _ z => z.elim⟩, b1, b2, fun x => B.hs _ x⟩
      · exact b3 z hz
    · have I7 : Inv X pins σ H' s' := I3.call' (ch := fp) I'.os I'.base I'.hok I'.bare fun b hb => ⟨(f3 b hb).1.2.2.2.1, (f3 b hb).1.2.1, (f3 b hb).1.2.2.2.2.1, (f3 b hb).1.2.2.2.2.2⟩
      have nC : H' s3.heap.objs.size = none := by
        have z : H' ce.locals = none := I'.free
        rwa [cL] at z
      obtain ⟨m, hn, _⟩ := I'.loc
      have hn : s'.heap.Ns ce.locals m := hn
      rw [cL] at hn
      exact hRR D _ s' m H' I7 q' hn (I3.fpOk (Nat.le_refl _) nC)
  exact codeAny_compStart_list loop (T.self X.A 0 _ _ _ st4 loop)
theorem pe_nest (hc : X.calm = true) (hN : X.N.Nodup) (hi : PI X c0.t c0.i c0.wi) (ok : BlkOk X.N X.env.scope scope own) (hV : own.map (·.2) = c0.vs ++ allV cs) (B : NestOk X elt scope te c0 cs) : PE X (.ListComp elt (c0.c :: cs.map Cr.c) scope pos) (tLcN te c0 cs) := by
  refine ⟨fun pins s σ H Q I h => ?_⟩
  rw [eval_ListComp]
  refine nest_core hc hN I hi ok hV B h fun D C s' m H' I' q hn f => ⟨m, hn, fun h2 sb => ?_⟩
  obtain ⟨k0, k1, k2, k3, k4, k5⟩ := f
  exact ⟨.ref D, H', I'.turned (t' := s'.toks) (fun b o hb z => (sb.2 b hb).trans z) k0 k1 k3 k4 k5, rfl, q⟩
theorem ps_nest {i : Nat} {y : Str} {py spos : Pos} (hc : X.calm = true) (hN : X.N.Nodup) (hy : X.N[i]? = some y) (hyl : X.env.scope.names.lookup y = some .local) (hsw : swapsWith (.ListComp elt (c0.c :: cs.map Cr.c) scope pos) (some (.Name y py)) spos.line X.env = pure true)
    (hi : PI X c0.t c0.i c0.wi) (ok : BlkOk X.N X.env.scope scope own) (hV : own.map (·.2) = c0.vs ++ allV cs) (B : NestOk X elt scope te c0 cs) : PS X (.Assign [.Name y py] (.ListComp elt (c0.c :: cs.map Cr.c) scope pos) spos) (tAsg (tLcN te c0 cs) (gName i)) := by
  refine ⟨fun pins s σ H D I h => ?_⟩
  rw [exec_Assign_Name_used _ _ _ _ hsw]
  refine wpAny_bind (wpAny_standAt (wpAny_bind ?_))
  show wpAny _ X.A (do let _ ← comprehension (.ListComp elt (c0.c :: cs.map Cr.c) scope pos) scope X.env (firstIterPos (c0.c :: cs.map Cr.c) pos) (newList []) false (eval c0.i X.env) (some (assign (.Name y py) X.env))) _ _ s
  have h : tLcN te c0 cs σ H (fun x H1 => gName i x σ H1 D.nx) := h
  refine wpAny_bind (thn (nest_core (Qf := fun _ s' => SP X pins D .next s') hc hN I hi ok hV B h fun L C s' m H' I' q hn f => ?_) fun _ s' hq => wpAny_pure (wpAny_pure hq))
  show wpAny _ _ (assign (.Name y py) X.env (.ref L)) _ _ _
  obtain ⟨k0, k1, k2, k3, k4, k5⟩ := f
  refine wpAny_assign_Name (store_ok2 (v := V.ref L) I' hN hy (.inl hyl) rfl (fun s2 I2 ⟨a, sb, ha⟩ => ?_) (.inr hyl))
  have ne : C ≠ a := ha.elim (fun z => by rw [z]; exact k1) fun z e => k4 y a z e.symm
  exact ⟨m, hn.sameBut sb ne, fun h3 sb3 => ⟨_, H', I2.turned (t' := s2.toks) (fun b o hb z => (sb3.2 b hb).trans z) k0 k1 k3 k4 k5, q⟩⟩
end
end TC

set_option Elab.async false
set_option linter.all false
set_option maxRecDepth 100000
set_option maxHeartbeats 4000000
namespace TC
open PySem L2 PySem.Spec
section
variable {C : Ctx} {W : WX} {X : Cx} {σ : L2.St} {e : En} {b : Nat} {R : List Addr} {G H : Hp} {D : Addr}
/-- a target takes a value, whatever is known of the slots -/
theorem gs_any {N : List Str} {sc : Scope} {ol : Option (List Nat)} {P : L2.St → En → Prop} (hP : ∀ σ e i v d, P σ e → Dq C.K G v d → P (σ.set i (some v)) (e.set i (.fz (.d d)))) (sub : Sub G H) : ∀ {ts : Ts} {ds : List PyData} {e e2 : En} {σ : L2.St} {xs : List V} {Q : L2.St → Hp → Prop},
    bindTs ts ds e = .ret e2 → ts.ok N sc ol = true → P σ e → DqAll C.K G xs ds → (∀ σ2, P σ2 e2 → (∀ l, ol = some l → ∀ m, (∀ i ∈ l, i ∈ m) → L2.wipe σ2 m = L2.wipe σ m) → Q σ2 H) → gTs C.K ts xs σ H Q ∧ xs.length = ts.len
  | .nil, [], e, e2, σ, xs, Q, h, _, S, r, m => by
    cases r
    injection h with h
    subst h
    exact ⟨⟨rfl, m σ S fun _ _ _ _ => rfl⟩, rfl⟩
  | .cons i x p ts, d :: ds, e, e2, σ, xs, Q, h, o, S, r, m => by
    cases r with
    | cons r rs =>
    unfold Ts.ok at o
    rw [Bool.and_eq_true, Bool.and_eq_true, Bool.and_eq_true] at o
    have z := gs_any hP sub (Q := Q) (show bindTs ts ds (e.set i (.fz (.d d))) = .ret e2 from h) o.2 (hP σ e i _ d S r) rs fun σ2 S2 w => m σ2 S2 fun l hl k hk => by
      have oi := o.1.2
      rw [hl] at oi
      rw [w l hl k hk, wipe_set (hk _ (of_decide_eq_true oi))]
    exact ⟨⟨_, _, rfl, z.1⟩, congrArg (· + 1) z.2⟩
  | .nest ts1 k p ts, .tuple ds1 :: ds, e, e2, σ, xs, Q, h, o, S, r, m => by
    cases r with
    | cons r rs =>
    unfold Ts.ok at o
    rw [Bool.and_eq_true] at o
    obtain ⟨e1, z1, z2⟩ := nest_ret h
    cases r with
    | tup h1 h2 =>
      have ln := bindTs_len z2
      rw [← dps_length rs] at ln
      have z := gs_any hP sub (Q := fun σ' H' => gTs C.K ts _ σ' H' Q) z1 o.1 S h2 fun σ1 S1 w1 => (gs_any hP sub (Q := Q) z2 o.2 S1 rs fun σ2 S2 w2 => m σ2 S2 fun l hl m hm => (w2 l hl m hm).trans (w1 l hl m hm)).1
      exact ⟨⟨_, _, rfl, _, _, rfl, sub.sqT h1, z.2, z.1⟩, congrArg (· + 1) ln⟩
theorem g_any {N : List Str} {sc : Scope} {ol : Option (List Nat)} {P : L2.St → En → Prop} (hP : ∀ σ e i v d, P σ e → Dq C.K G v d → P (σ.set i (some v)) (e.set i (.fz (.d d)))) {t : Tt} {d : PyData} {e e2 : En} {σ : L2.St} {v : V} {Q : L2.St → Hp → Prop}
    (sub : Sub G H) (h : bindT t d e = .ret e2) (o : t.ok N sc ol = true) (S : P σ e) (r : Dq C.K G v d) (m : ∀ σ2, P σ2 e2 → (∀ l, ol = some l → ∀ m, (∀ i ∈ l, i ∈ m) → L2.wipe σ2 m = L2.wipe σ m) → Q σ2 H) : gT C.K t v σ H Q := by
  cases t with
  | nm i x p =>
    unfold Tt.ok at o
    rw [Bool.and_eq_true, Bool.and_eq_true] at o
    injection h with h
    subst h
    exact m _ (hP σ e i v d S r) fun l hl k hk => by
      have oi := o.2
      rw [hl] at oi
      exact wipe_set (hk _ (of_decide_eq_true oi))
  | tp ts k p =>
    cases d with
    | tuple ds =>
      cases r with
      | tup h1 h2 =>
        have z := gs_any hP (H := H) sub (Q := Q) h o S h2 m
        exact ⟨_, _, rfl, sub.sqT h1, z.2, z.1⟩
    | _ => cases h
/-! ### a frame beside a list that is being filled -/
structure LS (C : Ctx) (σ : L2.St) (e : En) (D : Addr) (b : Nat) (R : List Addr) (G H : Hp) (acc : List V) (as : List PyData) : Prop where
  st : St C b R G σ (hide H D) e
  at_ : H D = some (.lst acc)
  d : DqAll C.K G acc as
variable {acc : List V} {as : List PyData}
theorem LS.g (S : LS C σ e D b R G H acc as) : G D = none := S.st.bs.gnone hide_self
theorem LS.r (S : LS C σ e D b R G H acc as) : D ∉ R := S.st.bs.rnone hide_self
theorem unhide_bs (B : Bs C b R G (hide H D)) : Bs C b R G H := by
  have k : ∀ a u, hide H D a = some u → H a = some u := fun a u h => by
    have ne : a ≠ D := ne_of_none h hide_self
    rwa [hide_ne ne] at h
  refine ⟨fun a u h => k a u (B.sub a u h), C.rg.fr B.rg fun a ha => ?_, B.dis⟩
  have ne : a ≠ D := fun z => C.rg.hv B.rg a ha (by rw [z]; exact hide_self)
  rw [hide_ne ne]
theorem stp_un : Stp R G (hide H D) R G H := by
  refine ⟨fun _ _ z => z, fun a u h _ => ?_, fun _ z => .inl z, fun _ _ _ _ z => z, fun a z => ?_⟩
  · have ne : a ≠ D := ne_of_none h hide_self
    rwa [hide_ne ne] at h
  · unfold TC.hide
    split
    · rfl
    · exact z
theorem LS.open (S : LS C σ e D b R G H acc as) : St C b R G σ H e := S.st.stp stp_un (unhide_bs S.st.bs)
theorem stp_hide {R' : List Addr} {G' H' : Hp} (s : Stp R G H R' G' H') (r : D ∉ R) (h : H D ≠ none) : Stp R G (hide H D) R' G' (hide H' D) := by
  refine ⟨s.g, fun a u z n => ?_, fun a z => ?_, fun a u z n g => ?_, fun a z => ?_⟩
  · have ne : a ≠ D := ne_of_none z hide_self
    rw [hide_ne ne] at z ⊢
    exact s.k a u z n
  · rcases s.r a z with q | q
    · exact .inl q
    · have ne : a ≠ D := fun c => h (c ▸ q)
      rw [hide_ne ne]
      exact .inr q
  · have ne : a ≠ D := ne_of_none z hide_self
    rw [hide_ne ne] at z
    exact s.o a u z n g
  · by_cases c : a = D
    · rw [c]
      exact hide_self
    · rw [hide_ne c] at z ⊢
      exact s.h a z
theorem LS.step {b' : Nat} {R' : List Addr} {G' H' : Hp} (S : LS C σ e D b R G H acc as) (s : Stp R G H R' G' H') (B : Bs C b' R' G' H') : LS C σ e D b' R' G' H' acc as ∧ Stp R G (hide H D) R' G' (hide H' D) := by
  have hs := stp_hide s S.r (by rw [S.at_]; exact nofun)
  have a' := s.k D _ S.at_ S.r
  refine ⟨⟨S.st.stp hs (B.hide (s.o D _ S.at_ S.r S.g) (s.notin S.at_ S.r)), a', s.g.dps S.d⟩, hs⟩
theorem hide_upd {o : HO} : hide (upd H D o) D = hide H D := by
  funext a
  by_cases c : a = D
  · rw [c, hide_self, hide_self]
  · rw [hide_ne c, hide_ne c, upd_ne c]
/-! ### the clauses within -/
def Ecs.crs (C : Ctx) : Ecs → List Cr
  | .nil => []
  | .cons t it o vs cs => ⟨t.em, it.em, o.ems, tI C noW (it.ev C.cl), gT C.K t, tYs C noW (o.evT C.cl), vs⟩ :: cs.crs C
theorem crs_allV (C : Ctx) : ∀ cs : Ecs, TC.allV (cs.crs C) = cs.allV
  | .nil => rfl
  | .cons t it o vs cs => by
    show vs ++ TC.allV (cs.crs C) = vs ++ cs.allV
    rw [crs_allV C cs]
theorem crs_em (C : Ctx) : ∀ cs : Ecs, (cs.crs C).map Cr.c = cs.em
  | .nil => rfl
  | .cons t it o vs cs => by
    show _ :: (cs.crs C).map Cr.c = _ :: cs.em
    rw [crs_em C cs]
    rfl
/-- checks on the targets within -/
def Ecs.tok (N : List Str) (sc2 : Scope) : Ecs → Prop
  | .nil => True
  | .cons t _ _ vs cs => t.ok N sc2 (some vs) = true ∧ cs.tok N sc2
/-- behind the clauses: rs has been put to the list -/
def Put (C : Ctx) (D : Addr) (R : List Addr) (G H : Hp) (acc : List V) (as : List PyData) (k : Nat) (Nx : Hp → Prop) (b2 : Nat) (rs : List PyData) : Prop :=
  ∀ R2 G2 H2 vs, Stp R G (hide H D) R2 G2 (hide H2 D) → Bs C b2 R2 G2 (hide H2 D) → H2 D = some (.lst (acc ++ vs)) → DqAll C.K G2 (acc ++ vs) (as ++ rs) → vs.length ≤ k → Nx H2
def capN : Nat → Nat
  | 0 => 1
  | n + 1 => limW n * capN n
theorem limS_run {n : Nat} {ds : List PyData} {α : Type} {f : List PyData → Comp α} {P : Nat → α → Prop} (h : ((limS n ds).bind f).wp b P fun _ _ => False) : ds.length ≤ limW n ∧ (f ds).wp b P fun _ _ => False := by
  unfold limS at h
  by_cases c : ds.length ≤ limW n
  · rw [if_pos c] at h
    exact ⟨c, h⟩
  · rw [if_neg c] at h
    exact h.elim
/-- one clause's loop; bd: what is within it -/
theorem loop_red {N : List Str} {sc2 : Scope} {t : Tt} {o : Eo} {V vs : List Nat} (hV : ∀ i ∈ vs, i ∈ V) (ht : t.ok N sc2 (some vs) = true) {k L : Nat} {fb : En → Comp (List PyData)} {bd : L2.St → Hp → (Hp → Prop) → Prop}
    (red : ∀ {σ e b R G H acc as} {Nx : Hp → Prop}, LS C σ e D b R G H acc as → acc.length + k ≤ sizeLine → (fb e).wp b (Put C D R G H acc as k Nx) (fun _ _ => False) → bd σ H Nx)
    {c : Cr} (cg : c.g = gT C.K t) (ct : c.tt = tYs C noW (o.evT C.cl)) {J : It} {ds : List PyData} (wk : Wk C J G ds) (S : LS C (L2.wipe σ V) (wipeE e V) D b R G H acc as) (hl : ds.length ≤ L) (room : acc.length + L * k ≤ sizeLine) {Nx : Hp → Prop}
    (h : (flatC (fun d => (bindT t d (wipeE e V)).bind fun e2 => (o.evT C.cl e2).bind fun b => if b then fb e2 else .ret []) ds).wp b (Put C D R G H acc as (L * k) Nx) fun _ _ => False) : LoopR c V bd J σ H Nx := by
  generalize hf : (fun d => (bindT t d (wipeE e V)).bind fun e2 => (o.evT C.cl e2).bind fun b => if b then fb e2 else .ret []) = f at h
  refine ⟨fun j m H1 => m = ds.length - j ∧ j ≤ ds.length ∧ ∃ b1 R1 G1 us rs, LS C (L2.wipe σ V) (wipeE e V) D b1 R1 G1 H1 (acc ++ us) (as ++ rs) ∧ Stp R G (hide H D) R1 G1 (hide H1 D) ∧ us.length ≤ j * k ∧
    (flatC f (ds.drop j)).wp b1 (fun b2 r2 => Put C D R G H acc as (L * k) Nx b2 (rs ++ r2)) fun _ _ => False, ⟨ds.length, by simp, Nat.zero_le _, b, R, G, [], [], by rw [List.append_nil, List.append_nil]; exact S, .refl, by simp, h⟩, ?_⟩
  rintro j m H1 ⟨rfl, hj, b1, R1, G1, us, rs, S1, s1, lu, w⟩
  have sub : Sub G H1 := fun a u z => S1.open.bs.sub a u (s1.g a u z)
  by_cases hlt : j < ds.length
  · refine .inr ⟨wk.go j H1 hlt sub, fun H' => ∃ b1 R1 G1 us rs, LS C (L2.wipe σ V) (wipeE e V) D b1 R1 G1 H' (acc ++ us) (as ++ rs) ∧ Stp R G (hide H D) R1 G1 (hide H' D) ∧ us.length ≤ (j + 1) * k ∧
      (flatC f (ds.drop (j + 1))).wp b1 (fun b2 r2 => Put C D R G H acc as (L * k) Nx b2 (rs ++ r2)) fun _ _ => False, fun H' z => ⟨ds.length - (j + 1), by omega, rfl, hlt, z⟩, fun x H' y => ?_⟩
    obtain ⟨G2, s2, S2, rx⟩ := com_st S1.open s1.g (wk.yld j H1 x H' _ (List.getElem?_eq_getElem hlt) sub y)
    obtain ⟨L2', hs2⟩ := S1.step s2 S2.bs
    rw [List.drop_eq_getElem_cons hlt] at w
    have w := Comp.wp_bind.mp (show ((f ds[j]).bind fun r => (flatC f (ds.drop (j + 1))).bind fun rs => .ret (r ++ rs)).wp _ _ _ from w)
    subst hf
    have w : ((bindT t ds[j] (wipeE e V)).bind fun e2 => (o.evT C.cl e2).bind fun b => if b then fb e2 else .ret []).wp _ _ _ := w
    rw [cg, ct]
    rcases bindT_form t ds[j] (wipeE e V) with ⟨e2, hb⟩ | hb
    · rw [hb] at w
      refine g_any (P := fun σ e => St C b1 R1 G2 σ (hide H' D) e) (fun σ e i v d z r => z.setF (w := .d d) r) S2.bs.sub hb ht L2'.st rx fun σ2 S3 hw => ⟨?_, ?_⟩
      · rw [hw _ rfl V hV]
        have : ∀ us vs : List Nat, (∀ u ∈ us, u ∈ vs) → L2.wipe (L2.wipe σ us) vs = L2.wipe σ vs := fun us => by
          induction us with
          | nil => exact fun _ _ => rfl
          | cons u us ih =>
            intro vs h
            show L2.wipe ((L2.wipe σ us).set u none) vs = _
            rw [wipe_set (h u List.mem_cons_self), ih vs fun z hz => h z (List.mem_cons_of_mem _ hz)]
        exact this V V fun _ h => h
      · have L3 : LS C σ2 e2 D b1 R1 G2 H' (acc ++ us) (as ++ rs) := ⟨S3, L2'.at_, L2'.d⟩
        have w := Comp.wp_bind.mp (show Comp.wp ((o.evT C.cl e2).bind fun b => if b then fb e2 else .ret []) _ _ _ from w)
        have w : Run C noW σ2 e2 b1 R1 G2 H' (o.evT C.cl e2) (fun b' _ _ _ t => Comp.wp (if t then fb e2 else .ret []) b' _ _) := Comp.wp_mono w (fun b2 a q _ _ _ _ _ => q) fun _ _ z => z.elim
        refine ⟨b1, R1, G2, e2, L3.open, w.mono fun b3 R3 G3 H3 tt s3 S4 w2 => ?_⟩
        obtain ⟨L4, hs4⟩ := L3.step s3 S4.bs
        have chain := s1.trans (hs2.trans hs4)
        -- back to the slots ahead of the turn
        have back : ∀ {b5 R5 G5 H5}, Stp R3 G3 (hide H3 D) R5 G5 (hide H5 D) → Bs C b5 R5 G5 (hide H5 D) → St C b5 R5 G5 (L2.wipe σ V) (hide H5 D) (wipeE e V) := fun {b5 R5 G5 H5} s5 B5 => S1.st.stp (hs2.trans (hs4.trans s5)) B5
        cases tt with
        | true =>
          rw [if_pos rfl] at w2
          show ite _ _ _
          rw [if_pos rfl]
          refine red L4 ?_ (Comp.wp_mono w2 (fun b5 r5 q5 R5 G5 H5 vs s5 B5 a5 d5 l5 => ?_) fun _ _ z => z)
          · rw [List.length_append]
            have : j * k + k ≤ L * k := by
              rw [← Nat.succ_mul]
              exact Nat.mul_le_mul_right _ (by omega)
            omega
          · refine ⟨b5, R5, G5, us ++ vs, rs ++ r5, ⟨back s5 B5, by rw [← List.append_assoc]; exact a5, by rw [← List.append_assoc, ← List.append_assoc]; exact d5⟩, chain.trans s5, by rw [List.length_append, Nat.succ_mul]; omega, ?_⟩
            refine Comp.wp_mono (Comp.wp_bind.mp q5) (fun b6 r6 z => ?_) fun _ _ z => z
            rw [List.append_assoc]
            exact z
        | false =>
          rw [if_neg (by decide)] at w2
          show ite _ _ _
          rw [if_neg (by decide)]
          exact ⟨b3, R3, G3, us, rs, ⟨back .refl L4.st.bs, L4.at_, L4.d⟩, chain, by rw [Nat.succ_mul]; omega, Comp.wp_bind.mp w2⟩
    · rw [hb] at w
      exact w.elim
  · have ej : j = ds.length := by omega
    subst ej
    rw [List.drop_length] at w
    refine .inl ⟨wk.stop _ H1 (Nat.le_refl _) sub, ?_⟩
    have w : Put C D R G H acc as (L * k) Nx b1 (rs ++ []) := w
    rw [List.append_nil] at w
    exact w R1 G1 H1 us s1 S1.st.bs S1.at_ S1.d (Nat.le_trans lu (Nat.mul_le_mul_right _ hl))
theorem nest_red {N : List Str} {sc2 : Scope} {f : En → Comp Wd} {te : TE} (hte : ∀ σ H Q, tX C noW f σ H Q → te σ H Q) : ∀ (cs : Ecs) {σ : L2.St} {e : En} {b : Nat} {R : List Addr} {G H : Hp} {acc : List V} {as : List PyData} {Nx : Hp → Prop}, cs.tok N sc2 → LS C σ e D b R G H acc as → acc.length + capN cs.len ≤ sizeLine →
    (cs.ev C.cl f e).wp b (Put C D R G H acc as (capN cs.len) Nx) (fun _ _ => False) → tIn te D (cs.crs C) σ H Nx
  | .nil, σ, e, b, R, G, H, acc, as, Nx, _, S, room, w => by
    have w := Comp.wp_bind.mp (show Comp.wp ((dD (f e)).bind fun y => .ret [y]) _ _ _ from w)
    have w : Run C noW σ e b R G H (dD (f e)) (fun b' _ _ _ y => Put C D R G H acc as (capN Ecs.nil.len) Nx b' [y]) := Comp.wp_mono w (fun b2 a q _ _ _ _ _ => q) fun _ _ z => z.elim
    refine hte _ _ _ (tX.of S.open w.dD fun b2 R2 G2 H2 w2 v s2 S2 r ⟨y, ew, q⟩ => ?_)
    subst ew
    obtain ⟨L2', hs⟩ := S.step s2 S2.bs
    refine ⟨acc, L2'.at_, by show acc.length < sizeLine; have z : acc.length + 1 ≤ sizeLine := room; omega, ?_⟩
    exact q R2 G2 _ [v] (by rw [hide_upd]; exact hs) (by rw [hide_upd]; exact L2'.st.bs) upd_same (dps_append L2'.d (.cons r .nil)) (Nat.le_refl _)
  | .cons t it o vs cs, σ, e, b, R, G, H, acc, as, Nx, ht, S, room, w => by
    have w := Comp.wp_bind.mp (show Comp.wp ((it.ev C.cl e).bind _) _ _ _ from w)
    have w : Run C noW σ e b R G H (it.ev C.cl e) (fun b' _ _ _ ds => Comp.wp _ b' _ _) := Comp.wp_mono w (fun b2 a q _ _ _ _ _ => q) fun _ _ z => z.elim
    refine ⟨b, R, G, e, S.open, w.mono fun b2 R2 G2 H2 ds s2 S2 q _ J wk => ?_⟩
    obtain ⟨hl, q⟩ := limS_run q
    obtain ⟨L2', hs⟩ := S.step s2 S2.bs
    have e20 : limW cs.len * capN cs.len = capN (Ecs.cons t it o vs cs).len := rfl
    rw [crs_allV]
    have L3 : LS C (L2.wipe σ (vs ++ cs.allV)) (wipeE e (vs ++ cs.allV)) D b2 R2 G2 H2 acc as := ⟨L2'.st.wipe _, L2'.at_, L2'.d⟩
    refine loop_red (N := N) (sc2 := sc2) (vs := vs) (o := o) (t := t) (k := capN cs.len) (fb := cs.ev C.cl f) (fun i hi => List.mem_append_left _ hi) ht.1 (fun {σ e b R G H acc as Nx} S r w => nest_red hte cs ht.2 S r w) rfl rfl wk L3 hl (by rw [e20]; exact room) ?_
    rw [e20]
    exact Comp.wp_mono q (fun b5 r5 z R5 G5 H5 us s5 B5 a5 d5 l5 => z R5 G5 H5 us (hs.trans s5) B5 a5 d5 l5) fun _ _ z => z
end
end TC

set_option Elab.async false
set_option linter.all false
set_option maxRecDepth 100000
set_option maxHeartbeats 4000000
namespace TC
open PySem L2 PySem.Spec
section
variable {C : Ctx} {W : WX} {X : Cx} {σ : L2.St} {e : En} {b : Nat} {R : List Addr} {G H : Hp} {D : Addr}
theorem hide_new {o : HO} (n : H D = none) : hide (upd H D o) D = H := by
  funext a
  by_cases c : a = D
  · rw [c, hide_self, n]
  · rw [hide_ne c, upd_ne c]
/-- the first clause -/
def cr0 (C : Ctx) (W : WX) (t : Tt) (it : Ei) (o : Eo) (vs : List Nat) : Cr := ⟨t.em, it.em, o.ems, tI C W (it.ev C.cl), gT C.K t, tYs C noW (o.evT C.cl), vs⟩
theorem len20 {n : Nat} (h : n ≤ 3) : limW n * capN n ≤ sizeLine := by
  have hn : n = 0 ∨ n = 1 ∨ n = 2 ∨ n = 3 := by omega
  rcases hn with rfl | rfl | rfl | rfl <;> decide +kernel
theorem lcs_red {a : Ee} {t : Tt} {it : Ei} {o : Eo} {vs : List Nat} {cs : Ecs} {own : List (Str × Nat)} {sc2 : Scope} {p : Pos} {N : List Str} (ht : t.ok N sc2 (some vs) = true) (hts : cs.tok N sc2) (h3 : cs.len ≤ 3) {Q : VK}
    (h : tF C W ((Ef.lcs a t it o vs cs own sc2 p).ev C.cl) σ H Q) : tLcN (tX C noW (a.ev C.cl)) (cr0 C W t it o vs) (cs.crs C) σ H Q := by
  obtain ⟨b, R, G, e, S, h⟩ := h
  refine ⟨b, R, G, e, S, (Run.bind h).mono fun b1 R1 G1 H1 ds s1 S1 q _ J wk D n => ?_⟩
  have q : Run C W σ e b1 R1 G1 H1 ((limS cs.len ds).bind fun ds => nox (flatC _ ds)) _ := q
  have hl : ds.length ≤ limW cs.len := by
    unfold limS at q
    by_cases c : ds.length ≤ limW cs.len
    · exact c
    · rw [if_neg c] at q
      exact q.elim
  unfold limS at q
  rw [if_pos hl] at q
  have q := wp_nox (show Comp.wp _ _ _ _ from q)
  have S2 : LS C (L2.wipe σ (vs ++ cs.allV)) (wipeE e (vs ++ cs.allV)) D b1 R1 G1 (upd H1 D (.lst [])) [] [] := ⟨by rw [hide_new n]; exact S1.wipe _, upd_same, .nil⟩
  show LoopR _ (vs ++ allV (cs.crs C)) _ _ _ _ _
  rw [crs_allV]
  refine loop_red (N := N) (sc2 := sc2) (vs := vs) (o := o) (t := t) (k := capN cs.len) (fb := cs.ev C.cl fun e3 => a.ev C.cl e3) (fun i hi => List.mem_append_left _ hi) ht (fun {σ e b R G H acc as Nx} S r w => nest_red (fun _ _ _ z => z) cs hts S r w) rfl rfl wk S2 hl (by have := len20 h3; simpa using this) ?_
  refine Comp.wp_mono q (fun b5 rs z R2 G2 H2 vs s5 B5 a5 d5 _ => ?_) fun _ _ z => z
  rw [hide_new n] at s5
  have S5 := S1.stp s5 B5
  exact z R2 G2 _ s5 S5 D H2 hide_self stp_un (S5.stp stp_un (unhide_bs B5)) ⟨vs, a5, d5⟩
theorem pg_ofC {X : Cx} {sc : Scope} {vs : Option (List Nat)} {K : PySem.W.Frag} (hK : X.K = K) (hc : X.calm = true) (hN : X.N.Nodup) (hn : ∀ x, locB sc x = true → Loc X.env.scope x ∧ (X.fn x = true ∨ X.env.scope.names.lookup x = some .local)) (t : Tt) (h : t.ok X.N sc vs = true) : PG X t.em (gT K t) := by
  rw [← hK]
  exact pg_of hc hN hn t h
/-- the parts of the block -/
structure LcsB (C : Ctx) (X : Cx) (a : Ee) (o : Eo) (cs : Ecs) (sc2 : Scope) : Prop where
  te : ∀ (s : Shared) (H : Hp) (D : Addr) (cl : List (Str × Addr)) (fp : List Addr), PE (X.blk s H sc2 (compEnvC sc2 cl D X.env) fp) a.em (tX C noW (a.ev C.cl))
  tt : ∀ (s : Shared) (H : Hp) (D : Addr) (cl : List (Str × Addr)) (fp : List Addr), PTs (X.blk s H sc2 (compEnvC sc2 cl D X.env) fp) o.ems (tYs C noW (o.evT C.cl))
  cs : ∀ (s : Shared) (H : Hp) (D : Addr) (cl : List (Str × Addr)) (fp : List Addr), ∀ c ∈ cs.crs C, CrOk (X.blk s H sc2 (compEnvC sc2 cl D X.env) fp) c
theorem nest_ok (hX : XOk C W X) {a : Ee} {t : Tt} {it : Ei} {o : Eo} {vs : List Nat} {cs : Ecs} {sc2 : Scope} (ht : t.ok X.N sc2 (some vs) = true) (B : LcsB C X a o cs sc2) : NestOk X a.em sc2 (tX C noW (a.ev C.cl)) (cr0 C W t it o vs) (cs.crs C) where
  pg := fun s H D cl fp => pg_ofC (X := X.blk s H sc2 (compEnvC sc2 cl D X.env) fp) hX.m.hK hX.calm hX.nd blk_nm t ht
  pt := B.tt
  cs := B.cs
  te := B.te
  hs := fun env x => fold_of x env
theorem f_lcs (hX : XOk C W X) {a : Ee} {t : Tt} {it : Ei} {o : Eo} {vs : List Nat} {cs : Ecs} {own : List (Str × Nat)} {sc2 : Scope} {p : Pos} (hb : blkC X.N X.env.scope sc2 own = true) (hi : PI X t.em it.em (tI C W (it.ev C.cl))) (ht : t.ok X.N sc2 (some vs) = true) (hts : cs.tok X.N sc2)
    (hV : own.map (·.2) = vs ++ cs.allV) (h3 : cs.len ≤ 3) (B : LcsB C X a o cs sc2) : PE X (Ef.lcs a t it o vs cs own sc2 p).em (tF C W ((Ef.lcs a t it o vs cs own sc2 p).ev C.cl)) := by
  have z := pe_nest (pos := p) hX.calm hX.nd (c0 := cr0 C W t it o vs) hi (blkOk_by hb) (by rw [crs_allV]; exact hV) (nest_ok hX ht B)
  rw [crs_em] at z
  exact peM z fun _ _ _ h => lcs_red ht hts h3 h
theorem s_setLcs (hX : XOk C W X) {i : Nat} {y : Str} {py : Pos} {a : Ee} {t : Tt} {it : Ei} {o : Eo} {vs : List Nat} {cs : Ecs} {own : List (Str × Nat)} {sc2 : Scope} {p pos : Pos} (hy : X.N[i]? = some y) (hyl : X.env.scope.names.lookup y = some .local)
    (hsw : swapsWith (Ef.lcs a t it o vs cs own sc2 p).em (some (.Name y py)) pos.line X.env = pure true) (hb : blkC X.N X.env.scope sc2 own = true) (hi : PI X t.em it.em (tI C W (it.ev C.cl))) (ht : t.ok X.N sc2 (some vs) = true) (hts : cs.tok X.N sc2)
    (hV : own.map (·.2) = vs ++ cs.allV) (h3 : cs.len ≤ 3) (B : LcsB C X a o cs sc2) : PS X (.Assign [.Name y py] (Ef.lcs a t it o vs cs own sc2 p).em pos) (fun D σ H => tF C W ((Ef.lcs a t it o vs cs own sc2 p).ev C.cl) σ H fun x H1 => gName i x σ H1 D.nx) := by
  have hsw : swapsWith (.ListComp a.em ((cr0 C W t it o vs).c :: (cs.crs C).map Cr.c) sc2 p) (some (.Name y py)) pos.line X.env = pure true := by
    rw [crs_em]
    exact hsw
  have z := ps_nest (pos := p) hX.calm hX.nd hy hyl hsw (c0 := cr0 C W t it o vs) hi (blkOk_by hb) (by rw [crs_allV]; exact hV) (nest_ok hX ht B)
  rw [crs_em] at z
  exact ⟨fun pins s σ H D I h => z.run pins s σ H D I (lcs_red ht hts h3 h)⟩
end
end TC

set_option Elab.async false
set_option linter.all false
set_option maxRecDepth 100000
set_option maxHeartbeats 2000000
namespace TC
open PySem L2 PySem.Spec
/-! ### what is looked at once, statements -/
def notC : Expr → Bool
  | .ListComp .. => false
  | .SetComp .. => false
  | .DictComp .. => false
  | _ => true
def stN : Expr → Bool
  | .Tuple vs _ _ => vs.all (foldedForSure 8)
  | _ => true
def Ef.swB (sc : Scope) (x : Str) (px : Pos) : Ef → Bool
  | .lc _ _ _ _ _ sc2 p => decide (sc.names.lookup x = some .cell) || (decide (sc.names.lookup x = some .local) && (px.line == p.line) && !(sc2.names.any fun (n, k) => n == x && (k == .local || k == .cell)))
  | .lcs _ _ _ _ _ _ _ sc2 p => decide (sc.names.lookup x = some .local) && (px.line == p.line) && !(sc2.names.any fun (n, k) => n == x && (k == .local || k == .cell))
  | _ => true
def Ea.ok (c : Chk) (N : List Str) : Ea → Scope → Bool
  | .ex e, sc => e.ok c N sc
  | .nw f, sc => f.ok c N sc
def Ts.cellB (sc : Scope) : Ts → Bool
  | .nil => false
  | .cons _ x _ ts => !decide (sc.names.lookup x = some .local) || ts.cellB sc
  | .nest .. => false
def Tt.cellB (sc : Scope) : Tt → Bool
  | .tp ts _ _ => ts.cellB sc
  | _ => false
section
variable (c : Chk) (N : List Str)
mutual
def Sm.ok : Sm → Scope → Bool
  | .asg i x _ e _, sc => slotB N i x && locB sc x && e.ok c N sc && notC e.em
  | .asgF i x px f _, sc => slotB N i x && locB sc x && f.ok c N sc && f.swB sc x px
  | .unp t e _, sc => t.ok N sc none && e.ok c N sc && notC e.em && (stN e.em || t.cellB sc)
  | .par i x px j y py a b _ _ _ _ _, sc => slotB N i x && slotB N j y && decide (i ≠ j) && decide (sc.names.lookup x = some .local) && decide (sc.names.lookup y = some .local) && (py.line == px.line) && decide (x ≠ y) && a.ok c N sc && b.ok c N sc
      && !([a.em, b.em].all (foldedForSure 8)) && !([a.em, b.em].all (constantsAlone 8))
  | .par3 i x px j y py l z pz a b u _ _ _ _ _, sc => slotB N i x && slotB N j y && slotB N l z && decide (i ≠ j) && decide (i ≠ l) && decide (j ≠ l) && decide (sc.names.lookup x = some .local) && decide (sc.names.lookup y = some .local) && decide (sc.names.lookup z = some .local)
      && (py.line == px.line) && (pz.line == px.line) && decide (x ≠ y) && decide (x ≠ z) && decide (y ≠ z) && a.ok c N sc && b.ok c N sc && u.ok c N sc && !([a.em, b.em, u.em].all (foldedForSure 8)) && !([a.em, b.em, u.em].all (constantsAlone 8))
  | .par3c i x px j y py l z pz a b u k1 p1 _ _ _, sc => (Tt.tp (.cons i x px (.cons j y py (.cons l z pz .nil))) k1 p1).ok N sc none && (Tt.tp (.cons i x px (.cons j y py (.cons l z pz .nil))) k1 p1).cellB sc
      && decide (i ≠ j) && decide (i ≠ l) && decide (j ≠ l) && a.ok c N sc && b.ok c N sc && u.ok c N sc
  | .parD i x px j y py a _ k1 p1 _ _ _, sc => (Tt.tp (.cons i x px (.cons j y py .nil)) k1 p1).ok N sc none && (Tt.tp (.cons i x px (.cons j y py .nil)) k1 p1).cellB sc && decide (i ≠ j) && a.ok c N sc
  | .dpi i x _ k e _ _, sc => slotB N i x && visB sc x && k.ok c N sc && e.ok c N sc
  | .put i x _ ix e _ _, sc => slotB N i x && visB sc x && ix.ok c N sc && e.ok c N sc && stN e.em
  | .asgD i x _ ks es _ _, sc => slotB N i x && locB sc x && es.ok c N sc && decide (ks.length = es.len) && decide (0 < es.len) && decide (es.len ≤ 15)
  | .dput i x _ _ _ _ e _ _, sc => slotB N i x && visB sc x && e.ok c N sc
  | .dpar i x _ _ _ _ _ _ _ _ _ _ a b _ _ _ _ _, sc => slotB N i x && visB sc x && a.ok c N sc && b.ok c N sc
  | .aug i x _ _ e _, sc => slotB N i x && locB sc x && e.ok c N sc
  | .ext i x px pa f pc _, sc => slotB N i x && visB sc x && f.ok c N sc && (pa.endLine == pc.line)
  | .app i x _ pa e pc _, sc => slotB N i x && visB sc x && e.ok c N sc && (pa.endLine == pc.line)
  | .apo i x _ pa j y _ pb e pq pc _, sc => slotB N i x && visB sc x && (slotB N j y && visB sc y && decide (i ≠ j)) && e.ok c N sc && (pb.endLine == pq.line) && (pa.endLine == pc.line)
  | .iff t a b _, sc => t.ok c N sc && a.ok sc && b.ok sc
  | .forr t it b _, sc => t.ok N sc none && it.ok c N sc && it.tupB t && b.ok sc
  | .whl t b _, sc => t.ok c N sc && b.ok sc
  | .ret e _, sc => e.ok c N sc
  | .retF f _, sc => f.ok c N sc
  | .retO i x _ _, sc => slotB N i x && visB sc x
  | .expr e _, sc => e.ok c N sc && notC e.em
  | .brk _, _ => true
  | .cnt _, _ => true
  | .pass _, _ => true
  | .never _, _ => true
  | .cap i x _ _ tg _, sc => slotB N i x && visB sc x && (match tg with | some (j, y, _) => slotB N j y && locB sc y | none => true)
  | .rai k x _ a _ _, sc => (match c.exs[k]? with | some (y, _) => decide (y = x) | none => false) && glB sc x && a.ok c N sc
  | .tr b hs _, sc => b.ok sc && hs.ok c N sc && hs.some
def Sms.ok : Sms → Scope → Bool
  | .nil, _ => true
  | .cons s ss, sc => s.ok sc && ss.ok sc
  | .frz _ ss, sc => ss.ok sc
  | .fgt _ ss, sc => ss.ok sc
end
end

section
variable {C : Ctx} {W : WX} {X : Cx} {σ : L2.St} {e : En} {b : Nat} {R : List Addr} {G H : Hp}
/-! ### a frame between statements -/
structure Fb where
  R : List Addr
  G : Hp
  H : Hp
  /-- what has been frozen so far -/
  Gb : Hp
structure SS (C : Ctx) (F : Fb) (b : Nat) (R : List Addr) (G : Hp) (σ : L2.St) (H : Hp) (e : En) : Prop where
  st : St C b R G σ H e
  stp : Stp F.R F.G F.H R G H
  fr : ∀ i l, Opn σ e i l → F.H l = none
  gb : Sub F.Gb G
  fx : ∀ q, C.fa = some q → F.R = q.R ∧ F.G = q.G ∧ F.H = q.H
def OuP (C : Ctx) (W : WX) (F : Fb) (D : Ends) (b : Nat) : Ou → Prop
  | .nx e => ∀ R G σ H, SS C F b R G σ H e → D.nx σ H
  | .br e => ∀ R G σ H, SS C F b R G σ H e → D.bk σ H
  | .ct e => ∀ R G σ H, SS C F b R G σ H e → D.ct σ H
  | .rt r => ∀ R G H v, Stp F.R F.G F.H R G H → Bs C b R G H → RetOk C F.H R G H v r → D.rt v H
  | .ex x e => ∀ R G σ H cls d, SS C F b R G σ H e → exrN C x cls d F.H H → W cls d σ H
def noE : Nat → Exn → Prop := fun _ _ => False
def tS (C : Ctx) (W : WX) (ev : En → Comp Ou) : TS := fun D σ H => ∃ F b R G e, SS C F b R G σ H e ∧ (ev e).wp b (OuP C W F D) noE
theorem psM {st : Stmt} {t t' : TS} (h : PS X st t) (m : ∀ D σ H, t' D σ H → t D σ H) : PS X st t' := ⟨fun pins s σ H D I q => h.run pins s σ H D I (m D σ H q)⟩
theorem pssM {st : List Stmt} {t t' : TS} (h : PSs X st t) (m : ∀ D σ H, t' D σ H → t D σ H) : PSs X st t' := ⟨fun pins s σ H D I q => h.run pins s σ H D I (m D σ H q)⟩
variable {F : Fb} {D : Ends}
theorem SS.step {b' : Nat} {R' : List Addr} {G' H' : Hp} (S : SS C F b R G σ H e) (s : Stp R G H R' G' H') (S' : St C b' R' G' σ H' e) : SS C F b' R' G' σ H' e := ⟨S', S.stp.trans s, S.fr, fun a o h => s.g a o (S.gb a o h), S.fx⟩
theorem ss_run {α : Type} {c : Comp α} {f : α → Comp Ou} (S : SS C F b R G σ H e) (h : (exO e c f).wp b (OuP C W F D) noE) : Run C W σ e b R G H c fun b' R' G' H' a => SS C F b' R' G' σ H' e ∧ (f a).wp b' (OuP C W F D) noE :=
  Comp.wp_mono (Comp.wp_tie.mp h) (fun b' a q R' G' H' s S' => ⟨S.step s S', q⟩) fun b' x q R' G' H' cls d s S' ex => q R' G' σ H' cls d (S.step s S') (ex.back S.stp.h)
theorem SS.setF {k : Nat} {v : V} {w : Wd} (S : SS C F b R G σ H e) (r : Rep C G v w) : SS C F b R G (σ.set k (some v)) H (e.set k (.fz w)) := ⟨S.st.setF r, S.stp, fun i l o => S.fr i l (opn_set (s := .fz w) fz_no o).2, S.gb, S.fx⟩
theorem SS.setO {k : Nat} {l : Addr} {ds : List PyData} (S : SS C F b R G σ H e) (o : Own C R G H l ds) (n : F.H l = none) (no : ∀ i, ¬ Opn σ e i l) : SS C F b R G (σ.set k (some (.ref l))) H (e.set k (.ow ds)) :=
  ⟨S.st.setO o no, S.stp, fun i m q => by
    obtain ⟨⟨es, h1⟩, h2⟩ := q
    by_cases c : i = k
    · subst c
      by_cases c : i < σ.length
      · rw [List.getElem?_set_self c] at h2
        injection h2 with h2
        injection h2 with h2
        injection h2 with h2
        exact h2 ▸ n
      · rw [List.getElem?_eq_none (by rw [List.length_set]; omega)] at h2
        cases h2
    · rw [List.getElem?_set_ne (Ne.symm c)] at h1 h2
      exact S.fr i m ⟨⟨es, h1⟩, h2⟩, S.gb, S.fx⟩
theorem SS.setD {k : Nat} {l : Addr} {ds : List (Key × PyData)} (S : SS C F b R G σ H e) (o : OwnD C R G H l ds) (n : F.H l = none) (no : ∀ i, ¬ Opn σ e i l) : SS C F b R G (σ.set k (some (.ref l))) H (e.set k (.od ds)) :=
  ⟨S.st.setD o no, S.stp, fun i m q => by
    obtain ⟨⟨es, h1⟩, h2⟩ := q
    by_cases c : i = k
    · subst c
      by_cases c : i < σ.length
      · rw [List.getElem?_set_self c] at h2
        injection h2 with h2
        injection h2 with h2
        injection h2 with h2
        exact h2 ▸ n
      · rw [List.getElem?_eq_none (by rw [List.length_set]; omega)] at h2
        cases h2
    · rw [List.getElem?_set_ne (Ne.symm c)] at h1 h2
      exact S.fr i m ⟨⟨es, h1⟩, h2⟩, S.gb, S.fx⟩
/-- a new open list: nobody has it yet -/
theorem own_new {l : Addr} {ds : List PyData} {H2 : Hp} {vs : List V} (S : St C b R G σ H e) (n : H l = none) (hv : H2 l = some (.lst vs)) (d : DqAll C.K G vs ds) : Own C R G H2 l ds ∧ ∀ i, ¬ Opn σ e i l :=
  ⟨⟨⟨vs, hv, d⟩, S.bs.gnone n, S.bs.rnone n⟩, fun i o => by
    obtain ⟨⟨u, hu⟩, _⟩ := S.opn_some o
    rw [n] at hu
    cases hu⟩
theorem out_nx {b' : Nat} {e' : En} (h : (Comp.ret (.nx e')).wp b' (OuP C W F D) noE) : ∀ R G σ H, SS C F b' R G σ H e' → D.nx σ H := h
/-! ### assignments -/
theorem sw_not {e : Expr} (h : notC e = true) (t : Option Expr) (l : Nat) (env : Env) : swapsWith e t l env = pure false := by
  cases e <;> first | rfl | cases h
theorem sw_sub {e o i : Expr} {pos : Pos} (l : Nat) (env : Env) : swapsWith e (some (.Subscript o i pos)) l env = pure false := by
  cases e <;> rfl
theorem s_asg (hX : XOk C W X) (hn : ∀ x, X.fn x = true) {i : Nat} {x : Str} {px p : Pos} {a : Ee} (hi : slotB X.N i x = true) (hl : locB X.env.scope x = true) (ha : PE X a.em (tX C W (a.ev C.cl))) (hc : notC a.em = true) (wf : Nat) :
    PS X (Sm.asg i x px a p).em (tS C W ((Sm.asg i x px a p).ev C.cl wf)) :=
  psM (ps_set hX.nd (slot_of hi) (loc_of hl) ha (sw_not hc _ _ _) (.inl (hn x))) fun D σ H ⟨F, b, R, G, e, S, h⟩ =>
    ⟨b, R, G, e, S.st, (ss_run S h).mono fun b' R' G' H' w s S' q v r => out_nx q.2 _ _ _ _ (q.1.setF r)⟩
theorem kf_own {Q : VK} {ds : List PyData} (S : SS C F b R G σ H e) (m : ∀ l H2, SS C F b R G σ H2 e → Own C R G H2 l ds → F.H l = none → (∀ i, ¬ Opn σ e i l) → Q (.ref l) H2) : KF C σ e Q b R G H ds :=
  fun l H2 n s S2 ⟨vs, hv, d⟩ => by
    obtain ⟨o, no⟩ := own_new S.st n hv d
    exact m l H2 (S.step s S2) o (S.stp.h l n) no
/-- a name that is captured takes a comprehension like any value -/
theorem sw_cell {X : Cx} {x : Str} {px : Pos} {l : Nat} {a : Ee} {t : Tt} {it : Ei} {o : Eo} {own : List (Str × Nat)} {sc2 : Scope} {q : Pos} (h : X.env.scope.names.lookup x = some .cell) : swapsWith (Ef.lc a t it o own sc2 q).em (some (.Name x px)) l X.env = pure false := by
  have e : X.env.kindOf x = some .cell := h
  show (pure (X.env.blockKind == .function && X.env.kindOf x == some .local && px.line == (Ef.lc a t it o own sc2 q).em.pos.line && !(sc2.names.any fun (n, k) => n == x && (k == .local || k == .cell))) : Sem Bool) = pure false
  rw [e]
  cases X.env.blockKind == .function <;> rfl
theorem asgF_of {i : Nat} {f : Ef} {wf : Nat} {x : Str} {px p : Pos} {D : Ends} {σ : L2.St} {H : Hp} (h : tS C W ((Sm.asgF i x px f p).ev C.cl wf) D σ H) : tF C W (f.ev C.cl) σ H fun x H1 => gName i x σ H1 D.nx := by
  obtain ⟨F, b, R, G, e, S, h⟩ := h
  exact ⟨b, R, G, e, S.st, (ss_run S h).mono fun b' R' G' H' ds s S' q => kf_own q.1 fun l H2 S2 o n no => out_nx q.2 _ _ _ _ (S2.setO o n no)⟩
theorem s_asgF (hX : XOk C W X) (hn : ∀ x, X.fn x = true) {i : Nat} {x : Str} {px p : Pos} {f : Ef} (hi : slotB X.N i x = true) (hl : locB X.env.scope x = true) (hf : PE X f.em (tF C W (f.ev C.cl))) (hc : notC f.em = true) (wf : Nat) :
    PS X (Sm.asgF i x px f p).em (tS C W ((Sm.asgF i x px f p).ev C.cl wf)) :=
  psM (ps_set hX.nd (slot_of hi) (loc_of hl) hf (sw_not hc _ _ _) (.inl (hn x))) fun D σ H h => asgF_of h
theorem bind_ret {t : Tt} {d : PyData} {e : En} {f : En → Comp Ou} {P : Nat → Ou → Prop} (h : ((bindT t d e).bind f).wp b P noE) : ∃ e2, bindT t d e = .ret e2 ∧ (f e2).wp b P noE := by
  rcases bindT_form t d e with ⟨e2, z⟩ | z
  · rw [z] at h
    exact ⟨e2, z, h⟩
  · rw [z] at h
    exact h.elim
/-- what is open after a binding was open before -/
theorem bindTs_opn : ∀ {ts : Ts} {ds : List PyData} {e e2 : En} {i : Nat} {es : List PyData}, bindTs ts ds e = .ret e2 → e2[i]? = some (.ow es) → e[i]? = some (.ow es)
  | .nil, [], e, e2, i, es, h, q => by
    injection h with h
    subst h
    exact q
  | .cons k x p ts, d :: ds, e, e2, i, es, h, q => by
    have z := bindTs_opn (ts := ts) h q
    by_cases c : k = i
    · subst c
      by_cases c : k < e.length
      · rw [List.getElem?_set_self c] at z
        cases z
      · rw [List.getElem?_eq_none (by rw [List.length_set]; omega)] at z
        cases z
    · rwa [List.getElem?_set_ne c] at z
  | .nest ts1 k p ts, .tuple ds1 :: ds, e, e2, i, es, h, q => by
    obtain ⟨e1, z1, z2⟩ := nest_ret h
    exact bindTs_opn z1 (bindTs_opn z2 q)
/-- a target takes a value -/
theorem gs_ss {N : List Str} {sc : Scope} : ∀ {ts : Ts} {ds : List PyData} {e e2 : En} {σ : L2.St} {xs : List V} {Q : L2.St → Hp → Prop}, bindTs ts ds e = .ret e2 → SS C F b R G σ H e → DqAll C.K G xs ds →
    (∀ σ2, SS C F b R G σ2 H e2 → Q σ2 H) → gTs C.K ts xs σ H Q ∧ xs.length = ts.len
  | .nil, [], e, e2, σ, xs, Q, h, S, r, m => by
    cases r
    injection h with h
    subst h
    exact ⟨⟨rfl, m σ S⟩, rfl⟩
  | .cons i x p ts, d :: ds, e, e2, σ, xs, Q, h, S, r, m => by
    cases r with
    | cons r rs =>
    have z := gs_ss (N := N) (sc := sc) (Q := Q) (show bindTs ts ds (e.set i (.fz (.d d))) = .ret e2 from h) (S.setF (k := i) (w := .d d) r) rs m
    exact ⟨⟨_, _, rfl, z.1⟩, congrArg (· + 1) z.2⟩
  | .nest ts1 k p ts, .tuple ds1 :: ds, e, e2, σ, xs, Q, h, S, r, m => by
    cases r with
    | cons r rs =>
    obtain ⟨e1, z1, z2⟩ := nest_ret h
    cases r with
    | tup h1 h2 =>
      have ln := bindTs_len z2
      rw [← dps_length rs] at ln
      have z := gs_ss (N := N) (sc := sc) (Q := fun σ' H' => gTs C.K ts _ σ' H' Q) z1 S h2 fun σ1 S1 => (gs_ss (N := N) (sc := sc) (Q := Q) z2 S1 rs m).1
      exact ⟨⟨_, _, rfl, _, _, rfl, S.st.bs.sub.sqT h1, z.2, z.1⟩, congrArg (· + 1) ln⟩
theorem g_ss {t : Tt} {d : PyData} {e e2 : En} {σ : L2.St} {v : V} {Q : L2.St → Hp → Prop} {K : PySem.W.Frag} (hK : K = C.K) (h : bindT t d e = .ret e2) (S : SS C F b R G σ H e) (r : Dq C.K G v d)
    (m : ∀ σ2, SS C F b R G σ2 H e2 → Q σ2 H) : gT K t v σ H Q := by
  subst hK
  cases t with
  | nm i x p =>
    injection h with h
    subst h
    exact m _ (S.setF (w := .d d) r)
  | tp ts k p =>
    cases d with
    | tuple ds =>
      cases r with
      | tup h1 h2 =>
        have z := gs_ss (N := []) (sc := default) (Q := Q) h S h2 m
        exact ⟨_, _, rfl, S.st.bs.sub.sqT h1, z.2, z.1⟩
    | _ => cases h
theorem stores_not {e : Expr} (h : stN e = true) (ts : List Expr) (env : Env) (t : Expr) : swappedStores [t] e env = pure none := by
  unfold swappedStores
  cases e with
  | Tuple vs k p =>
    unfold stN at h
    cases t with
    | Tuple us k2 p2 =>
      simp only []
      repeat (first | rfl | split)
      all_goals first | rfl | (simp_all; done) | skip
    | List us p2 =>
      simp only []
      repeat (first | rfl | split)
      all_goals first | rfl | (simp_all; done) | skip
    | _ => rfl
  | _ => cases t <;> rfl
theorem nm_of {hn : ∀ x, X.fn x = true} (x : Str) (h : locB X.env.scope x = true) : Loc X.env.scope x ∧ (X.fn x = true ∨ X.env.scope.names.lookup x = some .local) := ⟨loc_of h, .inl (hn x)⟩
theorem fm_lt {sc : Scope} {g : Expr → Option Str} (hg : ∀ x p, ¬ sc.names.lookup x = some .local → g (.Name x p) = none) : ∀ ts : Ts, ts.cellB sc = true → (ts.em.filterMap g).length < ts.em.length
  | .nil, h => by cases h
  | .nest .., h => by cases h
  | .cons i x p ts, h => by
    have le : (ts.em.filterMap g).length ≤ ts.em.length := List.length_filterMap_le _ _
    unfold Ts.cellB at h
    rw [Bool.or_eq_true] at h
    show ((Expr.Name x p :: ts.em).filterMap g).length < (Expr.Name x p :: ts.em).length
    rw [List.filterMap_cons]
    rcases h with h | h
    · have h : ¬ sc.names.lookup x = some .local := by simpa using h
      rw [hg x p h]
      show (ts.em.filterMap g).length < ts.em.length + 1
      omega
    · have ih := fm_lt hg ts h
      cases g (.Name x p) with
      | none =>
        show (ts.em.filterMap g).length < ts.em.length + 1
        omega
      | some y =>
        show (ts.em.filterMap g).length + 1 < ts.em.length + 1
        omega
theorem stores_cell {t : Tt} {env : Env} {e : Expr} (h : t.cellB env.scope = true) : swappedStores [t.em] e env = pure none := by
  cases t with
  | nm i x p => cases h
  | tp ts k p =>
    unfold swappedStores
    cases e with
    | Tuple vs k2 p2 =>
      have key := fun l : Nat => fm_lt (sc := env.scope) (g := fun | .Name id pos => if env.kindOf id == some .local && pos.line == l then some id else none | _ => none) (fun x p hx => by
        have z : (env.kindOf x == some NameKind.local) = false := by
          show (env.scope.names.lookup x == some NameKind.local) = false
          simpa using hx
        simp [z]) ts h
      have e1 : (Tt.tp ts k p).em = .Tuple ts.em k p := rfl
      rw [e1]
      dsimp only
      split
      · rfl
      · split
        · rfl
        · split
          · rfl
          · rename_i hn
            exfalso
            refine hn ?_
            rw [Bool.or_eq_true]
            refine .inl ?_
            have z := key ((ts.em.head?.map (·.pos.line)).getD 0)
            exact bne_iff_ne.mpr (Nat.ne_of_lt z)
    | _ => rfl
theorem s_unp (hX : XOk C W X) (hn : ∀ x, X.fn x = true) {t : Tt} {a : Ee} {p : Pos} (ht : t.ok X.N X.env.scope none = true) (ha : PE X a.em (tX C W (a.ev C.cl))) (hc : notC a.em = true) (hs : (stN a.em || t.cellB X.env.scope) = true) (wf : Nat) :
    PS X (Sm.unp t a p).em (tS C W ((Sm.unp t a p).ev C.cl wf)) := by
  refine psM (ps_asg ha (pg_of (sc := X.env.scope) hX.calm hX.nd (fun x h => ⟨loc_of h, .inl (hn x)⟩) t ht) (sw_not hc _ _ _) (by
    rcases Bool.or_eq_true_iff.mp hs with z | z
    · exact stores_not z [] _ _
    · exact stores_cell z) ?_) fun D σ H ⟨F, b, R, G, e, S, h⟩ =>
    tX.of S.st (ss_run S h).dD fun b' R' G' H' w v s S' r ⟨d, ew, S2, q⟩ => ?_
  · cases t <;> rfl
  · subst ew
    obtain ⟨e2, hb, q⟩ := bind_ret q
    exact g_ss hX.m.hK hb S2 r fun σ2 S3 => out_nx q _ _ _ _ S3
end
end TC

set_option Elab.async false
set_option linter.all false
set_option maxRecDepth 100000
set_option maxHeartbeats 2000000
namespace TC
open PySem L2 PySem.Spec PyProof.Rows
section
variable {C : Ctx} {W : WX} {X : Cx} {σ : L2.St} {e : En} {b : Nat} {R : List Addr} {G H : Hp} {F : Fb} {D : Ends}
/-! ### two at once -/
/-- what a slot takes -/
def Nw (C : Ctx) (F : Fb) (R : List Addr) (G : Hp) (σ : L2.St) (H : Hp) (e : En) (v : V) : Sl → Prop
  | .un => False
  | .fz w => Rep C G v w
  | .ow ds => ∃ l, v = .ref l ∧ Own C R G H l ds ∧ F.H l = none ∧ ∀ i, ¬ Opn σ e i l
  | .od _ => False
  | .cap _ => False
theorem SS.setS {k : Nat} {v : V} {s : Sl} (S : SS C F b R G σ H e) (r : Nw C F R G σ H e v s) : SS C F b R G (σ.set k (some v)) H (e.set k s) := by
  cases s with
  | un => exact r.elim
  | cap c => exact r.elim
  | od ds => exact r.elim
  | fz w => exact S.setF r
  | ow ds =>
    obtain ⟨l, rfl, o, n, no⟩ := r
    exact S.setO o n no
theorem Nw.stp {R' : List Addr} {G' H' : Hp} {v : V} {s : Sl} (r : Nw C F R G σ H e v s) (st : Stp R G H R' G' H') : Nw C F R' G' σ H' e v s := by
  cases s with
  | un => exact r
  | cap c => exact r
  | od ds => exact r
  | fz w => exact r.sub st.g
  | ow ds =>
    obtain ⟨l, rfl, o, n, no⟩ := r
    obtain ⟨vs, q, _⟩ := o.at_
    exact ⟨l, rfl, o.stp st (st.o l _ q o.r o.g), n, no⟩
def KS (C : Ctx) (σ : L2.St) (e : En) (Q : VK) : Nat → List Addr → Hp → Hp → Sl → Prop := fun b' R' G' H' s => ∀ v H2, Stp R' G' H' R' G' H2 → St C b' R' G' σ H2 e → (match s with
  | .un => False
  | .fz w => Rep C G' v w
  | .ow ds => ∃ l vs, v = .ref l ∧ H' l = none ∧ H2 l = some (.lst vs) ∧ DqAll C.K G' vs ds
  | .od _ => False
  | .cap _ => False) → Q v H2
def tE (C : Ctx) (W : WX) (ev : En → Comp Sl) : TE := fun σ H Q => ∃ b R G e, St C b R G σ H e ∧ Run C W σ e b R G H (ev e) (KS C σ e Q)
theorem a_ex {a : Ee} (h : PE X a.em (tX C W (a.ev C.cl))) : PE X (Ea.ex a).em (tE C W ((Ea.ex a).ev C.cl)) :=
  peM h fun σ H Q ⟨b, R, G, e, S, h⟩ => ⟨b, R, G, e, S, (Run.bind h).mono fun b' R' G' H' w s S' q v r => Run.ret S' q v H' .refl S' r⟩
theorem a_nw {f : Ef} (h : PE X f.em (tF C W (f.ev C.cl))) : PE X (Ea.nw f).em (tE C W ((Ea.nw f).ev C.cl)) :=
  peM h fun σ H Q ⟨b, R, G, e, S, h⟩ => ⟨b, R, G, e, S, (Run.bind h).mono fun b' R' G' H' ds s S' q l H2 n st S2 ⟨vs, hv, d⟩ => Run.ret S' q (.ref l) H2 st S2 ⟨l, vs, rfl, n, hv, d⟩⟩
theorem Ea.head (a : Ea) : headB a.em = true := by
  cases a with
  | ex a => exact a.head
  | nw f => exact f.head
theorem star_no {e : Expr} (h : headB e = true) : (match e with | .Starred .. => true | _ => false) = false := by
  cases e <;> first | rfl | cases h
theorem par_stores {x y : Str} {px py p1 p2 : Pos} {k1 k2 : Nat} {a c : Expr} {env : Env} (hk : env.scope.kind = .function) (hx : env.scope.names.lookup x = some .local) (hy : env.scope.names.lookup y = some .local) (hl : (py.line == px.line) = true) (hn : x ≠ y)
    (ha : headB a = true) (hc : headB c = true) (h1 : ([a, c].all (foldedForSure 8)) = false) (h2 : ([a, c].all (constantsAlone 8)) = false) : swappedStores [.Tuple [.Name x px, .Name y py] k1 p1] (.Tuple [a, c] k2 p2) env = pure (some [x, y]) := by
  have hb : env.blockKind = .function := by unfold Env.blockKind; rw [hk]; rfl
  have kx : env.kindOf x = some .local := hx
  have ky : env.kindOf y = some .local := hy
  have s1 := star_no ha
  have s2 := star_no hc
  have hl2 : py.line = px.line := by simpa using hl
  unfold swappedStores
  simp only [hb, h1, h2, List.any_cons, List.any_nil, s1, s2, List.length_cons, List.length_nil]
  simp [kx, ky, hl2, Expr.pos, List.filterMap, List.eraseDups_cons, hn, Ne.symm hn]
  rintro (z | z)
  · cases a <;> first | (cases ha; done) | (cases z; done)
  · cases c <;> first | (cases hc; done) | (cases z; done)
theorem s_par (hX : XOk C W X) (hk : X.env.scope.kind = .function) {i j : Nat} {x y : Str} {px py p1 p2 p : Pos} {k1 k2 : Nat} {a c : Ea} (hi : slotB X.N i x = true) (hj : slotB X.N j y = true) (hij : i ≠ j)
    (hx : X.env.scope.names.lookup x = some .local) (hy : X.env.scope.names.lookup y = some .local) (hl : (py.line == px.line) = true) (hn : x ≠ y) (ha : PE X a.em (tE C W (a.ev C.cl))) (hc : PE X c.em (tE C W (c.ev C.cl)))
    (h1 : ([a.em, c.em].all (foldedForSure 8)) = false) (h2 : ([a.em, c.em].all (constantsAlone 8)) = false) (wf : Nat) : PS X (Sm.par i x px j y py a c k1 p1 k2 p2 p).em (tS C W ((Sm.par i x px j y py a c k1 p1 k2 p2 p).ev C.cl wf)) := by
  refine psM (ps_par hX.calm hX.nd (slot_of hi) (slot_of hj) hij hx hy (pa_2 ha hc a.head c.head) (par_stores hk hx hy hl hn a.head c.head h1 h2)) fun D σ H ⟨F, b, R, G, e, S, h⟩ => ?_
  refine ⟨b, R, G, e, S.st, (ss_run S h).mono fun b1 R1 G1 H1 s1 st1 S1 q v H2 st2 S2 r => ?_⟩
  have T2 := q.1.step st2 S2
  have nw : Nw C F R1 G1 σ H2 e v s1 := by
    cases s1 with
    | un => exact r.elim
    | cap c => exact r.elim
    | od ds => exact r.elim
    | fz w => exact r
    | ow ds =>
      obtain ⟨l, vs, rfl, n, hv, d⟩ := r
      obtain ⟨o, no⟩ := own_new S1 n hv d
      exact ⟨l, rfl, o, q.1.stp.h l n, no⟩
  refine ⟨b1, R1, G1, e, S2, (ss_run T2 q.2).mono fun b3 R3 G3 H3 s3 st3 S3 q3 u H4 st4 S4 r3 => ?_⟩
  have T4 := q3.1.step st4 S4
  have nw1 := nw.stp (st3.trans st4)
  refine ⟨v, u, rfl, out_nx q3.2 _ _ _ _ ((T4.setS nw1).setS ?_)⟩
  cases s3 with
  | un => exact r3.elim
  | cap c => exact r3.elim
  | od ds => exact r3.elim
  | fz w => exact r3
  | ow ds =>
    obtain ⟨l, vs, rfl, n, hv, d⟩ := r3
    obtain ⟨o, no⟩ := own_new S3 n hv d
    refine ⟨l, rfl, o, q3.1.stp.h l n, fun k op => ?_⟩
    cases s1 with
    | un => exact nw
    | cap c => exact nw
    | od ds => exact nw.elim
    | fz w => exact no k (opn_set (s := .fz w) fz_no op).2
    | ow ds1 =>
      obtain ⟨l1, rfl, o1, n1, no1⟩ := nw
      obtain ⟨⟨es, g1⟩, g2⟩ := op
      by_cases c : k = i
      · subst c
        by_cases c : k < σ.length
        · rw [List.getElem?_set_self c] at g2
          injection g2 with g2
          injection g2 with g2
          injection g2 with g2
          subst g2
          obtain ⟨vs1, w1, _⟩ := o1.at_
          have w2 := st3.k _ _ w1 o1.r
          rw [n] at w2
          cases w2
        · rw [List.getElem?_eq_none (by rw [List.length_set]; omega)] at g2
          cases g2
      · rw [List.getElem?_set_ne (Ne.symm c)] at g1 g2
        exact no k ⟨⟨es, g1⟩, g2⟩
theorem par3_stores {x y z : Str} {px py pz p1 p2 : Pos} {k1 k2 : Nat} {a b c : Expr} {env : Env} (hk : env.scope.kind = .function) (hx : env.scope.names.lookup x = some .local) (hy : env.scope.names.lookup y = some .local) (hz : env.scope.names.lookup z = some .local) (hl : (py.line == px.line) = true) (hl2 : (pz.line == px.line) = true)
    (n1 : x ≠ y) (n2 : x ≠ z) (n3 : y ≠ z) (ha : headB a = true) (hb : headB b = true) (hc : headB c = true) (h1 : ([a, b, c].all (foldedForSure 8)) = false) (h2 : ([a, b, c].all (constantsAlone 8)) = false) :
    swappedStores [.Tuple [.Name x px, .Name y py, .Name z pz] k1 p1] (.Tuple [a, b, c] k2 p2) env = pure (some [x, y, z]) := by
  have hbk : env.blockKind = .function := by unfold Env.blockKind; rw [hk]; rfl
  have kx : env.kindOf x = some .local := hx
  have ky : env.kindOf y = some .local := hy
  have kz : env.kindOf z = some .local := hz
  have s1 := star_no ha
  have s2 := star_no hb
  have s3 := star_no hc
  have e1 : py.line = px.line := by simpa using hl
  have e2 : pz.line = px.line := by simpa using hl2
  unfold swappedStores
  simp only [hbk, h1, h2, List.any_cons, List.any_nil, s1, s2, s3, List.length_cons, List.length_nil]
  simp [kx, ky, kz, e1, e2, Expr.pos, List.filterMap, List.eraseDups_cons, n1, n2, n3, Ne.symm n1, Ne.symm n2, Ne.symm n3]
  rintro (z | z | z)
  · cases a <;> first | (cases ha; done) | (cases z; done)
  · cases b <;> first | (cases hb; done) | (cases z; done)
  · cases c <;> first | (cases hc; done) | (cases z; done)
theorem star3 {b c : Expr} (h : headB b = true) (h2 : headB c = true) (pos : Pos) (env : Env) : (backTo pos (starEach [b, c] env)).any (·.1) = false := by
  rw [star_of h, star_of h2]
  rfl
theorem s_par3 (hX : XOk C W X) (hk : X.env.scope.kind = .function) {i j l : Nat} {x y z : Str} {px py pz p1 p2 p : Pos} {k1 k2 : Nat} {a b c : Ee} (hi : slotB X.N i x = true) (hj : slotB X.N j y = true) (hl : slotB X.N l z = true) (hij : i ≠ j) (hil : i ≠ l) (hjl : j ≠ l)
    (hx : X.env.scope.names.lookup x = some .local) (hy : X.env.scope.names.lookup y = some .local) (hz : X.env.scope.names.lookup z = some .local) (l1 : (py.line == px.line) = true) (l2 : (pz.line == px.line) = true) (n1 : x ≠ y) (n2 : x ≠ z) (n3 : y ≠ z)
    (ha : PE X a.em (tX C W (a.ev C.cl))) (hb : PE X b.em (tX C W (b.ev C.cl))) (hc : PE X c.em (tX C W (c.ev C.cl))) (h1 : ([a.em, b.em, c.em].all (foldedForSure 8)) = false) (h2 : ([a.em, b.em, c.em].all (constantsAlone 8)) = false) (wf : Nat) :
    PS X (Sm.par3 i x px j y py l z pz a b c k1 p1 k2 p2 p).em (tS C W ((Sm.par3 i x px j y py l z pz a b c k1 p1 k2 p2 p).ev C.cl wf)) := by
  refine psM (ps_par3 hX.calm hX.nd (slot_of hi) (slot_of hj) (slot_of hl) hij hil hjl hx hy hz (pa_cons ha (pa_2 hb hc b.head c.head) (star_of a.head _ _)) (par3_stores hk hx hy hz l1 l2 n1 n2 n3 a.head b.head c.head h1 h2)) fun D σ H ⟨F, n, R, G, e, S, h⟩ => ?_
  refine tX.of S.st (ss_run S h) fun b1 R1 G1 H1 w1 v1 s1 S1 r1 ⟨T1, q⟩ => tX.of S1 (ss_run T1 q) fun b2 R2 G2 H2 w2 v2 s2 S2 r2 ⟨T2, q2⟩ => tX.of S2 (ss_run T2 q2) fun b3 R3 G3 H3 w3 v3 s3 S3 r3 ⟨T3, q3⟩ => ?_
  exact ⟨v1, v2, v3, rfl, out_nx q3 _ _ _ _ (((T3.setF ((r1.sub s2.g).sub s3.g)).setF (r2.sub s3.g)).setF r3)⟩
/-- x, y, z = value, list, list: one of the names is a cell's -/
theorem s_par3c (hX : XOk C W X) (hn : ∀ x, X.fn x = true) {i j l : Nat} {x y z : Str} {px py pz p1 p2 p : Pos} {k1 k2 : Nat} {a : Ee} {b c : Ef} (ht : (Tt.tp (.cons i x px (.cons j y py (.cons l z pz .nil))) k1 p1).ok X.N X.env.scope none = true) (hcell : (Tt.tp (.cons i x px (.cons j y py (.cons l z pz .nil))) k1 p1).cellB X.env.scope = true)
    (hij : i ≠ j) (hil : i ≠ l) (hjl : j ≠ l) (ha : PE X a.em (tX C W (a.ev C.cl))) (hb : PE X b.em (tF C W (b.ev C.cl))) (hc : PE X c.em (tF C W (c.ev C.cl))) (wf : Nat) :
    PS X (Sm.par3c i x px j y py l z pz a b c k1 p1 k2 p2 p).em (tS C W ((Sm.par3c i x px j y py l z pz a b c k1 p1 k2 p2 p).ev C.cl wf)) := by
  refine psM (ps_asg (pe_tup (pa_cons ha (pa_2 hb hc b.head c.head) (star_of a.head _ _))) (pg_of (sc := X.env.scope) hX.calm hX.nd (fun x h => ⟨loc_of h, .inl (hn x)⟩) (.tp (.cons i x px (.cons j y py (.cons l z pz .nil))) k1 p1) ht) (by unfold swapsWithSole; exact sw_not rfl _ _ _) (stores_cell hcell) rfl) fun D σ H ⟨F, n, R, G, e, S, h⟩ => ?_
  refine tX.of S.st (ss_run S h) fun b1 R1 G1 H1 w1 v1 s1 S1 r1 ⟨T1, q⟩ => ⟨b1, R1, G1, e, S1, (ss_run T1 q).mono fun b2 R2 G2 H2 ds s2 S2 q2 l2 H2' n2 st2 S2' ⟨vs2, hv2, d2⟩ => ?_⟩
  have T2 := q2.1.step st2 S2'
  obtain ⟨o2, no2⟩ := own_new S2 n2 hv2 d2
  have nw2 : Nw C F R2 G2 σ H2' e (.ref l2) (.ow ds) := ⟨l2, rfl, o2, q2.1.stp.h l2 n2, no2⟩
  refine ⟨b2, R2, G2, e, S2', (ss_run T2 q2.2).mono fun b3 R3 G3 H3 es s3 S3 q3 l3 H3' n3 st3 S3' ⟨vs3, hv3, d3⟩ => ⟨(show 3 ≤ sizeLine by decide), fun p np => ?_⟩⟩
  have T3 := q3.1.step st3 S3'
  obtain ⟨o3, no3⟩ := own_new S3 n3 hv3 d3
  have nw3 : Nw C F R3 G3 σ H3' e (.ref l3) (.ow es) := ⟨l3, rfl, o3, q3.1.stp.h l3 n3, no3⟩
  refine ⟨p, _, rfl, .inl (.inl upd_same), rfl, v1, _, rfl, .ref l2, _, rfl, .ref l3, _, rfl, rfl, ?_⟩
  have T4 := T3.step (Stp.open (o := .tup [v1, .ref l2, .ref l3]) np) (S3'.opened np)
  have w2 := nw2.stp (s3.trans (st3.trans (Stp.open (o := .tup [v1, .ref l2, .ref l3]) np)))
  have w3 := nw3.stp (Stp.open (o := .tup [v1, .ref l2, .ref l3]) np)
  refine out_nx q3.2 _ _ _ _ (((T4.setF ((r1.sub s2.g).sub s3.g)).setS (v := .ref l2) (s := .ow ds) ?_).setS (v := .ref l3) (s := .ow es) ?_)
  · obtain ⟨m, em, o, n, no⟩ := w2
    obtain rfl := V.ref.inj em
    exact ⟨_, rfl, o, n, fun k op => no k (opn_set (s := .fz w1) fz_no op).2⟩
  · obtain ⟨m, em, o, n, no⟩ := w3
    obtain rfl := V.ref.inj em
    refine ⟨_, rfl, o, n, fun k op => ?_⟩
    obtain ⟨⟨us, g1⟩, g2⟩ := op
    by_cases c : k = j
    · subst c
      by_cases c : k < (σ.set i (some v1)).length
      · rw [List.getElem?_set_self c] at g2
        injection g2 with g2
        injection g2 with g2
        injection g2 with g2
        subst g2
        obtain ⟨vs1, u1, _⟩ := o2.at_
        have u2 := s3.k _ _ u1 o2.r
        rw [n3] at u2
        cases u2
      · rw [List.getElem?_eq_none (by rw [List.length_set]; omega)] at g2
        cases g2
    · rw [List.getElem?_set_ne (Ne.symm c)] at g1 g2
      exact no k (opn_set (s := .fz w1) fz_no ⟨⟨us, g1⟩, g2⟩).2
/-- x, y = value, {}: one of the names is a cell's -/
theorem s_parD (hX : XOk C W X) (hn : ∀ x, X.fn x = true) {i j : Nat} {x y : Str} {px py p1 p2 pd p : Pos} {k1 k2 : Nat} {a : Ee} (ht : (Tt.tp (.cons i x px (.cons j y py .nil)) k1 p1).ok X.N X.env.scope none = true) (hcell : (Tt.tp (.cons i x px (.cons j y py .nil)) k1 p1).cellB X.env.scope = true)
    (hij : i ≠ j) (ha : PE X a.em (tX C W (a.ev C.cl))) (wf : Nat) :
    PS X (Sm.parD i x px j y py a pd k1 p1 k2 p2 p).em (tS C W ((Sm.parD i x px j y py a pd k1 p1 k2 p2 p).ev C.cl wf)) := by
  refine psM (ps_asg (pe_tup (pa_2 ha pe_dnewK a.head rfl)) (pg_of (sc := X.env.scope) hX.calm hX.nd (fun x h => ⟨loc_of h, .inl (hn x)⟩) (.tp (.cons i x px (.cons j y py .nil)) k1 p1) ht) (by unfold swapsWithSole; exact sw_not rfl _ _ _) (stores_cell hcell) rfl) fun D σ H ⟨F, n, R, G, e, S, h⟩ => ?_
  refine tX.of S.st (ss_run S h) fun b1 R1 G1 H1 w1 v1 s1 S1 r1 ⟨T1, q⟩ => fun l ln => ⟨(show 2 ≤ sizeLine by decide), fun p np => ?_⟩
  have T2 := T1.step (Stp.open (o := .dK []) ln) (S1.opened ln)
  have S2 := S1.opened (o := .dK []) ln
  have T3 := T2.step (Stp.open (o := .tup [v1, .ref l]) np) (S2.opened np)
  have ne : l ≠ p := fun z => by
    rw [← z, upd_same] at np
    cases np
  refine ⟨p, _, rfl, .inl (.inl upd_same), rfl, v1, _, rfl, .ref l, _, rfl, rfl, ?_⟩
  have ow : OwnD C R1 G1 (upd (upd H1 l (.dK [])) p (.tup [v1, .ref l])) l [] := ⟨⟨[], by rw [upd_ne ne, upd_same], .nil⟩, S1.bs.gnone ln, S1.bs.rnone ln⟩
  refine out_nx q _ _ _ _ ((T3.setF r1).setD ow (T1.stp.h l ln) fun k op => ?_)
  have op2 := (opn_set (s := .fz w1) fz_no op).2
  obtain ⟨⟨u, hu⟩, _⟩ := S1.opn_some op2
  rw [ln] at hu
  cases hu
/-! ### an open list is written -/
theorem SS.wrG {i : Nat} {l : Addr} {s s' : Sl} {o : HO} (S : SS C F b R G σ H e) (h : e[i]? = some s) (ho : slOpn s) (hs : σ[i]? = some (some (.ref l))) (ok : G l = none → l ∉ R → SlOk C R G (upd H l o) (some (some (.ref l))) s') : SS C F b R G σ (upd H l o) (e.set i s') := by
  have op : Opn σ e i l := ⟨⟨s, h, ho⟩, hs⟩
  obtain ⟨_, g, r⟩ := S.st.opn_some op
  have back : ∀ {j m}, Opn σ (e.set i s') j m → Opn σ e j m := fun {j m} o => by
    obtain ⟨⟨es, h1, ho1⟩, h2⟩ := o
    by_cases c : i = j
    · subst c
      exact ⟨⟨s, h, ho⟩, h2⟩
    · rw [List.getElem?_set_ne c] at h1
      exact ⟨⟨es, h1, ho1⟩, h2⟩
  refine ⟨⟨S.st.bs.put g r, by rw [List.length_set]; exact S.st.len, fun j sl hj => ?_, fun j k m o1 o2 => S.st.ap j k m (back o1) (back o2)⟩, S.stp.but (S.fr i l op) fun a ha => upd_ne ha, fun j m o => S.fr j m (back o), S.gb, S.fx⟩
  by_cases c : i = j
  · subst c
    rw [List.getElem?_set_self (List.getElem?_eq_some_iff.mp h).1] at hj
    obtain rfl := Option.some.inj hj
    rw [hs]
    exact ok g r
  · rw [List.getElem?_set_ne c] at hj
    have z := S.st.sl j sl hj
    cases sl with
    | un => trivial
    | cap c => exact z
    | fz w => exact z
    | ow es =>
      obtain ⟨m, e1, o⟩ := z
      obtain ⟨us, q, q2⟩ := o.at_
      refine ⟨m, e1, ⟨us, ?_, q2⟩, o.g, o.r⟩
      have ne : m ≠ l := fun z => c (S.st.ap i j l op ⟨⟨_, hj, trivial⟩, z ▸ e1⟩)
      rw [upd_ne ne]
      exact q
    | od es =>
      obtain ⟨m, e1, o⟩ := z
      obtain ⟨us, q, q2⟩ := o.at_
      refine ⟨m, e1, ⟨us, ?_, q2⟩, o.g, o.r⟩
      have ne : m ≠ l := fun z => c (S.st.ap i j l op ⟨⟨_, hj, trivial⟩, z ▸ e1⟩)
      rw [upd_ne ne]
      exact q
theorem SS.wr {i : Nat} {l : Addr} {ds ds' : List PyData} {vs' : List V} (S : SS C F b R G σ H e) (h : e[i]? = some (.ow ds)) (hs : σ[i]? = some (some (.ref l))) (d : DqAll C.K G vs' ds') : SS C F b R G σ (upd H l (.lst vs')) (e.set i (.ow ds')) :=
  S.wrG h trivial hs fun g r => ⟨l, rfl, ⟨vs', upd_same, d⟩, g, r⟩
theorem SS.wrD {i : Nat} {l : Addr} {ds ds' : List (Key × PyData)} {ks : List (Key × V)} (S : SS C F b R G σ H e) (h : e[i]? = some (.od ds)) (hs : σ[i]? = some (some (.ref l))) (d : DqK C.K G ks ds') : SS C F b R G σ (upd H l (.dK ks)) (e.set i (.od ds')) :=
  S.wrG h trivial hs fun g r => ⟨l, rfl, ⟨ks, upd_same, d⟩, g, r⟩
theorem isO_run {i : Nat} {c : Comp Ou} {P : Nat → Ou → Prop} (h : (isO e i c).wp b P noE) : (∃ ds, e[i]? = some (.ow ds)) ∧ c.wp b P noE := by
  unfold isO at h
  split at h
  · rename_i ds eq
    exact ⟨⟨ds, eq⟩, h⟩
  · exact h.elim
theorem isF_run {i : Nat} {c : Comp Ou} {P : Nat → Ou → Prop} (h : (isF e i c).wp b P noE) : (∃ w, e[i]? = some (.fz w)) ∧ c.wp b P noE := by
  unfold isF at h
  split at h
  · rename_i w eq
    exact ⟨⟨w, eq⟩, h⟩
  · exact h.elim
theorem set_ix {o i : Expr} {pos : Pos} (h : headB i = true) (env : Env) (v : Value) : assign (.Subscript o i pos) env v = (do
      let ov ← holding [v] (eval o env)
      let iv ← holding [v, ov] (eval i env)
      standAt pos
      holding [v, ov, iv] (setItem ov iv v)
      release [v, ov, iv] []) := by
  cases i <;> first | rfl | cases h
theorem s_put (hX : XOk C W X) {i : Nat} {x : Str} {px pt p : Pos} {ix a : Ee} (hi : slotB X.N i x = true) (hv : visB X.env.scope x = true) (hx : PE X ix.em (tX C W (ix.ev C.cl))) (ha : PE X a.em (tX C W (a.ev C.cl))) (hs : stN a.em = true) (wf : Nat) :
    PS X (Sm.put i x px ix a pt p).em (tS C W ((Sm.put i x px ix a pt p).ev C.cl wf)) := by
  have n := plainNm_of (nm_vis hv)
  refine psM (ps_asg ha (pg_sub (pe_var (slot_of hi) (vis_of hv) n.1 n.2.1) hx set_list (set_ix ix.head _)) (by unfold swapsWithSole; exact sw_sub _ _) (stores_not hs [] _ _) rfl) fun D σ H ⟨F, b, R, G, e, S, h⟩ => ?_
  obtain ⟨⟨ds, he⟩, h⟩ := isO_run h
  refine tX.of S.st (ss_run S h).dD fun b1 R1 G1 H1 w v s1 S1 r1 ⟨d, ew, T1, q⟩ => ?_
  subst ew
  obtain ⟨l, hl, o⟩ := S.st.sl i _ he
  refine ⟨.ref l, hl, tX.of S1 (ss_run T1 q).dI fun b2 R2 G2 H2 w2 v2 s2 S2 r2 ⟨k, ew, T2, q2⟩ => ?_⟩
  subst ew
  cases r2
  obtain ⟨l', hl', o2⟩ := T2.st.sl i _ he
  rw [hl] at hl'
  injection hl' with hl'
  injection hl' with hl'
  injection hl' with hl'
  subst hl'
  obtain ⟨vs, hv, dv⟩ := o2.at_
  have q2 : (match e[i]? with
    | some (.ow ds) => (match L2.ixN ds.length k with | some j => .ret (.nx (e.set i (.ow (ds.set j d)))) | none => .stuck)
    | _ => .stuck : Comp Ou).wp b2 (OuP C W F D) noE := q2
  rw [he] at q2
  have q2 : (match L2.ixN ds.length k with | some j => .ret (.nx (e.set i (.ow (ds.set j d)))) | none => .stuck : Comp Ou).wp b2 (OuP C W F D) noE := q2
  cases ej : L2.ixN ds.length k with
  | none =>
    rw [ej] at q2
    exact q2.elim
  | some j =>
    rw [ej] at q2
    exact ⟨l, vs, k, j, rfl, rfl, hv, by rw [dps_length dv]; exact ej, out_nx q2 _ _ _ _ (T2.wr he hl (dps_set (s2.g.dp r1) j dv))⟩
theorem s_app (hX : XOk C W X) {i : Nat} {x : Str} {px pa pc p : Pos} {a : Ee} (hi : slotB X.N i x = true) (hv : visB X.env.scope x = true) (ha : PE X a.em (tX C W (a.ev C.cl))) (hl : (pa.endLine == pc.line) = true) (wf : Nat) :
    PS X (Sm.app i x px pa a pc p).em (tS C W ((Sm.app i x px pa a pc p).ev C.cl wf)) := by
  have n := plainNm_of (nm_vis hv)
  refine psM (ps_expr (pe_bm F.plainAttrs_list F.slot_list_append F.type_list_append mt_append (pe_var (slot_of hi) (vis_of hv) n.1 n.2.1) (pa_1 ha a.head) (base_of rfl _ _) ?_ hl (star_of a.head _ _))) fun D σ H ⟨F, b, R, G, e, S, h⟩ => ?_
  · rw [star_of a.head]
    rfl
  · obtain ⟨⟨ds, he⟩, h⟩ := isO_run h
    obtain ⟨l, hl, o⟩ := S.st.sl i _ he
    obtain ⟨vs, hv, dv⟩ := o.at_
    refine ⟨.ref l, hl, .inl ⟨rfl, vs, .inl (.inl hv)⟩, tX.of S.st (ss_run S h).dD fun b1 R1 G1 H1 w v s1 S1 r1 ⟨d, ew, T1, q⟩ => ?_⟩
    subst ew
    obtain ⟨l', hl', o2⟩ := T1.st.sl i _ he
    rw [hl] at hl'
    injection hl' with hl'
    injection hl' with hl'
    injection hl' with hl'
    subst hl'
    obtain ⟨vs2, hv2, dv2⟩ := o2.at_
    have q : (match e[i]? with
      | some (.ow ds) => if ds.length < LIM then .ret (.nx (e.set i (.ow (ds ++ [d])))) else .stuck
      | _ => .stuck : Comp Ou).wp b1 (OuP C W F D) noE := q
    rw [he] at q
    have q : (if ds.length < LIM then .ret (.nx (e.set i (.ow (ds ++ [d])))) else .stuck : Comp Ou).wp b1 (OuP C W F D) noE := q
    by_cases c : ds.length < LIM
    · rw [if_pos c] at q
      refine ⟨l, vs2, v, rfl, rfl, hv2, ?_, out_nx q _ _ _ _ (T1.wr he hl (dps_append dv2 (.cons r1 .nil)))⟩
      rw [dps_length dv2]
      have := lim_line (Nat.le_refl LIM)
      omega
    · rw [if_neg c] at q
      exact q.elim
/-! ### x.extend(a new list) -/
theorem s_ext (hX : XOk C W X) {i : Nat} {x : Str} {px pa pc p : Pos} {f : Ef} (hi : slotB X.N i x = true) (hv : visB X.env.scope x = true) (hf : PE X f.em (tF C W (f.ev C.cl))) (hl : (pa.endLine == pc.line) = true) (wf : Nat) :
    PS X (Sm.ext i x px pa f pc p).em (tS C W ((Sm.ext i x px pa f pc p).ev C.cl wf)) := by
  have n := plainNm_of (nm_vis hv)
  have hd : headB f.em = true := f.head
  refine psM (ps_expr (pe_bm F.plainAttrs_list F.slot_list_extend F.type_list_extend mt_extend (pe_var (slot_of hi) (vis_of hv) n.1 n.2.1) (pa_1 hf hd) (base_of rfl _ _) ?_ hl (star_of hd _ _))) fun D σ H ⟨F, b, R, G, e, S, h⟩ => ?_
  · rw [star_of hd]
    rfl
  · obtain ⟨⟨ds, he⟩, h⟩ := isO_run h
    obtain ⟨l, hl, o⟩ := S.st.sl i _ he
    obtain ⟨vs, hv, dv⟩ := o.at_
    refine ⟨.ref l, hl, .inl ⟨rfl, vs, .inl (.inl hv)⟩, b, R, G, e, S.st, (ss_run S h).mono fun b1 R1 G1 H1 es s1 S1 ⟨T1, q⟩ => kf_own T1 fun l2 H2 S2 o2 n2 no2 => ?_⟩
    obtain ⟨l', hl', o3⟩ := S2.st.sl i _ he
    rw [hl] at hl'
    injection hl' with hl'
    injection hl' with hl'
    injection hl' with hl'
    subst hl'
    obtain ⟨vs2, hv2, dv2⟩ := o3.at_
    obtain ⟨vs3, hv3, dv3⟩ := o2.at_
    have q : (match e[i]? with
      | some (.ow ds) => if ds.length + es.length < LIM then .ret (.nx (e.set i (.ow (ds ++ es)))) else .stuck
      | _ => .stuck : Comp Ou).wp b1 (OuP C W F D) noE := q
    rw [he] at q
    have q : (if ds.length + es.length < LIM then .ret (.nx (e.set i (.ow (ds ++ es)))) else .stuck : Comp Ou).wp b1 (OuP C W F D) noE := q
    by_cases c : ds.length + es.length < LIM
    · rw [if_pos c] at q
      refine ⟨l, l2, vs2, vs3, rfl, rfl, hv2, hv3, ?_, out_nx q _ _ _ _ (S2.wr he hl (dps_append dv2 dv3))⟩
      rw [dps_length dv2, dps_length dv3]
      have := lim_line (Nat.le_refl LIM)
      omega
    · rw [if_neg c] at q
      exact q.elim
/-! ### x.append(y.pop(e)) -/
theorem dps_erase : ∀ {vs : List V} {ds : List PyData} {n : Nat}, DqAll C.K G vs ds → DqAll C.K G (vs.eraseIdx n) (ds.eraseIdx n)
  | _, _, _, .nil => .nil
  | _, _, 0, .cons r t => t
  | _, _, n + 1, .cons r t => .cons r (dps_erase t)
theorem dps_nth : ∀ {vs : List V} {ds : List PyData} {n : Nat} {d : PyData}, DqAll C.K G vs ds → ds[n]? = some d → ∃ v, vs[n]? = some v ∧ Dq C.K G v d
  | _, _, 0, _, .cons r t, h => by
    obtain rfl := Option.some.inj (by simpa using h)
    exact ⟨_, rfl, r⟩
  | _, _, n + 1, _, .cons r t, h => by
    obtain ⟨v, h1, h2⟩ := dps_nth (n := n) t (by simpa using h)
    exact ⟨v, by simpa using h1, h2⟩
theorem popE_int {e : En} {i j : Nat} {ds es : List PyData} {z : Int} (he : e[i]? = some (.ow ds)) (hf : e[j]? = some (.ow es)) : popE e i j (.int z) = if decide (0 ≤ z) && decide (es.length ≤ LIM) && decide (ds.length < LIM) then (match es[z.toNat]? with | some y => .ret (.nx ((e.set j (.ow (es.eraseIdx z.toNat))).set i (.ow (ds ++ [y])))) | none => .stuck) else .stuck := by
  unfold popE
  rw [he, hf] <;> rfl
theorem seqIx {z : Int} {n : Nat} (h0 : 0 ≤ z) (h1 : z < n) : seqIndex? z n = some z.toNat := by
  have e : seqIndex? z n = if (decide (0 ≤ (if z < 0 then z + n else z)) && decide ((if z < 0 then z + n else z) < n)) = true then some (if z < 0 then z + n else z).toNat else none := rfl
  have e2 : (if z < 0 then z + (n : Int) else z) = z := if_neg (by omega)
  rw [e, e2, decide_eq_true h0, decide_eq_true h1]
  rfl
theorem popE_no {e : En} {i j : Nat} {ds es : List PyData} {d : PyData} {b : Nat} {P : Nat → Ou → Prop} (he : e[i]? = some (.ow ds)) (hf : e[j]? = some (.ow es)) (hd : ∀ z, d ≠ .int z) (h : (popE e i j d).wp b P noE) : False := by
  unfold popE at h
  rw [he, hf] at h
  cases d <;> first | exact h.elim | exact hd _ rfl
theorem s_apo (hX : XOk C W X) {i j : Nat} {x y : Str} {px pa py pb pq pc p : Pos} {a : Ee} (hi : slotB X.N i x = true) (hv : visB X.env.scope x = true) (hj : slotB X.N j y = true) (hw : visB X.env.scope y = true) (ij : i ≠ j) (ha : PE X a.em (tX C W (a.ev C.cl)))
    (hl2 : (pb.endLine == pq.line) = true) (hl : (pa.endLine == pc.line) = true) (wf : Nat) :
    PS X (Sm.apo i x px pa j y py pb a pq pc p).em (tS C W ((Sm.apo i x px pa j y py pb a pq pc p).ev C.cl wf)) := by
  have n := plainNm_of (nm_vis hv)
  have m := plainNm_of (nm_vis hw)
  have pop : PE X (.Call (.Attribute (.Name y py) "pop" pb) [a.em] [] pq) (tBM X.K "list" rPopAt (tVar j) (tCons (tX C W (a.ev C.cl)) tNil)) := by
    refine pe_bm F.plainAttrs_list F.slot_list_pop F.type_list_pop mt_popAt (pe_var (slot_of hj) (vis_of hw) m.1 m.2.1) (pa_1 ha a.head) (base_of rfl _ _) ?_ hl2 (star_of a.head _ _)
    rw [star_of a.head]
    rfl
  refine psM (ps_expr (pe_bm F.plainAttrs_list F.slot_list_append F.type_list_append mt_append (pe_var (slot_of hi) (vis_of hv) n.1 n.2.1) (pa_1 pop rfl) (base_of rfl _ _) (by rfl) hl (by rfl))) fun D σ H ⟨F, b, R, G, e, S, h⟩ => ?_
  obtain ⟨⟨ds, he⟩, h⟩ := isO_run h
  obtain ⟨⟨es, hf⟩, h⟩ := isO_run h
  obtain ⟨l, hl, o⟩ := S.st.sl i _ he
  obtain ⟨vs, hv, dv⟩ := o.at_
  obtain ⟨k, hk, o2⟩ := S.st.sl j _ hf
  obtain ⟨us, hu, du⟩ := o2.at_
  refine ⟨.ref l, hl, .inl ⟨rfl, vs, .inl (.inl hv)⟩, .ref k, hk, .inl ⟨rfl, us, .inl (.inl hu)⟩, tX.of S.st (ss_run S h).dD fun b1 R1 G1 H1 w v s1 S1 r1 ⟨d, ew, T1, q⟩ => ?_⟩
  subst ew
  cases d with
  | int z =>
    have q : (popE e i j (.int z)).wp b1 (OuP C W F D) noE := q
    rw [popE_int he hf] at q
    by_cases c : (decide (0 ≤ z) && decide (es.length ≤ LIM) && decide (ds.length < LIM)) = true
    · rw [if_pos c] at q
      rw [Bool.and_eq_true, Bool.and_eq_true, decide_eq_true_eq, decide_eq_true_eq, decide_eq_true_eq] at c
      cases ey : es[z.toNat]? with
      | none => rw [ey] at q; exact q.elim
      | some yd =>
        rw [ey] at q
        have q : (Comp.ret (.nx ((e.set j (.ow (es.eraseIdx z.toNat))).set i (.ow (ds ++ [yd]))))).wp b1 (OuP C W F D) noE := q
        obtain ⟨k', hk', p2⟩ := T1.st.sl j _ hf
        rw [hk] at hk'
        obtain rfl : k = k' := by
          injection hk' with hk'
          injection hk' with hk'
          injection hk'
        obtain ⟨us1, hu1, du1⟩ := p2.at_
        obtain ⟨u, hu2, ru⟩ := dps_nth du1 ey
        have T2 := T1.wr hf hk (dps_erase (n := z.toNat) du1)
        have he2 : (e.set j (.ow (es.eraseIdx z.toNat)))[i]? = some (.ow ds) := by
          rw [List.getElem?_set_ne (Ne.symm ij)]
          exact he
        obtain ⟨l', hl', p3⟩ := T2.st.sl i _ he2
        rw [hl] at hl'
        obtain rfl : l = l' := by
          injection hl' with hl'
          injection hl' with hl'
          injection hl'
        obtain ⟨vs2, hv2, dv2⟩ := p3.at_
        have lz : z.toNat < es.length := (List.getElem?_eq_some_iff.mp ey).1
        have lu := dps_length du1
        have ll := lim_line (Nat.le_refl LIM)
        cases r1
        refine ⟨k, us1, z, z.toNat, u, rfl, rfl, hu1, by omega, ?_, ?_, hu2, l, vs2, u, rfl, rfl, hv2, ?_, out_nx q _ _ _ _ (T2.wr he2 hl (dps_append dv2 (.cons ru .nil)))⟩
        · have := c.1.2
          unfold LIM at this
          omega
        · exact seqIx c.1.1 (by omega)
        · rw [dps_length dv2]
          have := c.2
          omega
    · rw [if_neg c] at q
      exact q.elim
  | _ => exact (popE_no he hf (by nofun) q).elim
/-! ### name op= e -/
def ipB (o : BO) : TIp := fun x y H Q => ∃ i j z, x = .int i ∧ y = .int j ∧ augB o i j = .ret z ∧ Q (.int z) H
theorem ip_any (o : BO) : PIp X o.op (ipB o) := by
  intro pins s σ H x y v u Q I r1 r2 h
  obtain ⟨i, j, z, rfl, rfl, h, q⟩ := h
  obtain ⟨t, rfl⟩ := r1
  obtain ⟨t', rfl⟩ := r2
  have fin : EP X pins σ Q (.int z s.toks) { s with toks := s.toks + 1 } := ⟨.int z, H, I.tok _, ⟨_, rfl⟩, q⟩
  cases o with
  | add =>
    injection h with h
    subst h
    exact iadd_int fin
  | sub =>
    injection h with h
    subst h
    exact isub_int fin
  | mul =>
    have h : (if smallI i || smallI j then .ret (i * j) else .stuck : Comp Int) = .ret z := h
    by_cases c : (smallI i || smallI j) = true
    · rw [if_pos c] at h
      injection h with h
      subst h
      rw [Bool.or_eq_true] at c
      unfold smallI at c
      rw [Bool.and_eq_true, Bool.and_eq_true, decide_eq_true_eq, decide_eq_true_eq, decide_eq_true_eq, decide_eq_true_eq] at c
      exact imul_int fin (CMul.ok (by unfold CMul; omega))
    · rw [if_neg c] at h
      cases h
  | div =>
    have h : (if decide (0 < j) && decide (j.natAbs.log2 < 9000) then .ret (i / j) else .stuck : Comp Int) = .ret z := h
    by_cases c : (decide (0 < j) && decide (j.natAbs.log2 < 9000)) = true
    · rw [if_pos c] at h
      injection h with h
      subst h
      rw [Bool.and_eq_true, decide_eq_true_eq, decide_eq_true_eq] at c
      exact ifloordiv_int (by omega) (by rw [Int.fdiv_eq_ediv_of_nonneg i (by omega)]; exact fin) (.inl (PyProof.noPylong_of_log2 c.2))
    · rw [if_neg c] at h
      cases h
  | mod => cases h
  | pow => cases h
theorem augB_form (o : BO) (i j : Int) : (∃ z, augB o i j = .ret z) ∨ augB o i j = .stuck := by
  cases o with
  | add => exact .inl ⟨_, rfl⟩
  | sub => exact .inl ⟨_, rfl⟩
  | mul =>
    by_cases c : (smallI i || smallI j) = true
    · exact .inl ⟨_, if_pos c⟩
    · exact .inr (if_neg c)
  | div =>
    by_cases c : (decide (0 < j) && decide (j.natAbs.log2 < 9000)) = true
    · exact .inl ⟨_, if_pos c⟩
    · exact .inr (if_neg c)
  | mod => exact .inr rfl
  | pow => exact .inr rfl
theorem s_aug (hX : XOk C W X) (hn : ∀ x, X.fn x = true) {i : Nat} {x : Str} {px p : Pos} {o : BO} {a : Ee} (hi : slotB X.N i x = true) (hl : locB X.env.scope x = true) (ha : PE X a.em (tX C W (a.ev C.cl))) (wf : Nat) :
    PS X (Sm.aug i x px o a p).em (tS C W ((Sm.aug i x px o a p).ev C.cl wf)) :=
  psM (ps_aug hX.nd (slot_of hi) (loc_of hl) ha (ip_any o) (.inl (hn x))) fun D σ H ⟨F, b, R, G, e, S, h⟩ => by
    obtain ⟨⟨w, he⟩, h⟩ := isF_run h
    obtain ⟨u, hu, ru⟩ := S.st.sl i _ he
    refine ⟨u, hu, tX.of S.st (ss_run S h).dI fun b1 R1 G1 H1 w1 v s1 S1 r1 ⟨k, ew, T1, q⟩ => ?_⟩
    subst ew
    cases r1
    have q : ((dI (varE e i)).bind fun x => (augB o x k).bind fun z => .ret (.nx (e.set i (.fz (.d (.int z)))))).wp b1 (OuP C W F D) noE := q
    have ev : varE e i = .ret w := by
      unfold varE
      rw [he]
    rw [ev] at q
    cases w with
    | rng => exact q.elim
    | scr n => exact q.elim
    | dct n => exact q.elim
    | er n => exact q.elim
    | fn n => exact q.elim
    | d d =>
      cases d with
      | int n =>
        have q : ((augB o n k).bind fun z => .ret (.nx (e.set i (.fz (.d (.int z)))))).wp b1 (OuP C W F D) noE := q
        have ru : Dq C.K G u (.int n) := ru
        cases ru
        rcases augB_form o n k with ⟨z, ez⟩ | ez
        · rw [ez] at q
          exact ⟨n, k, z, rfl, rfl, ez, out_nx q _ _ _ _ (T1.setF (w := .d (.int z)) (.int z))⟩
        · rw [ez] at q
          exact q.elim
      | _ => exact q.elim
/-! ### dicts -/
theorem s_asgD (hX : XOk C W X) (hn : ∀ x, X.fn x = true) {i : Nat} {x : Str} {px pd p : Pos} {ks : List (Str × Nat × Pos)} {es : Es} (hi : slotB X.N i x = true) (hl : locB X.env.scope x = true) (hp : PPs X pd (keysE ks) es.em (trsD C W ks es)) (hlen : ks.length = es.len) (h0 : 0 < es.len) (h15 : es.len ≤ 15) (wf : Nat) :
    PS X (Sm.asgD i x px ks es pd p).em (tS C W ((Sm.asgD i x px ks es pd p).ev C.cl wf)) :=
  psM (ps_set hX.nd (slot_of hi) (loc_of hl) (pe_dispD hp hlen h0 h15) (sw_not rfl _ _ _) (.inl (hn x))) fun D σ H ⟨F, b, R, G, e, S, h⟩ => by
    have h : (exO e (es.ev C.cl e) fun ds => .ret (.nx (e.set i (.od (mkD (ks.map (·.1)) ds))))).wp b (OuP C W F D) noE := h
    refine disp_run hlen h15 S.st (Comp.wp_mono (Comp.wp_tie.mp h) (fun _ _ z => z) fun b' x q R' G' H' cls d s S' ex => q R' G' σ H' cls d (S.step s S') (ex.back S.stp.h)) fun b1 R1 G1 H2 p kvs ds np s1 S1 s2 S2 sub hv g1 r1 d k => ?_
    exact out_nx k _ _ _ _ ((S.step s1 S1).setD ⟨⟨kvs, hv, d⟩, g1, r1⟩ (S.stp.h p np) fun j op => by
      obtain ⟨⟨u, hu⟩, _⟩ := S.st.opn_some op
      rw [np] at hu
      cases hu)
theorem isD_run {i : Nat} {c : Comp Ou} {P : Nat → Ou → Prop} (h : (isD e i c).wp b P noE) : (∃ ds, e[i]? = some (.od ds)) ∧ c.wp b P noE := by
  unfold isD at h
  split at h
  · rename_i ds eq
    exact ⟨⟨ds, eq⟩, h⟩
  · exact h.elim
theorem dline {n : Nat} (h : n < 1000) : n < sizeLine := Nat.lt_trans h (by decide)
theorem s_dput (hX : XOk C W X) {i : Nat} {x s : Str} {px pk pt p : Pos} {k : Nat} {a : Ee} (hi : slotB X.N i x = true) (hv : visB X.env.scope x = true) (ha : PE X a.em (tX C W (a.ev C.cl))) (wf : Nat) :
    PS X (Sm.dput i x px s k pk a pt p).em (tS C W ((Sm.dput i x px s k pk a pt p).ev C.cl wf)) := by
  have n := plainNm_of (nm_vis hv)
  refine psM (ps_dput (hu_ok hX) (pe_var (slot_of hi) (vis_of hv) n.1 n.2.1) pe_str ha (sw_sub _ _)) fun D σ H ⟨F, b, R, G, e, S, h⟩ => ?_
  obtain ⟨⟨kvs, he⟩, h⟩ := isD_run h
  refine tX.of S.st (ss_run S h).dD fun b1 R1 G1 H1 w v s1 S1 r1 ⟨d, ew, T1, q⟩ => ?_
  subst ew
  obtain ⟨l, hl, o⟩ := T1.st.sl i _ he
  obtain ⟨ks, hk, dk⟩ := o.at_
  have q : (dputE e i (.inr s) d).wp b1 (OuP C W F D) noE := q
  unfold dputE at q
  rw [he] at q
  by_cases c : kvs.length < 1000
  · have q : (if kvs.length < 1000 then Comp.ret (Ou.nx (e.set i (.od (putD kvs (.inr s) d)))) else .stuck).wp b1 (OuP C W F D) noE := q
    rw [if_pos c] at q
    exact ⟨.ref l, hl, l, _, rfl, DPut.k (k := Sum.inr s) hk (dline (by rw [dk.len]; exact c)), out_nx q _ _ _ _ (T1.wrD he hl (dk.put r1))⟩
  · have q : (if kvs.length < 1000 then Comp.ret (Ou.nx (e.set i (.od (putD kvs (.inr s) d)))) else .stuck).wp b1 (OuP C W F D) noE := q
    rw [if_neg c] at q
    exact q.elim
theorem s_dpi (hX : XOk C W X) {i : Nat} {x : Str} {px pt p : Pos} {k a : Ee} (hi : slotB X.N i x = true) (hv : visB X.env.scope x = true) (hk : PE X k.em (tX C W (k.ev C.cl))) (ha : PE X a.em (tX C W (a.ev C.cl))) (wf : Nat) :
    PS X (Sm.dpi i x px k a pt p).em (tS C W ((Sm.dpi i x px k a pt p).ev C.cl wf)) := by
  have n := plainNm_of (nm_vis hv)
  refine psM (ps_dput (hu_ok hX) (pe_var (slot_of hi) (vis_of hv) n.1 n.2.1) hk ha (sw_sub _ _)) fun D σ H ⟨F, b, R, G, e, S, h⟩ => ?_
  obtain ⟨⟨kvs, he⟩, h⟩ := isD_run h
  refine tX.of S.st (ss_run S h).dD fun b1 R1 G1 H1 w v s1 S1 r1 ⟨d, ew, T1, q⟩ => ?_
  subst ew
  obtain ⟨l, hl, o⟩ := T1.st.sl i _ he
  refine ⟨.ref l, hl, tX.of S1 (ss_run T1 q).bind.dD fun b2 R2 G2 H2 w2 v2 s2 S2 r2 ⟨d2, ew, q2⟩ => ?_⟩
  subst ew
  have big : ∀ s : Key, v2 = kV s → (∀ R' G' H', Stp R2 G2 H2 R' G' H' → St C b2 R' G' σ H' e → SS C F b2 R' G' σ H' e ∧ (dputE e i s d).wp b2 (OuP C W F D) noE) → ∃ a H4, V.ref l = .ref a ∧ DPut H2 a v2 v H4 ∧ D.nx σ H4 := fun s ev q2 => by
    obtain ⟨T2, q2⟩ := q2 R2 G2 H2 .refl S2
    obtain ⟨l', e2, o⟩ := T2.st.sl i _ he
    rw [hl] at e2
    cases e2
    obtain ⟨ks, hk, dk⟩ := o.at_
    unfold dputE at q2
    rw [he] at q2
    subst ev
    by_cases c : kvs.length < 1000
    · have q2 : (if kvs.length < 1000 then Comp.ret (Ou.nx (e.set i (.od (putD kvs s d)))) else .stuck).wp b2 (OuP C W F D) noE := q2
      rw [if_pos c] at q2
      exact ⟨l, _, rfl, DPut.k (k := s) hk (dline (by rw [dk.len]; exact c)), out_nx q2 _ _ _ _ (T2.wrD he hl (dk.put (s2.g.dp r1)))⟩
    · have q2 : (if kvs.length < 1000 then Comp.ret (Ou.nx (e.set i (.od (putD kvs s d)))) else .stuck).wp b2 (OuP C W F D) noE := q2
      rw [if_neg c] at q2
      exact q2.elim
  cases d2 <;> first | exact q2.elim | skip
  · cases r2
    exact big (.inl _) rfl fun R' G' H' s S => q2 R' G' H' s S
  · cases r2
    exact big (.inr _) rfl fun R' G' H' s S => q2 R' G' H' s S
theorem stores_sub {o1 i1 o2 i2 a c : Expr} {t1 t2 pt pv : Pos} {kt kv : Nat} (env : Env) : swappedStores [.Tuple [.Subscript o1 i1 t1, .Subscript o2 i2 t2] kt pt] (.Tuple [a, c] kv pv) env = pure none := by
  unfold swappedStores
  dsimp only
  split
  · rfl
  · split
    · rfl
    · split
      · rfl
      · rename_i hn
        exact absurd rfl hn
theorem putD_len {kvs : List (Key × PyData)} {s : Key} {d : PyData} : (putD kvs s d).length ≤ kvs.length + 1 := by
  unfold putD
  split
  · rw [List.length_map]
    omega
  · rw [List.length_append]
    exact Nat.le_refl _
theorem s_dpar (hX : XOk C W X) {i : Nat} {x s u : Str} {p1 q1 t1 p2 q2 t2 pt pv p : Pos} {k1 k2 kt kv : Nat} {a c : Ee} (hi : slotB X.N i x = true) (hv : visB X.env.scope x = true) (ha : PE X a.em (tX C W (a.ev C.cl))) (hc : PE X c.em (tX C W (c.ev C.cl))) (wf : Nat) :
    PS X (Sm.dpar i x p1 s k1 q1 t1 p2 u k2 q2 t2 a c kt pt kv pv p).em (tS C W ((Sm.dpar i x p1 s k1 q1 t1 p2 u k2 q2 t2 a c kt pt kv pv p).ev C.cl wf)) := by
  have n := plainNm_of (nm_vis hv)
  refine psM (ps_asg (pe_tup (pa_2 ha hc a.head c.head)) (pg_tup hX.calm (pgs_cons (pg_sub (pe_var (slot_of hi) (vis_of hv) n.1 n.2.1) pe_str (set_dict (hu_ok hX))) (pgs_cons (pg_sub (pe_var (slot_of hi) (vis_of hv) n.1 n.2.1) pe_str (set_dict (hu_ok hX))) pgs_nil))) (by unfold swapsWithSole; exact sw_not rfl _ _ _) (stores_sub _) rfl) fun D σ H ⟨F, b, R, G, e, S, h⟩ => ?_
  obtain ⟨⟨kvs, he⟩, h⟩ := isD_run h
  refine tX.of S.st (ss_run S h).dD fun b1 R1 G1 H1 w v s1 S1 r1 ⟨d, ew, T1, q⟩ => ?_
  subst ew
  refine tX.of S1 (ss_run T1 q).dD fun b2 R2 G2 H2 w2 v2 s2 S2 r2 ⟨d2, ew, T2, q2⟩ => ?_
  subst ew
  refine ⟨(show 2 ≤ sizeLine by decide), fun p np => ?_⟩
  have T3 := T2.step (Stp.open (o := .tup [v, v2]) np) (S2.opened np)
  obtain ⟨l, hl, o⟩ := T3.st.sl i _ he
  obtain ⟨ks, hk, dk⟩ := o.at_
  have q2 : (dput2E e i (.inr s) (.inr u) d d2).wp b2 (OuP C W F D) noE := q2
  unfold dput2E at q2
  rw [he] at q2
  by_cases cl : kvs.length < 1000
  · have q2 : (if kvs.length < 1000 then Comp.ret (Ou.nx (e.set i (.od (putD (putD kvs (.inr s) d) (.inr u) d2)))) else .stuck).wp b2 (OuP C W F D) noE := q2
    rw [if_pos cl] at q2
    have dk1 := dk.put (s := .inr s) (s2.g.dp r1)
    have T4 := T3.wrD he hl dk1
    have he2 : (e.set i (.od (putD kvs (.inr s) d)))[i]? = some (.od (putD kvs (.inr s) d)) := List.getElem?_set_self (List.getElem?_eq_some_iff.mp he).1
    have T5 := T4.wrD he2 hl (dk1.put (s := .inr u) r2)
    rw [List.set_set] at T5
    have ln := putD_len (kvs := kvs) (s := .inr s) (d := d)
    exact ⟨p, _, rfl, .inl (.inl upd_same), rfl, v, _, rfl, .ref l, hl, l, _, rfl, DPut.k (k := Sum.inr s) hk (dline (by rw [dk.len]; exact cl)), v2, _, rfl, .ref l, hl, l, _, rfl, DPut.k (k := Sum.inr u) upd_same (Nat.lt_of_le_of_lt (by rw [dk1.len]; exact ln) (Nat.lt_of_le_of_lt cl (by decide))), rfl, out_nx q2 _ _ _ _ T5⟩
  · have q2 : (if kvs.length < 1000 then Comp.ret (Ou.nx (e.set i (.od (putD (putD kvs (.inr s) d) (.inr u) d2)))) else .stuck).wp b2 (OuP C W F D) noE := q2
    rw [if_neg cl] at q2
    exact q2.elim
end
end TC

set_option Elab.async false
set_option linter.all false
set_option maxRecDepth 100000
set_option maxHeartbeats 2000000
namespace TC
open PySem L2 PySem.Spec
section
variable {C : Ctx} {W : WX} {X : Cx} {σ : L2.St} {e : En} {b : Nat} {R : List Addr} {G H : Hp} {F : Fb} {D : Ends}
/-! ### the way on -/
theorem s_ret {a : Ee} {p : Pos} (ha : PE X a.em (tX C W (a.ev C.cl))) (wf : Nat) : PS X (Sm.ret a p).em (tS C W ((Sm.ret a p).ev C.cl wf)) :=
  psM (ps_ret ha) fun D σ H ⟨F, b, R, G, e, S, h⟩ => tX.of S.st (ss_run S h) fun b1 R1 G1 H1 w v s1 S1 r1 ⟨T1, q⟩ => q R1 G1 H1 v T1.stp S1.bs r1
theorem s_retF {f : Ef} {p : Pos} (hf : PE X f.em (tF C W (f.ev C.cl))) (wf : Nat) : PS X (Sm.retF f p).em (tS C W ((Sm.retF f p).ev C.cl wf)) :=
  psM (ps_ret hf) fun D σ H ⟨F, b, R, G, e, S, h⟩ => ⟨b, R, G, e, S.st, (ss_run S h).mono fun b' R' G' H' ds s S' q => kf_own q.1 fun l H2 S2 o n no => q.2 R' G' H2 (.ref l) S2.stp S2.st.bs ⟨l, rfl, n, o⟩⟩
theorem s_retO (hX : XOk C W X) {i : Nat} {x : Str} {px p : Pos} (hi : slotB X.N i x = true) (hv : visB X.env.scope x = true) (wf : Nat) : PS X (Sm.retO i x px p).em (tS C W ((Sm.retO i x px p).ev C.cl wf)) := by
  have n := plainNm_of (nm_vis hv)
  refine psM (ps_ret (pe_var (slot_of hi) (vis_of hv) n.1 n.2.1)) fun D σ H ⟨F, b, R, G, e, S, h⟩ => ?_
  have h : (match e[i]? with
    | some (.ow ds) => .ret (.rt (.ow ds))
    | _ => .stuck : Comp Ou).wp b (OuP C W F D) noE := h
  split at h
  · rename_i ds ew
    obtain ⟨l, e1, o⟩ := S.st.sl i _ ew
    exact ⟨.ref l, e1, h R G H (.ref l) S.stp S.st.bs ⟨l, rfl, S.fr i l ⟨⟨_, ew, trivial⟩, e1⟩, o⟩⟩
  · exact h.elim
theorem s_expr {a : Ee} {p : Pos} (ha : PE X a.em (tX C W (a.ev C.cl))) (hc : notC a.em = true) (wf : Nat) : PS X (Sm.expr a p).em (tS C W ((Sm.expr a p).ev C.cl wf)) :=
  psM (ps_expr ha (sw_not hc _ _ _)) fun D σ H ⟨F, b, R, G, e, S, h⟩ => tX.of S.st (ss_run S h) fun b1 R1 G1 H1 w v s1 S1 r1 ⟨T1, q⟩ => out_nx q _ _ _ _ T1
theorem s_brk {p : Pos} (wf : Nat) : PS X (Sm.brk p).em (tS C W ((Sm.brk p).ev C.cl wf)) := psM ps_break fun D σ H ⟨F, b, R, G, e, S, h⟩ => h R G σ H S
theorem s_cnt {p : Pos} (wf : Nat) : PS X (Sm.cnt p).em (tS C W ((Sm.cnt p).ev C.cl wf)) := psM ps_continue fun D σ H ⟨F, b, R, G, e, S, h⟩ => h R G σ H S
theorem s_pass {p : Pos} (wf : Nat) : PS X (Sm.pass p).em (tS C W ((Sm.pass p).ev C.cl wf)) := psM ps_pass fun D σ H ⟨F, b, R, G, e, S, h⟩ => h R G σ H S
theorem s_never {st : Stmt} (wf : Nat) : PS X (Sm.never st).em (tS C W ((Sm.never st).ev C.cl wf)) := psM ps_never fun D σ H ⟨F, b, R, G, e, S, h⟩ => h
/-! ### blocks -/
theorem ss_nil (wf : Nat) : PSs X Sms.nil.em (tS C W (Sms.nil.ev C.cl wf)) := pssM pss_nil fun D σ H ⟨F, b, R, G, e, S, h⟩ => h R G σ H S
def goOn (f : En → Comp Ou) : Ou → Comp Ou
  | .nx e2 => f e2
  | o => .ret o
theorem ss_cons {s : Sm} {ss : Sms} {wf : Nat} (h1 : PS X s.em (tS C W (s.ev C.cl wf))) (h2 : PSs X ss.em (tS C W (ss.ev C.cl wf))) : PSs X (Sms.cons s ss).em (tS C W ((Sms.cons s ss).ev C.cl wf)) :=
  pssM (pss_cons h1 h2) fun D σ H ⟨F, b, R, G, e, S, h⟩ => by
    refine ⟨F, b, R, G, e, S, Comp.wp_mono (Comp.wp_bind.mp h) (fun b' o q => ?_) fun _ _ z => z⟩
    cases o with
    | nx e2 => exact fun R' G' σ' H' S' => ⟨F, b', R', G', e2, S', q⟩
    | br e2 => exact q
    | ct e2 => exact q
    | rt r => exact q
    | ex x e2 => exact q
/-- from here on what is open stays as it is -/
theorem SS.frzG {i : Nat} {s : Sl} {w : Wd} {l : Addr} {u : HO} (S : SS C F b R G σ H e) (he : e[i]? = some s) (ho : slOpn s) (hl : σ[i]? = some (some (.ref l))) (hv : H l = some u) (og : G l = none) (orr : l ∉ R) (rep : ∀ G', Sub G G' → G' l = some u → Rep C G' (.ref l) w) :
    SS C F b R (upd G l u) σ H (e.set i (.fz w)) := by
  have op : Opn σ e i l := ⟨⟨s, he, ho⟩, hl⟩
  have sub : Sub G (upd G l u) := fun a u q => by
    have ne : a ≠ l := ne_of_none q og
    rw [upd_ne ne]
    exact q
  have back : ∀ {j m}, Opn σ (e.set i (.fz w)) j m → j ≠ i ∧ Opn σ e j m := fun {j m} q => by
    obtain ⟨⟨es, h1, ho1⟩, h2⟩ := q
    have ne : j ≠ i := fun z => by
      subst z
      rw [List.getElem?_set_self (List.getElem?_eq_some_iff.mp he).1] at h1
      cases h1
      exact ho1
    rw [List.getElem?_set_ne (Ne.symm ne)] at h1
    exact ⟨ne, ⟨es, h1, ho1⟩, h2⟩
  have ne_l : ∀ {j m}, j ≠ i → Opn σ e j m → m ≠ l := fun {j m} nj q z => nj (S.st.ap j i l (z ▸ q) op)
  refine ⟨⟨S.st.bs.freeze hv orr, by rw [List.length_set]; exact S.st.len, fun j sl hj => ?_, fun j k m q1 q2 => S.st.ap j k m (back q1).2 (back q2).2⟩, ⟨fun a u q => sub a u (S.stp.g a u q), S.stp.k, S.stp.r, fun a u h n z => ?_, S.stp.h⟩, fun j m q => S.fr j m (back q).2, fun a u q => sub a u (S.gb a u q), S.fx⟩
  · by_cases c : i = j
    · subst c
      rw [List.getElem?_set_self (List.getElem?_eq_some_iff.mp he).1] at hj
      obtain rfl := Option.some.inj hj
      exact ⟨.ref l, hl, rep _ sub upd_same⟩
    · rw [List.getElem?_set_ne c] at hj
      have z := S.st.sl j sl hj
      cases sl with
      | un => trivial
      | cap c => exact z
      | fz w =>
        obtain ⟨u, e1, r⟩ := z
        exact ⟨u, e1, r.sub sub⟩
      | ow es =>
        obtain ⟨m, e1, o2⟩ := z
        obtain ⟨us, q, q2⟩ := o2.at_
        refine ⟨m, e1, ⟨us, q, sub.dps q2⟩, ?_, o2.r⟩
        rw [upd_ne (ne_l (Ne.symm c) ⟨⟨_, hj, trivial⟩, e1⟩)]
        exact o2.g
      | od es =>
        obtain ⟨m, e1, o2⟩ := z
        obtain ⟨us, q, q2⟩ := o2.at_
        refine ⟨m, e1, ⟨us, q, q2.sub sub⟩, ?_, o2.r⟩
        rw [upd_ne (ne_l (Ne.symm c) ⟨⟨_, hj, trivial⟩, e1⟩)]
        exact o2.g
  · have ne : a ≠ l := fun c => by
      have := S.fr i l op
      rw [c, this] at h
      cases h
    rw [upd_ne ne]
    exact S.stp.o a _ h n z
/-- an error's own dict stays as it is -/
theorem SS.freezeX {p : Addr} {fs : List (Str × V)} (S : SS C F b R G σ H e) (h : H p = some (.xd fs)) (n : F.H p = none) : ∃ G1, SS C F b R G1 σ H e ∧ Sub G G1 ∧ G1 p = some (.xd fs) := by
  cases hg : G p with
  | some u =>
    have z := S.st.bs.sub p u hg
    rw [h] at z
    cases z
    exact ⟨G, S, fun _ _ q => q, hg⟩
  | none =>
    have nr : p ∉ R := fun z => C.rg.nx S.st.bs.rg p z fs h
    have sub : Sub G (upd G p (.xd fs)) := fun a u q => by
      rw [upd_ne (ne_of_none q hg)]
      exact q
    have ne : ∀ {i l}, Opn σ e i l → l ≠ p := fun {i l} o z => by
      obtain ⟨⟨s, h1, ho⟩, h2⟩ := o
      subst z
      have z := S.st.sl i s h1
      cases s with
      | un => exact ho
      | cap c => exact ho
      | fz w => exact ho
      | ow ds =>
        obtain ⟨m, e1, o2⟩ := z
        rw [h2] at e1
        cases e1
        obtain ⟨us, q, _⟩ := o2.at_
        rw [h] at q
        cases q
      | od ds =>
        obtain ⟨m, e1, o2⟩ := z
        rw [h2] at e1
        cases e1
        obtain ⟨us, q, _⟩ := o2.at_
        rw [h] at q
        cases q
    refine ⟨upd G p (.xd fs), ⟨⟨S.st.bs.freeze h nr, S.st.len, fun i sl hi => ?_, S.st.ap⟩, ⟨fun a u q => sub a u (S.stp.g a u q), S.stp.k, S.stp.r, fun a u h0 n0 z => ?_, S.stp.h⟩, S.fr, fun a u q => sub a u (S.gb a u q), S.fx⟩, sub, upd_same⟩
    · have z := S.st.sl i sl hi
      cases sl with
      | un => trivial
      | cap c => exact z
      | fz w =>
        obtain ⟨u, e1, r⟩ := z
        exact ⟨u, e1, r.sub sub⟩
      | ow es =>
        obtain ⟨m, e1, o2⟩ := z
        obtain ⟨us, q, q2⟩ := o2.at_
        refine ⟨m, e1, ⟨us, q, sub.dps q2⟩, ?_, o2.r⟩
        rw [upd_ne (ne ⟨⟨_, hi, trivial⟩, e1⟩)]
        exact o2.g
      | od es =>
        obtain ⟨m, e1, o2⟩ := z
        obtain ⟨us, q, q2⟩ := o2.at_
        refine ⟨m, e1, ⟨us, q, q2.sub sub⟩, ?_, o2.r⟩
        rw [upd_ne (ne ⟨⟨_, hi, trivial⟩, e1⟩)]
        exact o2.g
    · have na : a ≠ p := fun c => by
        rw [c, n] at h0
        cases h0
      rw [upd_ne na]
      exact S.stp.o a u h0 n0 z
theorem SS.freeze {i : Nat} (S : SS C F b R G σ H e) : ∃ G', SS C F b R G' σ H (frzE e i) := by
  unfold frzE
  split
  · rename_i ds he
    obtain ⟨l, hl, o⟩ := S.st.sl i _ he
    obtain ⟨vs, hv, dv⟩ := o.at_
    exact ⟨_, S.frzG he trivial hl hv o.g o.r fun G' s h => Dq.lst (.inl h) (s.dps dv)⟩
  · rename_i ds he
    obtain ⟨l, hl, o⟩ := S.st.sl i _ he
    obtain ⟨ks, hv, dv⟩ := o.at_
    exact ⟨_, S.frzG (w := .dct ds) he trivial hl hv o.g o.r fun G' s h => ⟨l, ks, rfl, h, dv.sub s⟩⟩
  · exact ⟨G, S⟩
theorem ss_frz {i : Nat} {ss : Sms} {wf : Nat} (h2 : PSs X ss.em (tS C W (ss.ev C.cl wf))) : PSs X (Sms.frz i ss).em (tS C W ((Sms.frz i ss).ev C.cl wf)) :=
  pssM h2 fun D σ H ⟨F, b, R, G, e, S, h⟩ => by
    obtain ⟨G', S'⟩ := S.freeze (i := i)
    exact ⟨F, b, R, G', frzE e i, S', h⟩
theorem opn_un {k i : Nat} {l : Addr} (o : Opn σ (e.set k .un) i l) : Opn σ e i l := by
  obtain ⟨⟨ds, h1, ho⟩, h2⟩ := o
  by_cases c : k = i
  · subst c
    by_cases c : k < e.length
    · rw [List.getElem?_set_self c] at h1
      cases h1
      exact ho.elim
    · rw [List.getElem?_eq_none (by rw [List.length_set]; omega)] at h1
      cases h1
  · rw [List.getElem?_set_ne c] at h1
    exact ⟨⟨ds, h1, ho⟩, h2⟩
theorem SS.setU {k : Nat} (S : SS C F b R G σ H e) : SS C F b R G σ H (e.set k .un) := by
  refine ⟨⟨S.st.bs, by rw [List.length_set]; exact S.st.len, fun i sl h => ?_, fun i j l o1 o2 => S.st.ap i j l (opn_un o1) (opn_un o2)⟩, S.stp, fun i l o => S.fr i l (opn_un o), S.gb, S.fx⟩
  by_cases c : k = i
  · subst c
    by_cases c : k < e.length
    · rw [List.getElem?_set_self c] at h
      obtain rfl := Option.some.inj h
      exact trivial
    · rw [List.getElem?_eq_none (by rw [List.length_set]; omega)] at h
      cases h
  · rw [List.getElem?_set_ne c] at h
    exact S.st.sl i sl h
theorem SS.fgt (S : SS C F b R G σ H e) : ∀ is : List Nat, SS C F b R G σ H (wipeE e is)
  | [] => S
  | i :: is => (S.fgt is).setU
theorem ss_fgt {is : List Nat} {ss : Sms} {wf : Nat} (h2 : PSs X ss.em (tS C W (ss.ev C.cl wf))) : PSs X (Sms.fgt is ss).em (tS C W ((Sms.fgt is ss).ev C.cl wf)) :=
  pssM h2 fun D σ H ⟨F, b, R, G, e, S, h⟩ => ⟨F, b, R, G, wipeE e is, S.fgt is, h⟩
/-! ### if, for, while -/
theorem s_iff {c : Ee} {a d : Sms} {p : Pos} {wf : Nat} (hc : PT X c.em (tT C W (c.ev C.cl))) (ha : PSs X a.em (tS C W (a.ev C.cl wf))) (hd : PSs X d.em (tS C W (d.ev C.cl wf))) : PS X (Sm.iff c a d p).em (tS C W ((Sm.iff c a d p).ev C.cl wf)) :=
  psM (ps_if hc ha hd) fun D σ H ⟨F, b, R, G, e, S, h⟩ => ⟨b, R, G, e, S.st, (ss_run S h).dB.mono fun b1 R1 G1 H1 w s1 S1 ⟨t, ew, T1, q⟩ => by
    refine ⟨t, ew, ?_⟩
    show (if t = true then _ else _)
    cases t with
    | true =>
      rw [if_pos rfl] at q ⊢
      exact ⟨F, b1, R1, G1, e, T1, q⟩
    | false =>
      rw [if_neg (by decide)] at q ⊢
      exact ⟨F, b1, R1, G1, e, T1, q⟩⟩
/-- what a turn hands on -/
def turnC (f : En → Comp Ou) : Ou → Comp Ou
  | .nx e2 => f e2
  | .ct e2 => f e2
  | .br e2 => .ret (.nx e2)
  | .rt r => .ret (.rt r)
  | .ex x e2 => .ret (.ex x e2)
theorem forC_cons {f : PyData → En → Comp Ou} {d : PyData} {ds : List PyData} {e : En} : forC f (d :: ds) e = (f d e).bind (turnC (forC f ds)) := by
  show (f d e).bind _ = _
  congr 1
theorem whlC_succ {c : En → Comp Bool} {f : En → Comp Ou} {n : Nat} {e : En} : whlC c f (n + 1) e = exO e (c e) fun b => if b then (f e).bind (turnC (whlC c f n)) else .ret (.nx e) := by
  show exO e (c e) _ = _
  congr 1
theorem SS.gbase {F : Fb} {G1 : Hp} (S : SS C { F with Gb := G1 } b R G σ H e) (g : Sub F.Gb G1) : SS C F b R G σ H e := ⟨S.st, S.stp, S.fr, fun a o q => S.gb a o (g a o q), S.fx⟩
theorem com_ss {H' : Hp} {x : V} {d : PyData} {G0 : Hp} (S : SS C F b R G σ H e) (s : Sub G0 G) (c : Com C G0 H x H' d) : ∃ G', SS C F b R G' σ H' e ∧ Dq C.K G' x d := by
  obtain ⟨G', st, S', r⟩ := com_st S.st s c
  exact ⟨G', S.step st S', r⟩
theorem s_forr (hX : XOk C W X) (hn : ∀ x, X.fn x = true) {t : Tt} {it : Ei} {d : Sms} {p : Pos} {wf : Nat} (ht : t.ok X.N X.env.scope none = true) (hi : PI X t.em it.em (tI C W (it.ev C.cl))) (hd : PSs X d.em (tS C W (d.ev C.cl wf))) :
    PS X (Sm.forr t it d p).em (tS C W ((Sm.forr t it d p).ev C.cl wf)) := by
  refine psM (ps_for hX.own hX.calm hi (pg_of (sc := X.env.scope) hX.calm hX.nd (fun x h => ⟨loc_of h, .inl (hn x)⟩) t ht) hd (fun x => fold_of x _)) fun D σ H ⟨F, b, R, G, e, S, h⟩ => ?_
  refine ⟨b, R, G, e, S.st, (ss_run S h).mono fun b1 R1 G1 H1 ds s1 S1 ⟨T1, q⟩ _ J wk => ?_⟩
  generalize hf : (fun d1 e1 => (bindT t d1 e1).bind fun e2 => d.ev C.cl wf e2) = f at q
  let F1 : Fb := { F with Gb := G1 }
  have go1 : ∀ {b R G σ H e}, SS C F1 b R G σ H e → SS C F b R G σ H e := fun z => z.gbase T1.gb
  refine ⟨fun i m σ H => m = ds.length - i ∧ i ≤ ds.length ∧ ∃ b R G e, SS C F1 b R G σ H e ∧ (forC f (ds.drop i) e).wp b (OuP C W F D) noE, ⟨ds.length, by simp, Nat.zero_le _, b1, R1, G1, e, ⟨T1.st, T1.stp, T1.fr, fun _ _ z => z, T1.fx⟩, q⟩, ?_⟩
  rintro i m σ Hc ⟨rfl, hi, b, R, G, e, S, w⟩
  have sub : Sub G1 Hc := fun a o z => S.st.bs.sub a o (S.gb a o z)
  by_cases hlt : i < ds.length
  · refine .inr ⟨wk.go i Hc hlt sub, fun σ' H' => ∃ b R G e, SS C F1 b R G σ' H' e ∧ (forC f (ds.drop (i + 1)) e).wp b (OuP C W F D) noE, fun σ' H' z => ⟨ds.length - (i + 1), by omega, rfl, hlt, z⟩, fun x H' y => ?_⟩
    obtain ⟨G', S', rx⟩ := com_ss S S.gb (wk.yld i Hc x H' _ (List.getElem?_eq_getElem hlt) sub y)
    rw [List.drop_eq_getElem_cons hlt, forC_cons] at w
    subst hf
    have w : (((bindT t ds[i] e).bind fun e2 => d.ev C.cl wf e2).bind _).wp b (OuP C W F D) noE := w
    obtain ⟨e2, hb, w⟩ : ∃ e2, bindT t ds[i] e = .ret e2 ∧ ((d.ev C.cl wf e2).bind (turnC (forC (fun d1 e1 => (bindT t d1 e1).bind fun e2 => d.ev C.cl wf e2) (ds.drop (i + 1))))).wp b (OuP C W F D) noE := by
      rcases bindT_form t ds[i] e with ⟨e2, z⟩ | z
      · rw [z] at w
        exact ⟨e2, z, w⟩
      · rw [z] at w
        exact w.elim
    refine g_ss hX.m.hK hb S' rx fun σ2 S2 => ⟨F1, b, R, G', e2, S2, Comp.wp_mono (Comp.wp_bind.mp w) (fun b' o q => ?_) fun _ _ z => z⟩
    cases o with
    | nx e3 => exact fun R3 G3 σ3 H3 S3 => ⟨b', R3, G3, e3, S3, q⟩
    | ct e3 => exact fun R3 G3 σ3 H3 S3 => ⟨b', R3, G3, e3, S3, q⟩
    | br e3 => exact fun R3 G3 σ3 H3 S3 => out_nx q _ _ _ _ (go1 S3)
    | rt r => exact q
    | ex x e3 => exact fun R3 G3 σ3 H3 cls d S3 => q R3 G3 σ3 H3 cls d (go1 S3)
  · have ei : i = ds.length := by omega
    subst ei
    rw [List.drop_length] at w
    exact .inl ⟨wk.stop _ Hc (Nat.le_refl _) sub, out_nx w _ _ _ _ (go1 S)⟩
theorem s_whl (hX : XOk C W X) {c : Ee} {d : Sms} {p : Pos} {wf : Nat} (hc : PT X c.em (tT C W (c.ev C.cl))) (hd : PSs X d.em (tS C W (d.ev C.cl wf))) : PS X (Sm.whl c d p).em (tS C W ((Sm.whl c d p).ev C.cl wf)) := by
  refine psM (ps_while hX.own hc hd) fun D σ H ⟨F, b, R, G, e, S, h⟩ => ?_
  refine ⟨fun m σ H => ∃ b R G e, SS C F b R G σ H e ∧ (whlC (fun e1 => dB (c.ev C.cl e1)) (fun e1 => d.ev C.cl wf e1) m e).wp b (OuP C W F D) noE, ⟨wf, b, R, G, e, S, h⟩, ?_⟩
  rintro m σ H ⟨b, R, G, e, S, w⟩
  cases m with
  | zero => exact w.elim
  | succ m =>
    rw [whlC_succ] at w
    refine ⟨b, R, G, e, S.st, (ss_run S w).dB.mono fun b1 R1 G1 H1 w s1 S1 ⟨t, ew, T1, q⟩ => ⟨t, ew, ?_⟩⟩
    show (if t = true then _ else _)
    cases t with
    | false =>
      rw [if_neg (by decide)] at q ⊢
      exact out_nx q _ _ _ _ T1
    | true =>
      rw [if_pos rfl] at q ⊢
      refine ⟨fun σ' H' => ∃ b R G e, SS C F b R G σ' H' e ∧ (whlC (fun e1 => dB (c.ev C.cl e1)) (fun e1 => d.ev C.cl wf e1) m e).wp b (OuP C W F D) noE, fun σ' H' z => ⟨m, Nat.lt_succ_self m, z⟩, F, b1, R1, G1, e, T1, Comp.wp_mono (Comp.wp_bind.mp q) (fun b' o q => ?_) fun _ _ z => z⟩
      cases o with
      | nx e3 => exact fun R3 G3 σ3 H3 S3 => ⟨b', R3, G3, e3, S3, q⟩
      | ct e3 => exact fun R3 G3 σ3 H3 S3 => ⟨b', R3, G3, e3, S3, q⟩
      | br e3 => exact fun R3 G3 σ3 H3 S3 => out_nx q _ _ _ _ S3
      | rt r => exact q
      | ex x e3 => exact q
end
end TC

set_option Elab.async false
set_option linter.all false
set_option maxRecDepth 100000
set_option maxHeartbeats 4000000
namespace TC
open PySem L2 PySem.Spec TX
theorem and2 {a b : Bool} (h : (a && b) = true) : a = true ∧ b = true := Bool.and_eq_true_iff.mp h
/-- a def's own frame -/
def FrOk (C : Ctx) (X : Cx) : Prop := (X.stack = X.env :: X.outer ∧ X.env.frame = some X.env.locals) ∧ ∀ q, C.fa = some q → ActOk C X q
section
variable {C : Ctx} {W : WX} {X : Cx} {σ : L2.St} {e : En} {b : Nat} {R : List Addr} {G H : Hp} {F : Fb} {D : Ends}
/-! ### raise -/
theorem exs_at {fs : List (Str × Option Str)} {c : Nat} {x : Str} {ck : Chk} (h : (match ck.exs[c]? with | some (y, _) => decide (y = x) | none => false) = true) (hl : ck.exs = C.exs.map fun q => (q.nm, q.fld)) : ∃ q, C.exs[c]? = some q ∧ q.nm = x := by
  rw [hl, List.getElem?_map] at h
  cases z : C.exs[c]? with
  | none =>
    rw [z] at h
    cases h
  | some q =>
    rw [z] at h
    exact ⟨q, rfl, of_decide_eq_true h⟩
theorem flat_dq {K : PySem.W.Frag} {v : V} {d : PyData} (h : Dq K G v d) (f : flatP d = true) : Dq K (fun _ => none) v d := by
  cases d with
  | none =>
    cases h
    exact .non
  | bool b =>
    cases h
    exact .bl b
  | int i =>
    cases h
    exact .int i
  | str s =>
    cases h
    exact .str s
  | list _ => cases f
  | tuple _ => cases f
  | dict _ => cases f
theorem s_rai (hX : XOk C W X) {c : Nat} {x : Str} {px pc p : Pos} {a : Ee} (hc : (match C.ck.exs[c]? with | some (y, _) => decide (y = x) | none => false) = true) (hg : glB X.env.scope x = true) (ha : PE X a.em (tX C W (a.ev C.cl))) (wf : Nat) :
    PS X (Sm.rai c x px a pc p).em (tS C W ((Sm.rai c x px a pc p).ev C.cl wf)) := by
  obtain ⟨q, hq, rfl⟩ := exs_at (fs := []) hc hX.m.exl
  obtain ⟨B, newId, i, bmB, pn, T⟩ := hX.m.ex c q hq
  refine psM (ps_raise hX.calm hX.tk (pmk_ex T hX.room (pa_1 ha a.head) (gl_of hg) (plainNm_of (nm_gl hg)).1 (star_of a.head _ _))) fun D σ H ⟨F, b, R, G, e, S, h⟩ => ?_
  refine tX.of S.st (ss_run S h).dD fun b1 R1 G1 H1 w v s1 S1 r1 ⟨d, ew, T1, z⟩ => ?_
  subst ew
  have z : (if flatP d then .ret (.ex ⟨c, d⟩ e) else .stuck : Comp Ou).wp b1 (OuP C W F D) noE := z
  by_cases f : flatP d = true
  · rw [if_pos f] at z
    have z : ∀ R G σ H cls d', SS C F b1 R G σ H e → exrN C ⟨c, d⟩ cls d' F.H H → W cls d' σ H := z
    refine ⟨v, rfl, ?_⟩
    cases hf : q.fld with
    | none => exact z R1 G1 σ H1 (.ref q.C) none T1 ⟨⟨q, v, hq, rfl, flat_dq r1 f, by rw [hf]⟩, fun _ q => nomatch q⟩
    | some g => exact fun dd nd => z R1 G1 σ _ (.ref q.C) (some dd) (T1.step (Stp.open nd) (T1.st.opened nd)) ⟨⟨q, v, hq, rfl, flat_dq r1 f, by rw [hf]; exact ⟨dd, rfl, upd_same⟩⟩, fun dd2 q => by cases q; exact T1.stp.h _ nd⟩
  · rw [if_neg f] at z
    exact z.elim
/-! ### try -/
/-- a slot that is not looked at may hold anything -/
theorem opn_any {k i : Nat} {o : Option V} {l : Addr} (q : Opn (σ.set k o) (e.set k .un) i l) : Opn σ e i l := by
  obtain ⟨⟨ds, h1, ho⟩, h2⟩ := q
  by_cases c : k = i
  · subst c
    by_cases z : k < e.length
    · rw [List.getElem?_set_self z] at h1
      cases h1
      exact ho.elim
    · rw [List.getElem?_eq_none (by rw [List.length_set]; omega)] at h1
      cases h1
  · rw [List.getElem?_set_ne c] at h1 h2
    exact ⟨⟨ds, h1, ho⟩, h2⟩
theorem SS.any {k : Nat} {o : Option V} (S : SS C F b R G σ H e) : SS C F b R G (σ.set k o) H (e.set k .un) := by
  refine ⟨⟨S.st.bs, by rw [List.length_set, List.length_set]; exact S.st.len, fun i sl h => ?_, fun i j l o1 o2 => S.st.ap i j l (opn_any o1) (opn_any o2)⟩, S.stp, fun i l o => S.fr i l (opn_any o), S.gb, S.fx⟩
  by_cases c : k = i
  · subst c
    by_cases z : k < e.length
    · rw [List.getElem?_set_self z] at h
      obtain rfl := Option.some.inj h
      exact trivial
    · rw [List.getElem?_eq_none (by rw [List.length_set]; omega)] at h
      cases h
  · rw [List.getElem?_set_ne c] at h ⊢
    exact S.st.sl i sl h
/-- what a clause's suite does -/
def hdS (C : Addr) : Hd → HdS
  | .put j _ _ s _ _ _ => fun _ _ _ => tAsg (tC (.str s)) (gName j)
  | .fld i _ j _ _ f _ _ _ => fun a cls d => tAsg (tXf a cls d C f (tVar i)) (gName j)
  | .keep i _ j _ _ _ _ => fun _ _ _ => tAsg (tVar i) (gName j)
theorem hd_keep (hX : XOk C W X) (hn : ∀ x, X.fn x = true) {D : Addr} : ∀ h : Hd, h.one = true → h.ok X.N none X.env.scope = true → SuOk X [h.em] (hdS D h)
  | .put j y py s k pv p, _, ok => fun a oe cls d pn hz hf => by
    unfold Hd.ok at ok
    exact pss_one (ps_set (X := X.suite a ((a, oe) :: pn)) hX.nd (slot_of (and2 ok).1) (loc_of (and2 ok).2) pe_str rfl (.inl (hn y)))
  | .keep i n j y py pnn p, _, ok => fun a oe cls d pn hz hf => by
    unfold Hd.ok at ok
    have o1 := and2 ok
    have o2 := and2 o1.1
    have o3 := and2 o2.1
    have o4 := and2 o3.1
    have o5 := and2 o4.1
    have o6 := and2 o5.1
    have n1 := plainNm_of o5.2
    have v : PE (X.suite a ((a, oe) :: pn)) (.Name n pnn) (tVar i) := pe_var (X := X.suite a ((a, oe) :: pn)) (slot_of o6.1) (vis_of o4.2) n1.1 n1.2.1
    exact pss_one (ps_set (X := X.suite a ((a, oe) :: pn)) hX.nd (slot_of o3.2) (loc_of o2.2) v rfl (.inl (hn y)))
theorem hd_ok (hX : XOk C W X) (hn : ∀ x, X.fn x = true) {c : Nat} {q : Xc} (hq : C.exs[c]? = some q) : ∀ h : Hd, h.ok X.N q.fld X.env.scope = true → SuOk X [h.em] (hdS q.C h)
  | .put j y py s k pv p, ok => fun a oe cls d pn hz hf => by
    unfold Hd.ok at ok
    exact pss_one (ps_set (X := X.suite a ((a, oe) :: pn)) hX.nd (slot_of (and2 ok).1) (loc_of (and2 ok).2) pe_str rfl (.inl (hn y)))
  | .fld i n j y py f pnn pa p, ok => fun a oe cls d pn hz hf => by
    unfold Hd.ok at ok
    have o1 := and2 ok
    have o2 := and2 o1.1
    have o3 := and2 o2.1
    have o4 := and2 o3.1
    have o5 := and2 o4.1
    have o6 := and2 o5.1
    have o7 := and2 o6.1
    obtain ⟨B, newId, i', bmB, pn', T⟩ := hX.m.ex c q hq
    have n1 := plainNm_of o6.2
    have v : PE (X.suite a ((a, oe) :: pn)) (.Name n pnn) (tVar i) := pe_var (X := X.suite a ((a, oe) :: pn)) (slot_of o7.1) (vis_of o5.2) n1.1 n1.2.1
    exact pss_one (ps_set (X := X.suite a ((a, oe) :: pn)) hX.nd (slot_of o4.2) (loc_of o3.2) (pe_xf ⟨T.ga, T.gg, T.exC, T.hdC⟩ (T.noN f (of_decide_eq_true o2.2)) hz hf v rfl) rfl (.inl (hn y)))
  | .keep i n j y py pnn p, ok => hd_keep hX hn (.keep i n j y py pnn p) rfl (by
    unfold Hd.ok at ok ⊢
    exact ok)
/-- what a clause that has hit does -/
theorem hd_hit (hX : XOk C W X) {x : Exn} {q : Xc} (hq : C.exs[x.c]? = some q) {h : Hd} {fl : Option Str} (ok : h.ok X.N fl X.env.scope = true) (hfl : ∀ i n j y py f pn pa p, h = .fld i n j y py f pn pa p → q.fld = some f)
    (w : (h.ev x e).wp b (OuP C W F D) noE) {cls : Value} {d : Option Addr} (S : SS C F b R G σ H e) (ex : exrN C x cls d F.H H) {a : Addr} (na : H a = none) :
    match h with
    | .put .. => hdS q.C h a cls d D σ H
    | .fld i .. => hdS q.C h a cls d (keptD a cls d i D) (σ.set i (some (.ref a))) H
    | .keep i .. => hdS q.C h a cls d (keptD a cls d i D) (σ.set i (some (.ref a))) H := by
  cases h with
  | put j y py s k pv p2 => exact w R G _ H (S.setF (.str s))
  | fld i n j y py f pnn pa p2 =>
    have w : (if i < e.length then .ret (.nx (((e.set i .un).set j (.fz (.d x.v))).set i .un)) else .stuck : Comp Ou).wp b (OuP C W F D) noE := w
    by_cases hlt : i < e.length
    · rw [if_pos hlt] at w
      obtain ⟨q', v, h1, h2, h3, h4⟩ := ex.1
      rw [hq] at h1
      cases h1
      rw [hfl _ _ _ _ _ _ _ _ _ rfl] at h4
      obtain ⟨dd, e1, e2⟩ := h4
      have hs1 : i < σ.length := by rw [← S.st.len]; exact hlt
      refine ⟨.ref a, by rw [List.getElem?_set_self hs1], rfl, h2, dd, [(f, v)], v, e1, e2, by simp [List.lookup], ?_⟩
      have S1 := (S.any (k := i) (o := some (.ref a))).setF (k := j) (v := v) (w := .d x.v) ((show Sub (fun _ => none) G from fun _ _ z => nomatch z).dp h3)
      have S2 := S1.any (k := i) (o := none)
      exact w R G _ _ (S2.step (Stp.open na) (S2.st.opened na))
    · rw [if_neg hlt] at w
      exact w.elim
  | keep i n j y py pnn p2 =>
    have w : (if i < e.length then .ret (.nx (((e.set i .un).set j (.fz (.er x))).set i .un)) else .stuck : Comp Ou).wp b (OuP C W F D) noE := w
    by_cases hlt : i < e.length
    · rw [if_pos hlt] at w
      have hs1 : i < σ.length := by rw [← S.st.len]; exact hlt
      refine ⟨.ref a, by rw [List.getElem?_set_self hs1], ?_⟩
      obtain ⟨q', v, h1, h2, h3, h4⟩ := ex.1
      obtain ⟨G1, S0, g1⟩ : ∃ G1, SS C F b R G1 σ (upd H a (ErO cls d a)) e ∧ Rep C G1 (.ref a) (.er x) := by
        have SN : SS C F b R (upd G a (ErO cls d a)) σ (upd H a (ErO cls d a)) e := S.step (Stp.new na S.st.bs.sub) (S.st.new na)
        cases hf : q'.fld with
        | none =>
          refine ⟨_, SN, a, cls, d, rfl, upd_same, q', v, h1, h2, h3, ?_⟩
          rw [hf] at h4 ⊢
          exact h4
        | some f =>
          rw [hf] at h4
          obtain ⟨dd, e1, e2⟩ := h4
          have nd : dd ≠ a := fun z => by
            rw [z, na] at e2
            cases e2
          have k2 : upd H a (ErO cls d a) dd = some (.xd [(f, v)]) := by
            rw [upd_ne nd]
            exact e2
          obtain ⟨G2, SF, sub, hg⟩ := SN.freezeX k2 (ex.2 dd e1)
          exact ⟨G2, SF, a, cls, d, rfl, sub _ _ upd_same, q', v, h1, h2, h3, by rw [hf]; exact ⟨dd, e1, hg⟩⟩
      have S1 := (S0.any (k := i) (o := some (.ref a))).setF (k := j) (v := .ref a) (w := .er x) g1
      exact w R G1 _ _ (S1.any (k := i) (o := none))
    · rw [if_neg hlt] at w
      exact w.elim
theorem hds_mix (hX : XOk C W X) (hn : ∀ x, X.fn x = true) : ∀ hs : Hds, hs.ok C.ck X.N X.env.scope = true → ∃ l, HdMix X hs.em l ∧ ∀ (x : Exn) (e : En) (b : Nat) (D : Ends) (F : Fb), (hs.ev x e).wp b (OuP C W F D) noE →
    ∀ R G σ H cls d, SS C F b R G σ H e → exrN C x cls d F.H H → wMix X.K W D l cls d σ H
  | .nil, _ => ⟨[], .nil, fun x e b D F h R G σ H cls d S ex => h R G σ H cls d S ex⟩
  | .cons c x px h p hs, ok => by
    unfold Hds.ok at ok
    have o1 := and2 ok
    have o2 := and2 o1.1
    obtain ⟨l, hl, m⟩ := hds_mix hX hn hs o1.2
    obtain ⟨q, hq, hx, hh⟩ : ∃ q, C.exs[c]? = some q ∧ q.nm = x ∧ h.ok X.N q.fld X.env.scope = true := by
      have z := o2.1
      rw [hX.m.exl, List.getElem?_map] at z
      cases y : C.exs[c]? with
      | none =>
        rw [y] at z
        cases z
      | some q =>
        rw [y] at z
        exact ⟨q, rfl, of_decide_eq_true (and2 z).1, (and2 z).2⟩
    subst hx
    obtain ⟨B, newId, i', bmB, pn', T⟩ := hX.m.ex c q hq
    have nms : Names X q.nm (.ref q.C) := ⟨gl_of o2.2, (plainNm_of (nm_gl o2.2)).1, .inl T.gC⟩
    have su := hd_ok hX hn hq h hh
    have test : ∀ {x : Exn} {cls : Value} {d : Option Addr} {H : Hp}, exrOf C x cls d H → PySem.W.exmAny X.K cls [.ref q.C] = some (decide (x.c = c)) := fun {x cls d H} ⟨q', v, h1, h2, _⟩ => by
      rw [h2]
      have z := hX.m.exd _ _ _ _ h1 hq
      have z2 : PySem.W.exmAny X.K (.ref q'.C) [.ref q.C] = match PySem.W.exmOne X.K (.ref q'.C) (.ref q.C), (some false : Option Bool) with | some b, some d => some (b || d) | _, _ => none := rfl
      rw [z2, z]
      simp
    have hit : ∀ {x : Exn}, x.c = c → C.exs[x.c]? = some q := fun hc => by rw [hc]; exact hq
    have fl : ∀ i n j y py f pn pa p, h = .fld i n j y py f pn pa p → q.fld = some f := fun i n j y py f pn pa p hh2 => by
      subst hh2
      unfold Hd.ok at hh
      exact of_decide_eq_true (and2 (and2 hh).1).2
    have nmd : ∀ {i n}, h.nm = some n → (match h with | .put .. => False | .fld i2 .. => i2 = i | .keep i2 .. => i2 = i) → X.N[i]? = some n ∧ X.env.kindOf n = some .local := fun {i n} hnm hi => by
      cases h with
      | put => exact hi.elim
      | fld i2 n2 j y py f pnn pa p2 =>
        cases hnm
        subst hi
        unfold Hd.ok at hh
        have o7 := and2 (and2 (and2 (and2 (and2 (and2 (and2 hh).1).1).1).1).1).1
        exact ⟨slot_of o7.1, of_decide_eq_true o7.2⟩
      | keep i2 n2 j y py pnn p2 =>
        cases hnm
        subst hi
        unfold Hd.ok at hh
        have o6 := and2 (and2 (and2 (and2 (and2 (and2 hh).1).1).1).1).1
        exact ⟨slot_of o6.1, of_decide_eq_true o6.2⟩
    have wev : ∀ {x : Exn} {e : En} {b : Nat} {D : Ends} {F : Fb}, ((Hds.cons c q.nm px h p hs).ev x e).wp b (OuP C W F D) noE → (if x.c = c then h.ev x e else hs.ev x e).wp b (OuP C W F D) noE := fun w => w
    cases h with
    | put j y py s k pv p2 =>
      refine ⟨([.ref q.C], none, hdS q.C (.put j y py s k pv p2)) :: l, .un (.one nms) su hl, fun x e b D F w R G σ H cls d S ex => ⟨_, test ex.1, fun hb a na => ?_, fun hb => ?_⟩⟩
      · have hc : x.c = c := of_decide_eq_true hb
        have w := wev w
        rw [if_pos hc] at w
        exact hd_hit hX (hit hc) hh fl w S ex na
      · have w := wev w
        rw [if_neg (of_decide_eq_false hb)] at w
        exact m x e b D F w R G σ H cls d S ex
    | fld i n j y py f pnn pa p2 =>
      obtain ⟨n1, n2⟩ := nmd (i := i) rfl rfl
      refine ⟨([.ref q.C], some i, hdS q.C (.fld i n j y py f pnn pa p2)) :: l, .nm (.one nms) n1 n2 su hl, fun x e b D F w R G σ H cls d S ex => ⟨_, test ex.1, fun hb a na => ?_, fun hb => ?_⟩⟩
      · have hc : x.c = c := of_decide_eq_true hb
        have w := wev w
        rw [if_pos hc] at w
        exact hd_hit hX (hit hc) hh fl w S ex na
      · have w := wev w
        rw [if_neg (of_decide_eq_false hb)] at w
        exact m x e b D F w R G σ H cls d S ex
    | keep i n j y py pnn p2 =>
      obtain ⟨n1, n2⟩ := nmd (i := i) rfl rfl
      refine ⟨([.ref q.C], some i, hdS q.C (.keep i n j y py pnn p2)) :: l, .nm (.one nms) n1 n2 su hl, fun x e b D F w R G σ H cls d S ex => ⟨_, test ex.1, fun hb a na => ?_, fun hb => ?_⟩⟩
      · have hc : x.c = c := of_decide_eq_true hb
        have w := wev w
        rw [if_pos hc] at w
        exact hd_hit hX (hit hc) hh fl w S ex na
      · have w := wev w
        rw [if_neg (of_decide_eq_false hb)] at w
        exact m x e b D F w R G σ H cls d S ex
  | .many cs k pt h p hs, ok => by
    unfold Hds.ok at ok
    have o1 := and2 ok
    have o2 := and2 o1.1
    have o3 := and2 o2.1
    have o4 := and2 o3.1
    obtain ⟨l, hl, m⟩ := hds_mix hX hn hs o1.2
    have hh := o2.2
    have all : ∀ q ∈ cs, ∃ qc, C.exs[q.1]? = some qc ∧ qc.nm = q.2.1 ∧ glB X.env.scope q.2.1 = true := fun q hq => by
      have z := and2 (List.all_eq_true.mp o4.1 q hq)
      have z1 := z.1
      rw [hX.m.exl, List.getElem?_map] at z1
      cases y : C.exs[q.1]? with
      | none =>
        rw [y] at z1
        cases z1
      | some qc =>
        rw [y] at z1
        exact ⟨qc, rfl, of_decide_eq_true z1, z.2⟩
    obtain ⟨vs, hvs, hlen, tst⟩ : ∃ vs : List Value, NamesAll X (cs.map fun q => (q.2.1, q.2.2)) vs ∧ vs.length = cs.length ∧ ∀ {x : Exn} {cls : Value} {d : Option Addr} {H : Hp}, exrOf C x cls d H → PySem.W.exmAny X.K cls vs = some (decide (x.c ∈ cs.map (·.1))) := by
      clear o4 o3 o2 o1 ok
      induction cs with
      | nil => exact ⟨[], .nil, rfl, fun _ => rfl⟩
      | cons q qs ih =>
        obtain ⟨vs, h1, h2, h3⟩ := ih fun r hr => all r (List.mem_cons_of_mem _ hr)
        obtain ⟨qc, a1, a2, a3⟩ := all q List.mem_cons_self
        obtain ⟨B, newId, i', bmB, pn', T⟩ := hX.m.ex q.1 qc a1
        refine ⟨.ref qc.C :: vs, .cons ⟨gl_of a3, (plainNm_of (nm_gl a3)).1, .inl (a2 ▸ T.gC)⟩ h1, by rw [List.length_cons, List.length_cons, h2], fun {x cls d H} ex => ?_⟩
        have z := h3 ex
        obtain ⟨q', v, b1, b2, _⟩ := ex
        have y := hX.m.exd _ _ _ _ b1 a1
        rw [← b2] at y
        have z2 : PySem.W.exmAny X.K cls (.ref qc.C :: vs) = match PySem.W.exmOne X.K cls (.ref qc.C), PySem.W.exmAny X.K cls vs with | some b, some d => some (b || d) | _, _ => none := rfl
        rw [z2, y, z]
        show some (decide (x.c = q.1) || decide (x.c ∈ qs.map (·.1))) = _
        rw [List.map_cons, ← Bool.decide_or]
        exact congrArg some (decide_eq_decide.mpr List.mem_cons.symm)
    have te : TestE X (.Tuple (cs.map fun q => Expr.Name q.2.1 q.2.2) k pt) vs := by
      have z := TestE.tup (X := X) (k := k) (p := pt) hvs (by rw [hlen]; exact of_decide_eq_true o4.2)
      rw [List.map_map] at z
      exact z
    have su := hd_keep hX hn (D := 0) h o3.2 hh
    have wev : ∀ {x : Exn} {e : En} {b : Nat} {D : Ends} {F : Fb}, ((Hds.many cs k pt h p hs).ev x e).wp b (OuP C W F D) noE → (if x.c ∈ cs.map (·.1) then h.ev x e else hs.ev x e).wp b (OuP C W F D) noE := fun w => w
    have hit : ∀ {x : Exn} {cls : Value} {d : Option Addr} {H : Hp}, exrOf C x cls d H → ∃ q, C.exs[x.c]? = some q := fun ⟨q', v, b1, _⟩ => ⟨q', b1⟩
    cases h with
    | fld => cases o3.2
    | put j y py s k2 pv p2 =>
      refine ⟨(vs, none, hdS 0 (.put j y py s k2 pv p2)) :: l, .un te su hl, fun x e b D F w R G σ H cls d S ex => ⟨_, tst ex.1, fun hb a na => ?_, fun hb => ?_⟩⟩
      · have w := wev w
        rw [if_pos (of_decide_eq_true hb)] at w
        obtain ⟨q, hq⟩ := hit ex.1
        exact hd_hit hX hq hh (fun _ _ _ _ _ _ _ _ _ z => nomatch z) w S ex na
      · have w := wev w
        rw [if_neg (of_decide_eq_false hb)] at w
        exact m x e b D F w R G σ H cls d S ex
    | keep i n j y py pnn p2 =>
      have hh2 := hh
      unfold Hd.ok at hh2
      have o6 := and2 (and2 (and2 (and2 (and2 (and2 hh2).1).1).1).1).1
      refine ⟨(vs, some i, hdS 0 (.keep i n j y py pnn p2)) :: l, .nm te (slot_of o6.1) (of_decide_eq_true o6.2) su hl, fun x e b D F w R G σ H cls d S ex => ⟨_, tst ex.1, fun hb a na => ?_, fun hb => ?_⟩⟩
      · have w := wev w
        rw [if_pos (of_decide_eq_true hb)] at w
        obtain ⟨q, hq⟩ := hit ex.1
        exact hd_hit hX hq hh (fun _ _ _ _ _ _ _ _ _ z => nomatch z) w S ex na
      · have w := wev w
        rw [if_neg (of_decide_eq_false hb)] at w
        exact m x e b D F w R G σ H cls d S ex
theorem s_tr (hX : XOk C W X) (hn : ∀ x, X.fn x = true) (hS : FrOk C X) {bd : Sms} {hs : Hds} {p : Pos} {wf : Nat} (ok : hs.ok C.ck X.N X.env.scope = true) (so : hs.some = true)
    (hb : ∀ (W1 : WX) (pn : List (Addr × Obj)) (xe : Value → Shared → Prop), Takes (X.tr pn xe) W1 → PassesOwn (model X.prog X.w) X.A X.env xe → PSs (X.tr pn xe) bd.em (tS C W1 (bd.ev C.cl wf))) : PS X (Sm.tr bd hs p).em (tS C W ((Sm.tr bd hs p).ev C.cl wf)) := by
  obtain ⟨l, hl, m⟩ := hds_mix hX hn hs ok
  cases hs with
  | nil => cases so
  | many cs k pt h p' hs =>
    refine psM (ps_mix (tb := fun W1 => tS C W1 (bd.ev C.cl wf)) hS.1.1 hS.1.2 hX.nd hX.tk hb hl) fun D σ H ⟨F, b, R, G, e, S, w⟩ => ?_
    have w : ((bd.ev C.cl wf e).bind (catchC (Hds.ev (.many cs k pt h p' hs)))).wp b (OuP C W F D) noE := w
    refine ⟨F, b, R, G, e, S, Comp.wp_mono (Comp.wp_bind.mp w) (fun b' o z => ?_) fun _ _ z => z⟩
    cases o with
    | nx e2 => exact z
    | br e2 => exact z
    | ct e2 => exact z
    | rt r => exact z
    | ex y e2 => exact fun R' G' σ' H' cls d S' ex => m y e2 b' D F z R' G' σ' H' cls d S' ex
  | cons c x px h p' hs =>
    refine psM (ps_mix (tb := fun W1 => tS C W1 (bd.ev C.cl wf)) hS.1.1 hS.1.2 hX.nd hX.tk hb hl) fun D σ H ⟨F, b, R, G, e, S, w⟩ => ?_
    have w : ((bd.ev C.cl wf e).bind (catchC (Hds.ev (.cons c x px h p' hs)))).wp b (OuP C W F D) noE := w
    refine ⟨F, b, R, G, e, S, Comp.wp_mono (Comp.wp_bind.mp w) (fun b' o z => ?_) fun _ _ z => z⟩
    cases o with
    | nx e2 => exact z
    | br e2 => exact z
    | ct e2 => exact z
    | rt r => exact z
    | ex y e2 => exact fun R' G' σ' H' cls d S' ex => m y e2 b' D F z R' G' σ' H' cls d S' ex
/-! ### the lambda that was handed to the def is called -/
theorem s_cap (hX : XOk C W X) (hn : ∀ x, X.fn x = true) (hS : FrOk C X) {i : Nat} {x : Str} {px pc p : Pos} {tg : Option (Nat × Str × Pos)} (ok : (Sm.cap i x px pc tg p).ok C.ck X.N X.env.scope = true) (wf : Nat) :
    PS X (Sm.cap i x px pc tg p).em (tS C W ((Sm.cap i x px pc tg p).ev C.cl wf)) := by
  unfold Sm.ok at ok
  have o1 := and2 ok
  have o2 := and2 o1.1
  cases hfa : C.fa with
  | none =>
    have no : ∀ D σ H, tS C W ((Sm.cap i x px pc tg p).ev C.cl wf) D σ H → False := fun D σ H ⟨F, b, R, G, e, S, h⟩ => by
      have h : (capE e i fun w => .ret (.nx (tgE tg e w))).wp b (OuP C W F D) noE := h
      unfold capE at h
      split at h
      · rename_i c he
        obtain ⟨q, h1, _⟩ := S.st.sl i _ he
        rw [hfa] at h1
        cases h1
      · exact h
    exact ⟨fun pins s σ H D I h => (no D σ H h).elim⟩
  | some q =>
    have act := hS.2 q hfa X.pn X.xe W x i px pc (slot_of o2.1) o2.2 hX.tk hX.own
    have key : ∀ {D : Ends} {σ : L2.St} {H : Hp}, tS C W ((Sm.cap i x px pc tg p).ev C.cl wf) D σ H → ∃ F b R G e, SS C F b R G σ H e ∧ σ[i]? = some (some (.ref q.f)) ∧ F.R = q.R ∧ F.G = q.G ∧ F.H = q.H ∧
        (exO e q.c fun w => .ret (.nx (tgE tg e w))).wp b (OuP C W F D) noE := fun {D σ H} ⟨F, b, R, G, e, S, h⟩ => by
      have h : (capE e i fun w => .ret (.nx (tgE tg e w))).wp b (OuP C W F D) noE := h
      unfold capE at h
      split at h
      · rename_i c he
        obtain ⟨q', h1, h2, h3⟩ := S.st.sl i _ he
        rw [hfa] at h1
        cases h1
        obtain ⟨f1, f2, f3⟩ := S.fx q hfa
        exact ⟨F, b, R, G, e, S, h2, f1, f2, f3, by rw [h3]; exact h⟩
      · exact h.elim
    have red : ∀ {σ : L2.St} {H : Hp} {F : Fb} {b : Nat} {R : List Addr} {G : Hp} {e : En} {D : Ends} {Q : VK}, SS C F b R G σ H e → F.R = q.R → F.G = q.G → F.H = q.H → (exO e q.c fun w => .ret (.nx (tgE tg e w))).wp b (OuP C W F D) noE →
        (∀ b' R' G' H' v w, SS C F b' R' G' σ H' e → Rep C G' v w → (.ret (.nx (tgE tg e w)) : Comp Ou).wp b' (OuP C W F D) noE → Q v H') →
        ∃ b R G, Stp q.R q.G q.H R G H ∧ Bs C b R G H ∧ q.c.wp b (fun b' w => ∀ R' G' H' v, Stp R G H R' G' H' → Bs C b' R' G' H' → Rep C G' v w → Q v H') (fun b' x => ∀ R' G' H' cls d, Stp R G H R' G' H' → Bs C b' R' G' H' → exrN C x cls d H H' → W cls d σ H') :=
      fun {σ H F b R G e D Q} S f1 f2 f3 h m => by
        have st := S.stp
        rw [f1, f2, f3] at st
        exact ⟨b, R, G, st, S.st.bs, Comp.wp_mono (Comp.wp_tie.mp h) (fun b' w z R' G' H' v s B r => m b' R' G' H' v w (S.step s (S.st.stp s B)) r z) fun b' x z R' G' H' cls d s B ex => z R' G' σ H' cls d (S.step s (S.st.stp s B)) (ex.back S.stp.h)⟩
    cases tg with
    | none =>
      refine psM (ps_expr act rfl) fun D σ H h => ?_
      obtain ⟨F, b, R, G, e, S, h1, f1, f2, f3, h⟩ := key h
      exact ⟨h1, red S f1 f2 f3 h fun b' R' G' H' v w S' r z => out_nx z _ _ _ _ S'⟩
    | some t =>
      obtain ⟨j, y, py⟩ := t
      have o3 := and2 (show (slotB X.N j y && locB X.env.scope y) = true from o1.2)
      refine psM (ps_set hX.nd (slot_of o3.1) (loc_of o3.2) act rfl (.inl (hn y))) fun D σ H h => ?_
      obtain ⟨F, b, R, G, e, S, h1, f1, f2, f3, h⟩ := key h
      exact ⟨h1, red S f1 f2 f3 h fun b' R' G' H' v w S' r z => out_nx z _ _ _ _ (S'.setF r)⟩
end
end TC

set_option Elab.async false
set_option linter.all false
set_option maxRecDepth 100000
set_option maxHeartbeats 4000000
/-! a lambda is made and handed to a def -/
namespace TC
open PySem L2 PySem.Spec PyProof.Rows
/-! ### the tables of code objects -/
/-- a table is longer, a code object new -/
theorem TabR.put {T : List (Addr × Str)} {R : List Addr} {H : Hp} {P c : Addr} {q : Str} {ps more : Array Value} {pos : Pos} (t : TabR T R H) (hP : H P = some (.tbl ps)) (n : H c = none) (hu : ∀ p ∈ T, p.1 = P → p.2 = q)
    (hm : more = #[rawInt pos.line, rawInt pos.col, .ref c]) : TabR T (c :: R) (upd (upd H P (.tbl (ps ++ more))) c (LamX.CodeO c q)) := by
  have nP : P ≠ c := ne_of_none hP n
  have cd : ∀ {a : Addr} {d : Addr} {r : Str}, H a = some (LamX.CodeO d r) → upd (upd H P (.tbl (ps ++ more))) c (LamX.CodeO c q) a = some (LamX.CodeO d r) := fun {a d r} z => by
    rw [upd_ne (ne_of_none z n), upd_ne fun e => ?_]
    · exact z
    · rw [e, hP] at z
      unfold LamX.CodeO at z
      cases z
  refine ⟨fun p hp => ?_, fun a ha => ?_⟩
  · obtain ⟨h1, ps', h2, h3, h4⟩ := t.at_ p hp
    refine ⟨List.mem_cons_of_mem _ h1, ?_⟩
    by_cases e : p.1 = P
    · rw [e, hP] at h2
      cases h2
      subst hm
      refine ⟨_, by rw [e, upd_ne nP, upd_same], by simpa using PySem.TriplesOk_snoc _ _ _ _ h3, fun pos' cv z => ?_⟩
      rw [Array.toList_append] at z
      rcases LamX.among_app _ h3 z with y | y
      · obtain ⟨d, r1, r2, r3⟩ := h4 pos' cv y
        exact ⟨d, r1, List.mem_cons_of_mem _ r2, cd r3⟩
      · exact ⟨c, y, List.mem_cons_self, by rw [hu p hp e]; exact upd_same⟩
    · refine ⟨ps', by rw [upd_ne (ne_of_none h2 n), upd_ne e]; exact h2, h3, fun pos' cv z => ?_⟩
      obtain ⟨d, r1, r2, r3⟩ := h4 pos' cv z
      exact ⟨d, r1, List.mem_cons_of_mem _ r2, cd r3⟩
  · rcases List.mem_cons.mp ha with e | e
    · subst e
      exact .inr ⟨_, _, upd_same⟩
    · rcases t.only a e with ⟨ps', z⟩ | ⟨d, r, z⟩
      · by_cases e2 : a = P
        · subst e2
          exact .inl ⟨_, by rw [upd_ne nP, upd_same]⟩
        · exact .inl ⟨_, by rw [upd_ne (ne_of_none z n), upd_ne e2]; exact z⟩
      · exact .inr ⟨_, _, cd z⟩
/-! ### a lambda's names -/
structure LamS (N : List Str) (sc sc2 : Scope) (ps : LamP) : Prop where
  kind : sc2.kind = .function
  co : sc2.isCoroutine = false
  gen : sc2.isGenerator = false
  nc : ∀ y ∈ sc2.names, y.2 ≠ .cell
  own : ∀ y ∈ sc2.names, y.2 = .local → y.1 ∉ N
  free : ∀ y ∈ sc2.names, y.2 = .free → sc.names.lookup y.1 = some .cell ∨ sc.names.lookup y.1 = some .free
  par : ∀ q, ps = some q → sc2.names.lookup q.1 = some .local
theorem lamS_of {N : List Str} {sc sc2 : Scope} {ps : LamP} (h : lamB N sc sc2 ps = true) : LamS N sc sc2 ps := by
  unfold lamB at h
  have h1 := and2 h
  have h2 := and2 h1.1
  have h3 := and2 h2.1
  have h4 := and2 h3.1
  have all := List.all_eq_true.mp h2.2
  refine ⟨of_decide_eq_true h4.1, by simpa using h4.2, by simpa using h3.2, fun y hy e => ?_, fun y hy e => ?_, fun y hy e => ?_, fun q e => ?_⟩
  · have z := and2 (and2 (all y hy)).1
    simp [e] at z
  · have z := (and2 (and2 (all y hy)).1).2
    cases ps with
    | none => simp [e] at z
    | some q =>
      simp [e] at z
      have w := and2 h1.2
      rw [z]
      simpa using w.2
  · have z := (and2 (all y hy)).2
    simp [e] at z
    exact z
  · subst e
    exact of_decide_eq_true (and2 h1.2).1
section
variable {X : Cx} {pins : List (Addr × Obj)} {σ : L2.St} {H HZ : Hp} {s s1 : Shared}
theorem LamS.has {sc2 : Scope} {ps : LamP} {N : List Str} (L : LamS N X.env.scope sc2 ps) (ok : X.Ok) : ∀ y ∈ sc2.names, y.2 = .free → ∃ c, X.env.cells.lookup y.1 = some c := fun y hy e => by
  rcases L.free y hy e with k | k
  · exact ok.has _ (.inl k)
  · exact ok.has _ (.inr k)
/-- the lambda's object -/
abbrev lamO (X : Cx) (ps : LamP) (body : Expr) (sc2 : Scope) (dV doc pm : Value) (c' : Addr) (ctv : Value) : Obj := PySem.W.kdv_obj "<lambda>" (X.env.qual ++ "<lambda>") (lamArgs ps) (.expr body) sc2 (cloFrom X.env.cells sc2.names []) dV doc pm c' ctv
/-- its default, in a tuple -/
def DfOk (X : Cx) (ps : LamP) (dV : Value) (H : Hp) (s : Shared) : Prop := match ps with
  | none => dV = .none
  | some (_, _, i, _, _) => ∃ t tk, dV = .ref t ∧ s.heap.get? t = some (PySem.W.kdv_tup [.int i tk]) ∧ H t = none ∧ t ∉ frs X.stack
/-- the lambda's binding of its parameter -/
def DfBs (ps : LamP) (bs : List (Str × Value)) : Prop := match ps with
  | none => bs = []
  | some (x, _, i, _, _) => ∃ tk, bs = [(x, .int i tk)]
theorem df_binds {ps : LamP} {body : Expr} {sc2 : Scope} {cl : List (Str × Addr)} {q : Str} {dV doc pm ctv : Value} {c' : Addr} (h : match ps with | none => dV = .none | some (_, _, i, _, _) => ∃ t tk, dV = .ref t ∧ s.heap.get? t = some (PySem.W.kdv_tup [.int i tk])) :
    ∃ bs, DfBs ps bs ∧ BindsTo s (PySem.W.kdv_fn "<lambda>" q (lamArgs ps) (.expr body) sc2 cl dV doc pm (.ref c') ctv) ⟨[], []⟩ bs := by
  match ps, h with
  | none, h =>
    subst h
    exact ⟨[], rfl, .of_eq rfl⟩
  | some (x, pa, i, k, pd), ⟨t, tk, e, ht⟩ =>
    subst e
    exact ⟨[(x, .int i tk)], ⟨tk, rfl⟩, .of_defaults rfl ht rfl rfl (by
      simp [lamArgs, List.lookup, pure, bind, Except.pure]
      simp [Sem.bind, List.lookup])⟩
theorem among_more {pos : Pos} {v : Value} (more : List Value) (l : List Value) (h : codeAmong pos l = some v) : codeAmong pos (l ++ more) = some v := by
  fun_induction codeAmong pos l with
  | case1 a b c d e rest hc => 
    simp only [List.cons_append, codeAmong]
    rw [if_pos hc]
    exact h
  | case2 a b c d e rest hc ih =>
    simp only [List.cons_append, codeAmong]
    rw [if_neg hc]
    exact ih h
  | case3 => cases h
theorem among_new {pos : Pos} {c : Value} (l : List Value) (ht : PySem.TriplesOk l) (h : codeAmong pos l = none) : codeAmong pos (l ++ [rawInt pos.line, rawInt pos.col, c]) = some c := by
  fun_induction PySem.TriplesOk l with
  | case1 => simp [codeAmong, rawInt]
  | case2 a t b u x rest ih =>
    simp only [List.cons_append, codeAmong] at h ⊢
    split at h
    · cases h
    · rename_i q
      rw [if_neg q]
      exact ih ht h
  | case3 l h1 h2 => exact ht.elim
/-- what the making of a lambda leaves as it was -/
structure LStp (R : List Addr) (H : Hp) (R' : List Addr) (H' : Hp) : Prop where
  k : ∀ a o, H a = some o → a ∉ R → H' a = some o
  r : ∀ a, a ∈ R' → a ∈ R ∨ H a = none
  h : ∀ a, H' a = none → H a = none
theorem lam_tail {c P : Addr} {ps : LamP} {body : Expr} {sc2 : Scope} {pos : Pos} {E : Value → Shared → Prop} {Q : Value → Shared → Prop} {T : List (Addr × Str)} {R : List Addr} {dV : Value} (I : Inv X pins σ H s) (TB : LamX.TabB X.base X.mg c P) (hcode : X.env.code = .ref c) (t : TabR T R H)
    (hm : (P, X.env.qual ++ "<lambda>") ∈ T) (hu : ∀ p ∈ T, p.1 = P → p.2 = X.env.qual ++ "<lambda>") (L : LamS X.N X.env.scope sc2 ps) (hdf : DfOk X ps dV H s)
    (h : ∀ (f c' : Addr) (doc pm ctv : Value) (H1 : Hp) (R1 : List Addr) (s' : Shared), Inv X pins σ H1 s' → TabR T R1 H1 → LStp R H R1 H1 → s'.heap.get? f = some (lamO X ps body sc2 dV doc pm c' ctv) → H1 f = none → f ∉ frs X.stack → (∃ tp : Array Value, H1 P = some (.tbl tp) ∧ codeAmong pos tp.toList = some (.ref c')) → DfOk X ps dV H1 s' → Q (.ref f) s') :
    wpAny (model X.prog X.w) X.A (makeTail "<lambda>" (X.env.qual ++ "<lambda>") (lamArgs ps) (.expr body) sc2 X.env dV .none none pos pos.line) Q E s := by
  obtain ⟨hPR, tp, hP, ht, ha⟩ := t.at_ _ hm
  have bP : s.heap.BuiltinsAt X.mg P := TB.bm.keeps I.bk
  have hP' : s.heap.get? P = some (PySem.W.tabObj tp) := I.hok P _ hP
  have out : ∀ f, s.heap.objs.size ≤ f → f ∉ frs X.stack := fun f hf z => by
    rcases List.mem_cons.mp (I.stkSub _ z) with e | e
    · exact Nat.lt_irrefl _ (Nat.lt_of_lt_of_le (e ▸ I.lt) hf)
    · exact I.nofs hf e
  cases hc : codeAmong pos tp.toList with
  | some cv =>
    obtain ⟨c', e, _, hco⟩ := ha pos cv hc
    subst e
    refine PySem.W.kdv_makeTailHit (mg := X.mg) (c := c) (P := P) (ps := tp) (closure_ok (L.has I.ok)) I.ok.glob (I.mod.glob.keeps I.bk) hcode (TB.code.keeps I.bk) hP' ht hc bP fun ctv doc h' tk hx hsz => ?_
    refine h _ c' doc _ ctv H R _ (I.kept fun b o e => Heap.get?_push_of_some _ (hx b o e)) t ⟨fun _ _ e _ => e, fun _ e => .inl e, fun _ e => e⟩ (Heap.get?_push_size _ rfl) (I.hok.fresh hsz) (out _ hsz) ⟨tp, hP, hc⟩ ?_
    cases ps with
    | none => exact hdf
    | some q =>
      obtain ⟨tt, tk2, e1, e2, e3⟩ := hdf
      exact ⟨tt, tk2, e1, Heap.get?_push_of_some _ (hx _ _ e2), e3⟩
  | none =>
    refine PySem.W.kdv_makeTail (mg := X.mg) (c := c) (P := P) (ps := tp) (closure_ok (L.has I.ok)) I.ok.glob (I.mod.glob.keeps I.bk) hcode (TB.code.keeps I.bk) hP' ht hc TB.gP bP fun c' ctv doc h' tk hx hge hlt hrec htb => ?_
    obtain ⟨c2, oc, vs, tq, e2, hoc, hd, hv⟩ := hrec
    cases e2
    have big : s.heap.objs.size ≤ h'.objs.size := Nat.le_trans hge (Nat.le_of_lt hlt)
    have nC : H c' = none := I.hok.fresh hge
    have I1 := LamX.inv_table (t' := tk) (more := #[rawInt pos.line, rawInt pos.col, .ref c']) (h' := h'.push (lamO X ps body sc2 dV doc ((X.mg "__name__").getD .none) c' ctv)) I hP
      (fun b o hb e => Heap.get?_push_of_some _ (hx b o hb e)) (Heap.get?_push_of_some _ htb) hge ⟨oc, vs, tq, Heap.get?_push_of_some _ hoc, hd, hv⟩
    have n1 : h'.objs.size ≠ c' := Nat.ne_of_gt hlt
    have n2 : h'.objs.size ≠ P := Nat.ne_of_gt (Nat.lt_of_lt_of_le (Heap.lt_size hP') big)
    refine h _ c' doc _ ctv _ (c' :: R) _ I1 (t.put hP nC hu rfl) ⟨fun a o e na => ?_, fun a e => ?_, fun a e => ?_⟩ (Heap.get?_push_size _ rfl) ?_ (out _ big) ⟨_, (by rw [upd_ne (ne_of_none hP nC)]; exact upd_same), by rw [Array.toList_append]; exact among_new _ ht hc⟩ ?_
    · rw [upd_ne (ne_of_none e nC), upd_ne (show a ≠ P from fun z => na (by rw [z]; exact hPR))]
      exact e
    · rcases List.mem_cons.mp e with z | z
      · exact .inr (z ▸ nC)
      · exact .inl z
    · by_cases z : a = c'
      · rw [z]
        exact nC
      · rw [upd_ne z] at e
        exact upd_none e
    · rw [upd_ne n1, upd_ne n2]
      exact I.hok.fresh big
    · cases ps with
      | none => exact hdf
      | some q =>
        obtain ⟨tt, tk2, e1, e2, e3, e4⟩ := hdf
        have n3 : tt ≠ P := fun z => by
          rw [z, hP'] at e2
          cases e2
        have n4 : tt ≠ c' := Nat.ne_of_lt (Nat.lt_of_lt_of_le (Heap.lt_size e2) hge)
        exact ⟨tt, tk2, e1, Heap.get?_push_of_some _ (hx _ _ n3 e2), by rw [upd_ne n4, upd_ne n3]; exact e3, e4⟩
theorem lam_make {c P : Addr} {ps : LamP} {body : Expr} {sc2 : Scope} {pos : Pos} {E : Value → Shared → Prop} {Q : Value → Shared → Prop} {T : List (Addr × Str)} {R : List Addr} (I : Inv X pins σ H s) (TB : LamX.TabB X.base X.mg c P) (hcode : X.env.code = .ref c) (t : TabR T R H)
    (hm : (P, X.env.qual ++ "<lambda>") ∈ T) (hu : ∀ p ∈ T, p.1 = P → p.2 = X.env.qual ++ "<lambda>") (L : LamS X.N X.env.scope sc2 ps)
    (h : ∀ (f c' : Addr) (dV doc pm ctv : Value) (H1 : Hp) (R1 : List Addr) (s' : Shared), Inv X pins σ H1 s' → TabR T R1 H1 → LStp R H R1 H1 → s'.heap.get? f = some (lamO X ps body sc2 dV doc pm c' ctv) → H1 f = none → f ∉ frs X.stack → (∃ tp : Array Value, H1 P = some (.tbl tp) ∧ codeAmong pos tp.toList = some (.ref c')) → DfOk X ps dV H1 s' → Q (.ref f) s') :
    wpAny (model X.prog X.w) X.A (eval (.Lambda (lamArgs ps) body sc2 pos) X.env) Q E s := by
  match ps, L, h with
  | none, L, h =>
    refine PySem.W.kla_eval rfl ?_
    rw [makeFunction_eq]
    simp only [List.zip_nil_right, List.filterMap_nil, List.isEmpty_nil, if_true, pure_bind]
    exact lam_tail I TB hcode t hm hu L rfl fun f c' doc pm ctv H1 R1 s' => h f c' _ doc pm ctv H1 R1 s'
  | some (x, pa, i, k, pd), L, h =>
    refine PySem.W.kdv_lam rfl rfl (PySem.W.kdv_all1 (wpAny_Constant_int (PySem.W.kdv_all0 ?_)))
    rw [makeFunction_eq]
    simp only [List.zip_nil_right, List.filterMap_nil, List.isEmpty_nil, if_true, pure_bind, List.isEmpty_cons, Bool.false_eq_true, if_false]
    refine wpAny_bind (wpAny_newTextTuple ?_)
    have J : Inv X pins σ H { s with heap := s.heap.push (PySem.W.kdv_tup [.int i s.toks]), toks := s.toks + 1 } := I.kept fun b o e => Heap.get?_push_of_some _ e
    have out : s.heap.objs.size ∉ frs X.stack := fun z => by
      rcases List.mem_cons.mp (I.stkSub _ z) with e | e
      · exact Nat.lt_irrefl _ (e ▸ I.lt)
      · exact I.nofs (Nat.le_refl _) e
    exact lam_tail J TB hcode t hm hu L ⟨_, _, rfl, Heap.get?_push_size _ rfl, I.hok.fresh (Nat.le_refl _), out⟩ fun f c' doc pm ctv H1 R1 s' => h f c' _ doc pm ctv H1 R1 s'
/-! ### the lambda's own frame -/
/-- the frame stands -/
theorem lam_in {A : Around} {outer : List Env} {E : XK} {sc2 : Scope} {ps : LamP} {bs : List (Str × Value)} {f c' : Addr} {h₁ : Heap} {tk : Nat} (I : Inv X pins σ H s) (L : LamS X.N X.env.scope sc2 ps) (hbs : DfBs ps bs) (e0 : Env0 X.prog X.w X.K X.mg X.base A outer s1 HZ) (hd : A.handled = none)
    (un : Un (frs X.stack) [] H HZ s.heap s1.heap) (hns : h₁.Ns s1.heap.objs.size fun y => bs.reverse.lookup y) (kp : ∀ b o, s1.heap.get? b = some o → h₁.get? b = some o) :
    Inv (LamX.lamCx X A outer s1 HZ E sc2 f c') [] σ HZ { s1 with heap := h₁, toks := tk } := by
  have all := L.has I.ok
  /- a captured name's cell is the maker's -/
  have up : ∀ {y d}, (cloFrom X.env.cells sc2.names []).lookup y = some d → X.env.cells.lookup y = some d := fun {y d} e => by
    rcases cloFrom_mem (PySem.mem_of_lookup e) with z | ⟨h1, h2⟩
    · cases z
    · obtain ⟨d1, q⟩ := all _ h1 rfl
      have q : X.env.cells.lookup y = some d1 := q
      rw [q] at h2
      rw [q, show d = d1 from h2]
  have down : ∀ {y}, sc2.names.lookup y = some .free → ∃ d, (cloFrom X.env.cells sc2.names []).lookup y = some d := fun {y} hl =>
    mem_lookup (cloFrom_has (cells := X.env.cells) (acc := []) (show (y, NameKind.free) ∈ sc2.names from PySem.mem_of_lookup hl))
  have cel : ∀ {d : Addr} {v : Option Value}, H d = none → s.heap.IsCell d v → h₁.IsCell d v := fun {d v} n ⟨o, ho, hv⟩ => by
    obtain ⟨sl, q⟩ := un.any ho n (by simp)
    exact ⟨_, kp _ _ q, hv⟩
  have none_ : ∀ b : Addr, b ∉ (LamX.lamCx X A outer s1 HZ E sc2 f c').ex := fun b z => nomatch (show b ∈ ([] : List Addr) from z)
  refine { ok := ?ok, os := rfl, bare := e0.bare, base := Un.kept kp, loc := ⟨_, hns, fun i y v e1 e2 e3 => ?loc⟩, cell := fun y d e => ?cell, free := e0.hok.fresh (Nat.le_refl _), freeC := fun y d e => ?freeC, pin := fun q hq => (nomatch (show q ∈ ([] : List (Addr × Obj)) from hq)), hok := e0.hok.kept kp, len := I.len }
  case ok =>
    refine ⟨e0.mod, L.kind, rfl, rfl, Nat.le_refl _, fun y z d e1 e2 => I.ok.inj y z d (up e1) (up e2), fun y hy => ?_, fun y d z _ => ?_, fun _ => hd, Around.frames_deeper e0.frames, .inr ⟨rfl, rfl⟩, fun b z => absurd z (none_ b), e0.bs, e0.bsz, fun b _ _ => none_ b, fun b z => absurd z (none_ b), e0.funs, e0.frf⟩
    · have hy : sc2.names.lookup y = some .cell ∨ sc2.names.lookup y = some .free := hy
      rcases hy with q | q
      · exact absurd rfl (L.nc _ (PySem.mem_of_lookup q))
      · exact down q
    · exact absurd (show false = true from z) Bool.false_ne_true
  case loc =>
    have e3 : Vis sc2 y := e3
    have hN : y ∈ X.N := List.mem_of_getElem? e1
    rcases e3 with k | k | k
    · exact absurd hN (L.own _ (PySem.mem_of_lookup k) rfl)
    · exact absurd rfl (L.nc _ (PySem.mem_of_lookup k))
    · obtain ⟨m, _, hl⟩ := I.loc
      have vis : Vis X.env.scope y := (L.free _ (PySem.mem_of_lookup k) rfl).elim (fun q => .inr (.inl q)) fun q => .inr (.inr q)
      obtain ⟨u, r, q⟩ := hl i y v e1 e2 vis
      obtain ⟨d2, h2⟩ := down k
      refine ⟨u, r, .inr ⟨.inr k, d2, h2, ?_⟩⟩
      have h1 := up h2
      rcases q with ⟨k1, _⟩ | ⟨_, d3, e4, z⟩
      · have k1 : X.env.scope.names.lookup y = some .local := k1
        rcases L.free _ (PySem.mem_of_lookup k) rfl with k2 | k2
        · rw [show X.env.scope.names.lookup y = _ from k2] at k1
          cases k1
        · rw [show X.env.scope.names.lookup y = _ from k2] at k1
          cases k1
      · rw [h1] at e4
        cases e4
        exact cel (I.freeC y _ h1) z
  case cell =>
    obtain ⟨u, z⟩ := I.cell y d (up e)
    exact ⟨u, cel (I.freeC y d (up e)) z⟩
  case freeC =>
    obtain ⟨v, o, ho, _⟩ := I.cell y d (up e)
    exact un.free d o ho (I.freeC y d (up e)) (by simp)
end
end TC

set_option Elab.async false
set_option linter.all false
set_option maxRecDepth 100000
set_option maxHeartbeats 4000000
namespace TC
open PySem L2 PySem.Spec PyProof.Rows
/-! ### contexts that differ in what is looked at alone -/
def Ctx.to (C : Ctx) (lv : Nat) (cl : Nat → List Wd → Comp FR) (k : Chk) (a : Option FnA) : Ctx := { C with lv := lv, cl := cl, ck := k, fa := a }
abbrev Ctx.ckT (C : Ctx) (k : Chk) (a : Option FnA) : Ctx := C.to C.lv C.cl k a
section
variable {C : Ctx} {lv : Nat} {cl : Nat → List Wd → Comp FR} {k : Chk} {fa : Option FnA} {b : Nat} {R : List Addr} {G H : Hp}
theorem bs_ck : Bs (C.to lv cl k fa) b R G H ↔ Bs C b R G H := ⟨fun z => ⟨z.sub, z.rg, z.dis⟩, fun z => ⟨z.sub, z.rg, z.dis⟩⟩
theorem rep_ck {v : V} {w : Wd} : Rep (C.to lv cl k fa) G v w ↔ Rep C G v w := by cases w <;> exact Iff.rfl
theorem reps_ck : ∀ {vs : List V} {ws : List Wd}, Reps (C.to lv cl k fa) G vs ws ↔ Reps C G vs ws
  | [], [] => Iff.rfl
  | _ :: _, _ :: _ => and_congr rep_ck reps_ck
  | [], _ :: _ => Iff.rfl
  | _ :: _, [] => Iff.rfl
theorem own_ck {l : Addr} {ds : List PyData} : Own (C.to lv cl k fa) R G H l ds ↔ Own C R G H l ds := ⟨fun z => ⟨z.at_, z.g, z.r⟩, fun z => ⟨z.at_, z.g, z.r⟩⟩
theorem ownD_ck {l : Addr} {ds : List (Key × PyData)} : OwnD (C.to lv cl k fa) R G H l ds ↔ OwnD C R G H l ds := ⟨fun z => ⟨z.at_, z.g, z.r⟩, fun z => ⟨z.at_, z.g, z.r⟩⟩
theorem ret_ck {H0 : Hp} {v : V} {r : FR} : RetOk (C.to lv cl k fa) H0 R G H v r ↔ RetOk C H0 R G H v r := by
  cases r with
  | fz w => exact rep_ck
  | ow ds => exact exists_congr fun l => and_congr Iff.rfl (and_congr Iff.rfl own_ck)
theorem st_ck {σ : L2.St} {e : En} (S : St C b R G σ H e) : St (C.to lv cl k C.fa) b R G σ H e := by
  refine ⟨bs_ck.mpr S.bs, S.len, fun i s h => ?_, S.ap⟩
  have z := S.sl i s h
  cases s with
  | un => trivial
  | fz w =>
    obtain ⟨u, e1, r⟩ := z
    exact ⟨u, e1, rep_ck.mpr r⟩
  | ow ds =>
    obtain ⟨l, e1, o⟩ := z
    exact ⟨l, e1, own_ck.mpr o⟩
  | od ds =>
    obtain ⟨l, e1, o⟩ := z
    exact ⟨l, e1, ownD_ck.mpr o⟩
  | cap c => exact z
theorem spG_ck {c : List Wd → Comp FR} {vs : List V} {Q : VK} {E : XK} : spG (C.to lv cl k fa) c vs H Q E ↔ spG C c vs H Q E := by
  constructor
  · rintro ⟨b, R, G, ws, hb, r, h⟩
    exact ⟨b, R, G, ws, bs_ck.mp hb, reps_ck.mp r, Comp.wp_mono h (fun b' r q R' G' H' v s B' ro => q R' G' H' v s (bs_ck.mpr B') (ret_ck.mpr ro)) fun b' x q R' G' H' cls d s B' ex => q R' G' H' cls d s (bs_ck.mpr B') ex⟩
  · rintro ⟨b, R, G, ws, hb, r, h⟩
    exact ⟨b, R, G, ws, bs_ck.mpr hb, reps_ck.mpr r, Comp.wp_mono h (fun b' r q R' G' H' v s B' ro => q R' G' H' v s (bs_ck.mp B') (ret_ck.mp ro)) fun b' x q R' G' H' cls d s B' ex => q R' G' H' cls d s (bs_ck.mp B') ex⟩
theorem spD_ck {vs : List V} {Q : VK} {E : XK} (h : spD (C.to lv cl k fa) vs H Q E) : spD C vs H Q E := by
  obtain ⟨b, R, G, n, hb, e, h1, h2, h⟩ := h
  exact ⟨b, R, G, n, bs_ck.mp hb, e, h1, h2, fun r R' H' r0 r1 s B' => h r R' H' r0 r1 s (bs_ck.mpr B')⟩
theorem FnG.imp {P : Program} {w : World} {K : PySem.W.Frag} {mg : Str → Option Value} {base : Heap} {k : Nat} {f : Addr} {fd : FuncData} {ps : List Str} {sp sp' : Sp} (F : FnG P w K mg base k f fd ps sp) (h : ∀ vs H Q E, sp' vs H Q E → sp vs H Q E) : FnG P w K mg base k f fd ps sp' :=
  ⟨fun vs H Q E z => F.len vs H Q E (h vs H Q E z), fun A o s H a us vs Q E g r e b rv z => F.run A o s H a us vs Q E g r e b rv (h vs H Q E z)⟩
/-- the lambda's behaviour, told in either context -/
theorem act_ck {X : Cx} {q : FnA} (h : ActOk C X q) : ActOk (C.to lv cl k fa) X q := fun pn xe W a i p1 p2 hN hv tk own => peM (h pn xe W a i p1 p2 hN hv tk own) fun σ H Q ⟨h1, b, R, G, st, B, z⟩ =>
  ⟨h1, b, R, G, st, bs_ck.mp B, Comp.wp_mono z (fun b' w z R' G' H' v s B r => z R' G' H' v s (bs_ck.mpr B) (rep_ck.mpr r)) fun b' x z R' G' H' cls d s B ex => z R' G' H' cls d s (bs_ck.mpr B) ex⟩
theorem act_ck' {X : Cx} {q : FnA} (h : ActOk (C.to lv cl k fa) X q) : ActOk C X q := fun pn xe W a i p1 p2 hN hv tk own => peM (h pn xe W a i p1 p2 hN hv tk own) fun σ H Q ⟨h1, b, R, G, st, B, z⟩ =>
  ⟨h1, b, R, G, st, bs_ck.mpr B, Comp.wp_mono z (fun b' w z R' G' H' v s B r => z R' G' H' v s (bs_ck.mp B) (rep_ck.mp r)) fun b' x z R' G' H' cls d s B ex => z R' G' H' cls d s (bs_ck.mp B) ex⟩
theorem ho_ck {P : Program} {w : World} {K : PySem.W.Frag} {mg : Str → Option Value} {base : Heap} {j : Nat} {g : Addr} {fd : FuncData} {par : Str} (h : HoG C P w K mg base j g fd par) : HoG (C.ckT k fa) P w K mg base j g fd par :=
  fun A outer s H args q b Q E hg hr e0 hb hq B act w => h A outer s H args q b Q E hg hr e0 hb hq (bs_ck.mp B) (fun N qual scope cdv => act_ck' (act N qual scope cdv))
    (Comp.wp_mono w (fun b' r z R' G' H' v s B ro => z R' G' H' v s (bs_ck.mpr B) (ret_ck.mpr ro)) fun b' x z R' G' H' cls d s B ex => z R' G' H' cls d s (bs_ck.mpr B) ex)
/-- what is looked at shrinks -/
structure CkSub (k k0 : Chk) : Prop where
  fns : k.fns = k0.fns
  cons : k.cons = k0.cons
  dn : k.dn = k0.dn
  exs : k.exs = k0.exs
  hos : ∀ p ∈ k.hos, p ∈ k0.hos
  isx : k.isx = true → k0.isx = true
theorem mod_ck {P : Program} {w : World} {K : PySem.W.Frag} {mg : Str → Option Value} {base : Heap} (M : ModOk C P w K mg base) (h : CkSub k C.ck) : ModOk (C.ckT k fa) P w K mg base where
  hK := M.hK
  blt := M.blt
  con := fun x v z => M.con x v (by rw [← h.cons]; exact z)
  fn := fun j x z => by
    obtain ⟨f, fd, ps, h1, h2, h3, F⟩ := M.fn j x (by rw [← h.fns]; exact z)
    exact ⟨f, fd, ps, h1, h2, h3, F.imp fun _ _ _ _ => spG_ck.mp⟩
  hof := fun j x z => by
    obtain ⟨g, fd, par, h1, h2, h3, F⟩ := M.hof j x (h.hos _ z)
    exact ⟨g, fd, par, h1, h2, h3, ho_ck F⟩
  isx := fun z => M.isx (h.isx z)
  exl := (show k.exs = _ by rw [h.exs]; exact M.exl)
  ex := M.ex
  exd := M.exd
  drw := by
    obtain ⟨f, fd, ps, h1, h2, h3, F⟩ := M.drw
    exact ⟨f, fd, ps, (show mg k.dn = _ by rw [h.dn]; exact h1), h2, h3, F.imp fun _ _ _ _ => spD_ck⟩
  sys := M.sys
abbrev Ctx.noLam (C : Ctx) : Ctx := C.ckT C.ck.noLam C.fa
theorem noLam_sub : CkSub C.ck.noLam C.ck := ⟨rfl, rfl, rfl, rfl, fun _ h => (nomatch (show _ ∈ ([] : List (Nat × Str)) from h)), fun h => h⟩
end
section
variable {C : Ctx} {W : WX} {X : Cx} {σ : L2.St} {e : En} {b : Nat} {R : List Addr} {G H : Hp}
/-! ### isinstance of an error, its field -/
theorem er_own {x : Exn} {cls : Value} {d : Option Addr} (h : exrOf C x cls d G) : ∃ q, C.exs[x.c]? = some q ∧ cls = .ref q.C ∧ (d = none ∨ ∃ dd fs, d = some dd ∧ G dd = some (.xd fs)) := by
  obtain ⟨q, v, h1, h2, _, h4⟩ := h
  refine ⟨q, h1, h2, ?_⟩
  cases hf : q.fld with
  | none =>
    rw [hf] at h4
    exact .inl h4
  | some f =>
    rw [hf] at h4
    obtain ⟨dd, e1, e2⟩ := h4
    exact .inr ⟨dd, _, e1, e2⟩
theorem kit_of {K : PySem.W.Frag} {D c : Addr} {z : Bool} (h : PySem.W.exmOne K (.ref D) (.ref c) = some z) (hd : D = c → z = true) : PySem.W.kitOne K (.ref D) (.ref c) = some z := by
  unfold PySem.W.exmOne at h
  split at h
  · unfold PySem.W.kitOne
    by_cases e : D = c
    · subst e
      rw [hd rfl, if_pos (by simp)]
    · rw [if_neg (by simpa using e)]
      exact h
  · cases h
theorem e_isx (hX : XOk C W X) {a : Ee} {c : Nat} {x : Str} {pf px p : Pos} (hi : C.ck.isx = true) (hg : glB X.env.scope "isinstance" = true) (hgx : glB X.env.scope x = true) (hc : (match C.ck.exs[c]? with | some (y, _) => decide (y = x) | none => false) = true) (ha : PE X a.em (tX C W (a.ev C.cl))) :
    PE X (Ee.isx pf a c x px p).em (tX C W ((Ee.isx pf a c x px p).ev C.cl)) := by
  obtain ⟨qc, hq, rfl⟩ := exs_at (fs := []) hc hX.m.exl
  obtain ⟨B, newId, i, bmB, pn, T⟩ := hX.m.ex c qc hq
  refine peM (pe_callB call_isX (gl_of hg) (blt_none hX (by decide +kernel)) (by decide +kernel) (pa_2 ha (pe_glob (v := .ref qc.C) (gl_of hgx) T.gC rfl (nmB hgx).2) a.head rfl) (nmB hg).1 (nmB hg).2 (star_of a.head _ _) (by rfl)) fun σ H Q ⟨b, R, G, e, S, h⟩ => ?_
  refine tX.of S (Run.bind h) fun b1 R1 G1 H1 w v s1 S1 r1 q => ?_
  cases w with
  | er y =>
    obtain ⟨a, cls, d, rfl, ha, ex⟩ := r1
    obtain ⟨q1, h1, rfl, hd⟩ := er_own ex
    refine ⟨a, q1.C, qc.C, d, decide (y.c = c), rfl, S1.bs.sub _ _ ha, hd.imp id fun ⟨dd, fs, e1, e2⟩ => ⟨dd, fs, e1, S1.bs.sub _ _ e2⟩, hX.m.isx hi _ _ h1, kit_of (hX.m.exd _ _ _ _ h1 hq) fun z => ?_, endD S1 q (.bl _)⟩
    have z1 := hX.m.exd _ _ _ _ h1 h1
    have z2 := hX.m.exd _ _ _ _ h1 hq
    rw [← z, z1] at z2
    have z3 := Option.some.inj z2
    rw [← z3]
    simp
  | _ => exact q.elim
theorem e_efl (hX : XOk C W X) {a : Ee} {f : Str} {cs : List Nat} {p : Pos} (hv : a.isVar = true) (hc : (cs.all fun k => (match C.ck.exs[k]? with | some (_, some g) => decide (g = f) | _ => false)) = true) (ha : PE X a.em (tX C W (a.ev C.cl))) :
    PE X (Ee.efl a f cs p).em (tX C W ((Ee.efl a f cs p).ev C.cl)) := by
  have hb : attributeBase a.em f X.env (eval a.em X.env) = eval a.em X.env := by
    cases a with
    | var i x px => rfl
    | _ => cases hv
  refine peM (pe_efl ha hb) fun σ H Q ⟨b, R, G, e, S, h⟩ => ?_
  refine tX.of S (Run.bind h) fun b1 R1 G1 H1 w v s1 S1 r1 q => ?_
  cases w with
  | er y =>
    have q : Run C W σ e b1 R1 G1 H1 (if y.c ∈ cs then .ret (.d y.v) else .stuck) (KW C Q) := q
    by_cases hy : y.c ∈ cs
    · rw [if_pos hy] at q
      obtain ⟨a, cls, d, rfl, ha, q1, v1, h1, rfl, h3, h4⟩ := r1
      have z := List.all_eq_true.mp hc _ hy
      rw [hX.m.exl, List.getElem?_map, h1] at z
      have hf : q1.fld = some f := by
        cases hf : q1.fld with
        | none => simp [hf] at z
        | some g => simp [hf] at z; rw [z]
      rw [hf] at h4
      obtain ⟨dd, rfl, e2⟩ := h4
      obtain ⟨B, newId, i, bmB, pn, T⟩ := hX.m.ex _ _ h1
      exact ⟨a, q1.C, dd, [(f, v1)], v1, rfl, S1.bs.sub _ _ ha, ⟨T.ga, T.gg, T.exC, T.hdC⟩, T.noN f hf, S1.bs.sub _ _ e2, by simp [List.lookup], endD S1 q ((show Sub (fun _ => none) G1 from fun _ _ z => nomatch z).dp h3)⟩
    · rw [if_neg hy] at q
      exact q.elim
  | _ => exact q.elim
end
end TC

set_option Elab.async false
set_option linter.all false
set_option maxRecDepth 100000
set_option maxHeartbeats 4000000
namespace TC
open PySem L2 PySem.Spec PyProof.Rows
section
variable {C : Ctx} {W : WX} {X : Cx} {σ : L2.St} {e : En} {b : Nat} {R : List Addr} {G H : Hp} {pins : List (Addr × Obj)} {s : Shared}
/-- the body of a lambda, wherever its frame stands -/
def BodyOk (C : Ctx) (X : Cx) (sc2 : Scope) (a : Ee) : Prop := ∀ {W' : WX} {X' : Cx}, XOk C.noLam W' X' → X'.N = X.N → X'.env.scope = sc2 → PE X' a.em (tX C.noLam W' (a.ev C.cl))
/-- the lambda is called, in the frame of the def that was handed it -/
theorem act_lam (hX : XOk C W X) (hr : Room (C.lv + 2) X.A) (I : Inv X pins σ H s) {a : Ee} {ps : LamP} {sc2 : Scope} (L : LamS X.N X.env.scope sc2 ps) (hbody : BodyOk C X sc2 a) {f c' : Addr} {dV doc pm ctv : Value} (hf : s.heap.get? f = some (lamO X ps a.em sc2 dV doc pm c' ctv)) (hfn : H f = none) (hfr : f ∉ frs X.stack)
    {P : Addr} {lpos : Pos} (hP : ∃ tp : Array Value, H P = some (.tbl tp) ∧ codeAmong lpos tp.toList = some (.ref c')) (hPT : (P, X.env.qual ++ "<lambda>") ∈ C.tabs) (hrg : ∃ rg0, C.rg = rgT C.tabs rg0) (hdf : DfOk X ps dV H s) (S : St C b R G σ H e) {N : List Str} {qual : Str} {scope : Scope} {g : Addr} {cdv : Value} {E : XK} :
    ActOk C (cxOf (L2.CX X.prog X.w) X.prog X.w X.K X.mg X.base N qual scope g cdv X.A X.stack s H E) ⟨f, a.ev C.cl e, R, G, H⟩ := by
  intro pn xe W2 y i p1 p2 hN hv tk own
  refine ⟨fun pinsZ sZ σZ HZ Q IZ h => ?_⟩
  obtain ⟨hs, b', R', G', st, B, w⟩ := h
  have nm := plainNm_of (nm_vis hv)
  refine wpAny_Call_Name_kw (thn ((pe_var (X := (cxOf (L2.CX X.prog X.w) X.prog X.w X.K X.mg X.base N qual scope g cdv X.A X.stack s H E).tr pn xe) (pos := p1) (i := i) hN (vis_of hv) nm.1 nm.2.1).run pinsZ sZ σZ HZ (fun v H1 => v = .ref f ∧ H1 = HZ) IZ ⟨.ref f, hs, rfl, rfl⟩) fun u s1 ⟨v, H1, I1, r1, q1⟩ => ?_)
  obtain ⟨rfl, rfl⟩ := q1
  obtain rfl : u = Value.ref f := r1
  have un : Un (frs X.stack) [] H H1 s.heap s1.heap := I1.base
  have keep : ∀ {p o}, s.heap.get? p = some o → H p = none → p ∉ frs X.stack → s1.heap.get? p = some o := fun e1 e2 e3 => un.keep _ _ e1 e2 e3 (by simp)
  have of1 := keep hf hfn hfr
  refine PySem.W.callWith_F0 ⟨_, _, _, _, of1⟩ ?_
  obtain ⟨bs, dfb, bt⟩ : ∃ bs, DfBs ps bs ∧ BindsTo s1 (PySem.W.kdv_fn "<lambda>" (X.env.qual ++ "<lambda>") (lamArgs ps) (.expr a.em) sc2 (cloFrom X.env.cells sc2.names []) dV doc pm (.ref c') ctv) ⟨[], []⟩ bs := by
    refine df_binds ?_
    cases ps with
    | none => exact hdf
    | some q =>
      obtain ⟨t, tk, e1, e2, e3, e4⟩ := hdf
      exact ⟨t, tk, e1, keep e2 e3 e4⟩
  have hloc : ∀ y ∈ bs, sc2.names.lookup y.1 = some .local := fun y hy => by
    cases ps with
    | none =>
      have dfb : bs = [] := dfb
      subst dfb
      cases hy
    | some q =>
      obtain ⟨tk, e1⟩ := dfb
      subst e1
      obtain rfl := List.mem_singleton.mp hy
      exact L.par q rfl
  have cK : H1 c' = some (LamX.CodeO c' (X.env.qual ++ "<lambda>")) := by
    obtain ⟨tp, t1, t2⟩ := hP
    obtain ⟨more, t3⟩ := un.tbls P tp t1
    obtain ⟨rg0, er⟩ := hrg
    have ri := B.rg
    rw [er] at ri
    obtain ⟨R1, R2, _, _, _, tr⟩ := ri
    obtain ⟨_, tp', t4, _, t5⟩ := tr.at_ _ hPT
    rw [t3] at t4
    cases t4
    obtain ⟨c2, e1, _, e3⟩ := t5 lpos (.ref c') (by rw [Array.toList_append]; exact among_more _ _ t2)
    cases e1
    exact e3
  obtain ⟨⟨oc, vs, t, hoc, hdc, hvc⟩, _, _⟩ := I1.hok c' _ cK
  let E2 : XK := fun cls d H2 => W2 cls d σZ H2
  have rc : codeAny (model X.prog X.w) (X.A.deeper (envOfC qual scope s.heap.objs.size g cdv)) (.call (.ref f) ⟨[], []⟩) (CR (L2.CX X.prog X.w) (envOfC qual scope s.heap.objs.size g cdv :: X.stack) X.prog X.w H1 s1 Q E2) s1 := by
    refine PySem.W.kla_callFunE (hr.deeper _).depth of1 rfl L.co L.gen rfl ⟨c', oc, vs, t, rfl, hoc, hdc, hvc⟩ (bt _ _ _ _ ?_)
    refine wpAny_newFunctionEnv L.nc hloc (fun h₁ hns hsb => ⟨I1.nolimit.fresh _ hsb, ?_⟩) L.kind
    show codeAny _ _ (.expr a.em (LamX.lamEnv X sc2 s1.heap.objs.size f c')) _ _
    have kp : ∀ b o, s1.heap.get? b = some o → h₁.get? b = some o := fun b o e => hsb.extBut b o (Nat.ne_of_lt (Heap.lt_size e)) (Heap.get?_push_of_some _ e)
    have J : Inv (LamX.lamCx X (X.A.deeper (envOfC qual scope s.heap.objs.size g cdv)) (envOfC qual scope s.heap.objs.size g cdv :: X.stack) s1 H1 E2 sc2 f c') [] σ H1 { s1 with heap := h₁, toks := s1.toks + bs.length } :=
      lam_in I L dfb I1.env0 hr.hd un hns kp
    have r1 : Room (C.lv + 1) (X.A.deeper (envOfC qual scope s.heap.objs.size g cdv)) := hr.deeper _
    have hX2 : XOk C.noLam (fun cls d _ H => E2 cls d H) (LamX.lamCx X (X.A.deeper (envOfC qual scope s.heap.objs.size g cdv)) (envOfC qual scope s.heap.objs.size g cdv :: X.stack) s1 H1 E2 sc2 f c') :=
      ⟨mod_ck hX.m noLam_sub, rfl, hX.gu, r1.deeper _, hX.nd, takes_of rfl rfl rfl rfl, passes_of rfl, fun z => nomatch z⟩
    have S1 : St C b' R' G' σ H1 e := S.stp st B
    have ht : tX C.noLam (fun cls d _ H => E2 cls d H) (a.ev C.cl) σ H1 Q := by
      refine ⟨b', R', G', e, st_ck S1, Comp.wp_mono w (fun b2 x z R2 G2 H2 s2 T2 v rv => z R2 G2 H2 v s2 (bs_ck.mp T2.bs) (rep_ck.mp rv)) fun b2 x z R2 G2 H2 cls d s2 T2 ex => z R2 G2 H2 cls d s2 (bs_ck.mp T2.bs) ex⟩
    refine PySem.W.kla_codeExpr (wpAny_mono ((hbody hX2 rfl rfl).run [] _ σ H1 Q J ht) (fun v s' hq => ?_) fun e s' hq => hq)
    obtain ⟨w', H', J', rv, q⟩ := hq
    exact ⟨w', H', J'.os, J'.bare, J'.base, J'.hok, rv, q⟩
  refine wpAny_call (codeAny_mono rc fun r s' hq => ?_)
  cases r with
  | error er => exact tk er s' (XE.of_call I1 (fun _ _ _ z => z) hq)
  | ok fl => cases fl <;> first | exact I1.after hq | exact False.elim hq
/-- x(lambda: a) -/
theorem e_hc (hX : XOk C W X) {j : Nat} {x : Str} {a : Ee} {ps : LamP} {sc2 : Scope} {pf lp p : Pos} (hl : C.ck.lam = true) (hg : glB X.env.scope x = true) (hj : (j, x) ∈ C.ck.hos) (hs : lamB X.N X.env.scope sc2 ps = true) (hbody : BodyOk C X sc2 a) :
    PE X (Ee.hc j x pf a ps sc2 lp p).em (tX C W ((Ee.hc j x pf a ps sc2 lp p).ev C.cl)) := by
  obtain ⟨g, fd, par, hm, hk, hb, F⟩ := hX.m.hof j x hj
  have LO := hX.lam hl
  obtain ⟨c, P, hcode, TB, hPT, hu⟩ := LO.tb
  obtain ⟨rg0, er⟩ := LO.rg
  have L := lamS_of hs
  refine ⟨fun pins s σ H Q I h => ?_⟩
  obtain ⟨b, R, G, e, S, w⟩ := h
  have w : Run C W σ e b R G H ((C.cl j [.fn (a.ev C.cl e)]).bind frC) (KW C Q) := w
  have w := Run.bind w
  have ri := S.bs.rg
  rw [er] at ri
  obtain ⟨R0, R2, eR, dis, i0, tr⟩ := ri
  refine wpAny_Call_Name_kw (ld_glob I (gl_of hg) hm ?_ (nmB hg).2)
  refine PySem.W.callWith_K (h₀ := X.base) I.ok.mod.kin hk ?_ rfl rfl
  show wpAny _ _ (spliced ((false, eval (.Lambda (lamArgs ps) a.em sc2 lp) X.env) :: backTo p (starEach [] X.env))) _ _ s
  refine Calls.spliced_cons (lam_make I TB hcode tr hPT hu L fun f c' dV doc pm ctv H1 R3 s' I1 tr1 ls hf hfn hfr hP hdf => ?_)
  refine Calls.spliced_nil ⟨I1.kIn, ?_⟩
  /- the state behind the making -/
  have st : Stp R G H (R0 ++ R3) G H1 := by
    subst eR
    refine ⟨fun _ _ z => z, fun a o z na => ls.k a o z fun q => na (List.mem_append_right _ q), fun a z => ?_, fun _ _ _ _ z => z, ls.h⟩
    rcases List.mem_append.mp z with q | q
    · exact .inl (List.mem_append_left _ q)
    · exact (ls.r a q).imp (List.mem_append_right _) id
  have hv0 : ∀ a ∈ R0, H a ≠ none := fun a ha => rg0.hv i0 a ha
  have n02 : ∀ a ∈ R0, a ∉ R2 := dis
  have same : ∀ a ∈ R0, H1 a = H a := fun a ha => by
    cases q : H a with
    | none => exact absurd q (hv0 a ha)
    | some o => exact ls.k a o q (n02 a ha)
  have B1 : Bs C b (R0 ++ R3) G H1 := by
    refine ⟨fun a o z => ?_, ?_, fun a ha => ?_⟩
    · have z1 := S.bs.sub a o z
      refine ls.k a o z1 fun q => ?_
      have z2 := S.bs.dis a (eR ▸ List.mem_append_right _ q)
      rw [z] at z2
      cases z2
    · rw [er]
      refine ⟨R0, R3, rfl, fun a ha q => ?_, rg0.fr i0 same, tr1⟩
      rcases ls.r a q with z | z
      · exact n02 a ha z
      · exact hv0 a ha z
    · rcases List.mem_append.mp ha with q | q
      · exact S.bs.dis a (eR ▸ List.mem_append_left _ q)
      · rcases ls.r a q with z | z
        · exact S.bs.dis a (eR ▸ List.mem_append_right _ z)
        · exact S.bs.gnone z
  have S1 : St C b (R0 ++ R3) G σ H1 e := S.stp st B1
  have rc := F X.A X.stack s' H1 ⟨[.ref f], []⟩ ⟨f, a.ev C.cl e, R0 ++ R3, G, H1⟩ b Q (fun cls d H2 => W cls d σ H2) hX.gu LO.room I1.env0 (by
      have z := hb s' [.ref f] I1.kIn rfl
      exact z) rfl B1
    (fun N qual scope cdv => act_lam hX LO.room I1 L hbody hf hfn hfr hP hPT LO.rg hdf S1)
    (Comp.wp_mono w (fun b' r z R' G' H' v s2 B' ro => ?_) fun b' y z R' G' H' cls d s2 B' ex => z R' G' H' cls d (st.trans s2) (S1.stp s2 B') (ex.back st.h))
  · refine wpAny_call (codeAny_mono rc fun r s2 hq => ?_)
    cases r with
    | error er => exact hX.tk er s2 (XE.of_call I1 (fun _ _ _ z => z) hq)
    | ok fl => cases fl <;> first | exact I1.after hq | exact False.elim hq
  · exact frz_run S1 s2 (S1.stp s2 B') ro fun R4 G4 H4 s4 S4 => z R4 G4 H4 (st.trans s4) S4
end
end TC

set_option Elab.async false
set_option linter.all false
set_option maxRecDepth 100000
set_option maxHeartbeats 4000000
namespace TC
open PySem L2 PySem.Spec
section
variable {C : Ctx}
/-! ### every expression -/
def PB (C : Ctx) (W : WX) (X : Cx) (a : Expr) (ev : En → Comp Wd) : Prop := PE X a (tX C W ev) ∧ PT X a (tT C W ev)
theorem pb {W : WX} {X : Cx} {a : Expr} {ev : En → Comp Wd} (h : PE X a (tX C W ev)) (hp : plainTB a = true) : PB C W X a ev := ⟨h, t_val h hp⟩
structure PEs (C : Ctx) (W : WX) (X : Cx) (es : Es) : Prop where
  as : PA X es.em (tAs C W (es.ev C.cl))
  ws : PA X es.em (tWs C W (es.evW C.cl))
  ae : ∀ p, PE X (.BoolOp .And es.em p) (tX C W (es.evAnd C.cl))
  aw : ∀ p, PW X (.BoolOp .And es.em p) (tT C W (es.evAnd C.cl))
  oe : ∀ p, PE X (.BoolOp .Or es.em p) (tX C W (es.evOr C.cl))
  ow : ∀ p, PW X (.BoolOp .Or es.em p) (tT C W (es.evOr C.cl))
  ps : ∀ (ks : List (Str × Nat × Pos)) (p : Pos), ks.length = es.len → PPs X p (keysE ks) es.em (trsD C W ks es)
theorem ps_nil {W : WX} {X : Cx} : ∀ (ks : List (Str × Nat × Pos)) (p : Pos), ks.length = Es.nil.len → PPs X p (keysE ks) Es.nil.em (trsD C W ks .nil)
  | [], p, _ => pps_nil
  | _ :: _, _, h => nomatch h
theorem ps_consD {W : WX} {X : Cx} {a : Ee} {es : Es} (ha : PE X a.em (tX C W (a.ev C.cl))) (hs : ∀ (ks : List (Str × Nat × Pos)) (p : Pos), ks.length = es.len → PPs X p (keysE ks) es.em (trsD C W ks es)) :
    ∀ (ks : List (Str × Nat × Pos)) (p : Pos), ks.length = (Es.cons a es).len → PPs X p (keysE ks) (Es.cons a es).em (trsD C W ks (.cons a es))
  | [], _, h => nomatch h
  | q :: ks, p, h => pps_cons pe_str ha (hs ks p (Nat.succ.inj h))
theorem pe_stuck {W : WX} {X : Cx} {a : Expr} : PE X a (tX C W fun _ => .stuck) := ⟨fun _ _ _ _ _ _ ⟨_, _, _, _, _, h⟩ => h.elim⟩
theorem pw_stuck {W : WX} {X : Cx} {a : Expr} : PW X a (tT C W fun _ => .stuck) := ⟨fun _ _ _ _ _ _ _ ⟨_, _, _, _, _, h⟩ => h.elim⟩
theorem Ef.plain (f : Ef) : plainTB f.em = true := by cases f <;> rfl
theorem p_ecs_tok {N : List Str} {sc2 sc : Scope} {ck : Chk} : ∀ (cs : Ecs), cs.ok ck N sc2 sc = true → cs.tok N sc2
  | .nil, _ => trivial
  | .cons t it o vs cs, h => by
    unfold Ecs.ok at h
    have h1 := and2 h
    have h2 := and2 h1.1
    have h3 := and2 h2.1
    exact ⟨h3.2, p_ecs_tok cs h1.2⟩
mutual
theorem p_ee : ∀ (a : Ee) {C : Ctx} {W : WX} {X : Cx}, XOk C W X → a.ok C.ck X.N X.env.scope = true → PB C W X a.em (a.ev C.cl)
  | .var i x p, C, W, X, hX, h => by
    unfold Ee.ok at h
    exact pb (e_var hX (slot_of (and2 h).1) (and2 h).2) rfl
  | .con x v p, C, W, X, hX, h => by
    unfold Ee.ok at h
    exact pb (e_con hX (and2 h).1 (of_decide_eq_true (and2 h).2)) rfl
  | .non k p, C, W, X, hX, h => pb e_non rfl
  | .dic p, C, W, X, hX, h => pb e_dic rfl
  | .bl v k p, C, W, X, hX, h => pb e_bl rfl
  | .int v k p, C, W, X, hX, h => pb e_int rfl
  | .str v k p, C, W, X, hX, h => pb e_str rfl
  | .tup es k p, C, W, X, hX, h => by
    unfold Ee.ok at h
    exact pb (e_tup (p_es es hX (and2 h).1).as (of_decide_eq_true (and2 h).2)) rfl
  | .bin o a b p, C, W, X, hX, h => by
    unfold Ee.ok at h
    have ha := (p_ee a hX (and2 h).1).1
    have hb := (p_ee b hX (and2 h).2).1
    refine pb ?_ rfl
    cases o with
    | add => exact e_add hX ha hb
    | sub => exact e_sub hX ha hb
    | mul => exact e_mul hX ha hb
    | div => exact e_div hX ha hb
    | mod => exact e_mod hX ha hb
    | pow => exact e_pow hX ha hb
  | .neg a p, C, W, X, hX, h => by
    unfold Ee.ok at h
    exact pb (e_neg (p_ee a hX h).1) rfl
  | .nt a p, C, W, X, hX, h => by
    unfold Ee.ok at h
    have ha := p_ee a hX h
    exact ⟨e_not ha.1, t_not ha.2⟩
  | .andd es p, C, W, X, hX, h => by
    unfold Ee.ok at h
    have hs := p_es es hX h
    exact ⟨hs.ae p, (hs.aw p).pt⟩
  | .orr es p, C, W, X, hX, h => by
    unfold Ee.ok at h
    have hs := p_es es hX h
    exact ⟨hs.oe p, (hs.ow p).pt⟩
  | .cmp o a b p, C, W, X, hX, h => by
    unfold Ee.ok at h
    have ha := p_eb a hX (and2 h).1
    have hb := p_eb b hX (and2 h).2
    exact ⟨e_cmp hX ha hb, t_cmp hX ha hb⟩
  | .chn o1 o2 a b u p, C, W, X, hX, h => by
    unfold Ee.ok at h
    have ha := (p_ee a hX (and2 (and2 h).1).1).1
    have hb := (p_ee b hX (and2 (and2 h).1).2).1
    have hu := (p_ee u hX (and2 h).2).1
    exact ⟨e_chn hX ha hb hu, t_chn hX ha hb hu⟩
  | .isn n a k pn p, C, W, X, hX, h => by
    unfold Ee.ok at h
    have ha := (p_ee a hX h).1
    exact ⟨e_isn ha, t_isn ha⟩
  | .ife t a b p, C, W, X, hX, h => by
    unfold Ee.ok at h
    have ht := p_ee t hX (and2 (and2 h).1).1
    have ha := p_ee a hX (and2 (and2 h).1).2
    have hb := p_ee b hX (and2 h).2
    exact ⟨e_ife ht.2 ha.1 hb.1, t_ife ht.2 ha.2 hb.2⟩
  | .idx a i p, C, W, X, hX, h => by
    unfold Ee.ok at h
    exact pb (e_idx hX (p_eb a hX (and2 h).1) (p_ee i hX (and2 h).2).1) rfl
  | .slc a lo hi ps p, C, W, X, hX, h => by
    unfold Ee.ok at h
    exact pb (e_slc hX (p_eb a hX (and2 (and2 h).1).1) (p_eo lo hX (and2 (and2 h).1).2).1 (p_eo hi hX (and2 h).2).1) rfl
  | .f1 f pf a p, C, W, X, hX, h => by
    unfold Ee.ok at h
    exact pb (e_f1_any hX f (and2 h).1 (p_eb a hX (and2 h).2)) rfl
  | .f2 f pf a b p, C, W, X, hX, h => by
    unfold Ee.ok at h
    exact pb (e_f2 hX f (and2 (and2 h).1).1 (p_ee a hX (and2 (and2 h).1).2).1 (p_ee b hX (and2 h).2).1) rfl
  | .isi pf a t pt p, C, W, X, hX, h => by
    unfold Ee.ok at h
    exact pb (e_isi hX (and2 (and2 h).1).1 (and2 (and2 h).1).2 (p_ee a hX (and2 h).2).1) rfl
  | .m1 m o pa a p, C, W, X, hX, h => by
    unfold Ee.ok at h
    exact pb (e_m1 hX m (p_ee o hX (and2 (and2 (and2 h).1).1).1).1 (p_eb a hX (and2 (and2 (and2 h).1).1).2) (and2 h).2 (and2 (and2 h).1).2) rfl
  | .rcr x pf es p, C, W, X, hX, h => pb ⟨fun _ _ _ _ _ _ ⟨_, _, _, _, _, h⟩ => Run.stuck h⟩ rfl
  | .call f x pf es p, C, W, X, hX, h => by
    unfold Ee.ok at h
    exact pb (e_call hX (and2 (and2 h).1).1 (of_decide_eq_true (and2 (and2 h).1).2) (p_es es hX (and2 h).2).ws) rfl
  | .drw x pf m e p, C, W, X, hX, h => by
    unfold Ee.ok at h
    exact pb (e_drw hX (and2 (and2 (and2 (and2 h).1).1).1).1 (of_decide_eq_true (and2 (and2 (and2 (and2 h).1).1).1).2) (p_ee m hX (and2 (and2 h).1).2).1 (p_ee e hX (and2 h).2).1) rfl
  | .dget a s k pk p, C, W, X, hX, h => by
    unfold Ee.ok at h
    exact pb (e_dget hX (p_ee a hX h).1) rfl
  | .dgo i x px s k pk p, C, W, X, hX, h => by
    unfold Ee.ok at h
    exact pb (e_dgo hX (slot_of (and2 h).1) (and2 h).2) rfl
  | .dgi i x px a p, C, W, X, hX, h => by
    unfold Ee.ok at h
    exact pb (e_dgi hX (slot_of (and2 (and2 h).1).1) (and2 (and2 h).1).2 (p_ee a hX (and2 h).2).1) rfl
  | .din n i x px a p, C, W, X, hX, h => by
    unfold Ee.ok at h
    have ha := (p_ee a hX (and2 h).2).1
    exact ⟨e_din hX n (slot_of (and2 (and2 h).1).1) (and2 (and2 h).1).2 ha, t_din hX n (slot_of (and2 (and2 h).1).1) (and2 (and2 h).1).2 ha⟩
  | .dgt i x px pa a b p, C, W, X, hX, h => by
    unfold Ee.ok at h
    have g1 := and2 h
    have g2 := and2 g1.1
    have g3 := and2 g2.1
    exact pb (e_dgt hX (slot_of (and2 g3.1).1) (and2 g3.1).2 (p_ee a hX g3.2).1 (p_ee b hX g2.2).1 g1.2) rfl
  | .rvt a k p1 p2 p3 p, C, W, X, hX, h => by
    unfold Ee.ok at h
    exact pb (e_rvt hX (p_ee a hX h).1) rfl
  | .dmk ks es p, C, W, X, hX, h => by
    unfold Ee.ok at h
    have g1 := and2 h
    have g2 := and2 g1.1
    have g3 := and2 g2.1
    have hl := of_decide_eq_true g3.2
    exact pb (e_dmk ((p_es es hX g3.1).ps ks p hl) hl (of_decide_eq_true g2.2) (of_decide_eq_true g1.2)) rfl
  | .isb n a v k pn p, C, W, X, hX, h => by
    unfold Ee.ok at h
    have ha := (p_ee a hX h).1
    exact ⟨e_isb n ha, t_isb n ha⟩
  | .isw pf a t pt p, C, W, X, hX, h => by
    unfold Ee.ok at h
    exact pb (e_isw hX (and2 (and2 h).1).1 (and2 (and2 h).1).2 (p_ee a hX (and2 h).2).1) rfl
  | .frz f, C, W, X, hX, h => by
    unfold Ee.ok at h
    exact pb (e_frz (p_ef f hX h)) f.plain
  | .lns i x px pf p, C, W, X, hX, h => by
    unfold Ee.ok at h
    exact pb (e_lns hX (slot_of (and2 (and2 h).1).1) (and2 (and2 h).1).2 (and2 h).2) rfl
  | .lsc pf a i x px pe sc2 ps p, C, W, X, hX, h => by
    unfold Ee.ok at h
    have h1 := and2 h
    have h2 := and2 h1.1
    have h3 := and2 h2.1
    have h4 := and2 h3.2
    have h5 := and2 h4.1
    exact pb (e_lsc hX h3.1 h5.1 h5.2 h4.2 (p_ee a hX h2.2).1 h1.2) rfl
  | .isx pf a c x px p, C, W, X, hX, h => by
    unfold Ee.ok at h
    have g1 := and2 h
    have g2 := and2 g1.1
    have g3 := and2 g2.1
    have g4 := and2 g3.1
    have g5 := and2 g4.1
    exact pb (e_isx hX g5.1 g5.2 g4.2 g3.2 (p_ee a hX g1.2).1) rfl
  | .efl a f cs p, C, W, X, hX, h => by
    unfold Ee.ok at h
    have g1 := and2 h
    have g2 := and2 g1.1
    exact pb (e_efl hX g2.1 g1.2 (p_ee a hX g2.2).1) rfl
  | .hc f x pf a ps sc2 lp p, C, W, X, hX, h => by
    unfold Ee.ok at h
    have g1 := and2 h
    have g2 := and2 g1.1
    have g3 := and2 g2.1
    have g4 := and2 g3.1
    exact pb (e_hc hX g4.1 g4.2 (of_decide_eq_true g3.2) g2.2 fun {W'} {X'} hX' hN hs => (p_ee a hX' (by rw [hN, hs]; exact g1.2)).1) rfl
  | .f3 f pf a b d p, C, W, X, hX, h => by
    unfold Ee.ok at h
    have g1 := and2 h
    have g2 := and2 g1.1
    have g3 := and2 g2.1
    exact pb (e_f3 hX f g3.1 (p_ee a hX g3.2).1 (p_ee b hX g2.2).1 (p_ee d hX g1.2).1) rfl
theorem p_es : ∀ (es : Es) {C : Ctx} {W : WX} {X : Cx}, XOk C W X → es.ok C.ck X.N X.env.scope = true → PEs C W X es
  | .nil, C, W, X, hX, h => ⟨as_nil, ws_nil, fun _ => pe_stuck, fun _ => pw_stuck, fun _ => pe_stuck, fun _ => pw_stuck, ps_nil⟩
  | .cons a .nil, C, W, X, hX, h => by
    unfold Es.ok at h
    have ha := p_ee a hX (and2 h).1
    exact ⟨as_cons ha.1 as_nil, ws_cons ha.1 ws_nil, fun _ => and_one ha.1, fun _ => wand_one ha.2, fun _ => or_one ha.1, fun _ => wor_one ha.2, ps_consD ha.1 ps_nil⟩
  | .cons a (.cons a2 es), C, W, X, hX, h => by
    unfold Es.ok at h
    have ha := p_ee a hX (and2 h).1
    have hs := p_es (.cons a2 es) hX (and2 h).2
    exact ⟨as_cons ha.1 hs.as, ws_cons ha.1 hs.ws, fun p => and_cons ha.1 (hs.ae p), fun p => wand_cons ha.2 (hs.aw p), fun p => or_cons ha.1 (hs.oe p), fun p => wor_cons ha.2 (hs.ow p), ps_consD ha.1 hs.ps⟩
theorem p_eo : ∀ (o : Eo) {C : Ctx} {W : WX} {X : Cx}, XOk C W X → o.ok C.ck X.N X.env.scope = true → PO X o.em (tO C W (o.ev C.cl)) ∧ PTs X o.ems (tYs C W (o.evT C.cl))
  | .no, C, W, X, hX, h => ⟨o_no, ys_no⟩
  | .so a, C, W, X, hX, h => by
    unfold Eo.ok at h
    have ha := p_ee a hX h
    exact ⟨o_so ha.1, ys_so ha.2⟩
theorem p_eb : ∀ (b : Eb) {C : Ctx} {W : WX} {X : Cx}, XOk C W X → b.ok C.ck X.N X.env.scope = true → PE X b.em (tB C W (b.ev C.cl))
  | .ex a, C, W, X, hX, h => by
    unfold Eb.ok at h
    exact b_ex (p_ee a hX h).1
  | .ov i x p, C, W, X, hX, h => by
    unfold Eb.ok at h
    exact b_ov hX (slot_of (and2 h).1) (and2 h).2
theorem p_ef : ∀ (f : Ef) {C : Ctx} {W : WX} {X : Cx}, XOk C W X → f.ok C.ck X.N X.env.scope = true → PE X f.em (tF C W (f.ev C.cl))
  | .lst es p, C, W, X, hX, h => by
    unfold Ef.ok at h
    exact f_lst (p_es es hX (and2 h).1).as (of_decide_eq_true (and2 h).2)
  | .lc a t it o own sc2 p, C, W, X, hX, h => by
    unfold Ef.ok at h
    have h1 := and2 h
    have h2 := and2 h1.1
    have h3 := and2 h2.1
    have h4 := and2 h3.1
    have h5 := and2 h4.1
    exact f_lc hX h5.1 (p_ei it hX t h5.2 h4.2) h3.2 ⟨fun s H D cl fp => (p_ee a (hX.blk s H D cl fp sc2) h1.2).1, fun s H D cl fp => (p_eo o (hX.blk s H D cl fp sc2) h2.2).2⟩
  | .lcs a t it o vs cs own sc2 p, C, W, X, hX, h => by
    unfold Ef.ok at h
    have h1 := and2 h
    have h2 := and2 h1.1
    have h3 := and2 h2.1
    have h4 := and2 h3.1
    have h5 := and2 h4.1
    have h6 := and2 h5.1
    have h7 := and2 h6.1
    have h8 := and2 h7.1
    exact f_lcs hX h8.1 (p_ei it hX t h8.2 h7.2) h6.2 (p_ecs_tok cs h3.2) (of_decide_eq_true h2.2) (of_decide_eq_true h1.2) ⟨fun s H D cl fp => (p_ee a (hX.blk s H D cl fp sc2) h4.2).1, fun s H D cl fp => (p_eo o (hX.blk s H D cl fp sc2) h5.2).2, fun s H D cl fp => p_ecs cs (hX.blk s H D cl fp sc2) blk_nm h3.2⟩
  | .cat a b p, C, W, X, hX, h => by
    unfold Ef.ok at h
    exact f_cat hX (p_eb a hX (and2 h).1) (p_eb b hX (and2 h).2)
  | .rep a n p, C, W, X, hX, h => by
    unfold Ef.ok at h
    exact f_rep hX (p_eb a hX (and2 h).1) (p_ee n hX (and2 h).2).1
  | .lof pf a p, C, W, X, hX, h => by
    unfold Ef.ok at h
    exact f_lof hX (and2 h).1 (p_eb a hX (and2 h).2)
  | .lofr pf pr e pq p, C, W, X, hX, h => by
    unfold Ef.ok at h
    exact f_lofr hX (and2 (and2 h).1).1 (and2 (and2 h).1).2 (p_ee e hX (and2 h).2).1
  | .slc a lo hi ps p, C, W, X, hX, h => by
    unfold Ef.ok at h
    exact f_slc hX (p_eb a hX (and2 (and2 h).1).1) (p_eo lo hX (and2 (and2 h).1).2).1 (p_eo hi hX (and2 h).2).1
  | .split o pa a p, C, W, X, hX, h => by
    unfold Ef.ok at h
    exact f_split hX (p_ee o hX (and2 (and2 (and2 h).1).1).1).1 (p_ee a hX (and2 (and2 (and2 h).1).1).2).1 (and2 h).2 (and2 (and2 h).1).2
  | .call f x pf es p, C, W, X, hX, h => by
    unfold Ef.ok at h
    exact f_call hX (and2 (and2 h).1).1 (of_decide_eq_true (and2 (and2 h).1).2) (p_es es hX (and2 h).2).ws
theorem p_ecs : ∀ (cs : Ecs) {C : Ctx} {X : Cx} {sc2 : Scope}, XOk C noW X → (∀ x, locB sc2 x = true → Loc X.env.scope x ∧ (X.fn x = true ∨ X.env.scope.names.lookup x = some .local)) → cs.ok C.ck X.N sc2 X.env.scope = true → ∀ c ∈ cs.crs C, CrOk X c
  | .nil, C, X, sc2, hX, hn, h => fun c hc => (List.not_mem_nil hc).elim
  | .cons t it o vs cs, C, X, sc2, hX, hn, h => fun c hc => by
    unfold Ecs.ok at h
    have h1 := and2 h
    have h2 := and2 h1.1
    have h3 := and2 h2.1
    have h4 := and2 h3.1
    rcases List.mem_cons.mp hc with e | hc
    · rw [e]
      exact ⟨p_ei it hX t h4.1 h4.2, pg_ofC hX.m.hK hX.calm hX.nd hn t h3.2, (p_eo o hX h2.2).2, fun x => fold_of x _⟩
    · exact p_ecs cs hX hn h1.2 c hc
theorem p_ei : ∀ (it : Ei) {C : Ctx} {W : WX} {X : Cx}, XOk C W X → ∀ t : Tt, it.ok C.ck X.N X.env.scope = true → it.tupB t = true → PI X t.em it.em (tI C W (it.ev C.cl))
  | .seq a, C, W, X, hX, t, h, _ => by
    unfold Ei.ok at h
    exact i_seq hX (p_ee a hX h).1
  | .rg1 pf a p, C, W, X, hX, t, h, _ => by
    unfold Ei.ok at h
    exact i_rg1 hX (and2 h).1 (p_ee a hX (and2 h).2).1
  | .rg2 pf a b p, C, W, X, hX, t, h, _ => by
    unfold Ei.ok at h
    exact i_rg2 hX (and2 (and2 h).1).1 (p_ee a hX (and2 (and2 h).1).2).1 (p_ee b hX (and2 h).2).1
  | .rg3 pf a b d p, C, W, X, hX, t, h, _ => by
    unfold Ei.ok at h
    exact i_rg3 hX (and2 (and2 (and2 h).1).1).1 (p_ee a hX (and2 (and2 (and2 h).1).1).2).1 (p_ee b hX (and2 (and2 h).1).2).1 (p_ee d hX (and2 h).2).1
  | .enu pf a p, C, W, X, hX, t, h, ht => by
    unfold Ei.ok at h
    have ha := (p_ee a hX (and2 h).2).1
    cases t with
    | tp ts k q => exact i_enu hX (and2 h).1 ha
    | nm i x q => cases ht
  | .zip pf a b p, C, W, X, hX, t, h, ht => by
    unfold Ei.ok at h
    have ha := (p_ee a hX (and2 (and2 h).1).2).1
    have hb := (p_ee b hX (and2 h).2).1
    cases t with
    | tp ts k q => exact i_zip hX (and2 (and2 h).1).1 ha hb
    | nm i x q => cases ht
end
theorem p_ea (a : Ea) {W : WX} {X : Cx} (hX : XOk C W X) (h : a.ok C.ck X.N X.env.scope = true) : PE X a.em (tE C W (a.ev C.cl)) := by
  cases a with
  | ex a => exact a_ex (p_ee a hX h).1
  | nw f => exact a_nw (p_ef f hX h)
/-! ### every statement -/
theorem not_of {a : Bool} (h : (!a) = true) : a = false := by cases a <;> first | rfl | cases h
variable {W : WX} {X : Cx}
mutual
theorem p_sm (wf : Nat) : ∀ (s : Sm) {W : WX} {X : Cx}, XOk C W X → (∀ x, X.fn x = true) → X.env.scope.kind = .function → FrOk C X → s.ok C.ck X.N X.env.scope = true → PS X s.em (tS C W (s.ev C.cl wf))
  | .asg i x px e p, W, X, hX, hn, hk, hS, h => by
    unfold Sm.ok at h
    exact s_asg hX hn (and2 (and2 (and2 h).1).1).1 (and2 (and2 (and2 h).1).1).2 (p_ee e hX (and2 (and2 h).1).2).1 (and2 h).2 wf
  | .asgF i x px f p, W, X, hX, hn, hk, hS, h => by
    unfold Sm.ok at h
    have h1 := (and2 (and2 (and2 h).1).1).1
    have h2 := (and2 (and2 (and2 h).1).1).2
    have h3 := (and2 (and2 h).1).2
    have h4 := (and2 h).2
    cases f with
    | lc a t it o own sc2 q =>
      unfold Ef.ok at h3
      have k1 := and2 h3
      have k2 := and2 k1.1
      have k3 := and2 k2.1
      have k4 := and2 k3.1
      have k5 := and2 k4.1
      have h4 : (decide (X.env.scope.names.lookup x = some .cell) || (decide (X.env.scope.names.lookup x = some .local) && (px.line == q.line) && !(sc2.names.any fun (n, k) => n == x && (k == .local || k == .cell)))) = true := h4
      rcases (Bool.or_eq_true _ _).mp h4 with h4 | h4
      · exact psM (ps_set hX.nd (slot_of h1) (loc_of h2) (p_ef (.lc a t it o own sc2 q) hX (by unfold Ef.ok; exact h3)) (sw_cell (of_decide_eq_true h4)) (.inl (hn x))) fun D σ H z => asgF_of z
      have j1 := and2 h4
      have j2 := and2 j1.1
      exact psM (s_setLc hX (slot_of h1) (of_decide_eq_true j2.1) (sw_true hk (of_decide_eq_true j2.1) j2.2 (not_of j1.2)) k5.1 (p_ei it hX t k5.2 k4.2) k3.2 ⟨fun s H D cl fp => (p_ee a (hX.blk s H D cl fp sc2) k1.2).1, fun s H D cl fp => (p_eo o (hX.blk s H D cl fp sc2) k2.2).2⟩) fun D σ H z => asgF_of z
    | lcs a t it o vs cs own sc2 q =>
      unfold Ef.ok at h3
      have k1 := and2 h3
      have k2 := and2 k1.1
      have k3 := and2 k2.1
      have k4 := and2 k3.1
      have k5 := and2 k4.1
      have k6 := and2 k5.1
      have k7 := and2 k6.1
      have k8 := and2 k7.1
      have h4 : (decide (X.env.scope.names.lookup x = some .local) && (px.line == q.line) && !(sc2.names.any fun (n, k) => n == x && (k == .local || k == .cell))) = true := h4
      have j1 := and2 h4
      have j2 := and2 j1.1
      exact psM (s_setLcs hX (slot_of h1) (of_decide_eq_true j2.1) (sw_true hk (of_decide_eq_true j2.1) j2.2 (not_of j1.2)) k8.1 (p_ei it hX t k8.2 k7.2) k6.2 (p_ecs_tok cs k3.2) (of_decide_eq_true k2.2) (of_decide_eq_true k1.2)
        ⟨fun s H D cl fp => (p_ee a (hX.blk s H D cl fp sc2) k4.2).1, fun s H D cl fp => (p_eo o (hX.blk s H D cl fp sc2) k5.2).2, fun s H D cl fp => p_ecs cs (hX.blk s H D cl fp sc2) blk_nm k3.2⟩) fun D σ H z => asgF_of z
    | lst es q => exact s_asgF hX hn h1 h2 (p_ef _ hX h3) rfl wf
    | cat a b q => exact s_asgF hX hn h1 h2 (p_ef _ hX h3) rfl wf
    | rep a n q => exact s_asgF hX hn h1 h2 (p_ef _ hX h3) rfl wf
    | lof pf a q => exact s_asgF hX hn h1 h2 (p_ef _ hX h3) rfl wf
    | lofr pf pr e pq q => exact s_asgF hX hn h1 h2 (p_ef _ hX h3) rfl wf
    | slc a lo hi ps q => exact s_asgF hX hn h1 h2 (p_ef _ hX h3) rfl wf
    | split o pa a q => exact s_asgF hX hn h1 h2 (p_ef _ hX h3) rfl wf
    | call f x pf es q => exact s_asgF hX hn h1 h2 (p_ef _ hX h3) rfl wf
  | .unp t e p, W, X, hX, hn, hk, hS, h => by
    unfold Sm.ok at h
    exact s_unp hX hn (and2 (and2 (and2 h).1).1).1 (p_ee e hX (and2 (and2 (and2 h).1).1).2).1 (and2 (and2 h).1).2 (and2 h).2 wf
  | .par i x px j y py a b k1 p1 k2 p2 p, W, X, hX, hn, hk, hS, h => by
    unfold Sm.ok at h
    have g1 := and2 h
    have g2 := and2 g1.1
    have g3 := and2 g2.1
    have g4 := and2 g3.1
    have g5 := and2 g4.1
    have g6 := and2 g5.1
    have g7 := and2 g6.1
    have g8 := and2 g7.1
    have g9 := and2 g8.1
    have g10 := and2 g9.1
    exact s_par hX hk g10.1 g10.2 (of_decide_eq_true g9.2) (of_decide_eq_true g8.2) (of_decide_eq_true g7.2) g6.2 (of_decide_eq_true g5.2) (p_ea a hX g4.2) (p_ea b hX g3.2) (not_of g2.2) (not_of g1.2) wf
  | .par3 i x px j y py l z pz a b u k1 p1 k2 p2 p, W, X, hX, hn, hk, hS, h => by
    unfold Sm.ok at h
    have g1 := and2 h
    have g2 := and2 g1.1
    have g3 := and2 g2.1
    have g4 := and2 g3.1
    have g5 := and2 g4.1
    have g6 := and2 g5.1
    have g7 := and2 g6.1
    have g8 := and2 g7.1
    have g9 := and2 g8.1
    have g10 := and2 g9.1
    have g11 := and2 g10.1
    have g12 := and2 g11.1
    have g13 := and2 g12.1
    have g14 := and2 g13.1
    have g15 := and2 g14.1
    have g16 := and2 g15.1
    have g17 := and2 g16.1
    have g18 := and2 g17.1
    exact s_par3 hX hk g18.1 g18.2 g17.2 (of_decide_eq_true g16.2) (of_decide_eq_true g15.2) (of_decide_eq_true g14.2) (of_decide_eq_true g13.2) (of_decide_eq_true g12.2) (of_decide_eq_true g11.2) g10.2 g9.2 (of_decide_eq_true g8.2) (of_decide_eq_true g7.2) (of_decide_eq_true g6.2)
      (p_ee a hX g5.2).1 (p_ee b hX g4.2).1 (p_ee u hX g3.2).1 (not_of g2.2) (not_of g1.2) wf
  | .par3c i x px j y py l z pz a b u k1 p1 k2 p2 p, W, X, hX, hn, hk, hS, h => by
    unfold Sm.ok at h
    have g1 := and2 h
    have g2 := and2 g1.1
    have g3 := and2 g2.1
    have g4 := and2 g3.1
    have g5 := and2 g4.1
    have g6 := and2 g5.1
    have g7 := and2 g6.1
    exact s_par3c hX hn g7.1 g7.2 (of_decide_eq_true g6.2) (of_decide_eq_true g5.2) (of_decide_eq_true g4.2) (p_ee a hX g3.2).1 (p_ef b hX g2.2) (p_ef u hX g1.2) wf
  | .parD i x px j y py a pd k1 p1 k2 p2 p, W, X, hX, hn, hk, hS, h => by
    unfold Sm.ok at h
    have g1 := and2 h
    have g2 := and2 g1.1
    have g3 := and2 g2.1
    exact s_parD hX hn g3.1 g3.2 (of_decide_eq_true g2.2) (p_ee a hX g1.2).1 wf
  | .dpi i x px k e pt p, W, X, hX, hn, hk, hS, h => by
    unfold Sm.ok at h
    have g1 := and2 h
    have g2 := and2 g1.1
    exact s_dpi hX (and2 g2.1).1 (and2 g2.1).2 (p_ee k hX g2.2).1 (p_ee e hX g1.2).1 wf
  | .put i x px ix e pt p, W, X, hX, hn, hk, hS, h => by
    unfold Sm.ok at h
    have g1 := and2 h
    have g2 := and2 g1.1
    have g3 := and2 g2.1
    have g4 := and2 g3.1
    exact s_put hX g4.1 g4.2 (p_ee ix hX g3.2).1 (p_ee e hX g2.2).1 g1.2 wf
  | .asgD i x px ks es pd p, W, X, hX, hn, hk, hS, h => by
    unfold Sm.ok at h
    have g1 := and2 h
    have g2 := and2 g1.1
    have g3 := and2 g2.1
    have g4 := and2 g3.1
    have hl := of_decide_eq_true g3.2
    exact s_asgD hX hn (and2 g4.1).1 (and2 g4.1).2 ((p_es es hX g4.2).ps ks pd hl) hl (of_decide_eq_true g2.2) (of_decide_eq_true g1.2) wf
  | .dput i x px s k pk e pt p, W, X, hX, hn, hk, hS, h => by
    unfold Sm.ok at h
    have g1 := and2 h
    exact s_dput hX (and2 g1.1).1 (and2 g1.1).2 (p_ee e hX g1.2).1 wf
  | .dpar i x p1 s k1 q1 t1 p2 u k2 q2 t2 a b kt pt kv pv p, W, X, hX, hn, hk, hS, h => by
    unfold Sm.ok at h
    have g1 := and2 h
    have g2 := and2 g1.1
    exact s_dpar hX (and2 g2.1).1 (and2 g2.1).2 (p_ee a hX g2.2).1 (p_ee b hX g1.2).1 wf
  | .aug i x px o e p, W, X, hX, hn, hk, hS, h => by
    unfold Sm.ok at h
    exact s_aug hX hn (and2 (and2 h).1).1 (and2 (and2 h).1).2 (p_ee e hX (and2 h).2).1 wf
  | .ext i x px pa f pc p, W, X, hX, hn, hk, hS, h => by
    unfold Sm.ok at h
    exact s_ext hX (and2 (and2 (and2 h).1).1).1 (and2 (and2 (and2 h).1).1).2 (p_ef f hX (and2 (and2 h).1).2) (and2 h).2 wf
  | .app i x px pa e pc p, W, X, hX, hn, hk, hS, h => by
    unfold Sm.ok at h
    exact s_app hX (and2 (and2 (and2 h).1).1).1 (and2 (and2 (and2 h).1).1).2 (p_ee e hX (and2 (and2 h).1).2).1 (and2 h).2 wf
  | .apo i x px pa j y py pb e pq pc p, W, X, hX, hn, hk, hS, h => by
    unfold Sm.ok at h
    have h1 := and2 h
    have h2 := and2 h1.1
    have h3 := and2 h2.1
    have h4 := and2 h3.1
    have h5 := and2 h4.1
    have h6 := and2 h4.2
    have h7 := and2 h6.1
    exact s_apo hX h5.1 h5.2 h7.1 h7.2 (of_decide_eq_true h6.2) (p_ee e hX h3.2).1 h2.2 h1.2 wf
  | .iff t a b p, W, X, hX, hn, hk, hS, h => by
    unfold Sm.ok at h
    exact s_iff (p_ee t hX (and2 (and2 h).1).1).2 (p_sms wf a hX hn hk hS (and2 (and2 h).1).2) (p_sms wf b hX hn hk hS (and2 h).2)
  | .forr t it b p, W, X, hX, hn, hk, hS, h => by
    unfold Sm.ok at h
    exact s_forr hX hn (and2 (and2 (and2 h).1).1).1 (p_ei it hX t (and2 (and2 (and2 h).1).1).2 (and2 (and2 h).1).2) (p_sms wf b hX hn hk hS (and2 h).2)
  | .whl t b p, W, X, hX, hn, hk, hS, h => by
    unfold Sm.ok at h
    exact s_whl hX (p_ee t hX (and2 h).1).2 (p_sms wf b hX hn hk hS (and2 h).2)
  | .ret e p, W, X, hX, hn, hk, hS, h => by
    unfold Sm.ok at h
    exact s_ret (p_ee e hX h).1 wf
  | .retF f p, W, X, hX, hn, hk, hS, h => by
    unfold Sm.ok at h
    exact s_retF (p_ef f hX h) wf
  | .retO i x px p, W, X, hX, hn, hk, hS, h => by
    unfold Sm.ok at h
    exact s_retO hX (and2 h).1 (and2 h).2 wf
  | .expr e p, W, X, hX, hn, hk, hS, h => by
    unfold Sm.ok at h
    exact s_expr (p_ee e hX (and2 h).1).1 (and2 h).2 wf
  | .brk p, W, X, hX, hn, hk, hS, _ => s_brk wf
  | .cnt p, W, X, hX, hn, hk, hS, _ => s_cnt wf
  | .pass p, W, X, hX, hn, hk, hS, _ => s_pass wf
  | .never st, W, X, hX, hn, hk, hS, _ => s_never wf
  | .cap i x px pc tg p, W, X, hX, hn, hk, hS, h => s_cap hX hn hS h wf
  | .rai c x px a pc p, W, X, hX, hn, hk, hS, h => by
    unfold Sm.ok at h
    exact s_rai hX (and2 (and2 h).1).1 (and2 (and2 h).1).2 (p_ee a hX (and2 h).2).1 wf
  | .tr b hs p, W, X, hX, hn, hk, hS, h => by
    unfold Sm.ok at h
    refine s_tr hX hn hS (and2 (and2 h).1).2 (and2 h).2 (fun W1 pn xe tk own => ?_)
    exact p_sms wf b (W := W1) (X := X.tr pn xe) ⟨hX.m, hX.calm, hX.gu, hX.room, hX.nd, tk, own, fun z => let y := hX.lam z; ⟨y.room, y.tb, y.rg⟩⟩ hn hk hS (and2 (and2 h).1).1
theorem p_sms (wf : Nat) : ∀ (s : Sms) {W : WX} {X : Cx}, XOk C W X → (∀ x, X.fn x = true) → X.env.scope.kind = .function → FrOk C X → s.ok C.ck X.N X.env.scope = true → PSs X s.em (tS C W (s.ev C.cl wf))
  | .nil, W, X, hX, hn, hk, hS, _ => ss_nil wf
  | .cons s ss, W, X, hX, hn, hk, hS, h => by
    unfold Sms.ok at h
    exact ss_cons (p_sm wf s hX hn hk hS (and2 h).1) (p_sms wf ss hX hn hk hS (and2 h).2)
  | .frz i ss, W, X, hX, hn, hk, hS, h => by
    unfold Sms.ok at h
    exact ss_frz (p_sms wf ss hX hn hk hS h)
  | .fgt is ss, W, X, hX, hn, hk, hS, h => by
    unfold Sms.ok at h
    exact ss_fgt (p_sms wf ss hX hn hk hS h)
end
end
end TC

set_option Elab.async false
set_option linter.all false
set_option maxRecDepth 100000
set_option maxHeartbeats 4000000
namespace TC
open PySem L2 PySem.Spec
section
variable {P : Program} {w : World} {K : PySem.W.Frag} {mg : Str → Option Value} {base : Heap}
/-! ### the text's functions -/
/-- what is known of a def that the text's top has made; cs: code objects of makers and their tables -/
structure FnAt (K : PySem.W.Frag) (mg : Str → Option Value) (ck : Chk) (cs : List (Addr × Addr)) (tabs : List (Addr × Str)) (f : Fd) : Prop where
  ex : ∃ (x qual : Str) (st : Stmt) (fa : Addr) (fd : FuncData) (ps : List Str), Fun K x qual st fa fd ∧ FnScope f.N ps (defScope st) ∧ ps.length = f.np ∧ defBody st = f.body.em ∧ f.body.ok { ck with lam := f.lams } f.N (defScope st) = true ∧ mg f.nm = some (.ref fa) ∧ Binds K fd ps [] ∧
    (f.lams = true → ∃ c P, fd.code = .ref c ∧ (c, P) ∈ cs ∧ (P, qual ++ ".<locals>." ++ "<lambda>") ∈ tabs ∧ ∀ p ∈ tabs, p.1 = P → p.2 = qual ++ ".<locals>." ++ "<lambda>") ∧ (f.ho = true → ∃ p, ps = [p])
theorem start_len (N : List Str) {vs : List V} {ws : List Wd} (r : vs.length = ws.length) : (startE N.length ws).length = (L2.start N vs).length := by
  unfold startE L2.start
  rw [List.length_append, List.length_append, List.length_map, List.length_map, List.length_replicate, List.length_replicate, r]
theorem start_sl {C : Ctx} {b : Nat} {R : List Addr} {G H : Hp} {N : List Str} {vs : List V} {ws : List Wd} (r : Reps C G vs ws) (i : Nat) (s : Sl) (h : (startE N.length ws)[i]? = some s) : SlOk C R G H (L2.start N vs)[i]? s ∧ ¬ slOpn s := by
  unfold startE at h
  unfold L2.start
  by_cases c : i < ws.length
  · rw [List.getElem?_append_left (by rw [List.length_map]; exact c), List.getElem?_map] at h
    obtain ⟨w, h1, h2⟩ := Option.map_eq_some_iff.mp h
    obtain ⟨v, h3, h4⟩ := r.get h1
    have e : Wd.sl w = .fz w := by
      cases w <;> first | rfl | exact h4.elim
    rw [e] at h2
    subst h2
    rw [List.getElem?_append_left (by rw [List.length_map, r.len]; exact c), List.getElem?_map, h3]
    exact ⟨⟨v, rfl, h4⟩, fz_no⟩
  · rw [List.getElem?_append_right (by rw [List.length_map]; omega)] at h
    have z := List.mem_of_getElem? h
    have z2 := List.eq_of_mem_replicate z
    subst z2
    exact ⟨trivial, fun h => h⟩
theorem start_ss {C : Ctx} (hfa : C.fa = none) {b : Nat} {R : List Addr} {G H : Hp} {N : List Str} {vs : List V} {ws : List Wd} (B : Bs C b R G H) (r : Reps C G vs ws) : SS C ⟨R, G, H, G⟩ b R G (L2.start N vs) H (startE N.length ws) := by
  have no : ∀ i l, ¬ Opn (L2.start N vs) (startE N.length ws) i l := fun i l ⟨⟨ds, h1, ho⟩, _⟩ => (start_sl (C := C) (b := b) (R := R) (H := H) (N := N) r i _ h1).2 ho
  exact ⟨⟨B, start_len N r.len, fun i s h => (start_sl (b := b) r i s h).1, fun i j l h => absurd h (no i l)⟩, .refl, fun i l h => absurd h (no i l), fun _ _ h => h, fun q h => by rw [hfa] at h; cases h⟩
/-- the frame of a def that was handed a lambda, as it begins -/
theorem start_ho {C : Ctx} {q : FnA} (hfa : C.fa = some q) {b : Nat} {N : List Str} (B : Bs C b q.R q.G q.H) : SS C ⟨q.R, q.G, q.H, q.G⟩ b q.R q.G (L2.start N [.ref q.f]) q.H (startE N.length [.fn q.c]) := by
  have sl : ∀ (i : Nat) (s : Sl), (startE N.length [.fn q.c])[i]? = some s → SlOk C q.R q.G q.H (L2.start N [.ref q.f])[i]? s ∧ ¬ slOpn s := fun i s h => by
    unfold startE at h
    unfold L2.start
    cases i with
    | zero =>
      obtain rfl := Option.some.inj h
      exact ⟨⟨q, hfa, rfl, rfl⟩, fun z => z⟩
    | succ i =>
      have h : (List.replicate (N.length - [Wd.fn q.c].length) Sl.un)[i]? = some s := h
      obtain rfl := List.eq_of_mem_replicate (List.mem_of_getElem? h)
      exact ⟨trivial, fun z => z⟩
  have no : ∀ i l, ¬ Opn (L2.start N [.ref q.f]) (startE N.length [.fn q.c]) i l := fun i l ⟨⟨ds, h1, ho⟩, _⟩ => (sl i _ h1).2 ho
  exact ⟨⟨B, start_len N rfl, fun i s h => (sl i s h).1, fun i j l h => absurd h (no i l)⟩, .refl, fun i l h => absurd h (no i l), fun _ _ h => h, fun q2 h => by rw [hfa] at h; cases h; exact ⟨rfl, rfl, rfl⟩⟩
/-- a def's body does what it computes -/
theorem fn_step {C : Ctx} (hM : ModOk C P w K mg base) {cs : List (Addr × Addr)} (hT : ∀ p ∈ cs, LamX.TabB base mg p.1 p.2) (hrg : cs ≠ [] → ∃ rg0, C.rg = rgT C.tabs rg0) {f : Fd} {x qual : Str} {st : Stmt} {fa : Addr} {fd : FuncData} {ps : List Str} (F : Fun K x qual st fa fd) (S : FnScope f.N ps (defScope st)) (hnp : ps.length = f.np) (hb : defBody st = f.body.em)
    (ok : f.body.ok { C.ck with lam := f.lams } f.N (defScope st) = true) (hm : f.lams = true → ∃ c P, fd.code = .ref c ∧ (c, P) ∈ cs ∧ (P, qual ++ ".<locals>." ++ "<lambda>") ∈ C.tabs ∧ ∀ p ∈ C.tabs, p.1 = P → p.2 = qual ++ ".<locals>." ++ "<lambda>") (wf : Nat) : FnG P w K mg base (C.lv + 3) fa fd ps (spG C (f.run wf C.cl)) := by
  obtain ⟨oc, od, kV, doc, pm, an, cdv, ct, osl, rfl, lk, hcd⟩ := F.ex
  let C' : Ctx := C.ckT { C.ck with lam := f.lams } none
  have hM' : ModOk C' P w K mg base := mod_ck hM ⟨rfl, rfl, rfl, rfl, fun _ h => h, fun h => h⟩
  refine FnG.imp (sp := spG C' (f.run wf C.cl)) (fnG_of lk hcd S (fun vs H Q E h => ?_) fun A outer s H vs Q E hg hr h => ?_) fun _ _ _ _ => spG_ck.mpr
  · obtain ⟨b, R, G, ws, B, r, h⟩ := h
    unfold Fd.run at h
    by_cases c : ws.length = f.np
    · rw [r.len, c, hnp]
    · rw [if_neg c] at h
      exact h.elim
  · obtain ⟨b, R, G, ws, B, r, h⟩ := h
    unfold Fd.run at h
    by_cases c : ws.length = f.np
    · rw [if_pos c] at h
      have hX : XOk C' (fun cls d _ H => E cls d H) (cxOf (L2.CX P w) P w K mg base f.N qual (defScope st) fa cdv A outer s H E) := ⟨hM', rfl, hg, hr.mono (Nat.le_add_right _ _), S.nd, takes_of rfl rfl rfl rfl, passes_of rfl, fun z => by
        have z : f.lams = true := z
        obtain ⟨c, P', e1, e2, e3, e4⟩ := hm z
        exact ⟨hr, ⟨c, P', e1, hT _ e2, e3, e4⟩, hrg (List.ne_nil_of_mem e2)⟩⟩
      rw [hb]
      refine ⟨_, p_sms (C := C') wf f.body hX (fun _ => rfl) S.kind ⟨⟨rfl, rfl⟩, fun q h => nomatch h⟩ ok, ⟨R, G, H, G⟩, b, R, G, startE f.N.length ws, start_ss rfl B r, Comp.wp_mono (wp_nox (Comp.wp_bind.mp h)) (fun b' o q => ?_) fun _ _ z => z⟩
      cases o with
      | nx e => exact fun R' G' σ' H' S' => q R' G' H' .non S'.stp S'.st.bs .non
      | br e => exact q.elim
      | ct e => exact q.elim
      | rt r => exact q
      | ex x e => exact fun R' G' σ' H' cls d S' ex => q R' G' H' cls d S'.stp S'.st.bs ex
    · rw [if_neg c] at h
      exact h.elim
/-- .. of one that is handed a lambda -/
theorem ho_step {C C2 : Ctx} {lv : Nat} {cl : Nat → List Wd → Comp FR} {k2 : Chk} (e2 : C2 = C.to lv cl k2 none) (hlv : C.lv + 1 ≤ lv) (hM : ModOk C P w K mg base) {f : Fd} {x qual : Str} {st : Stmt} {g : Addr} {fd : FuncData} {p : Str} (F : Fun K x qual st g fd) (S : FnScope f.N [p] (defScope st)) (hnp : 1 = f.np) (hb : defBody st = f.body.em)
    (ok : f.body.ok { C.ck with lam := f.lams } f.N (defScope st) = true) (hmk : f.lams = false) (wf : Nat) {j : Nat} (hcl : ∀ ws, cl j ws = f.run wf C.cl ws) : HoG C2 P w K mg base j g fd p := by
  subst e2
  obtain ⟨oc, od, kV, doc, pm, an, cdv, ct, osl, rfl, lk, hcd⟩ := F.ex
  intro A outer s H args q b Q E hg hr e0 hbd hq B act h
  subst hq
  let C' : Ctx := C.ckT { C.ck with lam := f.lams } (some q)
  have hM' : ModOk C' P w K mg base := mod_ck hM ⟨rfl, rfl, rfl, rfl, fun _ h => h, fun h => h⟩
  have h : (cl j [.fn q.c]).wp b _ _ := h
  rw [hcl] at h
  unfold Fd.run at h
  rw [if_pos (show [Wd.fn q.c].length = f.np from hnp)] at h
  refine LamX.run_ofS (k := lv) (us := [.ref q.f]) (vs := [.ref q.f]) lk hcd S (hr.mono (Nat.le_succ _)) e0 hbd (.cons rfl .nil) rfl fun hr' => ?_
  have hX : XOk C' (fun cls d _ H => E cls d H) (cxOf (L2.CX P w) P w K mg base f.N qual (defScope st) g cdv A outer s q.H E) := ⟨hM', rfl, hg, hr'.mono (Nat.le_trans (Nat.le_succ _) hlv), S.nd, takes_of rfl rfl rfl rfl, passes_of rfl, fun z => by
    have z : f.lams = true := z
    rw [hmk] at z
    cases z⟩
  rw [hb]
  have a1 : ActOk C (cxOf (L2.CX P w) P w K mg base f.N qual (defScope st) g cdv A outer s q.H E) q := act_ck' (act f.N qual (defScope st) cdv)
  refine ⟨_, p_sms (C := C') wf f.body hX (fun _ => rfl) S.kind ⟨⟨rfl, rfl⟩, fun q2 h => by cases h; exact act_ck a1⟩ ok, ⟨q.R, q.G, q.H, q.G⟩, b, q.R, q.G, startE f.N.length [.fn q.c], start_ho rfl (bs_ck.mpr (bs_ck.mp B)), Comp.wp_mono (wp_nox (Comp.wp_bind.mp h)) (fun b' o z => ?_) fun _ _ z => z⟩
  cases o with
  | nx e => exact fun R' G' σ' H' S' => z R' G' H' .non S'.stp (bs_ck.mpr (bs_ck.mp S'.st.bs)) .non
  | br e => exact z.elim
  | ct e => exact z.elim
  | rt r => exact fun R' G' H' v st B ro => z R' G' H' v st (bs_ck.mpr (bs_ck.mp B)) (ret_ck.mpr (ret_ck.mp ro))
  | ex x e => exact fun R' G' σ' H' cls d S' ex => z R' G' H' cls d S'.stp (bs_ck.mpr (bs_ck.mp S'.st.bs)) ex
/-- the errors' classes stand -/
structure ExsOk (P : Program) (K : PySem.W.Frag) (mg : Str → Option Value) (exs : List Xc) : Prop where
  ex : ∀ (c : Nat) q, exs[c]? = some q → ∃ B newId i bmB pn, TX.ExTx P K mg q.nm q.C B newId i bmB pn q.fld
  exd : ∀ (c c' : Nat) q q', exs[c]? = some q → exs[c']? = some q' → PySem.W.exmOne K (.ref q.C) (.ref q'.C) = some (decide (c = c'))
theorem ExsOk.nil : ExsOk P K mg [] := ⟨fun c q h => by simp at h, fun c c' q q' h => by simp at h⟩
/-- what all functions of a law share -/
structure Base0 where
  K : PySem.W.Frag
  am : Addr
  rg : Rng
  lv : Nat
  cons : List (Str × Cst)
  dn : Str
  exs : List Xc := []
  tabs : List (Addr × Str) := []
  isx : Bool := false
abbrev exm (xs : List Xc) : List (Str × Option Str) := xs.map fun q => (q.nm, q.fld)
def hosOf : List Fd → List (Nat × Str)
  | [] => []
  | f :: fs => if f.ho then (fs.length, f.nm) :: hosOf fs else hosOf fs
def ckOf (cons : List (Str × Cst)) (dn : Str) (fs : List Fd) (exs : List (Str × Option Str) := []) (isx : Bool := false) : Chk := { fns := (fs.map (·.nm)).reverse, cons := cons, dn := dn, exs := exs, hos := hosOf fs, isx := isx }
def ctxOf (B : Base0) (wf : Nat) (fs : List Fd) : Ctx := { K := B.K, am := B.am, rg := B.rg, lv := B.lv + 3 * fs.length, cl := callT wf fs, ck := ckOf B.cons B.dn fs (exm B.exs) B.isx, exs := B.exs, tabs := B.tabs }
def FnsAt (K : PySem.W.Frag) (mg : Str → Option Value) (cons : List (Str × Cst)) (dn : Str) (exs : List (Str × Option Str)) (isx : Bool) (cs : List (Addr × Addr)) (tabs : List (Addr × Str)) : List Fd → Prop
  | [] => True
  | f :: fs => FnsAt K mg cons dn exs isx cs tabs fs ∧ FnAt K mg (ckOf cons dn fs exs isx) cs tabs f ∧ (f.ho = true → f.lams = false)
/-- the drawing function's promise -/
def spD0 (B : Base0) : Sp := spD (ctxOf B 0 [])
theorem ctx_to {B : Base0} {wf wf' : Nat} {fs gs : List Fd} : ctxOf B wf' gs = (ctxOf B wf fs).to (B.lv + 3 * gs.length) (callT wf' gs) (ckOf B.cons B.dn gs (exm B.exs) B.isx) none := rfl
section
variable {B : Base0} {wf wf' : Nat} {fs gs : List Fd} {H : Hp}
theorem spG_ctx {c : List Wd → Comp FR} {vs : List V} {Q : VK} {E : XK} (h : spG (ctxOf B wf' gs) c vs H Q E) : spG (ctxOf B wf fs) c vs H Q E :=
  (spG_ck (C := ctxOf B wf fs) (lv := B.lv + 3 * gs.length) (cl := callT wf' gs) (k := ckOf B.cons B.dn gs (exm B.exs) B.isx) (fa := none)).mp h
theorem spD_ctx {vs : List V} {Q : VK} {E : XK} (h : spD (ctxOf B wf' gs) vs H Q E) : spD (ctxOf B wf fs) vs H Q E :=
  spD_ck (C := ctxOf B wf fs) (lv := B.lv + 3 * gs.length) (cl := callT wf' gs) (k := ckOf B.cons B.dn gs (exm B.exs) B.isx) (fa := none) h
end
theorem hos_lt {j : Nat} {x : Str} : ∀ {fs : List Fd}, (j, x) ∈ hosOf fs → j < fs.length
  | [], h => nomatch h
  | f :: fs, h => by
    unfold hosOf at h
    by_cases c : f.ho = true
    · rw [if_pos c] at h
      rcases List.mem_cons.mp h with e | e
      · cases e
        exact Nat.lt_succ_self _
      · exact Nat.lt_succ_of_lt (hos_lt e)
    · rw [if_neg c] at h
      exact Nat.lt_succ_of_lt (hos_lt h)
theorem hcl2 {cl cl' : Nat → List Wd → Comp FR} {j : Nat} (h : ∀ ws, cl j ws = cl' j ws) {ws : List Wd} {b : Nat} {Q : Nat → FR → Prop} {E : Nat → Exn → Prop} (z : (cl j ws).wp b Q E) : (cl' j ws).wp b Q E := by
  rw [← h]
  exact z
theorem ho_up {C : Ctx} {lv : Nat} {cl : Nat → List Wd → Comp FR} {k : Chk} {j : Nat} {g : Addr} {fd : FuncData} {p : Str} (h : HoG C P w K mg base j g fd p) (hlv : C.lv ≤ lv) (hcl : ∀ ws, cl j ws = C.cl j ws) : HoG (C.to lv cl k none) P w K mg base j g fd p :=
  fun A outer s H args q b Q E hg hr e0 hb hq B act z => h A outer s H args q b Q E hg (hr.mono (Nat.add_le_add_right hlv 2)) e0 hb hq (bs_ck.mp B) (fun N qual scope cdv => act_ck' (act N qual scope cdv))
    (Comp.wp_mono (hcl2 hcl z) (fun b' r z R' G' H' v s B ro => z R' G' H' v s (bs_ck.mpr B) (ret_ck.mpr ro)) fun b' x z R' G' H' cls d s B ex => z R' G' H' cls d s (bs_ck.mpr B) ex)
theorem fns_ok {B : Base0} {cs : List (Addr × Addr)} (hK : K = B.K) (hb : ∀ x, bltB x = true → mg x = none) (hc : ∀ x v, B.cons.lookup x = some v → ∃ u vv, mg x = some vv ∧ RelV u vv ∧ Dq B.K (fun _ => none) u v.val)
    (hd : ∃ f fd ps, mg B.dn = some (.ref f) ∧ PySem.W.keepIn K (.ref f) = true ∧ Binds K fd ps [] ∧ FnG P w K mg base B.lv f fd ps (spD0 B)) (hx : ExsOk P K mg B.exs) (hi : B.isx = true → ∀ (c : Nat) q, B.exs[c]? = some q → ExcC K q.C)
    (hT : ∀ p ∈ cs, LamX.TabB base mg p.1 p.2) (hS : ∃ o, base.get? sysModules = some o) (hrg : cs ≠ [] → ∃ rg0, B.rg = rgT B.tabs rg0) (wf : Nat) : ∀ fs : List Fd, FnsAt K mg B.cons B.dn (exm B.exs) B.isx cs B.tabs fs → ModOk (ctxOf B wf fs) P w K mg base
  | [], _ => ⟨hK, hb, hc, fun j x h => by
      have h : ([] : List Str)[j]? = some x := h
      simp at h, fun j x h => (nomatch (show (j, x) ∈ ([] : List (Nat × Str)) from h)), hi, rfl, hx.ex, hx.exd, hd, hS⟩
  | f :: fs, h => by
    have M := fns_ok hK hb hc hd hx hi hT hS hrg wf fs h.1
    obtain ⟨n, qual, st, fa, fd, ps, F, S, hnp, hbd, ok, hm, bd, hmk, hho⟩ := h.2.1.ex
    refine ⟨hK, hb, hc, fun j x hj => ?_, fun j x hj => ?_, hi, rfl, hx.ex, hx.exd, ?_, hS⟩
    · have hj : ((f :: fs).map (·.nm)).reverse[j]? = some x := hj
      rw [List.map_cons, List.reverse_cons] at hj
      by_cases c : j = fs.length
      · have hx : x = f.nm := by
          rw [List.getElem?_append_right (by rw [List.length_reverse, List.length_map]; omega), List.length_reverse, List.length_map, c, Nat.sub_self] at hj
          exact (Option.some.inj hj).symm
        have e : (ctxOf B wf (f :: fs)).cl j = f.run wf (ctxOf B wf fs).cl := by
          funext ws
          show (if j = fs.length then f.run wf (callT wf fs) ws else callT wf fs j ws) = _
          rw [if_pos c]
          rfl
        rw [hx]
        refine ⟨fa, fd, ps, hm, F.kp, bd, ?_⟩
        show FnG P w K mg base _ fa fd ps (spG (ctxOf B wf (f :: fs)) ((ctxOf B wf (f :: fs)).cl j))
        rw [e]
        exact (fn_step M hT hrg F S hnp hbd ok hmk wf).imp fun _ _ _ _ => spG_ctx
      · have hl : j < fs.length := by
          have := (List.getElem?_eq_some_iff.mp hj).1
          rw [List.length_append, List.length_reverse, List.length_map, List.length_singleton] at this
          omega
        rw [List.getElem?_append_left (by rw [List.length_reverse, List.length_map]; exact hl)] at hj
        obtain ⟨fa, fd, ps, h1, h2, h3, h4⟩ := M.fn j x hj
        have e : (ctxOf B wf (f :: fs)).cl j = (ctxOf B wf fs).cl j := by
          funext ws
          show (if j = fs.length then f.run wf (callT wf fs) ws else callT wf fs j ws) = _
          rw [if_neg c]
          rfl
        refine ⟨fa, fd, ps, h1, h2, h3, ?_⟩
        show FnG P w K mg base _ fa fd ps (spG (ctxOf B wf (f :: fs)) ((ctxOf B wf (f :: fs)).cl j))
        rw [e]
        exact (h4.mono (Nat.add_le_add_left (Nat.mul_le_mul_left 3 (Nat.le_succ _)) _)).imp fun _ _ _ _ => spG_ctx
    · have hj : (j, x) ∈ hosOf (f :: fs) := hj
      have old : (j, x) ∈ hosOf fs → ∃ g fd par, mg x = some (.ref g) ∧ PySem.W.keepIn K (.ref g) = true ∧ Binds K fd [par] [] ∧ HoG (ctxOf B wf (f :: fs)) P w K mg base j g fd par := fun hj => by
        have hl : j < fs.length := hos_lt hj
        obtain ⟨g, fd, par, h1, h2, h3, h4⟩ := M.hof j x hj
        refine ⟨g, fd, par, h1, h2, h3, ho_up h4 (Nat.add_le_add_left (Nat.mul_le_mul_left 3 (Nat.le_succ _)) _) fun ws => ?_⟩
        show (if j = fs.length then f.run wf (callT wf fs) ws else callT wf fs j ws) = _
        rw [if_neg (Nat.ne_of_lt hl)]
        rfl
      unfold hosOf at hj
      by_cases c : f.ho = true
      · rw [if_pos c] at hj
        rcases List.mem_cons.mp hj with e | e
        · cases e
          obtain ⟨p, rfl⟩ := hho c
          refine ⟨fa, fd, p, hm, F.kp, bd, ho_step (C := ctxOf B wf fs) rfl (by show B.lv + 3 * fs.length + 1 ≤ B.lv + 3 * (fs.length + 1); omega) M F S hnp hbd ok (h.2.2 c) wf fun ws => ?_⟩
          show (if fs.length = fs.length then f.run wf (callT wf fs) ws else callT wf fs fs.length ws) = _
          rw [if_pos rfl]
          rfl
        · exact old e
      · rw [if_neg c] at hj
        exact old hj
    · obtain ⟨fa, fd, ps, h1, h2, h3, h4⟩ := M.drw
      exact ⟨fa, fd, ps, h1, h2, h3, (h4.mono (Nat.add_le_add_left (Nat.mul_le_mul_left 3 (Nat.le_succ _)) _)).imp fun _ _ _ _ => spD_ctx⟩
end
end TC

set_option Elab.async false
set_option linter.all false
set_option maxRecDepth 100000
set_option maxHeartbeats 4000000
namespace TC
open PySem L2 PySem.Spec PyProof.Rows PySem.W
/-! ### the law's own end -/
/-- what is promised of a law's def: True comes out; ts: the tables of code objects, empty yet -/
def spT (K : PySem.W.Frag) (ts : List Addr) : Sp := fun vs H Q _ => ∃ (a : Addr) (ns : List Int), vs = [.ref a] ∧ SqL K H a (ns.map V.int) ∧ ns.length ≤ 63 ∧ (∀ z ∈ ns, Builtin.Int.intBits z ≤ 1048576) ∧ (∀ p ∈ ts, H p = some (.tbl #[])) ∧ ∀ H', Q (.bl true) H'
/-- the goal of the law's call -/
abbrev LawEnd (P : Program) (w : World) (fa a : Addr) (s₁ : Shared) : Prop := codeAny (model P w) callerA (.call (.ref fa) ⟨[.ref a], []⟩) (fun r s' => r = .ok (.ret (.bool true)) ∧ OldK s₁.heap s'.heap ∧ s'.os = s₁.os ∧ AllBare s'.gens) s₁
section
variable {P : Program} {w : World} {K : PySem.W.Frag} {mg mb : Str → Option Value} {k : Nat} {fa a : Addr} {fd : FuncData} {x : Str} {s₁ : Shared} {vs : List Value} {ns : List Int} {cs : List (Addr × Addr)}
/-- what stands of the makers' tables as the law begins -/
structure TabsOk (K : PySem.W.Frag) (mg : Str → Option Value) (h : Heap) (cs : List (Addr × Addr)) : Prop where
  hT : ∀ p ∈ cs, h.get? p.2 = some (PySem.W.tabObj #[])
  nT : ∀ p ∈ cs, K.lookup p.2 = none
  sy : ∃ mm, h.Ns sysModules mm
  hd : ∀ p ∈ cs, PySem.W.CodeHd h p.1 p.2
  bm : cs ≠ [] → ∃ (bm : Addr) (ob : Obj), mg "__builtins__" = some (.ref bm) ∧ bm ≠ builtinsNs ∧ h.get? bm = some ob ∧ ob.cls = .type "module" ∧ ob.dict = some builtinsNs ∧ ob.data = .plain
/-- from an abstract heap where the script and the tables alone may be tracked -/
theorem law_core (KX : K.In s₁.heap) (hns : s₁.heap.Ns mainGlobals mg) (hb : s₁.heap.Ns builtinsNs mb) (hbb : ∀ x : Str, x ≠ "__name__" → mb x = bootBuiltins x) (hlim : s₁.heap.NoLimit) (hg : s₁.gens = #[]) (T : TabsOk K mg s₁.heap cs)
    (ha : s₁.heap.get? a = some { cls := .type "list", data := .seq vs.toArray }) (hl : ns.length ≤ 63) (hbt : ∀ z ∈ ns, Builtin.Int.intBits z ≤ 1048576) (hr : Room k callerA)
    (F : ∀ base : Heap, K.In base → base.Ns mainGlobals mg → (∃ o, base.get? sysModules = some o) → (∀ p ∈ cs, LamX.TabB base mg p.1 p.2) → FnG P w K mg base k fa fd [x] (spT K (cs.map (·.2)))) (bd : ∀ (s : Shared) (u : Value), BindsTo s fd ⟨[u], []⟩ [(x, u)])
    (H : Hp) (only : ∀ b, b ∉ cs.map (·.2) → H b = none ∨ ∃ o xs, H b = some (.frz o (.lst xs))) (tabs : ∀ p ∈ cs.map (·.2), H p = some (.tbl #[])) (sq : SqL K H a (ns.map V.int)) (ok : HOk P w H s₁.heap) (at_a : ∀ b, H b ≠ none → b = a ∨ b ∈ cs.map (·.2)) (hK : H a ≠ none → K.lookup a = none) : LawEnd P w fa a s₁ := by
  have isT : ∀ b ∈ cs.map (·.2), s₁.heap.get? b = some (PySem.W.tabObj #[]) := fun b hb => by
    obtain ⟨p, hp, rfl⟩ := List.mem_map.mp hb
    exact T.hT p hp
  /- what is neither a row nor an empty table is not tracked -/
  have nod : ∀ {b : Addr} {o : Obj}, s₁.heap.get? b = some o → (∀ xs n, o.data ≠ .seq xs n) → o.data ≠ .fields #[] → H b = none := fun {b o} e1 d1 d2 => Decidable.byContradiction fun z => by
    rcases at_a b z with c | c
    · rw [c, ha] at e1
      cases e1
      exact d1 _ _ rfl
    · rw [isT b c] at e1
      cases e1
      exact d2 rfl
  have bas : ∀ {b : Addr} {o : Obj}, s₁.heap.get? b = some o → (∀ xs n, o.data ≠ .seq xs n) → o.data ≠ .fields #[] → (hidT s₁.heap H).get? b = some o := fun e d1 d2 => hidT_get e (nod e d1 d2)
  have ns2 : ∀ {b : Addr} {m : Str → Option Value}, s₁.heap.Ns b m → (hidT s₁.heap H).Ns b m := fun {b m} q => by
    obtain ⟨o, es, n, e1, e2, e3⟩ := q
    exact ⟨o, es, n, bas e1 (by rw [e2]; exact fun _ _ z => nomatch z) (by rw [e2]; exact fun z => nomatch z), e2, e3⟩
  have k2 : K.In (hidT s₁.heap H) := fun b o e1 => hidT_get (KX b o e1) (Decidable.byContradiction fun z => by
    rcases at_a b z with c | c
    · subst c
      rw [hK z] at e1
      cases e1
    · obtain ⟨p, hp, rfl⟩ := List.mem_map.mp c
      rw [T.nT p hp] at e1
      cases e1)
  obtain ⟨mc, l1, l2⟩ := hlim
  have md : Mod K mg (hidT s₁.heap H) := ⟨k2, ns2 hns, ⟨mb, ns2 hb, hbb⟩, ⟨mc, ns2 l1, l2⟩⟩
  have gl : ∀ {b : Addr} {u : Obj}, s₁.heap.get? b = some u → (∀ es n, u.data ≠ .dict es n) → b ≠ mainGlobals := fun {b u} e d z => by
    obtain ⟨o, es, ep, e2, hd, _⟩ := hns
    rw [z, e2] at e
    cases e
    exact d _ _ hd
  have TB : ∀ p ∈ cs, LamX.TabB (hidT s₁.heap H) mg p.1 p.2 := fun p hp => by
    have tp := T.hT p hp
    obtain ⟨o, us, file, tf, flags, tg, inF, text, tt, e1, r1, r2, r3, rest⟩ := T.hd p hp
    refine ⟨⟨o, us, file, tf, flags, tg, inF, text, tt, bas e1 (by rw [r2]; exact fun _ _ z => nomatch z) (fun z => ?_), r1, r2, r3, rest⟩, ?_, (gl tp fun _ _ z => nomatch z).symm⟩
    · rw [r2] at z
      cases z
      simp at r3
    · obtain ⟨bm, ob, b1, b2, b3, b4, b5, b6⟩ := T.bm (List.ne_nil_of_mem hp)
      refine ⟨bm, ob, b1, b2, gl b3 (by rw [b6]; exact fun _ _ z => nomatch z), fun q => ?_, bas b3 (by rw [b6]; exact fun _ _ z => nomatch z) (by rw [b6]; exact fun z => nomatch z), b4, b5, b6⟩
      rw [q, tp] at b3
      cases b3
      cases b6
  have env : Env0 P w K mg (hidT s₁.heap H) callerA [] s₁ H := ⟨rfl, md, fun _ _ e => of_hidT e, Nat.le_of_eq (hidT_size _ _), trivial, fun b z => (List.not_mem_nil z).elim, ok, .of_eq hg⟩
  have hS : ∃ o, (hidT s₁.heap H).get? sysModules = some o := by
    obtain ⟨mm, q⟩ := T.sy
    obtain ⟨o, es, n, e1, _⟩ := ns2 q
    exact ⟨o, e1⟩
  have main := (F _ k2 (ns2 hns) hS TB).run callerA [] s₁ H ⟨[.ref a], []⟩ [.ref a] [.ref a] (fun v _ => v = .bl true) (fun _ _ _ => False) rfl hr env (bd s₁ (.ref a)) (.cons rfl .nil) ⟨a, ns, rfl, sq, hl, hbt, tabs, fun _ => rfl⟩
  refine codeAny_mono main fun r s' z => ?_
  cases r with
  | error u =>
    obtain ⟨_, _, _, _, _, _, _, _, _, _, _, _, _, _, _, _, bad⟩ := z
  | ok fl =>
    cases fl with
    | ret u =>
      obtain ⟨v, H', os, bare, un, ok', rv, q⟩ := z
      have q : v = .bl true := q
      rw [q] at rv
      have rv : u = Value.bool true := rv
      rw [rv]
      have kept : ∀ b o, b ∉ cs.map (·.2) → s₁.heap.get? b = some o → s'.heap.get? b = some o := fun b o nb e => by
        rcases only b nb with n | ⟨o2, xs, n⟩
        · exact un.keep b o e n (List.not_mem_nil) (by simp)
        · have e1 := (ok b _ n).1
          have e2 := (ok' b _ (un.frzs b o2 _ n)).1
          rw [e] at e1
          rw [e1]
          exact e2
      have more : ∀ b ∈ cs.map (·.2), ∃ xs : Array Value, s'.heap.get? b = some (PySem.W.tabObj xs) := fun b hb => by
        obtain ⟨xs, z⟩ := un.tbls b #[] (tabs b hb)
        exact ⟨_, ok' b _ z⟩
      refine ⟨rfl, ⟨fun b o e => ?_, fun b o e => ?_⟩, os, bare⟩
      · by_cases hb : b ∈ cs.map (·.2)
        · obtain ⟨xs, q⟩ := more b hb
          rw [isT b hb] at e
          cases e
          obtain ⟨p, hp, rfl⟩ := List.mem_map.mp hb
          exact .inr (.inl ⟨((T.hd p hp).tab (T.hT p hp)).isCodeTable, rfl, #[], xs, rfl, by rw [Array.empty_append]; exact q⟩)
        · exact .inl (kept b o hb e)
      · by_cases hb : b ∈ cs.map (·.2)
        · obtain ⟨xs, q⟩ := more b hb
          exact ⟨_, q⟩
        · exact ⟨o, kept b o hb e⟩
    | _ => exact False.elim z
theorem law_callG (KX : K.In s₁.heap) (hns : s₁.heap.Ns mainGlobals mg) (hb : s₁.heap.Ns builtinsNs mb) (hbb : ∀ x : Str, x ≠ "__name__" → mb x = bootBuiltins x) (hlim : s₁.heap.NoLimit) (hg : s₁.gens = #[]) (T : TabsOk K mg s₁.heap cs)
    (ha : s₁.heap.get? a = some { cls := .type "list", data := .seq vs.toArray }) (hi : IntsAre vs ns) (hl : ns.length ≤ 63) (hbt : ∀ z ∈ ns, Builtin.Int.intBits z ≤ 1048576) (hr : Room k callerA)
    (F : ∀ base : Heap, K.In base → base.Ns mainGlobals mg → (∃ o, base.get? sysModules = some o) → (∀ p ∈ cs, LamX.TabB base mg p.1 p.2) → FnG P w K mg base k fa fd [x] (spT K (cs.map (·.2)))) (bd : ∀ (s : Shared) (u : Value), BindsTo s fd ⟨[u], []⟩ [(x, u)]) : LawEnd P w fa a s₁ := by
  have rv := vals_ints hi
  have len := hi.length
  have small : ns.length ≤ sizeLine := Nat.le_trans hl (by decide)
  have isT : ∀ b ∈ cs.map (·.2), s₁.heap.get? b = some (PySem.W.tabObj #[]) := fun b hb => by
    obtain ⟨p, hp, rfl⟩ := List.mem_map.mp hb
    exact T.hT p hp
  have aT : a ∉ cs.map (·.2) := fun z => by
    have q := isT a z
    rw [ha] at q
    cases q
  cases hk : K.lookup a with
  | some o =>
    have e := KX a o hk
    rw [ha] at e
    injection e with e
    subst e
    have sz : vs.toArray.size ≤ sizeLine := by
      rw [List.size_toArray, len]
      exact small
    let H : Hp := fun b => if b ∈ cs.map (·.2) then some (.tbl #[]) else none
    have hn : ∀ {b}, b ∉ cs.map (·.2) → H b = none := fun z => if_neg z
    have hy : ∀ {b}, b ∈ cs.map (·.2) → H b = some (.tbl #[]) := fun z => if_pos z
    refine law_core KX hns hb hbb hlim hg T ha hl hbt hr F bd H (fun b nb => .inl (hn nb)) (fun p hp => hy hp) (.inr ⟨_, vs.toArray, _, hk, rfl, rfl, rfl, sz, by simpa using rv⟩) (fun b u z => ?_) (fun b z => .inr (Decidable.byContradiction fun c => z (hn c))) fun z => absurd (hn aT) z
    by_cases c : b ∈ cs.map (·.2)
    · rw [hy c] at z
      cases z
      exact isT b c
    · rw [hn c] at z
      cases z
  | none =>
    let H : Hp := fun b => if b = a then some (.frz { cls := .type "list", data := .seq vs.toArray } (.lst (ns.map V.int))) else if b ∈ cs.map (·.2) then some (.tbl #[]) else none
    have hh : H a = some (.frz { cls := .type "list", data := .seq vs.toArray } (.lst (ns.map V.int))) := if_pos rfl
    have ht : ∀ {b}, b ∈ cs.map (·.2) → H b = some (.tbl #[]) := fun {b} z => by
      have ne : b ≠ a := fun e => aT (e ▸ z)
      show (if b = a then _ else if b ∈ cs.map (·.2) then _ else _) = _
      rw [if_neg ne, if_pos z]
    have hn : ∀ {b}, b ≠ a → b ∉ cs.map (·.2) → H b = none := fun {b} z1 z2 => by
      show (if b = a then _ else if b ∈ cs.map (·.2) then _ else _) = _
      rw [if_neg z1, if_neg z2]
    refine law_core KX hns hb hbb hlim hg T ha hl hbt hr F bd H (fun b nb => ?_) (fun p hp => ht hp) (.inl (.inr ⟨_, hh⟩)) (fun b u z => ?_) (fun b z => ?_) fun _ => hk
    · by_cases c : b = a
      · rw [c]
        exact .inr ⟨_, _, hh⟩
      · exact .inl (hn c nb)
    · by_cases c : b = a
      · subst c
        rw [hh] at z
        injection z with z
        subst z
        exact ⟨ha, by rw [List.length_map]; exact small, vs, _, rv, ha⟩
      · by_cases c2 : b ∈ cs.map (·.2)
        · rw [ht c2] at z
          cases z
          exact isT b c2
        · rw [hn c c2] at z
          cases z
    · by_cases c : b = a
      · exact .inl c
      · exact .inr (Decidable.byContradiction fun c2 => z (hn c c2))
end
/-- what k_head leaves, from the promise of the law's def -/
theorem walkT {l : PySem.W.OpenLaw} {k : Nat} {q : Program} {loose : List Str} {XP : (Str → Option Value) → Heap → Prop} {YP : World → Heap → Prop} {d : DefRec} {K : Params → PySem.W.Frag} {x : Str} (cs : List (Addr × Addr))
    (hn : l.most = some 63) (hdf : d.params.defaults = []) (hr : Room k callerA) (hsys : importsNone q = true) (hY : ∀ (w : World) (h : Heap), YP w h → (K w.params).In h) (hcd : ∀ (w : World) (h : Heap), (K w.params).In h → ∀ p ∈ cs, PySem.W.CodeHd h p.1 p.2) (hT : ∀ (w : World) (h : Heap), YP w h → ∀ p ∈ cs, h.get? p.2 = some (PySem.W.tabObj #[])) (nT : ∀ w : World, ∀ p ∈ cs, (K w.params).lookup p.2 = none)
    (F : ∀ (w : World) (mg : Str → Option Value) (fa : Addr) (h : Heap), (K w.params).In h → h.Ns mainGlobals mg → mg d.name = some (.ref fa) →
      ∃ fd : FuncData, (∀ (s : Shared) (u : Value), BindsTo s fd ⟨[u], []⟩ [(x, u)]) ∧ ∀ base : Heap, (K w.params).In base → base.Ns mainGlobals mg → (∃ o, base.get? sysModules = some o) → (∀ p ∈ cs, LamX.TabB base mg p.1 p.2) → FnG l.prog w (K w.params) mg base k fa fd [x] (spT (K w.params) (cs.map (·.2)))) :
    PySem.W.WalkO q loose XP YP l.row.toRowW d [] (fun f vs => PySem.call f vs) :=
  Att.attach_callB hn hdf fun w s₀ s₁ mg mb fa o pm cd doc a vs ns G Y ho hd hcd' hmg hobj hints hlen hbt hg => by
    obtain ⟨fd, bd, hF⟩ := F w mg fa _ (hY w _ Y) G.T.g hmg
    exact law_callG (hY w _ Y) G.T.g G.T.b G.T.builtins G.T.nolimit hg ⟨hT w _ Y, nT w, (G.T.seer hsys).mods.imp fun _ z => z.1, hcd w _ (hY w _ Y), fun _ => G.T.bmain⟩ hobj hints hlen hbt hr hF bd
theorem walkG {l : PySem.W.OpenLaw} {k : Nat} {q : Program} {loose : List Str} {XP : (Str → Option Value) → Heap → Prop} {YP : World → Heap → Prop} {d : DefRec} {K : Params → PySem.W.Frag} {x : Str}
    (hn : l.most = some 63) (hdf : d.params.defaults = []) (hr : Room k callerA) (hsys : importsNone q = true) (hY : ∀ (w : World) (h : Heap), YP w h → (K w.params).In h)
    (F : ∀ (w : World) (mg : Str → Option Value) (fa : Addr) (h : Heap), (K w.params).In h → h.Ns mainGlobals mg → mg d.name = some (.ref fa) →
      ∃ fd : FuncData, (∀ (s : Shared) (u : Value), BindsTo s fd ⟨[u], []⟩ [(x, u)]) ∧ ∀ base : Heap, (K w.params).In base → base.Ns mainGlobals mg → (∃ o, base.get? sysModules = some o) → FnG l.prog w (K w.params) mg base k fa fd [x] (spT (K w.params) [])) :
    PySem.W.WalkO q loose XP YP l.row.toRowW d [] (fun f vs => PySem.call f vs) :=
  walkT [] hn hdf hr hsys hY (fun _ _ _ p h => nomatch h) (fun _ _ _ p h => nomatch h) (fun _ p h => nomatch h) fun w mg fa h X G m => by
    obtain ⟨fd, b, z⟩ := F w mg fa h X G m
    exact ⟨fd, b, fun base x y sy _ => z base x y sy⟩
/-! ### the law's def -/
theorem pss_ex {ι : Type} {X : Cx} {st : List Stmt} {t : ι → TS} (h : ∀ i, PSs X st (t i)) : PSs X st (fun D σ H => ∃ i, t i D σ H) := ⟨fun pins s σ H D I ⟨i, q⟩ => (h i).run pins s σ H D I q⟩
/-- the drawing object is made -/
def spS (K : PySem.W.Frag) (rgs : Addr → Rng) (nb : Nat) : Sp := fun vs H Q _ => ∃ (a : Addr) (ns : List Int), vs = [.ref a] ∧ SqL K H a (ns.map V.int) ∧ ns.length ≤ 63 ∧ (∀ z ∈ ns, Builtin.Int.intBits z ≤ 1048576) ∧
  ∀ am R H', (rgs am).I nb R H' → (∀ c o, H c = some o → H' c = some o) → (∀ c ∈ R, H c = none) → Q (.ref am) H'
def lawC (wf : Nat) (fs : List Fd) (lw : Fd) (n : Nat) : Comp FR := (nox (lw.body.ev (callT wf fs) wf ((startE lw.N.length [.scr n]).set 1 (.fz .rng)))).bind endC
def isT : Nat → FR → Prop := fun _ r => r = .fz (.d (.bool true))
def Base0.at_ (B : Base0) (rgs : Addr → Rng) (am : Addr) : Base0 := { B with am := am, rg := rgT B.tabs (rgs am) }
theorem law_fn {P : Program} {w : World} {K : PySem.W.Frag} {mg : Str → Option Value} {base : Heap} {B : Base0} {rgs : Addr → Rng} {wf nb : Nat} {fs : List Fd} {lw : Fd} {cs : List (Addr × Addr)} (hM : ∀ am, ModOk (ctxOf (B.at_ rgs am) wf fs) P w K mg base)
    (hT : ∀ p ∈ cs, LamX.TabB base mg p.1 p.2) (htab : ∀ p ∈ B.tabs, p.1 ∈ cs.map (·.2))
    {bg m sc x qual : Str} {p1 p2 p3 p4 p5 : Pos} {st : Stmt} {fa : Addr} {fd : FuncData} (hs : ∃ f fd ps, mg bg = some (.ref f) ∧ PySem.W.keepIn K (.ref f) = true ∧ Binds K fd ps [] ∧ FnG P w K mg base B.lv f fd ps (spS K rgs nb))
    (F : Fun K x qual st fa fd) (S : FnScope lw.N [sc] (defScope st)) (hb : defBody st = .Assign [.Name m p1] (.Call (.Name bg p2) [.Name sc p3] [] p4) p5 :: lw.body.em)
    (h0 : slotB lw.N 0 sc = true) (h1 : slotB lw.N 1 m = true) (v0 : visB (defScope st) sc = true) (v1 : locB (defScope st) m = true) (vg : glB (defScope st) bg = true) (ok : lw.body.ok { ckOf B.cons B.dn fs (exm B.exs) B.isx with lam := lw.lams } lw.N (defScope st) = true)
    (hmk : lw.lams = true → ∃ c P, fd.code = .ref c ∧ (c, P) ∈ cs ∧ (P, qual ++ ".<locals>." ++ "<lambda>") ∈ B.tabs ∧ ∀ p ∈ B.tabs, p.1 = P → p.2 = qual ++ ".<locals>." ++ "<lambda>")
    (hw : ∀ n, n ≤ 63 → (lawC wf fs lw n).wp nb isT noE) : FnG P w K mg base (B.lv + 3 * fs.length + 3) fa fd [sc] (spT K (cs.map (·.2))) := by
  obtain ⟨oc, od, kV, doc, pm, an, cdv, ct, osl, rfl, lk, hcd⟩ := F.ex
  refine fnG_of lk hcd S (fun vs H Q E h => ?_) fun A outer s H vs Q E hg hr h => ?_
  · obtain ⟨a, ns, rfl, _⟩ := h
    rfl
  · obtain ⟨a, ns, rfl, sq, hl, hbt, hts, hQ⟩ := h
    let C : Addr → Ctx := fun am => (ctxOf (B.at_ rgs am) wf fs).ckT { (ctxOf (B.at_ rgs am) wf fs).ck with lam := lw.lams } none
    have hX : ∀ am, XOk (C am) (fun cls d _ H => E cls d H) (cxOf (L2.CX P w) P w K mg base lw.N qual (defScope st) fa cdv A outer s H E) := fun am => ⟨mod_ck (hM am) ⟨rfl, rfl, rfl, rfl, fun _ h => h, fun h => h⟩, rfl, hg, hr.mono (Nat.le_add_right _ 2), S.nd, takes_of rfl rfl rfl rfl, passes_of rfl, fun z => by
      have z : lw.lams = true := z
      obtain ⟨c, P', e1, e2, e3, e4⟩ := hmk z
      exact ⟨hr, ⟨c, P', e1, hT _ e2, e3, e4⟩, ⟨_, rfl⟩⟩⟩
    obtain ⟨f, fd, ps, mf, kf, bf, Ff⟩ := hs
    have n := plainNm_of (nm_vis v0)
    rw [hb]
    have e1 : 1 < lw.N.length := (List.getElem?_eq_some_iff.mp (slot_of h1)).1
    have hsl : (L2.start lw.N [V.ref a])[0]? = some (some (.ref a)) := rfl
    refine ⟨_, pss_cons (ps_set S.nd (slot_of h1) (loc_of v1) (pe_callG (W := fun cls d _ H => E cls d H) Ff hg (hr.mono (by rw [Nat.add_assoc]; exact Nat.le_add_right _ _)) (gl_of vg) mf kf bf (hX 0).tk (pa_1 (pe_var (slot_of h0) (vis_of v0) n.1 n.2.1) rfl) (plainNm_of (nm_gl vg)).1 rfl rfl) rfl (.inl rfl))
      (pss_ex fun am => p_sms (C := C am) wf lw.body (hX am) (fun _ => rfl) S.kind ⟨⟨rfl, rfl⟩, fun q h => nomatch h⟩ ok), .ref a, hsl, a, ns, rfl, sq, hl, hbt, fun am R H' hI keep fresh => ⟨am, ?_⟩⟩
    have noT : ∀ c ∈ R, c ∉ cs.map (·.2) := fun c hc z => by
      have q := fresh c hc
      rw [hts c z] at q
      cases q
    have tabs' : ∀ p ∈ cs.map (·.2), H' p = some (.tbl #[]) := fun p hp => keep _ _ (hts p hp)
    let G : Hp := fun c => if c = a ∧ a ∉ cs.map (·.2) then H a else none
    have gn : ∀ {c}, c ≠ a → G c = none := fun z => if_neg fun y => z y.1
    have gt : ∀ {c}, c ∈ cs.map (·.2) → G c = none := fun {c} z => if_neg fun y => y.2 (y.1 ▸ z)
    have ga : a ∉ cs.map (·.2) → G a = H a := fun z => if_pos ⟨rfl, z⟩
    have aT : ∀ {u : HO}, H a = some u → (∀ ps, u ≠ .tbl ps) → a ∉ cs.map (·.2) := fun {u} e d z => by
      rw [hts a z] at e
      cases e
      exact d _ rfl
    have sg : SqL K G a (ns.map V.int) := by
      rcases sq with (q | ⟨o, q⟩) | q
      · exact .inl (.inl ((ga (aT q fun _ z => nomatch z)).trans q))
      · exact .inl (.inr ⟨o, (ga (aT q fun _ z => nomatch z)).trans q⟩)
      · exact .inr q
    have sub : Sub G H' := fun c o z => by
      by_cases q : c = a
      · subst q
        by_cases y : c ∈ cs.map (·.2)
        · rw [gt y] at z
          cases z
        · rw [ga y] at z
          exact keep _ _ z
      · rw [gn q] at z
        cases z
    have dis : ∀ c ∈ R ++ cs.map (·.2), G c = none := fun c hc => by
      rcases List.mem_append.mp hc with y | y
      · by_cases q : c = a
        · subst q
          rw [ga (noT _ y)]
          exact fresh _ y
        · exact gn q
      · exact gt y
    have tr : TabR B.tabs (cs.map (·.2)) H' := ⟨fun p hp => ⟨htab p hp, #[], tabs' _ (htab p hp), trivial, fun pos cv z => by simp [codeAmong] at z⟩, fun c hc => .inl ⟨#[], tabs' c hc⟩⟩
    have bs : Bs (C am) nb (R ++ cs.map (·.2)) G H' := ⟨sub, ⟨R, cs.map (·.2), rfl, noT, hI, tr⟩, dis⟩
    have hK : K = B.K := (hM am).hK
    have s0 := start_ss (N := lw.N) (vs := [V.ref a]) (ws := [.scr ns.length]) (C := C am) rfl bs ⟨⟨a, _, rfl, hK ▸ sg, by rw [List.length_map]⟩, trivial⟩
    refine ⟨_, nb, R ++ cs.map (·.2), G, _, s0.setF (k := 1) (v := .ref am) (w := .rng) rfl, Comp.wp_mono (wp_nox (Comp.wp_bind.mp (hw ns.length hl))) (fun b' o q => ?_) fun _ _ z => z⟩
    cases o with
    | nx e => exact nomatch (show FR.fz (.d .none) = .fz (.d (.bool true)) from q)
    | br e => exact q.elim
    | ct e => exact q.elim
    | rt r =>
      have q : r = .fz (.d (.bool true)) := q
      subst q
      intro R' G' H2 v st B' ro
      have ro : Dq B.K G' v (.bool true) := ro
      cases ro
      exact hQ H2
    | ex x e => exact q.elim
/-! ### draws beside the tables -/
theorem spD_tab {B : Base0} {rgs : Addr → Rng} {am : Addr} {vs : List V} {H : Hp} {Q : VK} {E : XK} (h : spD (ctxOf (B.at_ rgs am) 0 []) vs H Q E) : spD (ctxOf { B with am := am, rg := rgs am } 0 []) vs H Q E := by
  obtain ⟨b, R, G, n, hb, e, h1, h2, h⟩ := h
  obtain ⟨R1, R2, rfl, dis, i, t⟩ := hb.rg
  have hv := fun a ha => (rgs am).hv i a ha
  have tk : ∀ a ∈ R2, ∃ o, H a = some o := fun a ha => by
    rcases t.only a ha with ⟨ps, z⟩ | ⟨c, q, z⟩ <;> exact ⟨_, z⟩
  refine ⟨b, R1, G, n, ⟨hb.sub, i, fun a ha => hb.dis a (List.mem_append_left _ ha)⟩, e, h1, h2, fun r R' H' r0 r1 s B' => ?_⟩
  have ap : ∀ a ∈ R', a ∉ R2 := fun a ha hz => by
    rcases s.r a ha with q | q
    · exact dis a q hz
    · obtain ⟨o, z⟩ := tk a hz
      rw [q] at z
      cases z
  have same : ∀ a ∈ R2, H' a = H a := fun a ha => by
    obtain ⟨o, z⟩ := tk a ha
    rw [z]
    exact s.k a o z fun q => dis a q ha
  refine h r (R' ++ R2) H' r0 r1 ⟨fun _ _ z => z, fun a o z na => s.k a o z fun q => na (List.mem_append_left _ q), fun a z => ?_, fun _ _ _ _ z => z, s.h⟩ ⟨B'.sub, ⟨R', R2, rfl, ap, B'.rg, t.fr same⟩, fun a ha => ?_⟩
  · rcases List.mem_append.mp z with q | q
    · exact (s.r a q).imp (List.mem_append_left _) id
    · exact .inl (List.mem_append_right _ q)
  · rcases List.mem_append.mp ha with q | q
    · exact B'.dis a q
    · exact hb.dis a (List.mem_append_right _ q)
end TC

set_option Elab.async false
set_option linter.all false
set_option maxRecDepth 100000
set_option maxHeartbeats 4000000
namespace TC
open PySem
/-- the blocks within a statement -/
def subS : Stmt → Nat → List Stmt
  | .If _ a b _, k => if k = 0 then a else b
  | .For _ _ b _ _, _ => b
  | .While _ b _ _, _ => b
  | _, _ => []
/-- a statement by its place -/
def atS : List Stmt → List (Nat × Nat) → Nat → Stmt
  | ss, [], j => ss.getD j (.Pass ⟨0, 0, 0, 0⟩)
  | ss, (i, k) :: p, j => atS (subS (ss.getD i (.Pass ⟨0, 0, 0, 0⟩)) k) p j
/-- every draw is the same: a first look -/
def Comp.look {α : Type} (r : Int) : Comp α → Option α
  | .ret a => some a
  | .draw n k => (k (if r < n then r else 0)).look r
  | _ => none
def FR.isTrue : FR → Bool
  | .fz (.d (.bool true)) => true
  | _ => false
/-- every way ends in True, with at most b draws -/
def Comp.allT : Nat → Comp FR → Bool
  | _, .ret r => r.isTrue
  | 0, _ => false
  | b + 1, .draw n k => decide (0 < n) && decide (n < 1073741824) && (List.range n.toNat).all fun i => (k i).allT b
  | _, _ => false
mutual
def sameD : PyData → PyData → Bool
  | .none, .none => true
  | .bool a, .bool b => a == b
  | .int a, .int b => decide (a = b)
  | .str a, .str b => decide (a = b)
  | .list a, .list b => sameL a b
  | .tuple a, .tuple b => sameL a b
  | _, _ => false
def sameL : List PyData → List PyData → Bool
  | [], [] => true
  | a :: as, b :: bs => sameD a b && sameL as bs
  | _, _ => false
end
mutual
theorem sameD_eq : ∀ {a b : PyData}, sameD a b = true → a = b
  | .none, b, h => by cases b <;> first | rfl | (unfold sameD at h; cases h)
  | .bool a, b, h => by cases b <;> first | (unfold sameD at h; exact congrArg _ (eq_of_beq h)) | (unfold sameD at h; cases h)
  | .int a, b, h => by cases b <;> first | (unfold sameD at h; exact congrArg _ (of_decide_eq_true h)) | (unfold sameD at h; cases h)
  | .str a, b, h => by cases b <;> first | (unfold sameD at h; exact congrArg _ (of_decide_eq_true h)) | (unfold sameD at h; cases h)
  | .list a, b, h => by
    cases b with
    | list b =>
      unfold sameD at h
      rw [sameL_eq h]
    | _ => unfold sameD at h; cases h
  | .tuple a, b, h => by
    cases b with
    | tuple b =>
      unfold sameD at h
      rw [sameL_eq h]
    | _ => unfold sameD at h; cases h
  | .dict a, b, h => by cases b <;> (unfold sameD at h; cases h)
theorem sameL_eq : ∀ {a b : List PyData}, sameL a b = true → a = b
  | [], [], _ => rfl
  | a :: as, b :: bs, h => by
    unfold sameL at h
    rw [sameD_eq (and2 h).1, sameL_eq (and2 h).2]
  | [], _ :: _, h => by unfold sameL at h; cases h
  | _ :: _, [], h => by unfold sameL at h; cases h
end
/-- the slot at i holds d | the drawing object -/
def slD (e : En) (i : Nat) (d : PyData) : Bool := match e[i]? with
  | some (.fz (.d x)) => sameD x d
  | _ => false
def slR (e : En) (i : Nat) : Bool := match e[i]? with
  | some (.fz .rng) => true
  | _ => false
/-- every way that a block may take goes on, with slots as told -/
def Comp.allN (P : En → Bool) : Nat → Comp Ou → Bool
  | _, .ret (.nx e) => P e
  | _, .ret (.ct e) => P e
  | b + 1, .draw n k => decide (0 < n) && decide (n < 1073741824) && (List.range n.toNat).all fun i => (k i).allN P b
  | _, _ => false
theorem allN_wp {P : En → Bool} {Q : Nat → Ou → Prop} (hn : ∀ b e, P e = true → Q b (.nx e)) (hc : ∀ b e, P e = true → Q b (.ct e)) : ∀ {b m : Nat} {c : Comp Ou}, c.allN P b = true → (∀ b' e, P e = true → Q b' (.nx e) ∧ Q b' (.ct e)) → c.wp (b + m) Q noE
  | b, m, .ret (.nx e), h, hq => by
    cases b <;> exact (hq _ e h).1
  | b, m, .ret (.ct e), h, hq => by
    cases b <;> exact (hq _ e h).2
  | b + 1, m, .draw n k, h, hq => by
    unfold Comp.allN at h
    have h1 := and2 h
    have h2 := and2 h1.1
    refine ⟨b + m, by omega, of_decide_eq_true h2.1, of_decide_eq_true h2.2, fun r r0 rn => ?_⟩
    have z := List.all_eq_true.mp h1.2 r.toNat (List.mem_range.mpr (by omega))
    have e : ((r.toNat : Nat) : Int) = r := by omega
    rw [e] at z
    exact allN_wp hn hc z hq
  | 0, m, .draw n k, h, hq => by cases h
  | b, m, .raise x, h, hq => by cases b <;> cases h
  | b, m, .stuck, h, hq => by cases b <;> cases h
  | b, m, .ret (.br e), h, hq => by cases b <;> cases h
  | b, m, .ret (.rt r), h, hq => by cases b <;> cases h
  | b, m, .ret (.ex x e), h, hq => by cases b <;> cases h
end TC

set_option Elab.async false
set_option linter.all false
set_option maxRecDepth 100000
set_option maxHeartbeats 4000000
namespace TC
open PySem L2 PySem.Spec PyProof.Rows
theorem nd_ints : ∀ gs : List Int, PyData.hasDictAll (gs.map .int) = false
  | [] => by simp only [List.map_nil, PyData.hasDictAll]
  | g :: gs => by simp only [List.map_cons, PyData.hasDictAll, PyData.hasDict, nd_ints gs, Bool.or_false]
/-! ### ints in a list, as data -/
theorem ints_lay : ∀ gs : List Int, PyData.canLayAll0 (gs.map PyData.int) = true
  | [] => by simp [PyData.canLayAll0]
  | z :: zs => by simp [PyData.canLayAll0, PyData.canLay0, ints_lay zs]
theorem ints_depth : ∀ gs : List Int, PyData.depthAll (gs.map PyData.int) ≤ 1
  | [] => by simp [PyData.depthAll]
  | z :: zs => by
    have h := ints_depth zs
    simp only [List.map_cons, PyData.depthAll, PyData.depth]
    omega
theorem ints_shaped (gs : List Int) : SeqAt.shaped (.list (gs.map PyData.int)) = true := by
  have h1 := ints_depth gs
  have h2 : PyData.depth (.list (gs.map PyData.int)) ≤ 64 := by
    simp only [PyData.depth]
    omega
  show (PyData.canLay0 _ && decide (_ ≤ 64)) = true
  rw [Bool.and_eq_true]
  exact ⟨by simp only [PyData.canLay0]; exact ints_lay gs, decide_eq_true h2⟩
theorem eqv_nil (gs : List Int) : PyData.eqv (.list (gs.map PyData.int)) (.list []) = gs.isEmpty := by
  cases gs with
  | nil => simp [PyData.eqv, PyData.eqvAll]
  | cons z zs => simp [PyData.eqv, PyData.eqvAll]
theorem dq_ints {K : PySem.W.Frag} {G : Hp} : ∀ gs : List Int, DqAll K G (gs.map V.int) (gs.map PyData.int)
  | [] => .nil
  | z :: zs => .cons (.int z) (dq_ints zs)
/-- some list of ints is not [] -/
theorem some_red {K : PySem.W.Frag} {v : V} {g : Addr} {gs : List Int} {σ : L2.St} {H : Hp} {Q : Bool → Hp → Prop} (e : v = .ref g) (hg : H g = some (.lst (gs.map V.int))) (q : ∀ p, H p = none → Q (!gs.isEmpty) (upd H p (.lst []))) :
    tLst tNil σ H fun y H2 => rNeD K v y H2 fun x H' => ∃ k, x = .bl k ∧ Q k H' := by
  subst e
  refine ⟨Nat.zero_le _, fun p n => ⟨.list (gs.map PyData.int), .list [], ?_, ?_, ints_shaped gs, rfl, _, rfl, ?_⟩⟩
  · have hg2 : (upd H p (.lst [])) g = some (.lst (gs.map V.int)) := by
      rw [upd_ne (ne_of_none hg n)]
      exact hg
    exact .lst (.inl (.inl hg2)) ((dq_ints (G := upd H p (.lst [])) gs).dp (nd_ints gs))
  · exact .lst (.inl (.inl upd_same)) .nil
  · rw [eqv_nil]
    exact q p n
/-! ### family B: cells, great, spot -/
def kvB (cl g : Addr) (t : Int) : List (Key × V) := [(.inr "cells", .ref cl), (.inr "great", .ref g), (.inr "spot", .int t)]
theorem neK {a b : Str} (h : a ≠ b) : ¬ (Sum.inr a : Key) = Sum.inr b := fun z => h (Sum.inr.inj z)
theorem kvB_c (cl g : Addr) (t : Int) : valV (kvB cl g t) (.inr "cells") = some (.ref cl) := by
  unfold kvB
  rw [valV_pos rfl]
theorem kvB_g (cl g : Addr) (t : Int) : valV (kvB cl g t) (.inr "great") = some (.ref g) := by
  unfold kvB
  rw [valV_neg (neK (by decide +kernel)), valV_pos rfl]
theorem kvB_t (cl g : Addr) (t : Int) : valV (kvB cl g t) (.inr "spot") = some (.int t) := by
  unfold kvB
  rw [valV_neg (neK (by decide +kernel)), valV_neg (neK (by decide +kernel)), valV_pos rfl]
theorem kvB_pg (cl g g' : Addr) (t : Int) : putK (kvB cl g t) (.inr "great") (.ref g') = kvB cl g' t := by
  have h1 : ¬ ("cells" : Str) = "great" := by decide +kernel
  have h2 : ¬ ("spot" : Str) = "great" := by decide +kernel
  simp [putK, kvB, h1, h2]
theorem kvB_pt (cl g : Addr) (t t' : Int) : putK (kvB cl g t) (.inr "spot") (.int t') = kvB cl g t' := by
  have h1 : ¬ ("cells" : Str) = "spot" := by decide +kernel
  have h2 : ¬ ("great" : Str) = "spot" := by decide +kernel
  simp [putK, kvB, h1, h2]
/-- the object stands at am; since H0 nothing else was changed -/
structure DB (am : Addr) (H0 : Hp) (R0 : List Addr) (cl g : Addr) (t : Int) (cs gs : List Int) (H : Hp) : Prop where
  hm : H am = some (.dK (kvB cl g t))
  hc : H cl = some (.lst (cs.map V.int))
  hg : H g = some (.lst (gs.map V.int))
  cg : cl ≠ g
  lc : cs.length ≤ 63
  lg : gs.length ≤ 63
  k : ∀ a o, H0 a = some o → a ∉ R0 → H a = some o
  n : ∀ a, H a = none → H0 a = none
  ra : am ∈ R0
  rc : cl ∈ R0 ∨ H0 cl = none
  rg : g ∈ R0 ∨ H0 g = none
section
variable {am : Addr} {H0 : Hp} {R0 : List Addr} {cl g : Addr} {t : Int} {cs gs : List Int} {H : Hp}
theorem DB.mc (D : DB am H0 R0 cl g t cs gs H) : am ≠ cl := fun z => by
  have := D.hc
  rw [← z, D.hm] at this
  cases this
theorem DB.mg (D : DB am H0 R0 cl g t cs gs H) : am ≠ g := fun z => by
  have := D.hg
  rw [← z, D.hm] at this
  cases this
theorem DB.get_g (D : DB am H0 R0 cl g t cs gs H) : DGet H am (.str "great") (some (.ref g)) := by
  have z := DGet.k (k := Sum.inr "great") D.hm
  rw [kvB_g] at z
  exact z
theorem DB.get_c (D : DB am H0 R0 cl g t cs gs H) : DGet H am (.str "cells") (some (.ref cl)) := by
  have z := DGet.k (k := Sum.inr "cells") D.hm
  rw [kvB_c] at z
  exact z
theorem DB.get_t (D : DB am H0 R0 cl g t cs gs H) : DGet H am (.str "spot") (some (.int t)) := by
  have z := DGet.k (k := Sum.inr "spot") D.hm
  rw [kvB_t] at z
  exact z
theorem DB.put_g {p : Addr} (D : DB am H0 R0 cl g t cs gs H) : DPut H am (.str "great") (.ref p) (upd H am (.dK (kvB cl p t))) := by
  have z := DPut.k (k := Sum.inr "great") (v := .ref p) D.hm (by show 3 < sizeLine; decide)
  rw [kvB_pg] at z
  exact z
theorem DB.put_t {t' : Int} (D : DB am H0 R0 cl g t cs gs H) : DPut H am (.str "spot") (.int t') (upd H am (.dK (kvB cl g t'))) := by
  have z := DPut.k (k := Sum.inr "spot") (v := .int t') D.hm (by show 3 < sizeLine; decide)
  rw [kvB_pt] at z
  exact z
theorem DB.junk {p : Addr} {o : HO} (D : DB am H0 R0 cl g t cs gs H) (n : H p = none) : DB am H0 R0 cl g t cs gs (upd H p o) := by
  have k : ∀ {a u}, H a = some u → upd H p o a = some u := fun {a u} h => by
    rw [upd_ne (ne_of_none h n)]
    exact h
  exact ⟨k D.hm, k D.hc, k D.hg, D.cg, D.lc, D.lg, fun a u h q => k (D.k a u h q), fun a h => D.n a (upd_none h), D.ra, D.rc, D.rg⟩
theorem DB.setG {gs' : List Int} (D : DB am H0 R0 cl g t cs gs H) (hl : gs'.length ≤ 63) : DB am H0 R0 cl g t cs gs' (upd H g (.lst (gs'.map V.int))) := by
  refine ⟨by rw [upd_ne D.mg]; exact D.hm, by rw [upd_ne D.cg]; exact D.hc, upd_same, D.cg, D.lc, hl, fun a u h q => ?_, fun a h => D.n a (upd_none h), D.ra, D.rc, D.rg⟩
  have ne : a ≠ g := fun z => by
    rcases D.rg with r | r
    · exact q (z ▸ r)
    · rw [z, r] at h
      cases h
  rw [upd_ne ne]
  exact D.k a u h q
theorem DB.setT {t' : Int} (D : DB am H0 R0 cl g t cs gs H) : DB am H0 R0 cl g t' cs gs (upd H am (.dK (kvB cl g t'))) := by
  refine ⟨upd_same, by rw [upd_ne D.mc.symm]; exact D.hc, by rw [upd_ne D.mg.symm]; exact D.hg, D.cg, D.lc, D.lg, fun a u h q => ?_, fun a h => D.n a (upd_none h), D.ra, D.rc, D.rg⟩
  have ne : a ≠ am := fun z => q (z ▸ D.ra)
  rw [upd_ne ne]
  exact D.k a u h q
theorem DB.newG {p : Addr} {gs' : List Int} (D : DB am H0 R0 cl g t cs gs H) (n : H p = none) (hl : gs'.length ≤ 63) : DB am H0 R0 cl p t cs gs' (upd (upd H p (.lst (gs'.map V.int))) am (.dK (kvB cl p t))) := by
  have np : am ≠ p := ne_of_none D.hm n
  have nc : cl ≠ p := ne_of_none D.hc n
  refine ⟨upd_same, ?_, ?_, nc, D.lc, hl, fun a u h q => ?_, fun a h => D.n a (upd_none (upd_none h)), D.ra, D.rc, .inr (D.n p n)⟩
  · rw [upd_ne D.mc.symm, upd_ne nc]
    exact D.hc
  · rw [upd_ne np.symm, upd_same]
  · have ne : a ≠ am := fun z => q (z ▸ D.ra)
    have z := D.k a u h q
    rw [upd_ne ne, upd_ne (ne_of_none z n)]
    exact z
end
def IB (am : Addr) (b : Nat) (R : List Addr) (H : Hp) : Prop := ∃ cl g t cs gs, R = [am, cl, g] ∧ DB am H R cl g t cs gs H ∧ 0 ≤ t ∧ t + b ≤ 1000000
theorem DB.at_ {am : Addr} {H0 H : Hp} {R0 R : List Addr} {cl g : Addr} {t : Int} {cs gs : List Int} (D : DB am H0 R0 cl g t cs gs H) : DB am H [am, cl, g] cl g t cs gs H :=
  ⟨D.hm, D.hc, D.hg, D.cg, D.lc, D.lg, fun _ _ h _ => h, fun _ h => h, by simp, .inl (by simp), .inl (by simp)⟩
def rgB (am : Addr) : Rng where
  I := IB am
  fr := fun {b R H H'} ⟨cl, g, t, cs, gs, e, D, t0, tb⟩ h => by
    subst e
    refine ⟨cl, g, t, cs, gs, rfl, ⟨?_, ?_, ?_, D.cg, D.lc, D.lg, fun _ _ h _ => h, fun _ h => h, by simp, .inl (by simp), .inl (by simp)⟩, t0, tb⟩
    · rw [h am (by simp)]
      exact D.hm
    · rw [h cl (by simp)]
      exact D.hc
    · rw [h g (by simp)]
      exact D.hg
  hv := fun {b R H} ⟨cl, g, t, cs, gs, e, D, _⟩ a ha => by
    subst e
    simp only [List.mem_cons, List.not_mem_nil, or_false] at ha
    rcases ha with rfl | rfl | rfl
    · rw [D.hm]; exact nofun
    · rw [D.hc]; exact nofun
    · rw [D.hg]; exact nofun
  nx := fun {b R H} ⟨cl, g, t, cs, gs, e, D, _⟩ a ha _ => by
    subst e
    simp only [List.mem_cons, List.not_mem_nil, or_false] at ha
    rcases ha with rfl | rfl | rfl
    · rw [D.hm]; exact nofun
    · rw [D.hc]; exact nofun
    · rw [D.hg]; exact nofun
/-- what a draw leaves behind -/
theorem DB.fin {C : Ctx} {am : Addr} (hr : C.rg = rgB am) {b : Nat} {R0 : List Addr} {G H0 H : Hp} {cl g : Addr} {t : Int} {cs gs : List Int} (B : Bs C (b + 1) R0 G H0) (D : DB am H0 R0 cl g t cs gs H) (t0 : 0 ≤ t) (tb : t + b ≤ 1000000) :
    Stp R0 G H0 [am, cl, g] G H ∧ Bs C b [am, cl, g] G H := by
  have old : ∀ a ∈ [am, cl, g], a ∈ R0 ∨ H0 a = none := fun a ha => by
    simp only [List.mem_cons, List.not_mem_nil, or_false] at ha
    rcases ha with rfl | rfl | rfl
    · exact .inl D.ra
    · exact D.rc
    · exact D.rg
  have dis : ∀ a ∈ [am, cl, g], G a = none := fun a ha => (old a ha).elim (B.dis a) B.gnone
  refine ⟨⟨fun _ _ h => h, D.k, old, fun _ _ _ _ h => h, D.n⟩, ⟨fun a u h => ?_, by rw [hr]; exact ⟨cl, g, t, cs, gs, rfl, D.at_ (R := R0), t0, tb⟩, dis⟩⟩
  refine D.k a u (B.sub a u h) fun z => ?_
  rw [B.dis a z] at h
  cases h
end TC

set_option Elab.async false
set_option linter.all false
set_option maxRecDepth 100000
set_option maxHeartbeats 4000000
namespace TC
open PySem L2 PySem.Spec PyProof.Rows
/-- a function of the text, from what the top's written part says of it -/
theorem fnAt_of {K : PySem.W.Frag} {h : Heap} {mg : Str → Option Value} {ck : Chk} {cs : List (Addr × Addr)} {tabs : List (Addr × Str)} {f : Fd} {st : Stmt} {x qual : Str} {ps : List Str} {fa : Addr} {oc : Value} {od an : Option Addr} {osl : Array (Option Value)} {kV doc pm cdv ct : Value} (X : K.In h) (G : h.Ns mainGlobals mg)
    (S : FnScope f.N ps (defScope st)) (hnp : ps.length = f.np) (hb : defBody st = f.body.em) (ok : f.body.ok { ck with lam := f.lams } f.N (defScope st) = true)
    (bd : ∀ (kV doc pm : Value) (an : Option Addr) (cdv ct : Value) (us : List Value), us.length = ps.length → bindArgs (PySem.W.fnOf x qual (defArgs st) (defBody st) (defScope st) .none kV doc pm an cdv ct) ⟨us, []⟩ = pure (ps.zip us))
    (a : PySem.W.nsIn K mainGlobals f.nm = some (some (.ref fa))) (l : K.lookup fa = some ⟨oc, od, .func (PySem.W.fnOf x qual (defArgs st) (defBody st) (defScope st) .none kV doc pm an cdv ct), osl⟩)
    (c : PySem.W.codeIn K cdv qual = true) (k : PySem.W.keepIn K (.ref fa) = true)
    (mk : f.lams = true → ∃ c P, cdv = .ref c ∧ (c, P) ∈ cs ∧ (P, qual ++ ".<locals>." ++ "<lambda>") ∈ tabs ∧ ∀ p ∈ tabs, p.1 = P → p.2 = qual ++ ".<locals>." ++ "<lambda>") (ho : f.ho = true → ∃ p, ps = [p]) : FnAt K mg ck cs tabs f := by
  have F := fun_mk l c k
  exact ⟨x, qual, st, fa, _, ps, F, S, hnp, hb, ok, PySem.W.mg_of X G a, F.binds bd, mk, ho⟩
theorem con_int {K : PySem.W.Frag} {h : Heap} {mg : Str → Option Value} {x : Str} {i : Int} {t : Tok} (X : K.In h) (G : h.Ns mainGlobals mg) (a : PySem.W.nsIn K mainGlobals x = some (some (.int i t))) :
    ∃ u vv, mg x = some vv ∧ RelV u vv ∧ Dq K (fun _ => none) u (Cst.int i).val := ⟨.int i, _, PySem.W.mg_of X G a, ⟨t, rfl⟩, .int i⟩
theorem con_str {K : PySem.W.Frag} {h : Heap} {mg : Str → Option Value} {x i : Str} {t : Tok} (X : K.In h) (G : h.Ns mainGlobals mg) (a : PySem.W.nsIn K mainGlobals x = some (some (.str i t))) :
    ∃ u vv, mg x = some vv ∧ RelV u vv ∧ Dq K (fun _ => none) u (Cst.str i).val := ⟨.str i, _, PySem.W.mg_of X G a, ⟨t, rfl⟩, .str i⟩
end TC

set_option Elab.async false
set_option linter.all false
set_option maxRecDepth 100000
set_option maxHeartbeats 4000000
namespace TC
open PySem L2 PySem.Spec PyProof.Rows
/-! ### family D: cells, great, turn, sum -/
def kvD (cl g : Addr) (t u : Int) : List (Key × V) := [(.inr "cells", .ref cl), (.inr "great", .ref g), (.inr "turn", .int t), (.inr "sum", .int u)]
theorem kvD_c (cl g : Addr) (t u : Int) : valV (kvD cl g t u) (.inr "cells") = some (.ref cl) := by
  unfold kvD
  rw [valV_pos rfl]
theorem kvD_g (cl g : Addr) (t u : Int) : valV (kvD cl g t u) (.inr "great") = some (.ref g) := by
  unfold kvD
  rw [valV_neg (neK (by decide +kernel)), valV_pos rfl]
theorem kvD_t (cl g : Addr) (t u : Int) : valV (kvD cl g t u) (.inr "turn") = some (.int t) := by
  unfold kvD
  rw [valV_neg (neK (by decide +kernel)), valV_neg (neK (by decide +kernel)), valV_pos rfl]
theorem kvD_u (cl g : Addr) (t u : Int) : valV (kvD cl g t u) (.inr "sum") = some (.int u) := by
  unfold kvD
  rw [valV_neg (neK (by decide +kernel)), valV_neg (neK (by decide +kernel)), valV_neg (neK (by decide +kernel)), valV_pos rfl]
theorem kvD_pg (cl g g' : Addr) (t u : Int) : putK (kvD cl g t u) (.inr "great") (.ref g') = kvD cl g' t u := by
  have h1 : ¬ ("cells" : Str) = "great" := by decide +kernel
  have h2 : ¬ ("turn" : Str) = "great" := by decide +kernel
  have h3 : ¬ ("sum" : Str) = "great" := by decide +kernel
  simp [putK, kvD, h1, h2, h3]
theorem kvD_pt (cl g : Addr) (t t' u : Int) : putK (kvD cl g t u) (.inr "turn") (.int t') = kvD cl g t' u := by
  have h1 : ¬ ("cells" : Str) = "turn" := by decide +kernel
  have h2 : ¬ ("great" : Str) = "turn" := by decide +kernel
  have h3 : ¬ ("sum" : Str) = "turn" := by decide +kernel
  simp [putK, kvD, h1, h2, h3]
theorem kvD_pu (cl g : Addr) (t u u' : Int) : putK (kvD cl g t u) (.inr "sum") (.int u') = kvD cl g t u' := by
  have h1 : ¬ ("cells" : Str) = "sum" := by decide +kernel
  have h2 : ¬ ("great" : Str) = "sum" := by decide +kernel
  have h3 : ¬ ("turn" : Str) = "sum" := by decide +kernel
  simp [putK, kvD, h1, h2, h3]
/-- the object stands at am; since H0 nothing else was changed -/
structure DD (am : Addr) (H0 : Hp) (R0 : List Addr) (cl g : Addr) (t u : Int) (cs gs : List Int) (H : Hp) : Prop where
  hm : H am = some (.dK (kvD cl g t u))
  hc : H cl = some (.lst (cs.map V.int))
  hg : H g = some (.lst (gs.map V.int))
  cg : cl ≠ g
  ce : cs ≠ []
  lc : cs.length ≤ 64
  lg : gs.length ≤ 63
  k : ∀ a o, H0 a = some o → a ∉ R0 → H a = some o
  n : ∀ a, H a = none → H0 a = none
  ra : am ∈ R0
  rc : cl ∈ R0 ∨ H0 cl = none
  rg : g ∈ R0 ∨ H0 g = none
section
variable {am : Addr} {H0 : Hp} {R0 : List Addr} {cl g : Addr} {t u : Int} {cs gs : List Int} {H : Hp}
theorem DD.mc (D : DD am H0 R0 cl g t u cs gs H) : am ≠ cl := fun z => by
  have := D.hc
  rw [← z, D.hm] at this
  cases this
theorem DD.mg (D : DD am H0 R0 cl g t u cs gs H) : am ≠ g := fun z => by
  have := D.hg
  rw [← z, D.hm] at this
  cases this
theorem DD.get_g (D : DD am H0 R0 cl g t u cs gs H) : DGet H am (.str "great") (some (.ref g)) := by
  have z := DGet.k (k := Sum.inr "great") D.hm
  rw [kvD_g] at z
  exact z
theorem DD.get_c (D : DD am H0 R0 cl g t u cs gs H) : DGet H am (.str "cells") (some (.ref cl)) := by
  have z := DGet.k (k := Sum.inr "cells") D.hm
  rw [kvD_c] at z
  exact z
theorem DD.get_t (D : DD am H0 R0 cl g t u cs gs H) : DGet H am (.str "turn") (some (.int t)) := by
  have z := DGet.k (k := Sum.inr "turn") D.hm
  rw [kvD_t] at z
  exact z
theorem DD.get_u (D : DD am H0 R0 cl g t u cs gs H) : DGet H am (.str "sum") (some (.int u)) := by
  have z := DGet.k (k := Sum.inr "sum") D.hm
  rw [kvD_u] at z
  exact z
theorem DD.put_g {p : Addr} (D : DD am H0 R0 cl g t u cs gs H) : DPut H am (.str "great") (.ref p) (upd H am (.dK (kvD cl p t u))) := by
  have z := DPut.k (k := Sum.inr "great") (v := .ref p) D.hm (by show 4 < sizeLine; decide)
  rw [kvD_pg] at z
  exact z
theorem DD.put_t {t' : Int} (D : DD am H0 R0 cl g t u cs gs H) : DPut H am (.str "turn") (.int t') (upd H am (.dK (kvD cl g t' u))) := by
  have z := DPut.k (k := Sum.inr "turn") (v := .int t') D.hm (by show 4 < sizeLine; decide)
  rw [kvD_pt] at z
  exact z
theorem DD.put_u {u' : Int} (D : DD am H0 R0 cl g t u cs gs H) : DPut H am (.str "sum") (.int u') (upd H am (.dK (kvD cl g t u'))) := by
  have z := DPut.k (k := Sum.inr "sum") (v := .int u') D.hm (by show 4 < sizeLine; decide)
  rw [kvD_pu] at z
  exact z
theorem DD.junk {p : Addr} {o : HO} (D : DD am H0 R0 cl g t u cs gs H) (n : H p = none) : DD am H0 R0 cl g t u cs gs (upd H p o) := by
  have k : ∀ {a u}, H a = some u → upd H p o a = some u := fun {a u} h => by
    rw [upd_ne (ne_of_none h n)]
    exact h
  exact ⟨k D.hm, k D.hc, k D.hg, D.cg, D.ce, D.lc, D.lg, fun a u h q => k (D.k a u h q), fun a h => D.n a (upd_none h), D.ra, D.rc, D.rg⟩
theorem DD.setG {gs' : List Int} (D : DD am H0 R0 cl g t u cs gs H) (hl : gs'.length ≤ 63) : DD am H0 R0 cl g t u cs gs' (upd H g (.lst (gs'.map V.int))) := by
  refine ⟨by rw [upd_ne D.mg]; exact D.hm, by rw [upd_ne D.cg]; exact D.hc, upd_same, D.cg, D.ce, D.lc, hl, fun a u h q => ?_, fun a h => D.n a (upd_none h), D.ra, D.rc, D.rg⟩
  have ne : a ≠ g := fun z => by
    rcases D.rg with r | r
    · exact q (z ▸ r)
    · rw [z, r] at h
      cases h
  rw [upd_ne ne]
  exact D.k a u h q
theorem DD.setT {t' u' : Int} (D : DD am H0 R0 cl g t u cs gs H) : DD am H0 R0 cl g t' u' cs gs (upd H am (.dK (kvD cl g t' u'))) := by
  refine ⟨upd_same, by rw [upd_ne D.mc.symm]; exact D.hc, by rw [upd_ne D.mg.symm]; exact D.hg, D.cg, D.ce, D.lc, D.lg, fun a u h q => ?_, fun a h => D.n a (upd_none h), D.ra, D.rc, D.rg⟩
  have ne : a ≠ am := fun z => q (z ▸ D.ra)
  rw [upd_ne ne]
  exact D.k a u h q
theorem DD.newG {p : Addr} {gs' : List Int} (D : DD am H0 R0 cl g t u cs gs H) (n : H p = none) (hl : gs'.length ≤ 63) : DD am H0 R0 cl p t u cs gs' (upd (upd H p (.lst (gs'.map V.int))) am (.dK (kvD cl p t u))) := by
  have np : am ≠ p := ne_of_none D.hm n
  have nc : cl ≠ p := ne_of_none D.hc n
  refine ⟨upd_same, ?_, ?_, nc, D.ce, D.lc, hl, fun a u h q => ?_, fun a h => D.n a (upd_none (upd_none h)), D.ra, D.rc, .inr (D.n p n)⟩
  · rw [upd_ne D.mc.symm, upd_ne nc]
    exact D.hc
  · rw [upd_ne np.symm, upd_same]
  · have ne : a ≠ am := fun z => q (z ▸ D.ra)
    have z := D.k a u h q
    rw [upd_ne ne, upd_ne (ne_of_none z n)]
    exact z
end
def ID (am : Addr) (b : Nat) (R : List Addr) (H : Hp) : Prop := ∃ cl g t u cs gs, R = [am, cl, g] ∧ DD am H R cl g t u cs gs H ∧ 0 ≤ t ∧ t + b ≤ 1000000 ∧ 0 ≤ u ∧ u < 4294967291
theorem DD.at_ {am : Addr} {H0 H : Hp} {R0 R : List Addr} {cl g : Addr} {t u : Int} {cs gs : List Int} (D : DD am H0 R0 cl g t u cs gs H) : DD am H [am, cl, g] cl g t u cs gs H :=
  ⟨D.hm, D.hc, D.hg, D.cg, D.ce, D.lc, D.lg, fun _ _ h _ => h, fun _ h => h, by simp, .inl (by simp), .inl (by simp)⟩
def rgD (am : Addr) : Rng where
  I := ID am
  fr := fun {b R H H'} ⟨cl, g, t, u, cs, gs, e, D, t0, tb, u0, u1⟩ h => by
    subst e
    refine ⟨cl, g, t, u, cs, gs, rfl, ⟨?_, ?_, ?_, D.cg, D.ce, D.lc, D.lg, fun _ _ h _ => h, fun _ h => h, by simp, .inl (by simp), .inl (by simp)⟩, t0, tb, u0, u1⟩
    · rw [h am (by simp)]
      exact D.hm
    · rw [h cl (by simp)]
      exact D.hc
    · rw [h g (by simp)]
      exact D.hg
  hv := fun {b R H} ⟨cl, g, t, u, cs, gs, e, D, _⟩ a ha => by
    subst e
    simp only [List.mem_cons, List.not_mem_nil, or_false] at ha
    rcases ha with rfl | rfl | rfl
    · rw [D.hm]; exact nofun
    · rw [D.hc]; exact nofun
    · rw [D.hg]; exact nofun
  nx := fun {b R H} ⟨cl, g, t, u, cs, gs, e, D, _⟩ a ha _ => by
    subst e
    simp only [List.mem_cons, List.not_mem_nil, or_false] at ha
    rcases ha with rfl | rfl | rfl
    · rw [D.hm]; exact nofun
    · rw [D.hc]; exact nofun
    · rw [D.hg]; exact nofun
/-- what a draw leaves behind -/
theorem DD.fin {C : Ctx} {am : Addr} (hr : C.rg = rgD am) {b : Nat} {R0 : List Addr} {G H0 H : Hp} {cl g : Addr} {t u : Int} {cs gs : List Int} (B : Bs C (b + 1) R0 G H0) (D : DD am H0 R0 cl g t u cs gs H) (t0 : 0 ≤ t) (tb : t + b ≤ 1000000) (u0 : 0 ≤ u) (u1 : u < 4294967291) :
    Stp R0 G H0 [am, cl, g] G H ∧ Bs C b [am, cl, g] G H := by
  have old : ∀ a ∈ [am, cl, g], a ∈ R0 ∨ H0 a = none := fun a ha => by
    simp only [List.mem_cons, List.not_mem_nil, or_false] at ha
    rcases ha with rfl | rfl | rfl
    · exact .inl D.ra
    · exact D.rc
    · exact D.rg
  have dis : ∀ a ∈ [am, cl, g], G a = none := fun a ha => (old a ha).elim (B.dis a) B.gnone
  refine ⟨⟨fun _ _ h => h, D.k, old, fun _ _ _ _ h => h, D.n⟩, ⟨fun a u h => ?_, by rw [hr]; exact ⟨cl, g, t, u, cs, gs, rfl, D.at_ (R := R0), t0, tb, u0, u1⟩, dis⟩⟩
  refine D.k a u (B.sub a u h) fun z => ?_
  rw [B.dis a z] at h
  cases h
end TC

set_option Elab.async false
set_option linter.all false
set_option maxRecDepth 100000
set_option maxHeartbeats 4000000
namespace TX
open PySem PySem.W PyProof.Rows
/-- a class of errors, from what the top's written part says of it -/
theorem ex_of {P : Program} {K : Frag} {h : Heap} {mg : Str → Option Value} {x : Str} {C fI cda cc : Addr} {B newId i : String} {bmB : List Value} {pn : Str} {fld : Option Str} (FB : ExcBaseFacts B newId i bmB) (KF : KxsFacts B i) (SF : StoreFacts B bmB "object.__setattr__" "object") (al : ∀ K : Frag, alongIn K "__init__" bmB = some (some (.builtin i))) (X : K.In h) (G : h.Ns mainGlobals mg)
    {nm q : Str} {N : Addr} {bs : List Value} {sn : List Str} {sub : List Value} {ab : Bool} {col : Option Bool} {dd : Option Addr} {k0 k1 k2 k3 k5 : Option Value} {oc doc pm ct ccl cl : Value} {od an cdd cld : Option Addr} {osl ccs csl : Array (Option Value)} {qn : Str} {arg : Expr} {a1 a2 p0 p1 p2 p3 p4 q1 q2 q3 q4 : Pos} {vs : Array Value} {file : Str} {tf : Tok}
    (hpn : pn = "part" ∨ pn = "line" ∨ pn = "most" ∨ pn = "text") (hf : fld = none ∨ fld = some pn) (ok : ArgOk pn arg) (hl : (p2.endLine == p3.line) = true) (top : (P.main.scope.names.lookup ("super" : Str)).isSome = false)
    (gC : nsIn K mainGlobals x = some (some (.ref C))) (gS : nsIn K mainGlobals "super" = some none) (xL : K.lookup C = some (excClassObj nm q C N bs bmB true sn sub ab col dd k0 k1 k2 k3 k5 newId))
    (sa : findIn K (.ref C) "__setattr__" = some (some (.builtin "object.__setattr__"))) (ga : findIn K (.ref C) "__getattribute__" = some (some (.builtin "BaseException.__getattribute__"))) (gg : findIn K (.ref C) "__getattr__" = some none) (no : findIn K (.ref C) pn = some none)
    (iC : findIn K (.ref C) "__init__" = some (some (.ref fI))) (tI : typeIn K (.ref fI) = some (.type "function")) (lI : K.lookup fI = some ⟨oc, od, .func (ksFn "__init__" qn (iniA pn a1 a2) (iniB arg fld p0 p1 p2 p3 p4 q1 q2 q3 q4) (iniS pn) .none .none doc pm an (.ref cda) ct cc), osl⟩)
    (cI : codeIn K (.ref cda) qn = true) (hI : K.lookup cda = some ⟨ccl, cdd, .fields vs, ccs⟩) (vI : vs[2]? = some (.str file tf)) (pI : ((P.main.file : Str) == file) = true) (wI : K.lookup cc = some ⟨cl, cld, .cell (some (.ref C)), csl⟩)
    (op : nsIn K cStatics "thirdparty.any" = some none) (mC : mroIn K C (.ref C) = some true) (sB : subIn K (.ref C) (.type B) = some true) (kC : keepIn K (.ref C) = true) (eC : subIn K (.ref C) (.type "BaseException") = some true)
    (tC : typeIn K (.ref C) = some (.type "type")) (hC : hasDictIn K C = true) : ∃ B newId i bmB pn, ExTx P K mg x C B newId i bmB pn fld :=
  ⟨B, newId, i, bmB, pn, {
    gC := mg_of X G gC, gS := mg_none_of X G gS, fb := FB, kf := KF, sf := SF, cls := ⟨nm, q, N, bs, bmB, sn, sub, ab, col, dd, k0, k1, k2, k3, k5, xL, rfl⟩, sa := sa, ga := ga, gg := gg,
    noN := fun f e => by
      rcases hf with z | z
      · rw [z] at e
        cases e
      · rw [z] at e
        cases e
        exact no
    iC := ⟨fI, iC, tI, oc, od, doc, pm, an, cda, cc, ct, osl, qn, arg, a1, a2, p0, p1, p2, p3, p4, q1, q2, q3, q4, vs, file, tf, ccl, cdd, ccs, cl, cld, csl, lI, cI, ok, hl, hI, vI, pI, wI⟩,
    su := by
      have hcl : clsIn K C = some { name := nm, bases := bs, mro := .ref C :: bmB, ns := N, qualname := q, hasDict := true, slotNames := sn, subclasses := sub, abstract := ab, collection := col, hasDel := false } := by
        unfold clsIn
        rw [xL] <;> rfl
      unfold ks_superIn
      rw [hcl]
      show alongIn K "__init__" (((Value.ref C :: bmB).dropWhile (· != .ref C)).drop 1) = _
      have z : ((Value.ref C :: bmB).dropWhile (· != .ref C)).drop 1 = bmB := by simp [List.dropWhile_cons]
      rw [z]
      exact al K
    op := op, mC := mC, subB := sB, kC := kC, exC := eC, tyC := tC, hdC := hC, fp := hf, pns := hpn, top := top }⟩
theorem al_V (K : Frag) : alongIn K "__init__" [.type "ValueError", .type "Exception", .type "BaseException", .type "object"] = some (some (.builtin "ValueError.__init__")) := by kernel_rfl
theorem al_O (K : Frag) : alongIn K "__init__" [.type "OverflowError", .type "ArithmeticError", .type "Exception", .type "BaseException", .type "object"] = some (some (.builtin "OverflowError.__init__")) := by kernel_rfl
theorem al_L (K : Frag) : alongIn K "__init__" [.type "LookupError", .type "Exception", .type "BaseException", .type "object"] = some (some (.builtin "LookupError.__init__")) := by kernel_rfl
/-- whether an error of one class is what an except clause names -/
theorem exm_of {K : Frag} {C D : Addr} {b : Bool} (h1 : subIn K (.ref D) (.type "BaseException") = some true) (h2 : isClsIn K D = true) (h3 : typeIn K (.ref D) = some (.type "type")) (h4 : subIn K (.ref C) (.ref D) = some b) : exmOne K (.ref C) (.ref D) = some b := by
  have g1 : (subIn K (.ref D) (.type "BaseException") == some true) = true := by rw [h1] <;> rfl
  have g2 : ((clsIn K D).isSome && typeIn K (.ref D) == some (.type "type")) = true := by
    have z : (clsIn K D).isSome = true := h2
    rw [z, h3] <;> rfl
  unfold exmOne
  rw [if_pos g1]
  show (if ((clsIn K D).isSome && typeIn K (.ref D) == some (.type "type")) = true then subIn K (.ref C) (.ref D) else none) = some b
  rw [if_pos g2]
  exact h4
end TX
namespace TC
open PySem L2 PySem.Spec PyProof.Rows
theorem dq_strs {K : PySem.W.Frag} {G : Hp} : ∀ ss : List Str, DqAll K G (ss.map V.str) (ss.map PyData.str)
  | [] => .nil
  | s :: ss => .cons (.str s) (dq_strs ss)
/-- a constant that is a tuple of texts -/
theorem con_strs {K : PySem.W.Frag} {h : Heap} {mg : Str → Option Value} {x : Str} {a : Addr} {o : Obj} {its : Array Value} {n : Nat} {ss : List Str} (X : K.In h) (G : h.Ns mainGlobals mg) (g : PySem.W.nsIn K mainGlobals x = some (some (.ref a))) (l : K.lookup a = some o) (c : o.cls = .type "tuple") (d : o.data = .seq its n)
    (hz : its.size ≤ sizeLine) (v : Vals (ss.map V.str) its.toList) : ∃ u vv, mg x = some vv ∧ RelV u vv ∧ Dq K (fun _ => none) u (Cst.strs ss).val := by
  exact ⟨.ref a, _, PySem.W.mg_of X G g, rfl, .tup (.inr ⟨o, its, n, l, c, d, hz, v⟩) (dq_strs ss)⟩
end TC

set_option Elab.async false
set_option linter.all false
set_option maxRecDepth 100000
set_option maxHeartbeats 4000000
namespace TC
open PySem
/-- the functions behind the one at j -/
def tlC (fs : List Fd) (j : Nat) : Nat → List Wd → Comp FR := callT 100 (fs.drop (fs.length - j))
theorem callT_app {wf : Nat} : ∀ {gs hs : List Fd} {j : Nat} {ws : List Wd}, j < hs.length → callT wf (gs ++ hs) j ws = callT wf hs j ws
  | [], _, _, _, _ => rfl
  | g :: gs, hs, j, ws, h => by
    show (if j = (gs ++ hs).length then _ else callT wf (gs ++ hs) j ws) = _
    rw [if_neg (by rw [List.length_append]; omega), callT_app h]
theorem tl_lt {fs : List Fd} {i j : Nat} {ws : List Wd} (h : i < j) (hj : j ≤ fs.length) : tlC fs j i ws = callT 100 fs i ws := by
  unfold tlC
  have e : fs = fs.take (fs.length - j) ++ fs.drop (fs.length - j) := (List.take_append_drop _ _).symm
  conv => rhs; rw [e]
  rw [callT_app (by rw [List.length_drop]; omega)]
theorem cl_at {fs : List Fd} {j : Nat} {f : Fd} {ws : List Wd} (h : fs[fs.length - 1 - j]? = some f) (hj : j < fs.length) : callT 100 fs j ws = f.run 100 (tlC fs j) ws := by
  obtain ⟨hl, e⟩ := List.getElem?_eq_some_iff.mp h
  have e1 : fs = fs.take (fs.length - (j + 1)) ++ fs.drop (fs.length - (j + 1)) := (List.take_append_drop _ _).symm
  have e2 : fs.drop (fs.length - (j + 1)) = f :: fs.drop (fs.length - j) := by
    rw [List.drop_eq_getElem_cons (by omega)]
    have z : fs.length - (j + 1) = fs.length - 1 - j := by omega
    have z2 : fs.length - (j + 1) + 1 = fs.length - j := by omega
    rw [z2]
    congr 1
    simp only [z]
    exact e
  conv => lhs; rw [e1]
  rw [callT_app (by rw [List.length_drop]; omega), e2]
  show (if j = (fs.drop (fs.length - j)).length then f.run 100 (callT 100 (fs.drop (fs.length - j))) ws else _) = _
  rw [if_pos (by rw [List.length_drop]; omega)]
  rfl
@[simp] theorem sbind_ret {α β : Type} {a : α} {f : α → Comp β} : (Comp.ret a).bind f = f a := rfl
@[simp] theorem sbind_raise {α β : Type} {a : Exn} {f : α → Comp β} : (Comp.raise a).bind f = .raise a := rfl
@[simp] theorem sbind_stuck {α β : Type} {f : α → Comp β} : (Comp.stuck).bind f = .stuck := rfl
@[simp] theorem stie_ret {α β : Type} {a : α} {g : Exn → Comp β} {f : α → Comp β} : (Comp.ret a).tie g f = f a := rfl
@[simp] theorem stie_raise {α β : Type} {a : Exn} {g : Exn → Comp β} {f : α → Comp β} : (Comp.raise a).tie g f = g a := rfl
@[simp] theorem exO_ret {α : Type} {e : En} {a : α} {f : α → Comp Ou} : exO e (.ret a) f = f a := rfl
@[simp] theorem nox_ret {α : Type} {a : α} : nox (.ret a) = .ret a := rfl
@[simp] theorem sdD_ret {x : PyData} : dD (.ret (.d x)) = .ret x := rfl
@[simp] theorem sdB_ret {x : Bool} : dB (.ret (.d (.bool x))) = .ret x := rfl
@[simp] theorem sdI_ret {x : Int} : dI (.ret (.d (.int x))) = .ret x := rfl
@[simp] theorem asD_d {x : PyData} : asD (.d x) = .ret x := rfl
@[simp] theorem asB_d {x : Bool} : asB (.d (.bool x)) = .ret x := rfl
@[simp] theorem retD_ret {x : PyData} : retD (.ret x) = .ret (.d x) := rfl
@[simp] theorem retB_ret {x : Bool} : retB (.ret x) = .ret (.d (.bool x)) := rfl
@[simp] theorem endC_rt {r : FR} : endC (.rt r) = .ret r := rfl
@[simp] theorem frC_fz {w : Wd} : frC (.fz w) = .ret w := rfl
@[simp] theorem slen_list {ds : List PyData} : f1E .len (.list ds) = .ret (.int ds.length) := rfl
@[simp] theorem slen_tuple {ds : List PyData} : f1E .len (.tuple ds) = .ret (.int ds.length) := rfl
@[simp] theorem stup_list {ds : List PyData} : f1E .tuple (.list ds) = .ret (.tuple ds) := rfl
@[simp] theorem stup_tuple {ds : List PyData} : f1E .tuple (.tuple ds) = .ret (.tuple ds) := rfl
@[simp] theorem sint_int {i : Int} : f1E .int (.int i) = .ret (.int i) := rfl
@[simp] theorem sint_bool {b : Bool} : f1E .int (.bool b) = .ret (.int (if b then 1 else 0)) := rfl
@[simp] theorem sadd_int {i j : Int} : binE .add (.int i) (.int j) = .ret (.int (i + j)) := rfl
@[simp] theorem ssub_int {i j : Int} : binE .sub (.int i) (.int j) = .ret (.int (i - j)) := rfl
@[simp] theorem smul_int {i j : Int} : binE .mul (.int i) (.int j) = okB (smallI i || smallI j) (.int (i * j)) := rfl
@[simp] theorem sdiv_int {i j : Int} : binE .div (.int i) (.int j) = okB (decide (0 < j) && decide (j.natAbs.log2 < 9000)) (.int (i / j)) := rfl
@[simp] theorem smod_int {i j : Int} : binE .mod (.int i) (.int j) = okB (decide (0 < j)) (.int (i % j)) := rfl
@[simp] theorem slt_int {i j : Int} : cmpE .lt (.int i) (.int j) = .ret (decide (i < j)) := rfl
@[simp] theorem sle_int {i j : Int} : cmpE .le (.int i) (.int j) = .ret (decide (i ≤ j)) := rfl
@[simp] theorem sgt_int {i j : Int} : cmpE .gt (.int i) (.int j) = .ret (decide (j < i)) := rfl
@[simp] theorem sge_int {i j : Int} : cmpE .ge (.int i) (.int j) = .ret (decide (j ≤ i)) := rfl
@[simp] theorem scmp_eq {a b : PyData} : cmpE .eq a b = eqE a b := by cases a <;> cases b <;> rfl
@[simp] theorem scmp_ne {a b : PyData} : cmpE .ne a b = (eqE a b).bind fun b => .ret (!b) := by cases a <;> cases b <;> rfl
@[simp] theorem scmp_in {a b : PyData} : cmpE .inn a b = inE a b := by cases a <;> cases b <;> rfl
@[simp] theorem scmp_nin {a b : PyData} : cmpE .nin a b = (inE a b).bind fun b => .ret (!b) := by cases a <;> cases b <;> rfl
@[simp] theorem seq_int {i j : Int} : eqE (.int i) (.int j) = .ret (decide (i = j)) := rfl
@[simp] theorem seq_str {i j : Str} : eqE (.str i) (.str j) = .ret (decide (i = j)) := rfl
@[simp] theorem seq_bool {i j : Bool} : eqE (.bool i) (.bool j) = .ret (decide (i = j)) := rfl
@[simp] theorem smin_int {i j : Int} : f2E .min (.int i) (.int j) = .ret (.int (if j < i then j else i)) := rfl
@[simp] theorem smax_int {i j : Int} : f2E .max (.int i) (.int j) = .ret (.int (if j > i then j else i)) := rfl
section
variable {α β : Type} {c : Prop} [Decidable c]
@[simp] theorem sbind_ite {a b : Comp α} {f : α → Comp β} : (if c then a else b).bind f = if c then a.bind f else b.bind f := by split <;> rfl
@[simp] theorem sexO_ite {e : En} {a b : Comp α} {f : α → Comp Ou} : exO e (if c then a else b) f = if c then exO e a f else exO e b f := by split <;> rfl
@[simp] theorem snox_ite {a b : Comp α} : nox (if c then a else b) = if c then nox a else nox b := by split <;> rfl
@[simp] theorem sdD_ite {a b : Comp Wd} : dD (if c then a else b) = if c then dD a else dD b := by split <;> rfl
@[simp] theorem sdB_ite {a b : Comp Wd} : dB (if c then a else b) = if c then dB a else dB b := by split <;> rfl
@[simp] theorem sdI_ite {a b : Comp Wd} : dI (if c then a else b) = if c then dI a else dI b := by split <;> rfl
@[simp] theorem sretD_ite {a b : CP} : retD (if c then a else b) = if c then retD a else retD b := by split <;> rfl
@[simp] theorem sretB_ite {a b : Comp Bool} : retB (if c then a else b) = if c then retB a else retB b := by split <;> rfl
end
end TC

set_option Elab.async false
set_option linter.all false
set_option maxRecDepth 100000
set_option maxHeartbeats 4000000
namespace TC
open PySem
/-! ### how long a repr can be -/
def plS (x : Str) : Bool := x.cps.toList.all fun c => decide (c < 65536)
mutual
def szD : PyData → Nat
  | .none => 4
  | .bool _ => 5
  | .int _ => 1921
  | .str x => if plS x then 10 * x.length + 2 else 100000000
  | .list xs => szL xs + 3
  | .tuple xs => szL xs + 3
  | .dict [] => 2
  | .dict (_ :: _) => 100000000
def szL : List PyData → Nat
  | [] => 0
  | x :: xs => szD x + 2 + szL xs
end
theorem tupText_le (ts : List Str) : (tupleText ts).length ≤ piled ts + 3 := by
  unfold tupleText
  rw [strLen_append, strLen_append]
  have e1 : (("(" : String) : Str).length = 1 := rfl
  have e3 : (((if ts.length == 1 then ",)" else ")" : String) : Str)).length ≤ 2 := by split <;> decide
  by_cases h : ts = []
  · subst h
    have e2 : (Str.join ", " []).length = 0 := rfl
    rw [e1, e2]
    omega
  · have := join_length_add ts h
    omega
theorem lstText_le (ts : List Str) : (listText ts).length ≤ piled ts + 3 := by
  unfold listText
  rw [strLen_append]
  have e3 : (("]" : String) : Str).length = 1 := rfl
  have e1 : (("[" : String) : Str).length = 1 := rfl
  have e0 : (("" : String) : Str).length = 0 := rfl
  cases ts with
  | nil =>
    show (("[" : String) : Str).length + _ ≤ _
    omega
  | cons t r =>
    show (textFrom (0 + 1) (("[" : String) ++ (("" : String) : Str) ++ t) r).length + _ ≤ _
    rw [textFrom_length_pos r (0 + 1) _ (by decide), strLen_append, strLen_append, piled_cons]
    omega
mutual
theorem shown_le : ∀ d : PyData, d.showable = true → d.shown.length ≤ szD d ∨ 100000000 ≤ szD d
  | .none, _ => .inl (by decide)
  | .bool b, _ => .inl (by cases b <;> decide)
  | .int i, h => .inl (by
    have h : decide (i.natAbs.log2 < 1920) = true := by simpa [PyData.showable] using h
    simp only [PyData.shown, szD]
    rw [PySem.ofString_length]
    exact PySem.int_text_length_le (by decide) (of_decide_eq_true h))
  | .str x, _ => by
    unfold szD
    by_cases c : plS x = true
    · rw [if_pos c]
      refine .inl (StrLaws.reprText_len x fun d hd => ?_)
      have z := of_decide_eq_true (List.all_eq_true.mp c d hd)
      omega
    · rw [if_neg c]
      exact .inr (Nat.le_refl _)
  | .list xs, h => by
    rcases shownAll_le xs (by simpa [PyData.showable] using h) with z | z
    · have e := lstText_le (PyData.shownAll xs)
      refine .inl ?_
      simp only [PyData.shown, szD]
      omega
    · refine .inr ?_
      simp only [szD]
      omega
  | .tuple xs, h => by
    rcases shownAll_le xs (by simpa [PyData.showable] using h) with z | z
    · have e := tupText_le (PyData.shownAll xs)
      refine .inl ?_
      simp only [PyData.shown, szD]
      omega
    · refine .inr ?_
      simp only [szD]
      omega
  | .dict [], _ => .inl (by decide)
  | .dict (_ :: _), _ => .inr (Nat.le_refl _)
theorem shownAll_le : ∀ xs : List PyData, PyData.showableAll xs = true → piled (PyData.shownAll xs) ≤ szL xs ∨ 100000000 ≤ szL xs
  | [], _ => .inl (Nat.le_refl _)
  | x :: xs, h => by
    simp only [PyData.showableAll, Bool.and_eq_true] at h
    simp only [PyData.shownAll, szL, piled_cons]
    rcases shown_le x h.1 with z | z
    · rcases shownAll_le xs h.2 with z2 | z2
      · exact .inl (by omega)
      · exact .inr (by omega)
    · exact .inr (by omega)
end
/-- what repr asks of data -/
def repOk (d : PyData) : Bool := d.showable && !d.hasDict && decide (d.depth ≤ 60) && decide (szD d ≤ 10000000)
theorem f1_repr {d : PyData} (h : repOk d = true) : f1E .repr d = .ret (.str d.shown) := by
  unfold repOk at h
  have h1 := and2 h
  have h2 := and2 h1.1
  have h3 := and2 h2.1
  have hd : d.hasDict = false := by simpa using h3.2
  have z : d.shown.length ≤ 10000000 := by
    have := of_decide_eq_true h1.2
    rcases shown_le d h3.1 with z | z <;> omega
  show okB (d.showable && decide (d.depth ≤ 60) && decide (d.shown.length ≤ 10000000)) (.str d.shown) = _
  rw [h3.1, h2.2, decide_eq_true z]
  rfl
/-- .. with empty dicts within -/
theorem f1_repr2 {d : PyData} (h : d.showable = true) (h2 : d.depth ≤ 60) (h3 : szD d ≤ 10000000) : f1E .repr d = .ret (.str d.shown) := by
  have z : d.shown.length ≤ 10000000 := by
    rcases shown_le d h with z | z <;> omega
  show okB (d.showable && decide (d.depth ≤ 60) && decide (d.shown.length ≤ 10000000)) (.str d.shown) = _
  rw [h, decide_eq_true h2, decide_eq_true z]
  rfl
theorem mapC_some {α : Type} {f : α → Comp (Option PyData)} {g : α → PyData} : ∀ {l : List α}, (∀ a ∈ l, f a = .ret (some (g a))) → mapC f l = .ret (l.map g)
  | [], _ => rfl
  | a :: as, h => by
    show (f a).bind _ = _
    rw [h a (List.mem_cons_self ..)]
    show (mapC f as).bind _ = _
    rw [mapC_some fun b hb => h b (List.mem_cons_of_mem _ hb)]
    rfl
theorem mapC_map {α : Type} {h : α → PyData} {f : PyData → Comp (Option PyData)} {g : α → PyData} {l : List α} (z : ∀ a ∈ l, f (h a) = .ret (some (g a))) : mapC f (l.map h) = .ret (l.map g) := by
  induction l with
  | nil => rfl
  | cons a as ih =>
    show (f (h a)).bind _ = _
    rw [z a (List.mem_cons_self ..)]
    show (mapC f (as.map h)).bind _ = _
    rw [ih fun b hb => z b (List.mem_cons_of_mem _ hb)]
    rfl
theorem strs_map {α : Type} {g : α → Str} : ∀ {l : List α}, strsP (l.map fun a => .str (g a)) = some (l.map g)
  | [] => rfl
  | a :: as => by
    show (strsP (as.map fun a => .str (g a))).map _ = _
    rw [strs_map]
    rfl
theorem bools_map {α : Type} {g : α → Bool} : ∀ {l : List α}, boolsP (l.map fun a => .bool (g a)) = some (l.map g)
  | [] => rfl
  | a :: as => by
    show (boolsP (as.map fun a => .bool (g a))).map _ = _
    rw [bools_map]
    rfl
/-! ### split behind join -/
theorem split_join {c : Nat} (hc : c < 256) {ws : List Str} (hne : ws ≠ []) (h : ∀ w ∈ ws, c ∉ w.cps.toList) : Txt.split (Txt.join ⟨#[c]⟩ ws) ⟨#[c]⟩ = ws := by
  have e : ws = (ws.map TL.tl).map SX.S := by
    rw [List.map_map]
    have : (SX.S ∘ TL.tl) = id := by
      funext x
      exact TL.mk_tl x
    rw [this, List.map_id]
  have hs : (⟨#[c]⟩ : Str) = SX.S [c] := rfl
  rw [hs]
  conv => lhs; rw [e]
  rw [SX.join_S, SX.split_S (by simp) (by simp [hc]), SX.spl_join (by simpa using hne) (fun p hp => ?_)]
  · exact e.symm
  · obtain ⟨w, hw, rfl⟩ := List.mem_map.mp hp
    exact h w hw
theorem mem_join {c d : Nat} : ∀ {ws : List Str}, d ∈ (Txt.join ⟨#[c]⟩ ws).cps.toList → d = c ∨ ∃ w ∈ ws, d ∈ w.cps.toList := by
  intro ws h0
  have key : ∀ ws : List Str, d ∈ (Str.join ⟨#[c]⟩ ws).cps.toList → d = c ∨ ∃ w ∈ ws, d ∈ w.cps.toList := by
   intro ws h
   induction ws with
   | nil => cases h
   | cons x xs ih =>
     cases xs with
     | nil => exact .inr ⟨x, List.mem_cons_self .., h⟩
     | cons y r =>
       have h : d ∈ (x ++ (⟨#[c]⟩ : Str) ++ Str.join ⟨#[c]⟩ (y :: r)).cps.toList := h
       simp only [Str.cps_append, Array.toList_append, List.mem_append] at h
       rcases h with (h | h) | h
       · exact .inr ⟨x, List.mem_cons_self .., h⟩
       · exact .inl (by simpa using h)
       · rcases ih h with z | ⟨w, hw, z⟩
         · exact .inl z
         · exact .inr ⟨w, List.mem_cons_of_mem _ hw, z⟩
  exact key ws (by rw [← StrLaws.glued_eq_join]; exact h0)
theorem join_len_le {sep : Str} {ws : List Str} : (Txt.join sep ws).length ≤ (ws.map (·.length)).sum + ws.length * sep.length := by
  show (Builtin.Str.glued sep ws).length ≤ _
  rw [StrLaws.glued_eq_join]
  exact StrLaws.join_length_le sep ws
theorem join_two {sep a b : Str} : a ++ sep ++ b = Txt.join sep [a, b] := by
  show _ = Builtin.Str.glued sep [a, b]
  rw [StrLaws.glued_eq_join]
  rfl
theorem join_one {sep a : Str} : Txt.join sep [a] = a := by
  show Builtin.Str.glued sep [a] = _
  rw [StrLaws.glued_eq_join]
  rfl
theorem splitE_ok {a b : Str} (h : b.length ≠ 0) (h2 : a.length ≤ LIM) : splitE a (.str b) = .ret ((Txt.split a b).map .str) := by
  show (if (b.length != 0 && decide (a.length ≤ LIM)) = true then _ else _) = _
  rw [decide_eq_true h2, show (b.length != 0) = true by simpa using h]
  rfl
theorem limL_ok {ds : List PyData} (h : ds.length ≤ LIM) : limL ds = .ret ds := if_pos h
end TC

set_option Elab.async false
set_option linter.all false
set_option maxRecDepth 100000
set_option maxHeartbeats 4000000
namespace TC
open PySem
/-! ### all ways end well, with at most b draws -/
def Comp.okZ {α : Type} : Comp α → Nat → (α → Prop) → (Exn → Prop) → Prop
  | .ret a, _, P, _ => P a
  | .raise x, _, _, E => E x
  | .draw n k, b, P, E => ∃ c, b = c + 1 ∧ 0 < n ∧ n < 1073741824 ∧ ∀ r, 0 ≤ r → r < n → (k r).okZ c P E
  | .stuck, _, _, _ => False
namespace Comp
variable {α β : Type}
theorem okZ_mono : ∀ {c : Comp α} {b b' : Nat} {P P' : α → Prop} {E E' : Exn → Prop}, c.okZ b P E → b ≤ b' → (∀ a, P a → P' a) → (∀ x, E x → E' x) → c.okZ b' P' E'
  | .ret _, _, _, _, _, _, _, h, _, m, _ => m _ h
  | .raise _, _, _, _, _, _, _, h, _, _, m => m _ h
  | .stuck, _, _, _, _, _, _, h, _, _, _ => h
  | .draw n k, b, b', _, _, _, _, h, hb, m, m2 => by
    obtain ⟨c, e, h1, h2, h3⟩ := h
    exact ⟨b' - 1, by omega, h1, h2, fun r r0 r1 => okZ_mono (h3 r r0 r1) (by omega) m m2⟩
theorem okZ_wp : ∀ {c : Comp α} {b : Nat} {P : α → Prop} {E : Exn → Prop}, c.okZ b P E → c.wp b (fun _ a => P a) (fun _ x => E x)
  | .ret _, _, _, _, h => h
  | .raise _, _, _, _, h => h
  | .stuck, _, _, _, h => h
  | .draw n k, _, _, _, h => by
    obtain ⟨c, e, h1, h2, h3⟩ := h
    exact ⟨c, e, h1, h2, fun r r0 r1 => okZ_wp (h3 r r0 r1)⟩
theorem okZ_tie : ∀ {c : Comp α} {g : Exn → Comp β} {f : α → Comp β} {b b2 : Nat} {P : α → Prop} {X : Exn → Prop} {Q : β → Prop} {E : Exn → Prop}, c.okZ b P X → (∀ a, P a → (f a).okZ b2 Q E) → (∀ x, X x → (g x).okZ b2 Q E) → (c.tie g f).okZ (b + b2) Q E
  | .ret a, _, _, b, b2, _, _, _, _, h, m, _ => okZ_mono (m a h) (by omega) (fun _ z => z) fun _ z => z
  | .raise a, _, _, b, b2, _, _, _, _, h, _, m => okZ_mono (m a h) (by omega) (fun _ z => z) fun _ z => z
  | .stuck, _, _, _, _, _, _, _, _, h, _, _ => h
  | .draw n k, g, f, b, b2, _, _, _, _, h, m, m2 => by
    obtain ⟨c, e, h1, h2, h3⟩ := h
    exact ⟨c + b2, by omega, h1, h2, fun r r0 r1 => okZ_tie (h3 r r0 r1) m m2⟩
theorem okZ_bind : ∀ {c : Comp α} {f : α → Comp β} {b b2 : Nat} {P : α → Prop} {Q : β → Prop} {E : Exn → Prop}, c.okZ b P E → (∀ a, P a → (f a).okZ b2 Q E) → (c.bind f).okZ (b + b2) Q E
  | .ret a, _, b, b2, _, _, _, h, m => okZ_mono (m a h) (by omega) (fun _ z => z) fun _ z => z
  | .raise a, _, b, b2, _, _, _, h, m => h
  | .stuck, _, _, _, _, _, _, h, _ => h
  | .draw n k, f, b, b2, _, _, _, h, m => by
    obtain ⟨c, e, h1, h2, h3⟩ := h
    exact ⟨c + b2, by omega, h1, h2, fun r r0 r1 => okZ_bind (h3 r r0 r1) m⟩
theorem okZ_draw {n : Int} {k : Int → Comp α} {b : Nat} {P : α → Prop} {E : Exn → Prop} (h1 : 0 < n) (h2 : n < 1073741824) (h : ∀ r, 0 ≤ r → r < n → (k r).okZ b P E) : (Comp.draw n k).okZ (b + 1) P E := ⟨b, rfl, h1, h2, h⟩
end Comp
@[irreducible] def Comp.okW {α : Type} (c : Comp α) (b : Nat) (P : α → Prop) (E : Exn → Prop) : Prop := c.okZ b P E
namespace Comp
variable {α β : Type}
theorem okW_def {c : Comp α} {b : Nat} {P : α → Prop} {E : Exn → Prop} : c.okW b P E = c.okZ b P E := by unfold okW; rfl
theorem okW_mono {c : Comp α} {b b' : Nat} {P P' : α → Prop} {E E' : Exn → Prop} (h : c.okW b P E) (hb : b ≤ b') (m : ∀ a, P a → P' a) (m2 : ∀ x, E x → E' x) : c.okW b' P' E' := by
  rw [okW_def] at *
  exact okZ_mono h hb m m2
theorem okW_wp {c : Comp α} {b : Nat} {P : α → Prop} {E : Exn → Prop} (h : c.okW b P E) : c.wp b (fun _ a => P a) (fun _ x => E x) := by
  rw [okW_def] at h
  exact okZ_wp h
theorem okW_tie {c : Comp α} {g : Exn → Comp β} {f : α → Comp β} {b b2 : Nat} {P : α → Prop} {X : Exn → Prop} {Q : β → Prop} {E : Exn → Prop} (h : c.okW b P X) (m : ∀ a, P a → (f a).okW b2 Q E) (m2 : ∀ x, X x → (g x).okW b2 Q E) : (c.tie g f).okW (b + b2) Q E := by
  simp only [okW_def] at *
  exact okZ_tie h m m2
theorem okW_bind {c : Comp α} {f : α → Comp β} {b b2 : Nat} {P : α → Prop} {Q : β → Prop} {E : Exn → Prop} (h : c.okW b P E) (m : ∀ a, P a → (f a).okW b2 Q E) : (c.bind f).okW (b + b2) Q E := by
  simp only [okW_def] at *
  exact okZ_bind h m
theorem okW_draw {n : Int} {k : Int → Comp α} {b : Nat} {P : α → Prop} {E : Exn → Prop} (h1 : 0 < n) (h2 : n < 1073741824) (h : ∀ r, 0 ≤ r → r < n → (k r).okW b P E) : (Comp.draw n k).okW (b + 1) P E := by
  simp only [okW_def] at *
  exact okZ_draw h1 h2 h
theorem okW_ret {a : α} {b : Nat} {P : α → Prop} {E : Exn → Prop} (h : P a) : (Comp.ret a).okW b P E := by
  rw [okW_def]
  exact h
theorem okW_raise {x : Exn} {b : Nat} {P : α → Prop} {E : Exn → Prop} (h : E x) : (Comp.raise x : Comp α).okW b P E := by
  rw [okW_def]
  exact h
theorem okW_ite {c : Prop} [Decidable c] {a d : Comp α} {b : Nat} {P : α → Prop} {E : Exn → Prop} (h1 : c → a.okW b P E) (h2 : ¬c → d.okW b P E) : (if c then a else d).okW b P E := by
  by_cases z : c
  · rw [if_pos z]
    exact h1 z
  · rw [if_neg z]
    exact h2 z
end Comp
def nEx : Exn → Prop := fun _ => False
theorem okW_nox {α : Type} {c : Comp α} {b : Nat} {P : α → Prop} {E : Exn → Prop} (h : c.okW b P nEx) : (nox c).okW b P E := by
  have z := Comp.okW_tie (b2 := 0) (g := fun _ => .stuck) (f := .ret) h (Q := P) (E := E) (fun _ q => Comp.okW_ret q) (fun _ z => z.elim)
  exact z
@[simp] theorem sbind_draw {α β : Type} {n : Int} {k : Int → Comp α} {f : α → Comp β} : (Comp.draw n k).bind f = .draw n fun r => (k r).bind f := rfl
@[simp] theorem stie_draw {α β : Type} {n : Int} {k : Int → Comp α} {g : Exn → Comp β} {f : α → Comp β} : (Comp.draw n k).tie g f = .draw n fun r => (k r).tie g f := rfl
@[simp] theorem sexO_draw {α : Type} {n : Int} {k : Int → Comp α} {e : En} {f : α → Comp Ou} : exO e (.draw n k) f = .draw n fun r => exO e (k r) f := rfl
@[simp] theorem snox_draw {α : Type} {n : Int} {k : Int → Comp α} : nox (.draw n k) = .draw n fun r => nox (k r) := rfl
@[simp] theorem sdD_draw {n : Int} {k : Int → Comp Wd} : dD (.draw n k) = .draw n fun r => dD (k r) := rfl
@[simp] theorem sdB_draw {n : Int} {k : Int → Comp Wd} : dB (.draw n k) = .draw n fun r => dB (k r) := rfl
@[simp] theorem sdI_draw {n : Int} {k : Int → Comp Wd} : dI (.draw n k) = .draw n fun r => dI (k r) := rfl
@[simp] theorem sretD_draw {n : Int} {k : Int → CP} : retD (.draw n k) = .draw n fun r => retD (k r) := rfl
@[simp] theorem sretB_draw {n : Int} {k : Int → Comp Bool} : retB (.draw n k) = .draw n fun r => retB (k r) := rfl
@[simp] theorem sdrwE {k : Int} : drwE .rng (.int k) = .draw k fun r => .ret (.d (.int r)) := rfl
@[simp] theorem slnsE {k : Nat} : lnsE (.scr k) = .ret (.d (.int k)) := rfl
/-- a loop whose turns keep P -/
theorem okW_for {f : PyData → En → Comp Ou} {P : En → Prop} {c : Nat} : ∀ {ds : List PyData} {e : En} {Q : Ou → Prop} (turn : ∀ d ∈ ds, ∀ e, P e → (f d e).okW c (fun o => ∃ e', (o = .nx e' ∨ o = .ct e') ∧ P e') nEx) (fin : ∀ e, P e → Q (.nx e)), P e → (forC f ds e).okW (c * ds.length) Q nEx
  | [], e, Q, _, fin, h => Comp.okW_ret (fin e h)
  | d :: ds, e, Q, turn, fin, h => by
    have z := Comp.okW_bind (b2 := c * ds.length) (Q := Q) (turn d (List.mem_cons_self ..) e h) (f := fun o => match o with
      | .nx e2 => forC f ds e2
      | .ct e2 => forC f ds e2
      | .br e2 => .ret (.nx e2)
      | .rt r => .ret (.rt r)
      | .ex x e2 => .ret (.ex x e2)) (fun o ⟨e', ho, he⟩ => by
        rcases ho with rfl | rfl
        · exact okW_for (fun d hd => turn d (List.mem_cons_of_mem _ hd)) fin he
        · exact okW_for (fun d hd => turn d (List.mem_cons_of_mem _ hd)) fin he)
    have e1 : c + c * ds.length = c * (d :: ds).length := by
      rw [List.length_cons, Nat.mul_succ]
      omega
    rw [e1] at z
    exact z
def isT0 : FR → Prop := fun r => r = .fz (.d (.bool true))
theorem law_of {fs : List Fd} {lw : Fd} {n b : Nat} (h : (lawC 100 fs lw n).okW b isT0 nEx) : (lawC 100 fs lw n).wp b isT noE := Comp.wp_mono (Comp.okW_wp h) (fun _ _ z => z) fun _ _ z => z
theorem lawC_ok {fs : List Fd} {lw : Fd} {n b : Nat} (h : (lw.body.ev (callT 100 fs) 100 ((startE lw.N.length [.scr n]).set 1 (.fz .rng))).okW b (fun o => o = .rt (.fz (.d (.bool true)))) nEx) : (lawC 100 fs lw n).okW b isT0 nEx := by
  have z := Comp.okW_bind (b2 := 0) (Q := isT0) (E := nEx) (f := endC) (okW_nox (E := nEx) h) (fun o ho => by
    subst ho
    exact Comp.okW_ret rfl)
  exact z
theorem ev_fgt {cl : Nat → List Wd → Comp FR} {wf : Nat} {is : List Nat} {ss : Sms} {e : En} : (Sms.fgt is ss).ev cl wf e = ss.ev cl wf (wipeE e is) := by rw [Sms.ev]
theorem ev_forr {cl : Nat → List Wd → Comp FR} {wf : Nat} {t : Tt} {it : Ei} {b : Sms} {p : Pos} {e : En} : (Sm.forr t it b p).ev cl wf e = exO e (it.ev cl e) fun ds => forC (fun d e1 => (bindT t d e1).bind fun e2 => b.ev cl wf e2) ds e := by rw [Sm.ev]
theorem ev_cons {cl : Nat → List Wd → Comp FR} {wf : Nat} {s : Sm} {ss : Sms} {e : En} : (Sms.cons s ss).ev cl wf e = (s.ev cl wf e).bind (goOn (ss.ev cl wf)) := by
  rw [Sms.ev]
  congr 1
theorem ev_nil {cl : Nat → List Wd → Comp FR} {wf : Nat} {e : En} : Sms.nil.ev cl wf e = .ret (.nx e) := by rw [Sms.ev]
theorem goOn_nx {f : En → Comp Ou} {e : En} : goOn f (.nx e) = f e := rfl
theorem goOn_rt {f : En → Comp Ou} {r : FR} : goOn f (.rt r) = .ret (.rt r) := rfl
/-- statements one after the other -/
theorem okW_cons {cl : Nat → List Wd → Comp FR} {wf : Nat} {s : Sm} {ss : Sms} {e : En} {b b2 : Nat} {P : Ou → Prop} {Q : Ou → Prop} (h : (s.ev cl wf e).okW b P nEx) (m : ∀ o, P o → (goOn (ss.ev cl wf) o).okW b2 Q nEx) : ((Sms.cons s ss).ev cl wf e).okW (b + b2) Q nEx :=
  ev_cons ▸ Comp.okW_bind h m
theorem okW_exO {α : Type} {c : Comp α} {f : α → Comp Ou} {e : En} {b b2 : Nat} {P : α → Prop} {Q : Ou → Prop} (h : c.okW b P nEx) (m : ∀ a, P a → (f a).okW b2 Q nEx) : (exO e c f).okW (b + b2) Q nEx :=
  Comp.okW_tie h m fun _ z => z.elim
theorem rngP_len {a b : Int} : (rngP a b).length = (b - a).toNat := by simp [rngP]
theorem bigI_ok {i : Int} (h1 : -1000000 ≤ i) (h2 : i ≤ 1000000) : bigI i = true := by
  unfold bigI
  rw [decide_eq_true (by omega), decide_eq_true (by omega)]
  rfl
/-- range(a + min(len(script), b)) -/
theorem rg_len {cl : Nat → List Wd → Comp FR} {n : Nat} (h : n ≤ 63) {a b : Int} (ha : 0 ≤ a) (ha2 : a ≤ 1000) (hb : 0 ≤ b) (hb2 : b ≤ 1000) {e : En} (he : e[0]? = some (.fz (.scr n))) {k1 k2 : Nat} {x : Str} {p1 p2 p3 p4 p5 p6 p7 p8 p9 p10 : Pos} :
    ∃ m : Int, 0 ≤ m ∧ m ≤ b ∧ (Ei.rg1 p1 (.bin .add (.int a k1 p2) (.f2 .min p3 (.lns 0 x p4 p5 p6) (.int b k2 p7) p8) p9) p10).ev cl e = .ret (rngP 0 (a + m)) := by
  refine ⟨if b < n then b else n, ?_, ?_, ?_⟩
  · split <;> omega
  · split <;> omega
  · have hv : varE e 0 = .ret (.scr n) := by
      unfold varE
      rw [he]
    have z : bigI (a + if b < (n : Int) then b else n) = true := bigI_ok (by split <;> omega) (by split <;> omega)
    simp only [Ei.ev, Ee.ev, hv, sbind_ret, slnsE, sdD_ret, smin_int, retD_ret, sadd_int, sdI_ret, z, if_true]
theorem eqv_ints : ∀ (xs ys : List Int), PyData.eqvAll (xs.map .int) (ys.map .int) = decide (xs = ys)
  | [], [] => by simp [PyData.eqvAll]
  | [], y :: ys => by simp [PyData.eqvAll]
  | x :: xs, [] => by simp [PyData.eqvAll]
  | x :: xs, y :: ys => by
    have ih := eqv_ints xs ys
    simp only [List.map_cons, PyData.eqvAll, ih, PyData.eqv, List.cons.injEq, Bool.decide_and]
    congr 1
end TC

set_option Elab.async false
set_option linter.all false
set_option maxRecDepth 100000
set_option maxHeartbeats 4000000
namespace TC
open PySem
/-! ### laws whose draws are few: by computation -/
theorem allN_okW {P : En → Bool} : ∀ {b : Nat} {c : Comp Ou}, c.allN P b = true → c.okW b (fun o => ∃ e', (o = .nx e' ∨ o = .ct e') ∧ P e' = true) nEx
  | b, .ret (.nx e), h => Comp.okW_ret ⟨e, .inl rfl, by cases b <;> exact h⟩
  | b, .ret (.ct e), h => Comp.okW_ret ⟨e, .inr rfl, by cases b <;> exact h⟩
  | b + 1, .draw n k, h => by
    unfold Comp.allN at h
    have h1 := and2 h
    have h2 := and2 h1.1
    refine Comp.okW_draw (of_decide_eq_true h2.1) (of_decide_eq_true h2.2) fun r r0 rn => ?_
    have z := List.all_eq_true.mp h1.2 r.toNat (List.mem_range.mpr (by omega))
    have e : ((r.toNat : Nat) : Int) = r := by omega
    rw [e] at z
    exact allN_okW z
  | 0, .draw n k, h => by cases h
  | b, .raise x, h => by cases b <;> cases h
  | b, .stuck, h => by cases b <;> cases h
  | b, .ret (.br e), h => by cases b <;> cases h
  | b, .ret (.rt r), h => by cases b <;> cases h
  | b, .ret (.ex x e), h => by cases b <;> cases h
/-- a function's answer is True -/
def trueC (c : Comp FR) : Bool := match c with
  | .ret (.fz (.d (.bool true))) => true
  | _ => false
theorem trueC_eq {c : Comp FR} (h : trueC c = true) : c = .ret (.fz (.d (.bool true))) := by
  unfold trueC at h
  split at h
  · rfl
  · cases h
/-- a block's end is: return True -/
def trueO (c : Comp Ou) : Bool := match c with
  | .ret (.rt (.fz (.d (.bool true)))) => true
  | _ => false
theorem trueO_eq {c : Comp Ou} (h : trueO c = true) : c = .ret (.rt (.fz (.d (.bool true)))) := by
  unfold trueO at h
  split at h
  · rfl
  · cases h
/-- the drawing object stands where it is to stand -/
def rngE (n : Nat) (e : En) : Bool := slR e 1 && (e.length == n)
theorem rngE_of {n : Nat} {e : En} (h : rngE n e = true) : e.length = n ∧ e[1]? = some (.fz .rng) := by
  unfold rngE slR at h
  have h2 := and2 h
  refine ⟨by simpa using h2.2, ?_⟩
  have z := h2.1
  split at z
  · assumption
  · cases z
end TC

set_option Elab.async false
set_option linter.all false
set_option maxRecDepth 100000
set_option maxHeartbeats 4000000
namespace TC
open PySem
/-- a loop whose turns keep P, counted from i on -/
theorem okW_fori {f : PyData → En → Comp Ou} {P : Nat → En → Prop} {c : Nat} : ∀ {ds : List PyData} {i : Nat} {e : En} {Q : Ou → Prop} (turn : ∀ (j : Nat) (d : PyData), ds[j]? = some d → ∀ e, P (i + j) e → (f d e).okW c (fun o => ∃ e', (o = .nx e' ∨ o = .ct e') ∧ P (i + j + 1) e') nEx) (fin : ∀ e, P (i + ds.length) e → Q (.nx e)), P i e → (forC f ds e).okW (c * ds.length) Q nEx
  | [], i, e, Q, _, fin, h => Comp.okW_ret (fin e h)
  | d :: ds, i, e, Q, turn, fin, h => by
    have z := Comp.okW_bind (b2 := c * ds.length) (Q := Q) (turn 0 d rfl e h) (f := fun o => match o with
      | .nx e2 => forC f ds e2
      | .ct e2 => forC f ds e2
      | .br e2 => .ret (.nx e2)
      | .rt r => .ret (.rt r)
      | .ex x e2 => .ret (.ex x e2)) (fun o ⟨e', ho, he⟩ => by
        have w : (forC f ds e').okW (c * ds.length) Q nEx := by
          refine okW_fori (P := P) (i := i + 1) (fun j d2 hj e2 h2 => ?_) (fun e2 h2 => fin e2 ?_) he
          · have y := turn (j + 1) d2 hj e2 (by rw [show i + (j + 1) = i + 1 + j by omega]; exact h2)
            rw [show i + (j + 1) + 1 = i + 1 + j + 1 by omega] at y
            exact y
          · rw [show i + (d :: ds).length = i + 1 + ds.length by rw [List.length_cons]; omega]
            exact h2
        rcases ho with rfl | rfl
        · exact w
        · exact w)
    have e1 : c + c * ds.length = c * (d :: ds).length := by
      rw [List.length_cons, Nat.mul_succ]
      omega
    rw [e1] at z
    exact z
theorem okW_for0 {f : PyData → En → Comp Ou} {P : Nat → En → Prop} {ds : List PyData} {e : En} {Q : Ou → Prop} (turn : ∀ (j : Nat) (d : PyData), ds[j]? = some d → ∀ e, P j e → (f d e).okW 0 (fun o => ∃ e', (o = .nx e' ∨ o = .ct e') ∧ P (j + 1) e') nEx) (fin : ∀ e, P ds.length e → Q (.nx e)) (h : P 0 e) : (forC f ds e).okW 0 Q nEx := by
  have z := okW_fori (i := 0) (c := 0) (P := P) (f := f) (ds := ds) (Q := Q) (fun j d hj e he => by
    rw [Nat.zero_add] at he ⊢
    exact turn j d hj e he) (fun e he => fin e (by rw [Nat.zero_add] at he; exact he)) h
  rw [Nat.zero_mul] at z
  exact z
theorem rngP_at {a b : Int} {j : Nat} {d : PyData} (h : (rngP a b)[j]? = some d) : d = .int (a + j) ∧ a + j < b := by
  unfold rngP at h
  rw [List.getElem?_map, Option.map_eq_some_iff] at h
  obtain ⟨x, h1, rfl⟩ := h
  obtain ⟨hl, h2⟩ := List.getElem?_eq_some_iff.mp h1
  rw [List.length_range] at hl
  rw [List.getElem_range] at h2
  subst h2
  exact ⟨rfl, by omega⟩
/-- a while that ends: P counts down -/
theorem okW_whl {c : En → Comp Bool} {f : En → Comp Ou} {P : Nat → En → Prop} {Q : Ou → Prop} : ∀ {n k : Nat} {e : En}, k < n → P k e →
    (∀ k e, P k e → (c e).okW 0 (fun b => if b then ∃ m, k = m + 1 ∧ (f e).okW 0 (fun o => ∃ e', (o = .nx e' ∨ o = .ct e') ∧ P m e') nEx else Q (.nx e)) nEx) → (whlC c f n e).okW 0 Q nEx
  | 0, _, _, h, _, _ => by omega
  | n + 1, k, e, h, hp, turn => by
    refine okW_exO (b := 0) (b2 := 0) (turn k e hp) fun b hb => ?_
    cases b with
    | false => exact Comp.okW_ret hb
    | true =>
      obtain ⟨m, rfl, hf⟩ := hb
      refine Comp.okW_bind (b := 0) (b2 := 0) hf ?_
      rintro o ⟨e', rfl | rfl, he⟩
      · exact okW_whl (by omega) he turn
      · exact okW_whl (by omega) he turn
/-- a comprehension's turns -/
theorem okW_map {α : Type} {f : α → Comp (Option PyData)} {P : PyData → Prop} {c : Nat} : ∀ {l : List α}, (∀ a ∈ l, (f a).okW c (fun o => ∀ y, o = some y → P y) nEx) → (mapC f l).okW (c * l.length) (fun ys => (∀ y ∈ ys, P y) ∧ ys.length ≤ l.length) nEx
  | [], _ => Comp.okW_ret ⟨fun _ h => (List.not_mem_nil h).elim, Nat.le_refl _⟩
  | a :: l, h => by
    have e1 : c * (a :: l).length = c + (c * l.length + 0) := by
      rw [List.length_cons, Nat.mul_succ]
      omega
    rw [e1]
    refine Comp.okW_bind (h a (List.mem_cons_self ..)) fun r hr => Comp.okW_bind (okW_map fun a ha => h a (List.mem_cons_of_mem _ ha)) fun rs ⟨h1, h2⟩ => Comp.okW_ret ?_
    cases r with
    | none => exact ⟨h1, Nat.le_succ_of_le h2⟩
    | some y =>
      refine ⟨fun z hz => ?_, Nat.succ_le_succ h2⟩
      rcases List.mem_cons.mp hz with rfl | hz
      · exact hr _ rfl
      · exact h1 z hz
theorem okW_map0 {α : Type} {f : α → Comp (Option PyData)} {P : PyData → Prop} {l : List α} (h : ∀ a ∈ l, (f a).okW 0 (fun o => ∀ y, o = some y → P y) nEx) : (mapC f l).okW 0 (fun ys => (∀ y ∈ ys, P y) ∧ ys.length ≤ l.length) nEx := by
  have z := okW_map h
  rw [Nat.zero_mul] at z
  exact z
/-- a call's body -/
theorem okW_run {f : Fd} {wf : Nat} {cl : Nat → List Wd → Comp FR} {ws : List Wd} {b : Nat} {P : FR → Prop} {E : Exn → Prop} (hw : ws.length = f.np) (h : (f.body.ev cl wf (startE f.N.length ws)).okW b (fun o => (endC o).okW 0 P E) nEx) : (f.run wf cl ws).okW b P E := by
  unfold Fd.run
  rw [if_pos hw]
  exact Comp.okW_bind (b2 := 0) (okW_nox h) fun o ho => ho
/-! ### lists of numbers -/
def iL (is : List Int) : List PyData := is.map .int
theorem iL_lay : ∀ is : List Int, PyData.canLayAll0 (iL is) = true
  | [] => rfl
  | i :: is => by
    have z := iL_lay is
    simp only [iL, List.map_cons, PyData.canLayAll0, PyData.canLay0, Bool.true_and] at *
    exact z
theorem iL_dep : ∀ is : List Int, PyData.depthAll (iL is) ≤ 1
  | [] => by simp [iL, PyData.depthAll]
  | i :: is => by
    have z := iL_dep is
    simp only [iL, List.map_cons, PyData.depthAll, PyData.depth] at *
    omega
theorem iL_shp (is : List Int) : SeqAt.shaped (.list (iL is)) = true := by
  have h := iL_lay is
  have h2 := iL_dep is
  have h3 : PyData.depth (.list (iL is)) ≤ 64 := by
    simp only [PyData.depth]
    omega
  have h4 : PyData.canLay0 (.list (iL is)) = true := by
    simp only [PyData.canLay0, h]
  exact Bool.and_eq_true_iff.mpr ⟨h4, decide_eq_true h3⟩
theorem iL_shpT (is : List Int) : SeqAt.shaped (.tuple (iL is)) = true := by
  have h := iL_lay is
  have h2 := iL_dep is
  have h3 : PyData.depth (.tuple (iL is)) ≤ 64 := by
    simp only [PyData.depth]
    omega
  have h4 : PyData.canLay0 (.tuple (iL is)) = true := by
    simp only [PyData.canLay0, h]
  exact Bool.and_eq_true_iff.mpr ⟨h4, decide_eq_true h3⟩
theorem eqE_shp {d e : PyData} (h : SeqAt.shaped d = true) (h2 : SeqAt.shaped e = true) : eqE d e = .ret (PyData.eqv d e) := by
  have hc : (SeqAt.shaped d && SeqAt.shaped e) = true := by rw [h, h2]; rfl
  unfold eqE
  split
  · simp [PyData.eqv]
    rw [Bool.eq_iff_iff]
    simp
  · simp [PyData.eqv]
    rw [Bool.eq_iff_iff]
    simp
  · simp [PyData.eqv]
    rw [Bool.eq_iff_iff]
    simp
  · rw [if_pos hc]
theorem eqE_l {is js : List Int} : eqE (.list (iL is)) (.list (iL js)) = .ret (decide (is = js)) := by
  rw [eqE_shp (iL_shp is) (iL_shp js)]
  simp only [PyData.eqv]
  rw [iL, iL, eqv_ints]
theorem eqE_nil {is : List Int} : eqE (.list (iL is)) (.list []) = .ret (decide (is = [])) := eqE_l (js := [])
theorem atI_iL {is : List Int} {k : Nat} (h : k < is.length) : L2.atI (iL is) k = some (.int is[k]) := by
  unfold iL L2.atI L2.ixN
  rw [if_pos (by omega), if_pos (by rw [List.length_map]; omega)]
  simp [h]
end TC

set_option Elab.async false
set_option linter.all false
set_option maxRecDepth 100000
set_option maxHeartbeats 4000000
/-! what the plain laws share -/
namespace TC
open PySem
@[simp] theorem sexO_raise {α : Type} {x : Exn} {e : En} {f : α → Comp Ou} : exO e (.raise x) f = .ret (.ex x e) := rfl
@[simp] theorem sdD_raise {x : Exn} : dD (.raise x) = .raise x := rfl
@[simp] theorem sdB_raise {x : Exn} : dB (.raise x) = .raise x := rfl
@[simp] theorem scatch_ex {f : Exn → En → Comp Ou} {x : Exn} {e : En} : catchC f (.ex x e) = f x e := rfl
@[simp] theorem scatch_nx {f : Exn → En → Comp Ou} {e : En} : catchC f (.nx e) = .ret (.nx e) := rfl
@[simp] theorem sendC_ex {x : Exn} {e : En} : endC (.ex x e) = .raise x := rfl
@[simp] theorem sisx {c : Nat} {x : Exn} : isxE c (.er x) = .ret (.d (.bool (decide (x.c = c)))) := rfl
@[simp] theorem sefl {cs : List Nat} {x : Exn} : eflE cs (.er x) = if x.c ∈ cs then .ret (.d x.v) else .stuck := rfl
@[simp] theorem sidx_l0 {x : PyData} {xs : List PyData} : idxE (.list (x :: xs)) (.int 0) = .ret x := by
  have e : idxE (.list (x :: xs)) (.int 0) = match L2.atI (x :: xs) 0 with | some d => .ret d | none => .stuck := rfl
  have z : L2.atI (x :: xs) 0 = some x := by simp [L2.atI, L2.ixN, PySem.seqIndex?]
  rw [e, z]
@[irreducible] def clF (fns : List Fd) : Nat → List Wd → Comp FR := callT 100 fns
theorem clF_def {fns : List Fd} : clF fns = callT 100 fns := by unfold clF; rfl
theorem tlF {fns : List Fd} {i j : Nat} {ws : List Wd} (h : i < j) (hj : j ≤ fns.length) : tlC fns j i ws = clF fns i ws := clF_def ▸ tl_lt h hj
theorem clF_at {fns : List Fd} {f : Fd} {j : Nat} {ws : List Wd} (h : fns[fns.length - 1 - j]? = some f) (hj : j < fns.length) : clF fns j ws = f.run 100 (tlC fns j) ws := by rw [clF_def, cl_at h hj]
theorem okW_zero {α : Type} {c : Comp α} {P : α → Prop} (h : c.okW 0 P nEx) : ∃ a, c = .ret a ∧ P a := by
  rw [Comp.okW_def] at h
  cases c with
  | ret a => exact ⟨a, rfl, h⟩
  | raise x => exact h.elim
  | stuck => exact h.elim
  | draw n k =>
    obtain ⟨c, e, _⟩ := h
    omega
theorem okW_eq {α : Type} {c : Comp α} {o : α} {b : Nat} {P : α → Prop} {E : Exn → Prop} (h : c = .ret o) (h2 : P o) : c.okW b P E := h ▸ Comp.okW_ret h2
@[simp] theorem endC_nx {e : En} : endC (.nx e) = .ret (.fz (.d .none)) := rfl
@[simp] theorem frC_ow {ds : List PyData} : frC (.ow ds) = .ret (.d (.list ds)) := rfl
theorem ev_frz {cl : Nat → List Wd → Comp FR} {wf i : Nat} {ss : Sms} {e : En} : (Sms.frz i ss).ev cl wf e = ss.ev cl wf (frzE e i) := by rw [Sms.ev]
theorem ev_iff_f {cl : Nat → List Wd → Comp FR} {wf : Nat} {c : Ee} {a b : Sms} {p : Pos} {e : En} (h : TC.dB (c.ev cl e) = .ret false) : (Sm.iff c a b p).ev cl wf e = b.ev cl wf e := by
  rw [Sm.ev, h]
  rfl
theorem ev_iff_t {cl : Nat → List Wd → Comp FR} {wf : Nat} {c : Ee} {a b : Sms} {p : Pos} {e : En} (h : TC.dB (c.ev cl e) = .ret true) : (Sm.iff c a b p).ev cl wf e = a.ev cl wf e := by
  rw [Sm.ev, h]
  rfl
theorem iL_app {is : List Int} {i : Int} : iL is ++ [.int i] = iL (is ++ [i]) := by simp [iL]
@[simp] theorem iL_len {is : List Int} : (iL is).length = is.length := by simp [iL]
theorem idx_T {xs : List PyData} {i : Int} {d : PyData} (h : L2.atI xs i = some d) : idxE (.tuple xs) (.int i) = .ret d := by
  have e : idxE (.tuple xs) (.int i) = match L2.atI xs i with | some d => .ret d | none => .stuck := rfl
  rw [e, h]
theorem idx_L {xs : List PyData} {i : Int} {d : PyData} (h : L2.atI xs i = some d) : idxE (.list xs) (.int i) = .ret d := by
  have e : idxE (.list xs) (.int i) = match L2.atI xs i with | some d => .ret d | none => .stuck := rfl
  rw [e, h]
theorem cut_take {xs : List PyData} {k : Nat} : cutP xs none (some (k : Int)) = xs.take k := by
  unfold cutP
  rw [HT.sIx_none, HT.sIx_nat]
  rw [List.drop_zero, Nat.sub_zero]
  by_cases c : k ≤ xs.length
  · rw [Nat.min_eq_left c]
  · rw [Nat.min_eq_right (by omega), List.take_of_length_le (Nat.le_refl _), List.take_of_length_le (by omega)]
theorem cut_drop {xs : List PyData} {k : Nat} : cutP xs (some (k : Int)) none = xs.drop k := by
  unfold cutP
  rw [HT.sIx_none, HT.sIx_nat]
  by_cases c : k ≤ xs.length
  · rw [Nat.min_eq_left c, List.take_of_length_le (by rw [List.length_drop]; omega)]
  · rw [Nat.min_eq_right (by omega), List.drop_of_length_le (Nat.le_refl _), List.drop_of_length_le (by omega)]
    simp
theorem mapC_mapL {α : Type} {f : PyData → Comp (Option PyData)} {g : α → PyData} {u : α → PyData} : ∀ {l : List α}, (∀ a ∈ l, f (u a) = .ret (some (g a))) → mapC f (l.map u) = .ret (l.map g)
  | [], _ => rfl
  | a :: l, h => by
    rw [List.map_cons, mapC, h a (List.mem_cons_self ..), mapC_mapL fun b hb => h b (List.mem_cons_of_mem _ hb)]
    rfl
/-! ### a repr that is not too long -/
structure Rp (d : PyData) (D S : Nat) : Prop where
  a : d.showable = true
  b : d.hasDict = false
  c : d.depth ≤ D
  e : szD d ≤ S
theorem Rp.mono {d : PyData} {D S D' S' : Nat} (h : Rp d D S) (h1 : D ≤ D') (h2 : S ≤ S') : Rp d D' S' := ⟨h.a, h.b, Nat.le_trans h.c h1, Nat.le_trans h.e h2⟩
theorem rp_none : Rp .none 0 4 := ⟨rfl, rfl, Nat.le_refl _, Nat.le_refl _⟩
theorem rp_int {i : Int} (h0 : 0 ≤ i) (h : i < 1000) : Rp (.int i) 0 1921 := by
  refine ⟨?_, rfl, Nat.le_refl _, Nat.le_refl _⟩
  simp only [PyData.showable]
  refine decide_eq_true ?_
  by_cases z : i.natAbs = 0
  · rw [z]
    decide
  · exact Nat.lt_trans ((Nat.log2_lt z (k := 10)).mpr (by omega)) (by decide)
theorem rp_all : ∀ {xs : List PyData} {D S : Nat}, (∀ x ∈ xs, Rp x D S) → PyData.showableAll xs = true ∧ PyData.hasDictAll xs = false ∧ PyData.depthAll xs ≤ D ∧ szL xs ≤ xs.length * (S + 2)
  | [], _, _, _ => ⟨rfl, rfl, Nat.zero_le _, Nat.zero_le _⟩
  | x :: xs, D, S, h => by
    obtain ⟨h1, h2, h3, h4⟩ := rp_all fun y hy => h y (List.mem_cons_of_mem _ hy)
    obtain ⟨a, b, c, e⟩ := h x (List.mem_cons_self ..)
    simp only [PyData.showableAll, PyData.hasDictAll, PyData.depthAll, szL, a, b, h1, h2, List.length_cons, Nat.succ_mul]
    exact ⟨rfl, rfl, by omega, by omega⟩
theorem rp_list {xs : List PyData} {D S : Nat} (h : ∀ x ∈ xs, Rp x D S) : Rp (.list xs) (D + 1) (xs.length * (S + 2) + 3) := by
  obtain ⟨h1, h2, h3, h4⟩ := rp_all h
  refine ⟨by simpa [PyData.showable] using h1, by simpa [PyData.hasDict] using h2, ?_, ?_⟩
  · simp only [PyData.depth]
    omega
  · simp only [szD]
    omega
theorem rp_tup {xs : List PyData} {D S : Nat} (h : ∀ x ∈ xs, Rp x D S) : Rp (.tuple xs) (D + 1) (xs.length * (S + 2) + 3) := by
  obtain ⟨h1, h2, h3, h4⟩ := rp_all h
  refine ⟨by simpa [PyData.showable] using h1, by simpa [PyData.hasDict] using h2, ?_, ?_⟩
  · simp only [PyData.depth]
    omega
  · simp only [szD]
    omega
theorem Rp.ok {d : PyData} {D S : Nat} (h : Rp d D S) (h1 : D ≤ 60) (h2 : S ≤ 10000000) : repOk d = true := by
  unfold repOk
  rw [h.a, h.b, decide_eq_true (Nat.le_trans h.c h1), decide_eq_true (Nat.le_trans h.e h2)]
  rfl
theorem rp_iL {is : List Int} {n : Nat} (hl : is.length ≤ n) (h : ∀ i ∈ is, 0 ≤ i ∧ i < 1000) : Rp (.tuple (iL is)) 1 (n * 1923 + 3) := by
  have z := rp_tup (xs := iL is) (D := 0) (S := 1921) fun x hx => by
    obtain ⟨i, hi, rfl⟩ := List.mem_map.mp (show x ∈ is.map PyData.int from hx)
    exact rp_int (h i hi).1 (h i hi).2
  refine z.mono (Nat.le_refl _) ?_
  rw [iL_len]
  omega
/-- a loop over what is left -/
theorem okW_forL {T : Type} {u : T → PyData} {f : PyData → En → Comp Ou} {P : List T → En → Prop} {R : FR → Prop} {c : Nat} {Q : Ou → Prop}
    (turn : ∀ t l e, P (t :: l) e → (f (u t) e).okW c (fun o => (∃ e', o = .nx e' ∧ P l e') ∨ ∃ r, o = .rt r ∧ R r) nEx) (fin : ∀ e, P [] e → Q (.nx e)) (fr : ∀ r, R r → Q (.rt r)) : ∀ {l : List T} {e : En}, P l e → (forC f (l.map u) e).okW (c * l.length) Q nEx
  | [], e, h => Comp.okW_ret (fin e h)
  | t :: l, e, h => by
    have z := Comp.okW_bind (b2 := c * l.length) (Q := Q) (turn t l e h) (f := fun o => match o with
      | .nx e2 => forC f (l.map u) e2
      | .ct e2 => forC f (l.map u) e2
      | .br e2 => .ret (.nx e2)
      | .rt r => .ret (.rt r)
      | .ex x e2 => .ret (.ex x e2)) (fun o ho => by
        rcases ho with ⟨e', rfl, he⟩ | ⟨r, rfl, hr⟩
        · exact okW_forL turn fin fr he
        · exact Comp.okW_ret (fr r hr))
    have e1 : c + c * l.length = c * (t :: l).length := by
      rw [List.length_cons, Nat.mul_succ]
      omega
    rw [e1] at z
    exact z
theorem okW_forL0 {T : Type} {u : T → PyData} {f : PyData → En → Comp Ou} {P : List T → En → Prop} {R : FR → Prop} {Q : Ou → Prop}
    (turn : ∀ t l e, P (t :: l) e → (f (u t) e).okW 0 (fun o => (∃ e', o = .nx e' ∧ P l e') ∨ ∃ r, o = .rt r ∧ R r) nEx) (fin : ∀ e, P [] e → Q (.nx e)) (fr : ∀ r, R r → Q (.rt r)) {l : List T} {e : En} (h : P l e) : (forC f (l.map u) e).okW 0 Q nEx := by
  have z := okW_forL (c := 0) turn fin fr h
  rw [Nat.zero_mul] at z
  exact z
theorem ev_asg {cl : Nat → List Wd → Comp FR} {wf i : Nat} {x : Str} {px p : Pos} {a : Ee} {e : En} {w : Wd} (h : a.ev cl e = .ret w) : (Sm.asg i x px a p).ev cl wf e = .ret (.nx (e.set i (.fz w))) := by
  rw [Sm.ev, h]
  rfl
theorem ev_call {cl : Nat → List Wd → Comp FR} {j : Nat} {x : Str} {pf p : Pos} {es : Es} {e : En} {ws : List Wd} {w : Wd} (h : es.evW cl e = .ret ws) (h2 : cl j ws = .ret (.fz w)) : (Ee.call j x pf es p).ev cl e = .ret w := by
  rw [Ee.ev, h, sbind_ret, h2]
  rfl
theorem k_asg {cl : Nat → List Wd → Comp FR} {wf i b : Nat} {x : Str} {px p : Pos} {a : Ee} {ss : Sms} {e : En} {w : Wd} {Q : Ou → Prop} (h : a.ev cl e = .ret w) (hs : (ss.ev cl wf (e.set i (.fz w))).okW b Q nEx) : ((Sms.cons (.asg i x px a p) ss).ev cl wf e).okW b Q nEx := by
  have z := okW_cons (cl := cl) (wf := wf) (b := 0) (b2 := b) (s := .asg i x px a p) (P := fun o => o = .nx (e.set i (.fz w))) (okW_eq (ev_asg h) rfl) (ss := ss) (Q := Q) (by
    rintro o rfl
    rw [goOn_nx]
    exact hs)
  rw [Nat.zero_add] at z
  exact z
theorem k_expr {cl : Nat → List Wd → Comp FR} {wf b : Nat} {p : Pos} {a : Ee} {ss : Sms} {e : En} {w : Wd} {Q : Ou → Prop} (h : a.ev cl e = .ret w) (hs : (ss.ev cl wf e).okW b Q nEx) : ((Sms.cons (.expr a p) ss).ev cl wf e).okW b Q nEx := by
  have z := okW_cons (cl := cl) (wf := wf) (b := 0) (b2 := b) (s := .expr a p) (P := fun o => o = .nx e) (okW_eq (by rw [Sm.ev, h]; rfl) rfl) (ss := ss) (Q := Q) (by
    rintro o rfl
    rw [goOn_nx]
    exact hs)
  rw [Nat.zero_add] at z
  exact z
theorem k_ret {cl : Nat → List Wd → Comp FR} {wf b : Nat} {p : Pos} {a : Ee} {ss : Sms} {e : En} {w : Wd} {Q : Ou → Prop} (h : a.ev cl e = .ret w) (hs : Q (.rt (.fz w))) : ((Sms.cons (.ret a p) ss).ev cl wf e).okW b Q nEx := by
  have z := okW_cons (cl := cl) (wf := wf) (b := 0) (b2 := b) (s := .ret a p) (P := fun o => o = .rt (.fz w)) (okW_eq (by rw [Sm.ev, h]; rfl) rfl) (ss := ss) (Q := Q) (by
    rintro o rfl
    rw [goOn_rt]
    exact Comp.okW_ret hs)
  rw [Nat.zero_add] at z
  exact z
theorem k_iff {cl : Nat → List Wd → Comp FR} {wf b : Nat} {c : Ee} {a : Sms} {p : Pos} {ss : Sms} {e : En} {Q : Ou → Prop} (h : TC.dB (c.ev cl e) = .ret false) (hs : (ss.ev cl wf e).okW b Q nEx) : ((Sms.cons (.iff c a .nil p) ss).ev cl wf e).okW b Q nEx := by
  have z := okW_cons (cl := cl) (wf := wf) (b := 0) (b2 := b) (s := .iff c a .nil p) (P := fun o => o = .nx e) (okW_eq (by rw [ev_iff_f h, ev_nil]) rfl) (ss := ss) (Q := Q) (by
    rintro o rfl
    rw [goOn_nx]
    exact hs)
  rw [Nat.zero_add] at z
  exact z
theorem k_iffr {cl : Nat → List Wd → Comp FR} {wf b : Nat} {c a : Ee} {p p2 : Pos} {d ss : Sms} {e : En} {w : Wd} {Q : Ou → Prop} (h : TC.dB (c.ev cl e) = .ret true) (h2 : a.ev cl e = .ret w) (hs : Q (.rt (.fz w))) : ((Sms.cons (.iff c (.cons (.ret a p2) .nil) d p) ss).ev cl wf e).okW b Q nEx := by
  have z := okW_cons (cl := cl) (wf := wf) (b := 0) (b2 := b) (s := .iff c (.cons (.ret a p2) .nil) d p) (P := fun o => o = .rt (.fz w)) (okW_eq (by
    rw [ev_iff_t h, ev_cons, Sm.ev, h2]
    rfl) rfl) (ss := ss) (Q := Q) (by
    rintro o rfl
    rw [goOn_rt]
    exact Comp.okW_ret hs)
  rw [Nat.zero_add] at z
  exact z
theorem k_end {cl : Nat → List Wd → Comp FR} {wf b : Nat} {e : En} {Q : Ou → Prop} (h : Q (.nx e)) : (Sms.nil.ev cl wf e).okW b Q nEx := okW_eq (by rw [ev_nil]) h
/-- a guard that is passed -/
theorem okW_pass {cl : Nat → List Wd → Comp FR} {wf : Nat} {c : Ee} {a : Sms} {p : Pos} {ss : Sms} {e : En} {Q : Ou → Prop} (h : TC.dB (c.ev cl e) = .ret false) (hs : (ss.ev cl wf e).okW 0 Q nEx) : ((Sms.cons (.iff c a .nil p) ss).ev cl wf e).okW 0 Q nEx := by
  refine okW_cons (b := 0) (b2 := 0) (P := fun o => o = .nx e) (okW_eq (by rw [ev_iff_f h, ev_nil]) rfl) ?_
  rintro o rfl
  rw [goOn_nx]
  exact hs
/-- a function's answer, by its body -/
theorem clF_eq {fns : List Fd} {f : Fd} {j : Nat} {ws : List Wd} {r : FR} (h : fns[fns.length - 1 - j]? = some f) (hj : j < fns.length) (hw : ws.length = f.np) (hb : (f.body.ev (tlC fns j) 100 (startE f.N.length ws)).okW 0 (fun o => o = .rt r) nEx) : clF fns j ws = .ret r := by
  have kw : (f.run 100 (tlC fns j) ws).okW 0 (fun o => o = r) nEx := okW_run hw (Comp.okW_mono hb (Nat.le_refl _) (fun o ho => by
    rw [ho]
    exact Comp.okW_ret rfl) fun _ h => h)
  rw [clF_at h hj]
  obtain ⟨a, e, rfl⟩ := okW_zero kw
  exact e
theorem clF_nx {fns : List Fd} {f : Fd} {j : Nat} {ws : List Wd} (h : fns[fns.length - 1 - j]? = some f) (hj : j < fns.length) (hw : ws.length = f.np) (hb : (f.body.ev (tlC fns j) 100 (startE f.N.length ws)).okW 0 (fun o => ∃ e, o = .nx e) nEx) : clF fns j ws = .ret (.fz (.d .none)) := by
  have kw : (f.run 100 (tlC fns j) ws).okW 0 (fun o => o = .fz (.d .none)) nEx := okW_run hw (Comp.okW_mono hb (Nat.le_refl _) (fun o ho => by
    obtain ⟨e, rfl⟩ := ho
    exact Comp.okW_ret rfl) fun _ h => h)
  rw [clF_at h hj]
  obtain ⟨a, e, rfl⟩ := okW_zero kw
  exact e
/-- .. with draws -/
theorem clF_ok {fns : List Fd} {f : Fd} {j : Nat} {ws : List Wd} {b : Nat} {P : FR → Prop} (h : fns[fns.length - 1 - j]? = some f) (hj : j < fns.length) (hw : ws.length = f.np) (hb : (f.body.ev (tlC fns j) 100 (startE f.N.length ws)).okW b (fun o => (endC o).okW 0 P nEx) nEx) : (clF fns j ws).okW b P nEx := by
  rw [clF_at h hj]
  exact okW_run hw hb
end TC

set_option Elab.async false
set_option linter.all false
set_option maxRecDepth 100000
set_option maxHeartbeats 4000000
/-! more rules for plain laws: what is drawn within statements -/
namespace TC
open PySem
@[simp] theorem Comp.bindA {α β γ : Type} {f : α → Comp β} {g : β → Comp γ} : ∀ {c : Comp α}, (c.bind f).bind g = c.bind fun a => (f a).bind g
  | .ret _ => rfl
  | .raise _ => rfl
  | .stuck => rfl
  | .draw n k => congrArg (Comp.draw n) (funext fun r => Comp.bindA (c := k r))
theorem Comp.bind_tie {α β γ : Type} {f : α → Comp β} {g : Exn → Comp γ} {h : β → Comp γ} : ∀ {c : Comp α}, (c.bind f).tie g h = c.tie g fun a => (f a).tie g h
  | .ret _ => rfl
  | .raise _ => rfl
  | .stuck => rfl
  | .draw n k => congrArg (Comp.draw n) (funext fun r => Comp.bind_tie (c := k r))
theorem Comp.tie_bind {α β γ : Type} {f : α → Comp β} {g : Exn → Comp β} {h : β → Comp γ} : ∀ {c : Comp α}, (c.tie g f).bind h = c.tie (fun x => (g x).bind h) fun a => (f a).bind h
  | .ret _ => rfl
  | .raise _ => rfl
  | .stuck => rfl
  | .draw n k => congrArg (Comp.draw n) (funext fun r => Comp.tie_bind (c := k r))

section
variable {α β : Type} {c : Comp α}
@[simp] theorem sdD_bind {f : α → Comp Wd} : dD (c.bind f) = c.bind fun a => dD (f a) := Comp.bindA
@[simp] theorem sdB_bind {f : α → Comp Wd} : dB (c.bind f) = c.bind fun a => dB (f a) := Comp.bindA
@[simp] theorem sdI_bind {f : α → Comp Wd} : dI (c.bind f) = c.bind fun a => dI (f a) := Comp.bindA
@[simp] theorem sretD_bind {f : α → CP} : retD (c.bind f) = c.bind fun a => retD (f a) := Comp.bindA
@[simp] theorem sretB_bind {f : α → Comp Bool} : retB (c.bind f) = c.bind fun a => retB (f a) := Comp.bindA
@[simp] theorem sexO_bind {f : α → Comp β} {e : En} {g : β → Comp Ou} : exO e (c.bind f) g = c.tie (fun x => .ret (.ex x e)) fun a => exO e (f a) g := Comp.bind_tie
end
theorem okW_le {α : Type} {c : Comp α} {b b' : Nat} {P : α → Prop} {E : Exn → Prop} (h : b ≤ b') (hk : c.okW b P E) : c.okW b' P E := Comp.okW_mono hk h (fun _ z => z) fun _ z => z
section
variable {cl : Nat → List Wd → Comp FR} {wf i b b2 : Nat} {x : Str} {px p : Pos} {a c : Ee} {ss s1 s2 : Sms} {e : En} {Q : Ou → Prop}
theorem k_asgW {P : Wd → Prop} (h : (a.ev cl e).okW b P nEx) (hs : ∀ w, P w → (ss.ev cl wf (e.set i (.fz w))).okW b2 Q nEx) : ((Sms.cons (.asg i x px a p) ss).ev cl wf e).okW (b + b2) Q nEx := by
  refine okW_cons (b := b) (b2 := b2) (P := fun o => ∃ w, P w ∧ o = .nx (e.set i (.fz w))) ?_ ?_
  · rw [Sm.ev]
    exact okW_exO (b := b) (b2 := 0) h fun w hw => Comp.okW_ret ⟨w, hw, rfl⟩
  · rintro o ⟨w, hw, rfl⟩
    rw [goOn_nx]
    exact hs w hw
theorem k_asgFW {f : Ef} {P : List PyData → Prop} (h : (f.ev cl e).okW b P nEx) (hs : ∀ w, P w → (ss.ev cl wf (e.set i (.ow w))).okW b2 Q nEx) : ((Sms.cons (.asgF i x px f p) ss).ev cl wf e).okW (b + b2) Q nEx := by
  refine okW_cons (b := b) (b2 := b2) (P := fun o => ∃ w, P w ∧ o = .nx (e.set i (.ow w))) ?_ ?_
  · rw [Sm.ev]
    exact okW_exO (b := b) (b2 := 0) h fun w hw => Comp.okW_ret ⟨w, hw, rfl⟩
  · rintro o ⟨w, hw, rfl⟩
    rw [goOn_nx]
    exact hs w hw
theorem k_retW (h : (a.ev cl e).okW b (fun w => Q (.rt (.fz w))) nEx) : ((Sms.cons (.ret a p) ss).ev cl wf e).okW b Q nEx := by
  have z := okW_cons (cl := cl) (wf := wf) (e := e) (b := b) (b2 := 0) (s := .ret a p) (ss := ss) (Q := Q) (P := fun o => ∃ w, o = .rt (.fz w) ∧ Q o) (by
    rw [Sm.ev]
    exact okW_exO (b := b) (b2 := 0) h fun w hw => Comp.okW_ret ⟨w, rfl, hw⟩) (by
    rintro o ⟨w, rfl, hw⟩
    rw [goOn_rt]
    exact Comp.okW_ret hw)
  exact z
/-- a guard with draws: a return within -/
theorem k_iffW {P : Bool → Prop} (h : (TC.dB (c.ev cl e)).okW b P nEx) (h1 : P true → ((Sms.cons (.ret a px) s1).ev cl wf e).okW b2 (fun o => Q o ∧ ∃ r, o = .rt r) nEx) (h2 : P false → (ss.ev cl wf e).okW b2 Q nEx) : ((Sms.cons (.iff c (.cons (.ret a px) s1) .nil p) ss).ev cl wf e).okW (b + b2) Q nEx := by
  rw [ev_cons, Sm.ev]
  unfold exO
  rw [Comp.tie_bind]
  refine Comp.okW_tie (b := b) (b2 := b2) h (fun t ht => ?_) fun _ z => z.elim
  cases t with
  | true =>
    rw [if_pos rfl]
    have z := Comp.okW_bind (b := b2) (b2 := 0) (h1 ht) (f := goOn (ss.ev cl wf)) (Q := Q) (fun o ⟨q, r, e⟩ => by
      subst e
      rw [goOn_rt]
      exact Comp.okW_ret q)
    exact z
  | false =>
    rw [if_neg (by simp), ev_nil, sbind_ret, goOn_nx]
    exact h2 ht
/-- a whole statement's end is known -/
theorem k_st {s : Sm} {o : Ou} (h : s.ev cl wf e = .ret o) (hs : (goOn (ss.ev cl wf) o).okW b Q nEx) : ((Sms.cons s ss).ev cl wf e).okW b Q nEx := by
  rw [ev_cons, h, sbind_ret]
  exact hs
theorem k_stW {s : Sm} {P : Ou → Prop} (h : (s.ev cl wf e).okW b P nEx) (hs : ∀ o, P o → (goOn (ss.ev cl wf) o).okW b2 Q nEx) : ((Sms.cons s ss).ev cl wf e).okW (b + b2) Q nEx := okW_cons h hs
theorem k_stN {s : Sm} {e2 : En} (h : s.ev cl wf e = .ret (.nx e2)) (hs : (ss.ev cl wf e2).okW b Q nEx) : ((Sms.cons s ss).ev cl wf e).okW b Q nEx := by
  rw [ev_cons, h, sbind_ret, goOn_nx]
  exact hs
end
/-- a drawn call whose answer is a value -/
theorem okW_call {cl : Nat → List Wd → Comp FR} {j : Nat} {ws : List Wd} {b b2 : Nat} {P : PyData → Prop} {α : Type} {f : FR → Comp α} {Q : α → Prop} (h : (cl j ws).okW b (fun r => ∃ d, r = .fz (.d d) ∧ P d) nEx) (m : ∀ d, P d → (f (.fz (.d d))).okW b2 Q nEx) : ((cl j ws).bind f).okW (b + b2) Q nEx :=
  Comp.okW_bind h (by
    rintro r ⟨d, rfl, hd⟩
    exact m d hd)
/-- what is asked of one number within bounds, in all laws -/
def isWh : PyData → Int → Int → Bool
  | .int i, lo, hi => decide (lo ≤ i) && decide (i ≤ hi)
  | _, _, _ => false
theorem mapC_all {α : Type} {f : PyData → Comp (Option PyData)} {g : α → PyData} {u : α → PyData} : ∀ {l : List α}, (∀ a, f (u a) = .ret (some (g a))) → mapC f (l.map u) = .ret (l.map g)
  | [], _ => rfl
  | a :: l, h => by
    rw [List.map_cons, mapC, h a, mapC_all h]
    rfl
theorem mapC_id {f : PyData → Comp (Option PyData)} {g : PyData → PyData} : ∀ {l : List PyData}, (∀ a ∈ l, f a = .ret (some (g a))) → mapC f l = .ret (l.map g)
  | [], _ => rfl
  | a :: l, h => by
    rw [mapC, h a (List.mem_cons_self ..), mapC_id fun b hb => h b (List.mem_cons_of_mem _ hb)]
    rfl
/-- some are taken -/
theorem mapC_flt {f : PyData → Comp (Option PyData)} {p : PyData → Bool} {g : PyData → PyData} : ∀ {l : List PyData}, (∀ a ∈ l, f a = .ret (if p a = true then some (g a) else none)) → mapC f l = .ret ((l.filter p).map g)
  | [], _ => rfl
  | a :: l, h => by
    rw [mapC, h a (List.mem_cons_self ..), mapC_flt fun b hb => h b (List.mem_cons_of_mem _ hb)]
    cases hp : p a with
    | true => simp [hp, consO]
    | false => simp [hp, consO]
theorem bools_all {g : PyData → Bool} {l : List PyData} : f1E .all (.list (l.map fun a => .bool (g a))) = .ret (.bool (l.all g)) := by
  have e : f1E .all (.list (l.map fun a => .bool (g a))) = match boolsP (l.map fun a => .bool (g a)) with | some bs => .ret (.bool (bs.all id)) | none => .stuck := rfl
  rw [e, bools_map]
  simp only [List.all_map]
  rfl
theorem eqE_lnil {xs : List PyData} : eqE (.list xs) (.list []) = .ret xs.isEmpty := by
  unfold eqE
  simp only
  split
  · cases xs <;> simp [PyData.eqv, PyData.eqvAll]
  · rfl
theorem eqE_tnil {xs : List PyData} : eqE (.tuple xs) (.tuple []) = .ret xs.isEmpty := by
  unfold eqE
  simp only
  split
  · cases xs <;> simp [PyData.eqv, PyData.eqvAll]
  · rfl
/-- data beside the same -/
theorem eqE_self {d : PyData} (h : SeqAt.shaped d = true) (h2 : PyData.eqv d d = true) : eqE d d = .ret true := by
  rw [eqE_shp h h, h2]
end TC
namespace TC
open PySem
/-! ### things bent at any depth -/
/-- at most so long, at most so deep -/
def Bd (n : Nat) : Nat → PyData → Prop
  | 0, x => isiE .tuple x = false
  | d + 1, x => ∀ xs, x = .tuple xs → xs.length ≤ n ∧ ∀ y ∈ xs, Bd n d y
theorem Bd.nt {n : Nat} {x : PyData} (h : isiE .tuple x = false) : ∀ {d : Nat}, Bd n d x
  | 0 => h
  | d + 1 => fun xs e => by
    subst e
    cases h
theorem Bd.tup {n d : Nat} {xs : List PyData} (h1 : xs.length ≤ n) (h2 : ∀ y ∈ xs, Bd n d y) : Bd n (d + 1) (.tuple xs) := fun ys e => by
  injection e with e
  subst e
  exact ⟨h1, h2⟩
theorem Bd.mono {n n' : Nat} (hn : n ≤ n') : ∀ {d d' : Nat} {x : PyData}, Bd n d x → d ≤ d' → Bd n' d' x
  | 0, _, _, h, _ => Bd.nt h
  | d + 1, 0, _, _, hd => by omega
  | d + 1, d' + 1, x, h, hd => fun xs e => ⟨Nat.le_trans (h xs e).1 hn, fun y hy => Bd.mono hn ((h xs e).2 y hy) (by omega)⟩
theorem cutT {xs : List PyData} {k : Int} (h : 0 ≤ k) : slcE (.tuple xs) none (some k) = .ret (.tuple (xs.take k.toNat)) := by
  have e : slcE (.tuple xs) none (some k) = .ret (.tuple (cutP xs none (some k))) := rfl
  have z := cut_take (xs := xs) (k := k.toNat)
  rw [show ((k.toNat : Nat) : Int) = k by omega] at z
  rw [e, z]
theorem cutD {xs : List PyData} {k : Int} (h : 0 ≤ k) : slcE (.tuple xs) (some k) none = .ret (.tuple (xs.drop k.toNat)) := by
  have e : slcE (.tuple xs) (some k) none = .ret (.tuple (cutP xs (some k) none)) := rfl
  have z := cut_drop (xs := xs) (k := k.toNat)
  rw [show ((k.toNat : Nat) : Int) = k by omega] at z
  rw [e, z]
theorem addT {xs ys : List PyData} (h : xs.length + ys.length ≤ LIM) : binE .add (.tuple xs) (.tuple ys) = .ret (.tuple (xs ++ ys)) := by
  have e : binE .add (.tuple xs) (.tuple ys) = okB (decide (xs.length + ys.length ≤ LIM)) (.tuple (xs ++ ys)) := rfl
  rw [e, decide_eq_true h]
  rfl
theorem isiT2 {xs : List PyData} : isiE .tuple (.tuple xs) = true := rfl
theorem idxT {xs : List PyData} {k : Int} (h : 0 ≤ k) (h2 : k < (xs.length : Int)) : ∃ y, y ∈ xs ∧ xs[k.toNat]? = some y ∧ idxE (.tuple xs) (.int k) = .ret y := by
  have hs : k.toNat < xs.length := by omega
  refine ⟨xs[k.toNat]'hs, List.getElem_mem _, List.getElem?_eq_getElem hs, idx_T ?_⟩
  unfold L2.atI L2.ixN
  rw [if_pos (by omega), if_pos (by omega)]
  exact List.getElem?_eq_getElem hs
/-- one of some things, drawn -/
def ofB (q1 q2 q3 q4 q5 q6 q7 q8 q9 : Pos) (m s nx : Str) : Sms := .cons (.ret (.idx (.ex (.var 1 s q1)) (.drw nx q2 (.var 0 m q3) (.f1 .len q4 (.ex (.var 1 s q5)) q6) q7) q8) q9) .nil
theorem of_ok {cl : Nat → List Wd → Comp FR} {q1 q2 q3 q4 q5 q6 q7 q8 q9 : Pos} {m s nx : Str} {xs : List PyData} (hl : xs.length ≤ 1000) (hn : 0 < xs.length) : ((ofB q1 q2 q3 q4 q5 q6 q7 q8 q9 m s nx).ev cl 100 [.fz .rng, .fz (.d (.list xs))]).okW 1 (fun o => (endC o).okW 0 (fun r => ∃ x, r = .fz (.d x) ∧ x ∈ xs) nEx) nEx := by
  obtain ⟨N, hN⟩ : ∃ N : Int, N = xs.length := ⟨_, rfl⟩
  have hlen : f1E .len (.list xs) = .ret (.int N) := by rw [slen_list, hN]
  unfold ofB
  generalize hQ : (fun o : Ou => (endC o).okW 0 (fun r => ∃ x, r = .fz (.d x) ∧ x ∈ xs) nEx) = Q
  simp [hlen, -slen_list]
  refine Comp.okW_draw (b := 0) (by omega) (by omega) fun r r0 r1 => ?_
  have hs : r.toNat < xs.length := by omega
  have i1 : idxE (.list xs) (.int r) = .ret (xs[r.toNat]'hs) := by
    refine idx_L ?_
    unfold L2.atI L2.ixN
    rw [if_pos (by omega), if_pos (by omega)]
    exact List.getElem?_eq_getElem hs
  simp [i1]
  subst hQ
  exact Comp.okW_ret (Comp.okW_ret ⟨_, rfl, List.getElem_mem _⟩)
end TC
namespace TC
open PySem
/-! ### answers by computation -/
mutual
def smeB : PyData → PyData → Bool
  | .none, .none => true
  | .bool a, .bool b => decide (a = b)
  | .int a, .int b => decide (a = b)
  | .str a, .str b => decide (a = b)
  | .list xs, .list ys => smeL xs ys
  | .tuple xs, .tuple ys => smeL xs ys
  | .dict [], .dict [] => true
  | _, _ => false
def smeL : List PyData → List PyData → Bool
  | [], [] => true
  | x :: xs, y :: ys => smeB x y && smeL xs ys
  | _, _ => false
end
mutual
theorem smeB_ok : ∀ {d e : PyData}, smeB d e = true → d = e
  | .none, e, h => by
    cases e <;> first | rfl | cases h
  | .bool a, e, h => by
    cases e with
    | bool b => rw [of_decide_eq_true (show decide (a = b) = true from h)]
    | _ => cases h
  | .int a, e, h => by
    cases e with
    | int b => rw [of_decide_eq_true (show decide (a = b) = true from h)]
    | _ => cases h
  | .str a, e, h => by
    cases e with
    | str b => rw [of_decide_eq_true (show decide (a = b) = true from h)]
    | _ => cases h
  | .list xs, e, h => by
    cases e with
    | list ys => rw [smeL_ok (show smeL xs ys = true from h)]
    | _ => cases h
  | .tuple xs, e, h => by
    cases e with
    | tuple ys => rw [smeL_ok (show smeL xs ys = true from h)]
    | _ => cases h
  | .dict kvs, e, h => by
    cases e with
    | dict ys =>
      cases kvs with
      | nil =>
        cases ys with
        | nil => rfl
        | cons _ _ => cases h
      | cons _ _ => cases h
    | _ => cases kvs <;> cases h
theorem smeL_ok : ∀ {xs ys : List PyData}, smeL xs ys = true → xs = ys
  | [], ys, h => by
    cases ys with
    | nil => rfl
    | cons _ _ => cases h
  | x :: xs, ys, h => by
    cases ys with
    | nil => cases h
    | cons y ys =>
      have h : (smeB x y && smeL xs ys) = true := h
      rw [Bool.and_eq_true] at h
      rw [smeB_ok h.1, smeL_ok h.2]
end
def isR (c : Comp FR) (d : PyData) : Bool := match c with
  | .ret (.fz (.d e)) => smeB e d
  | _ => false
theorem isR_ok {c : Comp FR} {d : PyData} (h : isR c d = true) : c = .ret (.fz (.d d)) := by
  unfold isR at h
  split at h
  · rw [smeB_ok h]
  · cases h
def isO' (c : Comp FR) (ds : List PyData) : Bool := match c with
  | .ret (.ow es) => smeL es ds
  | _ => false
theorem isO'_ok {c : Comp FR} {ds : List PyData} (h : isO' c ds = true) : c = .ret (.ow ds) := by
  unfold isO' at h
  split at h
  · rw [smeL_ok h]
  · cases h
def isX (c : Comp FR) (k : Nat) (d : PyData) : Bool := match c with
  | .raise ⟨j, e⟩ => decide (j = k) && smeB e d
  | _ => false
theorem isX_ok {c : Comp FR} {k : Nat} {d : PyData} (h : isX c k d = true) : c = .raise ⟨k, d⟩ := by
  unfold isX at h
  split at h
  · rw [Bool.and_eq_true] at h
    rw [smeB_ok h.2, of_decide_eq_true h.1]
  · cases h
end TC

set_option maxRecDepth 100000
set_option maxHeartbeats 4000000
namespace Tk90
open PySem TC
def top (i : Nat) : Stmt := PySem.Challenge.pw_twoclocks_k90_texts_refused.main.body.getD i (.Pass ⟨0, 0, 0, 0⟩)
abbrev dB (i : Nat) : List Stmt := L2.defBody (top i)
def f0 : Fd := ⟨"_law_queue", ["_law_m", "_law_depth_so"], 1, .cons (.asg 1 "_law_depth_so" ⟨132, 4, 132, 17⟩ (.bin .add (.int 1 0 ⟨132, 20, 132, 21⟩) (.drw "_law_next" ⟨132, 24, 132, 33⟩ (.var 0 "_law_m" ⟨132, 34, 132, 40⟩) (.int 64 0 ⟨132, 42, 132, 44⟩) ⟨132, 24, 132, 45⟩) ⟨132, 20, 132, 45⟩) ⟨132, 4, 132, 45⟩) (.cons (.ret (.tup (.cons (.var 1 "_law_depth_so" ⟨133, 12, 133, 25⟩) (.cons (.bin .add (.int 2 0 ⟨133, 27, 133, 28⟩) (.drw "_law_next" ⟨133, 31, 133, 40⟩ (.var 0 "_law_m" ⟨133, 41, 133, 47⟩) (.int 199 0 ⟨133, 49, 133, 52⟩) ⟨133, 31, 133, 53⟩) ⟨133, 27, 133, 53⟩) (.cons (.bin .add (.int 1 0 ⟨133, 55, 133, 56⟩) (.drw "_law_next" ⟨133, 59, 133, 68⟩ (.var 0 "_law_m" ⟨133, 69, 133, 75⟩) (.int 64 0 ⟨133, 77, 133, 79⟩) ⟨133, 59, 133, 80⟩) ⟨133, 55, 133, 80⟩) (.cons (.bin .add (.int 1 0 ⟨133, 82, 133, 83⟩) (.drw "_law_next" ⟨133, 86, 133, 95⟩ (.var 0 "_law_m" ⟨133, 96, 133, 102⟩) (.int 4 0 ⟨133, 104, 133, 105⟩) ⟨133, 86, 133, 106⟩) ⟨133, 82, 133, 106⟩) (.cons (.drw "_law_next" ⟨133, 108, 133, 117⟩ (.var 0 "_law_m" ⟨133, 118, 133, 124⟩) (.int 4 0 ⟨133, 126, 133, 127⟩) ⟨133, 108, 133, 128⟩) .nil))))) 0 ⟨133, 11, 133, 129⟩) ⟨133, 4, 133, 129⟩) (.nil)), false, false⟩
def f1 : Fd := ⟨"_law_stream", ["_law_m", "_law_writer_so", "_law_reader_so", "_law_phase_so"], 1, .cons (.par 1 "_law_writer_so" ⟨135, 4, 135, 18⟩ 2 "_law_reader_so" ⟨135, 20, 135, 34⟩ (.ex (.bin .add (.int 1 0 ⟨135, 38, 135, 39⟩) (.drw "_law_next" ⟨135, 42, 135, 51⟩ (.var 0 "_law_m" ⟨135, 52, 135, 58⟩) (.int 30 0 ⟨135, 60, 135, 62⟩) ⟨135, 42, 135, 63⟩) ⟨135, 38, 135, 63⟩)) (.ex (.bin .add (.int 1 0 ⟨135, 65, 135, 66⟩) (.drw "_law_next" ⟨135, 69, 135, 78⟩ (.var 0 "_law_m" ⟨135, 79, 135, 85⟩) (.int 30 0 ⟨135, 87, 135, 89⟩) ⟨135, 69, 135, 90⟩) ⟨135, 65, 135, 90⟩)) 0 ⟨135, 4, 135, 34⟩ 0 ⟨135, 37, 135, 91⟩ ⟨135, 4, 135, 91⟩) (.cons (.asg 3 "_law_phase_so" ⟨136, 4, 136, 17⟩ (.drw "_law_next" ⟨136, 20, 136, 29⟩ (.var 0 "_law_m" ⟨136, 30, 136, 36⟩) (.var 2 "_law_reader_so" ⟨136, 38, 136, 52⟩) ⟨136, 20, 136, 53⟩) ⟨136, 4, 136, 53⟩) (.cons (.ret (.tup (.cons (.call 0 "_law_queue" ⟨137, 12, 137, 22⟩ (.cons (.var 0 "_law_m" ⟨137, 23, 137, 29⟩) .nil) ⟨137, 12, 137, 30⟩) (.cons (.var 1 "_law_writer_so" ⟨137, 32, 137, 46⟩) (.cons (.var 2 "_law_reader_so" ⟨137, 48, 137, 62⟩) (.cons (.var 3 "_law_phase_so" ⟨137, 64, 137, 77⟩) (.cons (.drw "_law_next" ⟨137, 79, 137, 88⟩ (.var 0 "_law_m" ⟨137, 89, 137, 95⟩) (.int 2 0 ⟨137, 97, 137, 98⟩) ⟨137, 79, 137, 99⟩) (.cons (.drw "_law_next" ⟨137, 101, 137, 110⟩ (.var 0 "_law_m" ⟨137, 111, 137, 117⟩) (.int 2 0 ⟨137, 119, 137, 120⟩) ⟨137, 101, 137, 121⟩) .nil)))))) 0 ⟨137, 11, 137, 122⟩) ⟨137, 4, 137, 122⟩) (.nil))), false, false⟩
def f2 : Fd := ⟨"_law_heard", ["_law_call", "_law_caught", "e"], 1, .cons (.asg 1 "_law_caught" ⟨161, 4, 161, 15⟩ (.non 0 ⟨161, 18, 161, 22⟩) ⟨161, 4, 161, 22⟩) (.cons (.tr (.cons (.cap 0 "_law_call" ⟨163, 8, 163, 17⟩ ⟨163, 8, 163, 19⟩ none ⟨163, 8, 163, 19⟩) (.nil)) (.many [(0, "BadQueue", ⟨164, 12, 164, 20⟩), (1, "BadStream", ⟨164, 22, 164, 31⟩), (2, "BadText", ⟨164, 33, 164, 40⟩), (3, "OutOfPlace", ⟨164, 42, 164, 52⟩)] 0 ⟨164, 11, 164, 53⟩ (.keep 2 "e" 1 "_law_caught" ⟨165, 8, 165, 19⟩ ⟨165, 22, 165, 23⟩ ⟨165, 8, 165, 23⟩) ⟨164, 4, 165, 23⟩ (.nil)) ⟨162, 4, 165, 23⟩) (.cons (.iff (.isn false (.var 1 "_law_caught" ⟨166, 7, 166, 18⟩) 0 ⟨166, 22, 166, 26⟩ ⟨166, 7, 166, 26⟩) (.cons (.retF (.lst (.cons (.str "told" 0 ⟨167, 16, 167, 22⟩) .nil) ⟨167, 15, 167, 23⟩) ⟨167, 8, 167, 23⟩) (.nil)) (.nil) ⟨166, 4, 167, 23⟩) (.cons (.iff (.isx ⟨168, 7, 168, 17⟩ (.var 1 "_law_caught" ⟨168, 18, 168, 29⟩) 0 "BadQueue" ⟨168, 31, 168, 39⟩ ⟨168, 7, 168, 40⟩) (.cons (.retF (.lst (.cons (.str "queue" 0 ⟨169, 16, 169, 23⟩) (.cons (.efl (.var 1 "_law_caught" ⟨169, 25, 169, 36⟩) "part" [0, 1] ⟨169, 25, 169, 41⟩) .nil)) ⟨169, 15, 169, 42⟩) ⟨169, 8, 169, 42⟩) (.nil)) (.nil) ⟨168, 4, 169, 42⟩) (.cons (.iff (.isx ⟨170, 7, 170, 17⟩ (.var 1 "_law_caught" ⟨170, 18, 170, 29⟩) 1 "BadStream" ⟨170, 31, 170, 40⟩ ⟨170, 7, 170, 41⟩) (.cons (.retF (.lst (.cons (.str "stream" 0 ⟨171, 16, 171, 24⟩) (.cons (.efl (.var 1 "_law_caught" ⟨171, 26, 171, 37⟩) "part" [0, 1] ⟨171, 26, 171, 42⟩) .nil)) ⟨171, 15, 171, 43⟩) ⟨171, 8, 171, 43⟩) (.nil)) (.nil) ⟨170, 4, 171, 43⟩) (.cons (.ret (.ife (.isx ⟨172, 41, 172, 51⟩ (.var 1 "_law_caught" ⟨172, 52, 172, 63⟩) 2 "BadText" ⟨172, 65, 172, 72⟩ ⟨172, 41, 172, 73⟩) (.frz (.lst (.cons (.str "text" 0 ⟨172, 12, 172, 18⟩) (.cons (.efl (.var 1 "_law_caught" ⟨172, 20, 172, 31⟩) "line" [2] ⟨172, 20, 172, 36⟩) .nil)) ⟨172, 11, 172, 37⟩)) (.frz (.lst (.cons (.str "other" 0 ⟨172, 80, 172, 87⟩) .nil) ⟨172, 79, 172, 88⟩)) ⟨172, 11, 172, 88⟩) ⟨172, 4, 172, 88⟩) (.nil)))))), false, true⟩
def f3 : Fd := ⟨"_law_of", ["_law_m", "_law_some"], 2, .cons (.ret (.idx (.ex (.var 1 "_law_some" ⟨130, 11, 130, 20⟩)) (.drw "_law_next" ⟨130, 21, 130, 30⟩ (.var 0 "_law_m" ⟨130, 31, 130, 37⟩) (.f1 .len ⟨130, 39, 130, 42⟩ (.ex (.var 1 "_law_some" ⟨130, 43, 130, 52⟩)) ⟨130, 39, 130, 53⟩) ⟨130, 21, 130, 54⟩) ⟨130, 11, 130, 55⟩) ⟨130, 4, 130, 55⟩) (.nil), false, false⟩
def f4 : Fd := ⟨"_law_odd", ["_law_m", "_law_some"], 1, .cons (.asg 1 "_law_some" ⟨174, 4, 174, 13⟩ (.frz (.lst (.cons (.non 0 ⟨174, 17, 174, 21⟩) (.cons (.int 0 0 ⟨174, 23, 174, 24⟩) (.cons (.int 1 0 ⟨174, 26, 174, 27⟩) (.cons (.neg (.int 1 0 ⟨174, 30, 174, 31⟩) ⟨174, 29, 174, 31⟩) (.cons (.int 2 0 ⟨174, 33, 174, 34⟩) (.cons (.int 4 0 ⟨174, 36, 174, 37⟩) (.cons (.int 5 0 ⟨174, 39, 174, 40⟩) (.cons (.int 30 0 ⟨174, 42, 174, 44⟩) (.cons (.int 31 0 ⟨174, 46, 174, 48⟩) (.cons (.int 64 0 ⟨174, 50, 174, 52⟩) (.cons (.int 65 0 ⟨174, 54, 174, 56⟩) (.cons (.int 200 0 ⟨174, 58, 174, 61⟩) (.cons (.int 201 0 ⟨174, 63, 174, 66⟩) (.cons (.bl true 0 ⟨174, 68, 174, 72⟩) (.cons (.bl false 0 ⟨174, 74, 174, 79⟩) (.cons (.str "" 0 ⟨174, 81, 174, 83⟩) (.cons (.str "0" 0 ⟨174, 85, 174, 88⟩) (.cons (.tup .nil 0 ⟨174, 90, 174, 92⟩) (.cons (.frz (.lst .nil ⟨174, 94, 174, 96⟩)) (.cons (.dic ⟨174, 98, 174, 100⟩) (.cons (.tup (.cons (.int 0 0 ⟨174, 103, 174, 104⟩) .nil) 0 ⟨174, 102, 174, 106⟩) .nil))))))))))))))))))))) ⟨174, 16, 174, 107⟩)) ⟨174, 4, 174, 107⟩) (.cons (.asg 1 "_law_some" ⟨175, 4, 175, 13⟩ (.frz (.cat (.ex (.var 1 "_law_some" ⟨175, 16, 175, 25⟩)) (.ex (.frz (.lst (.cons (.tup (.cons (.int 1 0 ⟨175, 30, 175, 31⟩) (.cons (.int 2 0 ⟨175, 33, 175, 34⟩) (.cons (.int 1 0 ⟨175, 36, 175, 37⟩) (.cons (.int 1 0 ⟨175, 39, 175, 40⟩) (.cons (.int 0 0 ⟨175, 42, 175, 43⟩) .nil))))) 0 ⟨175, 29, 175, 44⟩) (.cons (.frz (.lst (.cons (.int 1 0 ⟨175, 47, 175, 48⟩) (.cons (.int 2 0 ⟨175, 50, 175, 51⟩) (.cons (.int 1 0 ⟨175, 53, 175, 54⟩) (.cons (.int 1 0 ⟨175, 56, 175, 57⟩) (.cons (.int 0 0 ⟨175, 59, 175, 60⟩) .nil))))) ⟨175, 46, 175, 61⟩)) (.cons (.tup (.cons (.int 1 0 ⟨175, 64, 175, 65⟩) (.cons (.int 2 0 ⟨175, 67, 175, 68⟩) (.cons (.int 1 0 ⟨175, 70, 175, 71⟩) (.cons (.int 1 0 ⟨175, 73, 175, 74⟩) .nil)))) 0 ⟨175, 63, 175, 75⟩) (.cons (.tup (.cons (.int 1 0 ⟨175, 78, 175, 79⟩) (.cons (.int 2 0 ⟨175, 81, 175, 82⟩) (.cons (.int 1 0 ⟨175, 84, 175, 85⟩) (.cons (.int 1 0 ⟨175, 87, 175, 88⟩) (.cons (.bl true 0 ⟨175, 90, 175, 94⟩) .nil))))) 0 ⟨175, 77, 175, 95⟩) (.cons (.bin .pow (.int 10 0 ⟨175, 97, 175, 99⟩) (.int 30 0 ⟨175, 103, 175, 105⟩) ⟨175, 97, 175, 105⟩) (.cons (.bin .mul (.tup (.cons (.non 0 ⟨175, 108, 175, 112⟩) .nil) 0 ⟨175, 107, 175, 114⟩) (.int 6 0 ⟨175, 117, 175, 118⟩) ⟨175, 107, 175, 118⟩) .nil)))))) ⟨175, 28, 175, 119⟩))) ⟨175, 16, 175, 119⟩)) ⟨175, 4, 175, 119⟩) (.cons (.ret (.call 3 "_law_of" ⟨176, 11, 176, 18⟩ (.cons (.var 0 "_law_m" ⟨176, 19, 176, 25⟩) (.cons (.var 1 "_law_some" ⟨176, 27, 176, 36⟩) .nil)) ⟨176, 11, 176, 37⟩) ⟨176, 4, 176, 37⟩) (.nil))), false, false⟩
def f5 : Fd := ⟨"_law_bent", ["_law_m", "_law_thing", "_law_spot", "_law_way"], 2, .cons (.iff (.orr (.cons (.nt (.isi ⟨178, 11, 178, 21⟩ (.var 1 "_law_thing" ⟨178, 22, 178, 32⟩) .tuple ⟨178, 34, 178, 39⟩ ⟨178, 11, 178, 40⟩) ⟨178, 7, 178, 40⟩) (.cons (.cmp .eq (.ex (.var 1 "_law_thing" ⟨178, 44, 178, 54⟩)) (.ex (.tup .nil 0 ⟨178, 58, 178, 60⟩)) ⟨178, 44, 178, 60⟩) (.cons (.cmp .eq (.ex (.drw "_law_next" ⟨178, 64, 178, 73⟩ (.var 0 "_law_m" ⟨178, 74, 178, 80⟩) (.int 9 0 ⟨178, 82, 178, 83⟩) ⟨178, 64, 178, 84⟩)) (.ex (.int 0 0 ⟨178, 88, 178, 89⟩)) ⟨178, 64, 178, 89⟩) .nil))) ⟨178, 7, 178, 89⟩) (.cons (.ret (.call 4 "_law_odd" ⟨179, 15, 179, 23⟩ (.cons (.var 0 "_law_m" ⟨179, 24, 179, 30⟩) .nil) ⟨179, 15, 179, 31⟩) ⟨179, 8, 179, 31⟩) (.nil)) (.nil) ⟨178, 4, 179, 31⟩) (.cons (.par 2 "_law_spot" ⟨180, 4, 180, 13⟩ 3 "_law_way" ⟨180, 15, 180, 23⟩ (.ex (.drw "_law_next" ⟨180, 27, 180, 36⟩ (.var 0 "_law_m" ⟨180, 37, 180, 43⟩) (.f1 .len ⟨180, 45, 180, 48⟩ (.ex (.var 1 "_law_thing" ⟨180, 49, 180, 59⟩)) ⟨180, 45, 180, 60⟩) ⟨180, 27, 180, 61⟩)) (.ex (.drw "_law_next" ⟨180, 63, 180, 72⟩ (.var 0 "_law_m" ⟨180, 73, 180, 79⟩) (.int 9 0 ⟨180, 81, 180, 82⟩) ⟨180, 63, 180, 83⟩)) 0 ⟨180, 4, 180, 23⟩ 0 ⟨180, 26, 180, 84⟩ ⟨180, 4, 180, 84⟩) (.cons (.iff (.cmp .eq (.ex (.var 3 "_law_way" ⟨181, 7, 181, 15⟩)) (.ex (.int 0 0 ⟨181, 19, 181, 20⟩)) ⟨181, 7, 181, 20⟩) (.cons (.ret (.bin .add (.slc (.ex (.var 1 "_law_thing" ⟨182, 15, 182, 25⟩)) .no (.so (.var 2 "_law_spot" ⟨182, 27, 182, 36⟩)) ⟨182, 26, 182, 36⟩ ⟨182, 15, 182, 37⟩) (.slc (.ex (.var 1 "_law_thing" ⟨182, 40, 182, 50⟩)) (.so (.bin .add (.var 2 "_law_spot" ⟨182, 51, 182, 60⟩) (.int 1 0 ⟨182, 63, 182, 64⟩) ⟨182, 51, 182, 64⟩)) .no ⟨182, 51, 182, 65⟩ ⟨182, 40, 182, 66⟩) ⟨182, 15, 182, 66⟩) ⟨182, 8, 182, 66⟩) (.nil)) (.nil) ⟨181, 4, 182, 66⟩) (.cons (.iff (.cmp .eq (.ex (.var 3 "_law_way" ⟨183, 7, 183, 15⟩)) (.ex (.int 1 0 ⟨183, 19, 183, 20⟩)) ⟨183, 7, 183, 20⟩) (.cons (.ret (.bin .add (.bin .add (.slc (.ex (.var 1 "_law_thing" ⟨184, 15, 184, 25⟩)) .no (.so (.var 2 "_law_spot" ⟨184, 27, 184, 36⟩)) ⟨184, 26, 184, 36⟩ ⟨184, 15, 184, 37⟩) (.tup (.cons (.call 4 "_law_odd" ⟨184, 41, 184, 49⟩ (.cons (.var 0 "_law_m" ⟨184, 50, 184, 56⟩) .nil) ⟨184, 41, 184, 57⟩) .nil) 0 ⟨184, 40, 184, 59⟩) ⟨184, 15, 184, 59⟩) (.slc (.ex (.var 1 "_law_thing" ⟨184, 62, 184, 72⟩)) (.so (.var 2 "_law_spot" ⟨184, 73, 184, 82⟩)) .no ⟨184, 73, 184, 83⟩ ⟨184, 62, 184, 84⟩) ⟨184, 15, 184, 84⟩) ⟨184, 8, 184, 84⟩) (.nil)) (.nil) ⟨183, 4, 184, 84⟩) (.cons (.iff (.cmp .eq (.ex (.var 3 "_law_way" ⟨185, 7, 185, 15⟩)) (.ex (.int 2 0 ⟨185, 19, 185, 20⟩)) ⟨185, 7, 185, 20⟩) (.cons (.ret (.rvt (.var 1 "_law_thing" ⟨186, 15, 186, 25⟩) 0 ⟨186, 29, 186, 30⟩ ⟨186, 28, 186, 30⟩ ⟨186, 26, 186, 30⟩ ⟨186, 15, 186, 31⟩) ⟨186, 8, 186, 31⟩) (.nil)) (.nil) ⟨185, 4, 186, 31⟩) (.cons (.iff (.cmp .eq (.ex (.var 3 "_law_way" ⟨187, 7, 187, 15⟩)) (.ex (.int 3 0 ⟨187, 19, 187, 20⟩)) ⟨187, 7, 187, 20⟩) (.cons (.retF (.lof ⟨188, 15, 188, 19⟩ (.ex (.var 1 "_law_thing" ⟨188, 20, 188, 30⟩)) ⟨188, 15, 188, 31⟩) ⟨188, 8, 188, 31⟩) (.nil)) (.nil) ⟨187, 4, 188, 31⟩) (.cons (.ret (.bin .add (.bin .add (.slc (.ex (.var 1 "_law_thing" ⟨189, 11, 189, 21⟩)) .no (.so (.var 2 "_law_spot" ⟨189, 23, 189, 32⟩)) ⟨189, 22, 189, 32⟩ ⟨189, 11, 189, 33⟩) (.tup (.cons (.rcr "_law_bent" ⟨189, 37, 189, 46⟩ (.cons (.var 0 "_law_m" ⟨189, 47, 189, 53⟩) (.cons (.idx (.ex (.var 1 "_law_thing" ⟨189, 55, 189, 65⟩)) (.var 2 "_law_spot" ⟨189, 66, 189, 75⟩) ⟨189, 55, 189, 76⟩) .nil)) ⟨189, 37, 189, 77⟩) .nil) 0 ⟨189, 36, 189, 79⟩) ⟨189, 11, 189, 79⟩) (.slc (.ex (.var 1 "_law_thing" ⟨189, 82, 189, 92⟩)) (.so (.bin .add (.var 2 "_law_spot" ⟨189, 93, 189, 102⟩) (.int 1 0 ⟨189, 105, 189, 106⟩) ⟨189, 93, 189, 106⟩)) .no ⟨189, 93, 189, 107⟩ ⟨189, 82, 189, 108⟩) ⟨189, 11, 189, 108⟩) ⟨189, 4, 189, 108⟩) (.nil))))))), false, false⟩
def f6 : Fd := ⟨"_law_bent", ["_law_m", "_law_thing", "_law_spot", "_law_way"], 2, .cons (.iff (.orr (.cons (.nt (.isi ⟨178, 11, 178, 21⟩ (.var 1 "_law_thing" ⟨178, 22, 178, 32⟩) .tuple ⟨178, 34, 178, 39⟩ ⟨178, 11, 178, 40⟩) ⟨178, 7, 178, 40⟩) (.cons (.cmp .eq (.ex (.var 1 "_law_thing" ⟨178, 44, 178, 54⟩)) (.ex (.tup .nil 0 ⟨178, 58, 178, 60⟩)) ⟨178, 44, 178, 60⟩) (.cons (.cmp .eq (.ex (.drw "_law_next" ⟨178, 64, 178, 73⟩ (.var 0 "_law_m" ⟨178, 74, 178, 80⟩) (.int 9 0 ⟨178, 82, 178, 83⟩) ⟨178, 64, 178, 84⟩)) (.ex (.int 0 0 ⟨178, 88, 178, 89⟩)) ⟨178, 64, 178, 89⟩) .nil))) ⟨178, 7, 178, 89⟩) (.cons (.ret (.call 4 "_law_odd" ⟨179, 15, 179, 23⟩ (.cons (.var 0 "_law_m" ⟨179, 24, 179, 30⟩) .nil) ⟨179, 15, 179, 31⟩) ⟨179, 8, 179, 31⟩) (.nil)) (.nil) ⟨178, 4, 179, 31⟩) (.cons (.par 2 "_law_spot" ⟨180, 4, 180, 13⟩ 3 "_law_way" ⟨180, 15, 180, 23⟩ (.ex (.drw "_law_next" ⟨180, 27, 180, 36⟩ (.var 0 "_law_m" ⟨180, 37, 180, 43⟩) (.f1 .len ⟨180, 45, 180, 48⟩ (.ex (.var 1 "_law_thing" ⟨180, 49, 180, 59⟩)) ⟨180, 45, 180, 60⟩) ⟨180, 27, 180, 61⟩)) (.ex (.drw "_law_next" ⟨180, 63, 180, 72⟩ (.var 0 "_law_m" ⟨180, 73, 180, 79⟩) (.int 9 0 ⟨180, 81, 180, 82⟩) ⟨180, 63, 180, 83⟩)) 0 ⟨180, 4, 180, 23⟩ 0 ⟨180, 26, 180, 84⟩ ⟨180, 4, 180, 84⟩) (.cons (.iff (.cmp .eq (.ex (.var 3 "_law_way" ⟨181, 7, 181, 15⟩)) (.ex (.int 0 0 ⟨181, 19, 181, 20⟩)) ⟨181, 7, 181, 20⟩) (.cons (.ret (.bin .add (.slc (.ex (.var 1 "_law_thing" ⟨182, 15, 182, 25⟩)) .no (.so (.var 2 "_law_spot" ⟨182, 27, 182, 36⟩)) ⟨182, 26, 182, 36⟩ ⟨182, 15, 182, 37⟩) (.slc (.ex (.var 1 "_law_thing" ⟨182, 40, 182, 50⟩)) (.so (.bin .add (.var 2 "_law_spot" ⟨182, 51, 182, 60⟩) (.int 1 0 ⟨182, 63, 182, 64⟩) ⟨182, 51, 182, 64⟩)) .no ⟨182, 51, 182, 65⟩ ⟨182, 40, 182, 66⟩) ⟨182, 15, 182, 66⟩) ⟨182, 8, 182, 66⟩) (.nil)) (.nil) ⟨181, 4, 182, 66⟩) (.cons (.iff (.cmp .eq (.ex (.var 3 "_law_way" ⟨183, 7, 183, 15⟩)) (.ex (.int 1 0 ⟨183, 19, 183, 20⟩)) ⟨183, 7, 183, 20⟩) (.cons (.ret (.bin .add (.bin .add (.slc (.ex (.var 1 "_law_thing" ⟨184, 15, 184, 25⟩)) .no (.so (.var 2 "_law_spot" ⟨184, 27, 184, 36⟩)) ⟨184, 26, 184, 36⟩ ⟨184, 15, 184, 37⟩) (.tup (.cons (.call 4 "_law_odd" ⟨184, 41, 184, 49⟩ (.cons (.var 0 "_law_m" ⟨184, 50, 184, 56⟩) .nil) ⟨184, 41, 184, 57⟩) .nil) 0 ⟨184, 40, 184, 59⟩) ⟨184, 15, 184, 59⟩) (.slc (.ex (.var 1 "_law_thing" ⟨184, 62, 184, 72⟩)) (.so (.var 2 "_law_spot" ⟨184, 73, 184, 82⟩)) .no ⟨184, 73, 184, 83⟩ ⟨184, 62, 184, 84⟩) ⟨184, 15, 184, 84⟩) ⟨184, 8, 184, 84⟩) (.nil)) (.nil) ⟨183, 4, 184, 84⟩) (.cons (.iff (.cmp .eq (.ex (.var 3 "_law_way" ⟨185, 7, 185, 15⟩)) (.ex (.int 2 0 ⟨185, 19, 185, 20⟩)) ⟨185, 7, 185, 20⟩) (.cons (.ret (.rvt (.var 1 "_law_thing" ⟨186, 15, 186, 25⟩) 0 ⟨186, 29, 186, 30⟩ ⟨186, 28, 186, 30⟩ ⟨186, 26, 186, 30⟩ ⟨186, 15, 186, 31⟩) ⟨186, 8, 186, 31⟩) (.nil)) (.nil) ⟨185, 4, 186, 31⟩) (.cons (.iff (.cmp .eq (.ex (.var 3 "_law_way" ⟨187, 7, 187, 15⟩)) (.ex (.int 3 0 ⟨187, 19, 187, 20⟩)) ⟨187, 7, 187, 20⟩) (.cons (.retF (.lof ⟨188, 15, 188, 19⟩ (.ex (.var 1 "_law_thing" ⟨188, 20, 188, 30⟩)) ⟨188, 15, 188, 31⟩) ⟨188, 8, 188, 31⟩) (.nil)) (.nil) ⟨187, 4, 188, 31⟩) (.cons (.ret (.bin .add (.bin .add (.slc (.ex (.var 1 "_law_thing" ⟨189, 11, 189, 21⟩)) .no (.so (.var 2 "_law_spot" ⟨189, 23, 189, 32⟩)) ⟨189, 22, 189, 32⟩ ⟨189, 11, 189, 33⟩) (.tup (.cons (.call 5 "_law_bent" ⟨189, 37, 189, 46⟩ (.cons (.var 0 "_law_m" ⟨189, 47, 189, 53⟩) (.cons (.idx (.ex (.var 1 "_law_thing" ⟨189, 55, 189, 65⟩)) (.var 2 "_law_spot" ⟨189, 66, 189, 75⟩) ⟨189, 55, 189, 76⟩) .nil)) ⟨189, 37, 189, 77⟩) .nil) 0 ⟨189, 36, 189, 79⟩) ⟨189, 11, 189, 79⟩) (.slc (.ex (.var 1 "_law_thing" ⟨189, 82, 189, 92⟩)) (.so (.bin .add (.var 2 "_law_spot" ⟨189, 93, 189, 102⟩) (.int 1 0 ⟨189, 105, 189, 106⟩) ⟨189, 93, 189, 106⟩)) .no ⟨189, 93, 189, 107⟩ ⟨189, 82, 189, 108⟩) ⟨189, 11, 189, 108⟩) ⟨189, 4, 189, 108⟩) (.nil))))))), false, false⟩
def f7 : Fd := ⟨"_law_bent", ["_law_m", "_law_thing", "_law_spot", "_law_way"], 2, .cons (.iff (.orr (.cons (.nt (.isi ⟨178, 11, 178, 21⟩ (.var 1 "_law_thing" ⟨178, 22, 178, 32⟩) .tuple ⟨178, 34, 178, 39⟩ ⟨178, 11, 178, 40⟩) ⟨178, 7, 178, 40⟩) (.cons (.cmp .eq (.ex (.var 1 "_law_thing" ⟨178, 44, 178, 54⟩)) (.ex (.tup .nil 0 ⟨178, 58, 178, 60⟩)) ⟨178, 44, 178, 60⟩) (.cons (.cmp .eq (.ex (.drw "_law_next" ⟨178, 64, 178, 73⟩ (.var 0 "_law_m" ⟨178, 74, 178, 80⟩) (.int 9 0 ⟨178, 82, 178, 83⟩) ⟨178, 64, 178, 84⟩)) (.ex (.int 0 0 ⟨178, 88, 178, 89⟩)) ⟨178, 64, 178, 89⟩) .nil))) ⟨178, 7, 178, 89⟩) (.cons (.ret (.call 4 "_law_odd" ⟨179, 15, 179, 23⟩ (.cons (.var 0 "_law_m" ⟨179, 24, 179, 30⟩) .nil) ⟨179, 15, 179, 31⟩) ⟨179, 8, 179, 31⟩) (.nil)) (.nil) ⟨178, 4, 179, 31⟩) (.cons (.par 2 "_law_spot" ⟨180, 4, 180, 13⟩ 3 "_law_way" ⟨180, 15, 180, 23⟩ (.ex (.drw "_law_next" ⟨180, 27, 180, 36⟩ (.var 0 "_law_m" ⟨180, 37, 180, 43⟩) (.f1 .len ⟨180, 45, 180, 48⟩ (.ex (.var 1 "_law_thing" ⟨180, 49, 180, 59⟩)) ⟨180, 45, 180, 60⟩) ⟨180, 27, 180, 61⟩)) (.ex (.drw "_law_next" ⟨180, 63, 180, 72⟩ (.var 0 "_law_m" ⟨180, 73, 180, 79⟩) (.int 9 0 ⟨180, 81, 180, 82⟩) ⟨180, 63, 180, 83⟩)) 0 ⟨180, 4, 180, 23⟩ 0 ⟨180, 26, 180, 84⟩ ⟨180, 4, 180, 84⟩) (.cons (.iff (.cmp .eq (.ex (.var 3 "_law_way" ⟨181, 7, 181, 15⟩)) (.ex (.int 0 0 ⟨181, 19, 181, 20⟩)) ⟨181, 7, 181, 20⟩) (.cons (.ret (.bin .add (.slc (.ex (.var 1 "_law_thing" ⟨182, 15, 182, 25⟩)) .no (.so (.var 2 "_law_spot" ⟨182, 27, 182, 36⟩)) ⟨182, 26, 182, 36⟩ ⟨182, 15, 182, 37⟩) (.slc (.ex (.var 1 "_law_thing" ⟨182, 40, 182, 50⟩)) (.so (.bin .add (.var 2 "_law_spot" ⟨182, 51, 182, 60⟩) (.int 1 0 ⟨182, 63, 182, 64⟩) ⟨182, 51, 182, 64⟩)) .no ⟨182, 51, 182, 65⟩ ⟨182, 40, 182, 66⟩) ⟨182, 15, 182, 66⟩) ⟨182, 8, 182, 66⟩) (.nil)) (.nil) ⟨181, 4, 182, 66⟩) (.cons (.iff (.cmp .eq (.ex (.var 3 "_law_way" ⟨183, 7, 183, 15⟩)) (.ex (.int 1 0 ⟨183, 19, 183, 20⟩)) ⟨183, 7, 183, 20⟩) (.cons (.ret (.bin .add (.bin .add (.slc (.ex (.var 1 "_law_thing" ⟨184, 15, 184, 25⟩)) .no (.so (.var 2 "_law_spot" ⟨184, 27, 184, 36⟩)) ⟨184, 26, 184, 36⟩ ⟨184, 15, 184, 37⟩) (.tup (.cons (.call 4 "_law_odd" ⟨184, 41, 184, 49⟩ (.cons (.var 0 "_law_m" ⟨184, 50, 184, 56⟩) .nil) ⟨184, 41, 184, 57⟩) .nil) 0 ⟨184, 40, 184, 59⟩) ⟨184, 15, 184, 59⟩) (.slc (.ex (.var 1 "_law_thing" ⟨184, 62, 184, 72⟩)) (.so (.var 2 "_law_spot" ⟨184, 73, 184, 82⟩)) .no ⟨184, 73, 184, 83⟩ ⟨184, 62, 184, 84⟩) ⟨184, 15, 184, 84⟩) ⟨184, 8, 184, 84⟩) (.nil)) (.nil) ⟨183, 4, 184, 84⟩) (.cons (.iff (.cmp .eq (.ex (.var 3 "_law_way" ⟨185, 7, 185, 15⟩)) (.ex (.int 2 0 ⟨185, 19, 185, 20⟩)) ⟨185, 7, 185, 20⟩) (.cons (.ret (.rvt (.var 1 "_law_thing" ⟨186, 15, 186, 25⟩) 0 ⟨186, 29, 186, 30⟩ ⟨186, 28, 186, 30⟩ ⟨186, 26, 186, 30⟩ ⟨186, 15, 186, 31⟩) ⟨186, 8, 186, 31⟩) (.nil)) (.nil) ⟨185, 4, 186, 31⟩) (.cons (.iff (.cmp .eq (.ex (.var 3 "_law_way" ⟨187, 7, 187, 15⟩)) (.ex (.int 3 0 ⟨187, 19, 187, 20⟩)) ⟨187, 7, 187, 20⟩) (.cons (.retF (.lof ⟨188, 15, 188, 19⟩ (.ex (.var 1 "_law_thing" ⟨188, 20, 188, 30⟩)) ⟨188, 15, 188, 31⟩) ⟨188, 8, 188, 31⟩) (.nil)) (.nil) ⟨187, 4, 188, 31⟩) (.cons (.ret (.bin .add (.bin .add (.slc (.ex (.var 1 "_law_thing" ⟨189, 11, 189, 21⟩)) .no (.so (.var 2 "_law_spot" ⟨189, 23, 189, 32⟩)) ⟨189, 22, 189, 32⟩ ⟨189, 11, 189, 33⟩) (.tup (.cons (.call 6 "_law_bent" ⟨189, 37, 189, 46⟩ (.cons (.var 0 "_law_m" ⟨189, 47, 189, 53⟩) (.cons (.idx (.ex (.var 1 "_law_thing" ⟨189, 55, 189, 65⟩)) (.var 2 "_law_spot" ⟨189, 66, 189, 75⟩) ⟨189, 55, 189, 76⟩) .nil)) ⟨189, 37, 189, 77⟩) .nil) 0 ⟨189, 36, 189, 79⟩) ⟨189, 11, 189, 79⟩) (.slc (.ex (.var 1 "_law_thing" ⟨189, 82, 189, 92⟩)) (.so (.bin .add (.var 2 "_law_spot" ⟨189, 93, 189, 102⟩) (.int 1 0 ⟨189, 105, 189, 106⟩) ⟨189, 93, 189, 106⟩)) .no ⟨189, 93, 189, 107⟩ ⟨189, 82, 189, 108⟩) ⟨189, 11, 189, 108⟩) ⟨189, 4, 189, 108⟩) (.nil))))))), false, false⟩
def f8 : Fd := ⟨"_law_bent", ["_law_m", "_law_thing", "_law_spot", "_law_way"], 2, .cons (.iff (.orr (.cons (.nt (.isi ⟨178, 11, 178, 21⟩ (.var 1 "_law_thing" ⟨178, 22, 178, 32⟩) .tuple ⟨178, 34, 178, 39⟩ ⟨178, 11, 178, 40⟩) ⟨178, 7, 178, 40⟩) (.cons (.cmp .eq (.ex (.var 1 "_law_thing" ⟨178, 44, 178, 54⟩)) (.ex (.tup .nil 0 ⟨178, 58, 178, 60⟩)) ⟨178, 44, 178, 60⟩) (.cons (.cmp .eq (.ex (.drw "_law_next" ⟨178, 64, 178, 73⟩ (.var 0 "_law_m" ⟨178, 74, 178, 80⟩) (.int 9 0 ⟨178, 82, 178, 83⟩) ⟨178, 64, 178, 84⟩)) (.ex (.int 0 0 ⟨178, 88, 178, 89⟩)) ⟨178, 64, 178, 89⟩) .nil))) ⟨178, 7, 178, 89⟩) (.cons (.ret (.call 4 "_law_odd" ⟨179, 15, 179, 23⟩ (.cons (.var 0 "_law_m" ⟨179, 24, 179, 30⟩) .nil) ⟨179, 15, 179, 31⟩) ⟨179, 8, 179, 31⟩) (.nil)) (.nil) ⟨178, 4, 179, 31⟩) (.cons (.par 2 "_law_spot" ⟨180, 4, 180, 13⟩ 3 "_law_way" ⟨180, 15, 180, 23⟩ (.ex (.drw "_law_next" ⟨180, 27, 180, 36⟩ (.var 0 "_law_m" ⟨180, 37, 180, 43⟩) (.f1 .len ⟨180, 45, 180, 48⟩ (.ex (.var 1 "_law_thing" ⟨180, 49, 180, 59⟩)) ⟨180, 45, 180, 60⟩) ⟨180, 27, 180, 61⟩)) (.ex (.drw "_law_next" ⟨180, 63, 180, 72⟩ (.var 0 "_law_m" ⟨180, 73, 180, 79⟩) (.int 9 0 ⟨180, 81, 180, 82⟩) ⟨180, 63, 180, 83⟩)) 0 ⟨180, 4, 180, 23⟩ 0 ⟨180, 26, 180, 84⟩ ⟨180, 4, 180, 84⟩) (.cons (.iff (.cmp .eq (.ex (.var 3 "_law_way" ⟨181, 7, 181, 15⟩)) (.ex (.int 0 0 ⟨181, 19, 181, 20⟩)) ⟨181, 7, 181, 20⟩) (.cons (.ret (.bin .add (.slc (.ex (.var 1 "_law_thing" ⟨182, 15, 182, 25⟩)) .no (.so (.var 2 "_law_spot" ⟨182, 27, 182, 36⟩)) ⟨182, 26, 182, 36⟩ ⟨182, 15, 182, 37⟩) (.slc (.ex (.var 1 "_law_thing" ⟨182, 40, 182, 50⟩)) (.so (.bin .add (.var 2 "_law_spot" ⟨182, 51, 182, 60⟩) (.int 1 0 ⟨182, 63, 182, 64⟩) ⟨182, 51, 182, 64⟩)) .no ⟨182, 51, 182, 65⟩ ⟨182, 40, 182, 66⟩) ⟨182, 15, 182, 66⟩) ⟨182, 8, 182, 66⟩) (.nil)) (.nil) ⟨181, 4, 182, 66⟩) (.cons (.iff (.cmp .eq (.ex (.var 3 "_law_way" ⟨183, 7, 183, 15⟩)) (.ex (.int 1 0 ⟨183, 19, 183, 20⟩)) ⟨183, 7, 183, 20⟩) (.cons (.ret (.bin .add (.bin .add (.slc (.ex (.var 1 "_law_thing" ⟨184, 15, 184, 25⟩)) .no (.so (.var 2 "_law_spot" ⟨184, 27, 184, 36⟩)) ⟨184, 26, 184, 36⟩ ⟨184, 15, 184, 37⟩) (.tup (.cons (.call 4 "_law_odd" ⟨184, 41, 184, 49⟩ (.cons (.var 0 "_law_m" ⟨184, 50, 184, 56⟩) .nil) ⟨184, 41, 184, 57⟩) .nil) 0 ⟨184, 40, 184, 59⟩) ⟨184, 15, 184, 59⟩) (.slc (.ex (.var 1 "_law_thing" ⟨184, 62, 184, 72⟩)) (.so (.var 2 "_law_spot" ⟨184, 73, 184, 82⟩)) .no ⟨184, 73, 184, 83⟩ ⟨184, 62, 184, 84⟩) ⟨184, 15, 184, 84⟩) ⟨184, 8, 184, 84⟩) (.nil)) (.nil) ⟨183, 4, 184, 84⟩) (.cons (.iff (.cmp .eq (.ex (.var 3 "_law_way" ⟨185, 7, 185, 15⟩)) (.ex (.int 2 0 ⟨185, 19, 185, 20⟩)) ⟨185, 7, 185, 20⟩) (.cons (.ret (.rvt (.var 1 "_law_thing" ⟨186, 15, 186, 25⟩) 0 ⟨186, 29, 186, 30⟩ ⟨186, 28, 186, 30⟩ ⟨186, 26, 186, 30⟩ ⟨186, 15, 186, 31⟩) ⟨186, 8, 186, 31⟩) (.nil)) (.nil) ⟨185, 4, 186, 31⟩) (.cons (.iff (.cmp .eq (.ex (.var 3 "_law_way" ⟨187, 7, 187, 15⟩)) (.ex (.int 3 0 ⟨187, 19, 187, 20⟩)) ⟨187, 7, 187, 20⟩) (.cons (.retF (.lof ⟨188, 15, 188, 19⟩ (.ex (.var 1 "_law_thing" ⟨188, 20, 188, 30⟩)) ⟨188, 15, 188, 31⟩) ⟨188, 8, 188, 31⟩) (.nil)) (.nil) ⟨187, 4, 188, 31⟩) (.cons (.ret (.bin .add (.bin .add (.slc (.ex (.var 1 "_law_thing" ⟨189, 11, 189, 21⟩)) .no (.so (.var 2 "_law_spot" ⟨189, 23, 189, 32⟩)) ⟨189, 22, 189, 32⟩ ⟨189, 11, 189, 33⟩) (.tup (.cons (.call 7 "_law_bent" ⟨189, 37, 189, 46⟩ (.cons (.var 0 "_law_m" ⟨189, 47, 189, 53⟩) (.cons (.idx (.ex (.var 1 "_law_thing" ⟨189, 55, 189, 65⟩)) (.var 2 "_law_spot" ⟨189, 66, 189, 75⟩) ⟨189, 55, 189, 76⟩) .nil)) ⟨189, 37, 189, 77⟩) .nil) 0 ⟨189, 36, 189, 79⟩) ⟨189, 11, 189, 79⟩) (.slc (.ex (.var 1 "_law_thing" ⟨189, 82, 189, 92⟩)) (.so (.bin .add (.var 2 "_law_spot" ⟨189, 93, 189, 102⟩) (.int 1 0 ⟨189, 105, 189, 106⟩) ⟨189, 93, 189, 106⟩)) .no ⟨189, 93, 189, 107⟩ ⟨189, 82, 189, 108⟩) ⟨189, 11, 189, 108⟩) ⟨189, 4, 189, 108⟩) (.nil))))))), false, false⟩
def f9 : Fd := ⟨"_law_bent", ["_law_m", "_law_thing", "_law_spot", "_law_way"], 2, .cons (.iff (.orr (.cons (.nt (.isi ⟨178, 11, 178, 21⟩ (.var 1 "_law_thing" ⟨178, 22, 178, 32⟩) .tuple ⟨178, 34, 178, 39⟩ ⟨178, 11, 178, 40⟩) ⟨178, 7, 178, 40⟩) (.cons (.cmp .eq (.ex (.var 1 "_law_thing" ⟨178, 44, 178, 54⟩)) (.ex (.tup .nil 0 ⟨178, 58, 178, 60⟩)) ⟨178, 44, 178, 60⟩) (.cons (.cmp .eq (.ex (.drw "_law_next" ⟨178, 64, 178, 73⟩ (.var 0 "_law_m" ⟨178, 74, 178, 80⟩) (.int 9 0 ⟨178, 82, 178, 83⟩) ⟨178, 64, 178, 84⟩)) (.ex (.int 0 0 ⟨178, 88, 178, 89⟩)) ⟨178, 64, 178, 89⟩) .nil))) ⟨178, 7, 178, 89⟩) (.cons (.ret (.call 4 "_law_odd" ⟨179, 15, 179, 23⟩ (.cons (.var 0 "_law_m" ⟨179, 24, 179, 30⟩) .nil) ⟨179, 15, 179, 31⟩) ⟨179, 8, 179, 31⟩) (.nil)) (.nil) ⟨178, 4, 179, 31⟩) (.cons (.par 2 "_law_spot" ⟨180, 4, 180, 13⟩ 3 "_law_way" ⟨180, 15, 180, 23⟩ (.ex (.drw "_law_next" ⟨180, 27, 180, 36⟩ (.var 0 "_law_m" ⟨180, 37, 180, 43⟩) (.f1 .len ⟨180, 45, 180, 48⟩ (.ex (.var 1 "_law_thing" ⟨180, 49, 180, 59⟩)) ⟨180, 45, 180, 60⟩) ⟨180, 27, 180, 61⟩)) (.ex (.drw "_law_next" ⟨180, 63, 180, 72⟩ (.var 0 "_law_m" ⟨180, 73, 180, 79⟩) (.int 9 0 ⟨180, 81, 180, 82⟩) ⟨180, 63, 180, 83⟩)) 0 ⟨180, 4, 180, 23⟩ 0 ⟨180, 26, 180, 84⟩ ⟨180, 4, 180, 84⟩) (.cons (.iff (.cmp .eq (.ex (.var 3 "_law_way" ⟨181, 7, 181, 15⟩)) (.ex (.int 0 0 ⟨181, 19, 181, 20⟩)) ⟨181, 7, 181, 20⟩) (.cons (.ret (.bin .add (.slc (.ex (.var 1 "_law_thing" ⟨182, 15, 182, 25⟩)) .no (.so (.var 2 "_law_spot" ⟨182, 27, 182, 36⟩)) ⟨182, 26, 182, 36⟩ ⟨182, 15, 182, 37⟩) (.slc (.ex (.var 1 "_law_thing" ⟨182, 40, 182, 50⟩)) (.so (.bin .add (.var 2 "_law_spot" ⟨182, 51, 182, 60⟩) (.int 1 0 ⟨182, 63, 182, 64⟩) ⟨182, 51, 182, 64⟩)) .no ⟨182, 51, 182, 65⟩ ⟨182, 40, 182, 66⟩) ⟨182, 15, 182, 66⟩) ⟨182, 8, 182, 66⟩) (.nil)) (.nil) ⟨181, 4, 182, 66⟩) (.cons (.iff (.cmp .eq (.ex (.var 3 "_law_way" ⟨183, 7, 183, 15⟩)) (.ex (.int 1 0 ⟨183, 19, 183, 20⟩)) ⟨183, 7, 183, 20⟩) (.cons (.ret (.bin .add (.bin .add (.slc (.ex (.var 1 "_law_thing" ⟨184, 15, 184, 25⟩)) .no (.so (.var 2 "_law_spot" ⟨184, 27, 184, 36⟩)) ⟨184, 26, 184, 36⟩ ⟨184, 15, 184, 37⟩) (.tup (.cons (.call 4 "_law_odd" ⟨184, 41, 184, 49⟩ (.cons (.var 0 "_law_m" ⟨184, 50, 184, 56⟩) .nil) ⟨184, 41, 184, 57⟩) .nil) 0 ⟨184, 40, 184, 59⟩) ⟨184, 15, 184, 59⟩) (.slc (.ex (.var 1 "_law_thing" ⟨184, 62, 184, 72⟩)) (.so (.var 2 "_law_spot" ⟨184, 73, 184, 82⟩)) .no ⟨184, 73, 184, 83⟩ ⟨184, 62, 184, 84⟩) ⟨184, 15, 184, 84⟩) ⟨184, 8, 184, 84⟩) (.nil)) (.nil) ⟨183, 4, 184, 84⟩) (.cons (.iff (.cmp .eq (.ex (.var 3 "_law_way" ⟨185, 7, 185, 15⟩)) (.ex (.int 2 0 ⟨185, 19, 185, 20⟩)) ⟨185, 7, 185, 20⟩) (.cons (.ret (.rvt (.var 1 "_law_thing" ⟨186, 15, 186, 25⟩) 0 ⟨186, 29, 186, 30⟩ ⟨186, 28, 186, 30⟩ ⟨186, 26, 186, 30⟩ ⟨186, 15, 186, 31⟩) ⟨186, 8, 186, 31⟩) (.nil)) (.nil) ⟨185, 4, 186, 31⟩) (.cons (.iff (.cmp .eq (.ex (.var 3 "_law_way" ⟨187, 7, 187, 15⟩)) (.ex (.int 3 0 ⟨187, 19, 187, 20⟩)) ⟨187, 7, 187, 20⟩) (.cons (.retF (.lof ⟨188, 15, 188, 19⟩ (.ex (.var 1 "_law_thing" ⟨188, 20, 188, 30⟩)) ⟨188, 15, 188, 31⟩) ⟨188, 8, 188, 31⟩) (.nil)) (.nil) ⟨187, 4, 188, 31⟩) (.cons (.ret (.bin .add (.bin .add (.slc (.ex (.var 1 "_law_thing" ⟨189, 11, 189, 21⟩)) .no (.so (.var 2 "_law_spot" ⟨189, 23, 189, 32⟩)) ⟨189, 22, 189, 32⟩ ⟨189, 11, 189, 33⟩) (.tup (.cons (.call 8 "_law_bent" ⟨189, 37, 189, 46⟩ (.cons (.var 0 "_law_m" ⟨189, 47, 189, 53⟩) (.cons (.idx (.ex (.var 1 "_law_thing" ⟨189, 55, 189, 65⟩)) (.var 2 "_law_spot" ⟨189, 66, 189, 75⟩) ⟨189, 55, 189, 76⟩) .nil)) ⟨189, 37, 189, 77⟩) .nil) 0 ⟨189, 36, 189, 79⟩) ⟨189, 11, 189, 79⟩) (.slc (.ex (.var 1 "_law_thing" ⟨189, 82, 189, 92⟩)) (.so (.bin .add (.var 2 "_law_spot" ⟨189, 93, 189, 102⟩) (.int 1 0 ⟨189, 105, 189, 106⟩) ⟨189, 93, 189, 106⟩)) .no ⟨189, 93, 189, 107⟩ ⟨189, 82, 189, 108⟩) ⟨189, 11, 189, 108⟩) ⟨189, 4, 189, 108⟩) (.nil))))))), false, false⟩
def f10 : Fd := ⟨"_law_is_whole", ["_law_thing", "_law_low", "_law_high"], 3, .cons (.ret (.andd (.cons (.isi ⟨139, 11, 139, 21⟩ (.var 0 "_law_thing" ⟨139, 22, 139, 32⟩) .int ⟨139, 34, 139, 37⟩ ⟨139, 11, 139, 38⟩) (.cons (.nt (.isi ⟨139, 48, 139, 58⟩ (.var 0 "_law_thing" ⟨139, 59, 139, 69⟩) .bool ⟨139, 71, 139, 75⟩ ⟨139, 48, 139, 76⟩) ⟨139, 44, 139, 76⟩) (.cons (.chn .le .le (.var 1 "_law_low" ⟨139, 83, 139, 91⟩) (.var 0 "_law_thing" ⟨139, 95, 139, 105⟩) (.var 2 "_law_high" ⟨139, 109, 139, 118⟩) ⟨139, 83, 139, 118⟩) .nil))) ⟨139, 11, 139, 119⟩) ⟨139, 4, 139, 119⟩) (.nil), false, false⟩
def f11 : Fd := ⟨"_law_queue_due", ["_law_thing", "_law_rows", "_law_wrong", "_law_one", "_law_word", "_law_low", "_law_high"], 1, .cons (.iff (.orr (.cons (.nt (.isi ⟨141, 11, 141, 21⟩ (.var 0 "_law_thing" ⟨141, 22, 141, 32⟩) .tuple ⟨141, 34, 141, 39⟩ ⟨141, 11, 141, 40⟩) ⟨141, 7, 141, 40⟩) (.cons (.cmp .ne (.ex (.f1 .len ⟨141, 44, 141, 47⟩ (.ex (.var 0 "_law_thing" ⟨141, 48, 141, 58⟩)) ⟨141, 44, 141, 59⟩)) (.ex (.int 5 0 ⟨141, 63, 141, 64⟩)) ⟨141, 44, 141, 64⟩) .nil)) ⟨141, 7, 141, 64⟩) (.cons (.retF (.lst (.cons (.str "queue" 0 ⟨142, 16, 142, 23⟩) (.cons (.str "form" 0 ⟨142, 25, 142, 31⟩) .nil)) ⟨142, 15, 142, 32⟩) ⟨142, 8, 142, 32⟩) (.nil)) (.nil) ⟨141, 4, 142, 32⟩) (.cons (.asg 1 "_law_rows" ⟨143, 4, 143, 13⟩ (.frz (.lst (.cons (.tup (.cons (.str "depth" 0 ⟨143, 18, 143, 25⟩) (.cons (.int 1 0 ⟨143, 27, 143, 28⟩) (.cons (.int 64 0 ⟨143, 30, 143, 32⟩) .nil))) 0 ⟨143, 17, 143, 33⟩) (.cons (.tup (.cons (.str "period" 0 ⟨143, 36, 143, 44⟩) (.cons (.int 2 0 ⟨143, 46, 143, 47⟩) (.cons (.int 200 0 ⟨143, 49, 143, 52⟩) .nil))) 0 ⟨143, 35, 143, 53⟩) (.cons (.tup (.cons (.str "room" 0 ⟨143, 56, 143, 62⟩) (.cons (.int 1 0 ⟨143, 64, 143, 65⟩) (.cons (.int 64 0 ⟨143, 67, 143, 69⟩) .nil))) 0 ⟨143, 55, 143, 70⟩) (.cons (.tup (.cons (.str "stages" 0 ⟨143, 73, 143, 81⟩) (.cons (.int 1 0 ⟨143, 83, 143, 84⟩) (.cons (.int 4 0 ⟨143, 86, 143, 87⟩) .nil))) 0 ⟨143, 72, 143, 88⟩) (.cons (.tup (.cons (.str "delay" 0 ⟨143, 91, 143, 98⟩) (.cons (.int 0 0 ⟨143, 100, 143, 101⟩) (.cons (.int 3 0 ⟨143, 103, 143, 104⟩) .nil))) 0 ⟨143, 90, 143, 105⟩) .nil))))) ⟨143, 16, 143, 106⟩)) ⟨143, 4, 143, 106⟩) (.cons (.asgF 2 "_law_wrong" ⟨144, 4, 144, 14⟩ (.lc (.var 4 "_law_word" ⟨144, 18, 144, 27⟩) (.tp (.cons 3 "_law_one" ⟨144, 32, 144, 40⟩ (.nest (.cons 4 "_law_word" ⟨144, 43, 144, 52⟩ (.cons 5 "_law_low" ⟨144, 54, 144, 62⟩ (.cons 6 "_law_high" ⟨144, 64, 144, 73⟩ .nil))) 0 ⟨144, 42, 144, 74⟩ .nil)) 0 ⟨144, 32, 144, 74⟩) (.zip ⟨144, 78, 144, 81⟩ (.var 0 "_law_thing" ⟨144, 82, 144, 92⟩) (.var 1 "_law_rows" ⟨144, 94, 144, 103⟩) ⟨144, 78, 144, 104⟩) (.so (.nt (.call 10 "_law_is_whole" ⟨144, 112, 144, 125⟩ (.cons (.var 3 "_law_one" ⟨144, 126, 144, 134⟩) (.cons (.var 5 "_law_low" ⟨144, 136, 144, 144⟩) (.cons (.var 6 "_law_high" ⟨144, 146, 144, 155⟩) .nil))) ⟨144, 112, 144, 156⟩) ⟨144, 108, 144, 156⟩)) [("_law_one", 3), ("_law_word", 4), ("_law_low", 5), ("_law_high", 6)] ⟨.function, [(".0", .local), ("_law_one", .local), ("_law_word", .local), ("_law_low", .local), ("_law_high", .local), ("_law_is_whole", .globalImplicit)], false, false, []⟩ ⟨144, 17, 144, 157⟩) ⟨144, 4, 144, 157⟩) (.frz 2 (.cons (.ret (.ife (.cmp .ne (.ex (.var 2 "_law_wrong" ⟨145, 39, 145, 49⟩)) (.ex (.frz (.lst .nil ⟨145, 53, 145, 55⟩))) ⟨145, 39, 145, 55⟩) (.frz (.lst (.cons (.str "queue" 0 ⟨145, 12, 145, 19⟩) (.cons (.idx (.ex (.var 2 "_law_wrong" ⟨145, 21, 145, 31⟩)) (.int 0 0 ⟨145, 32, 145, 33⟩) ⟨145, 21, 145, 34⟩) .nil)) ⟨145, 11, 145, 35⟩)) (.frz (.lst (.cons (.str "told" 0 ⟨145, 62, 145, 68⟩) .nil) ⟨145, 61, 145, 69⟩)) ⟨145, 11, 145, 69⟩) ⟨145, 4, 145, 69⟩) (.nil))))), false, false⟩
def f12 : Fd := ⟨"_law_stream_due", ["_law_thing"], 1, .cons (.iff (.orr (.cons (.nt (.isi ⟨147, 11, 147, 21⟩ (.var 0 "_law_thing" ⟨147, 22, 147, 32⟩) .tuple ⟨147, 34, 147, 39⟩ ⟨147, 11, 147, 40⟩) ⟨147, 7, 147, 40⟩) (.cons (.cmp .ne (.ex (.f1 .len ⟨147, 44, 147, 47⟩ (.ex (.var 0 "_law_thing" ⟨147, 48, 147, 58⟩)) ⟨147, 44, 147, 59⟩)) (.ex (.int 6 0 ⟨147, 63, 147, 64⟩)) ⟨147, 44, 147, 64⟩) .nil)) ⟨147, 7, 147, 64⟩) (.cons (.retF (.lst (.cons (.str "stream" 0 ⟨148, 16, 148, 24⟩) (.cons (.str "form" 0 ⟨148, 26, 148, 32⟩) .nil)) ⟨148, 15, 148, 33⟩) ⟨148, 8, 148, 33⟩) (.nil)) (.nil) ⟨147, 4, 148, 33⟩) (.cons (.iff (.cmp .ne (.ex (.call 11 "_law_queue_due" ⟨149, 7, 149, 21⟩ (.cons (.idx (.ex (.var 0 "_law_thing" ⟨149, 22, 149, 32⟩)) (.int 0 0 ⟨149, 33, 149, 34⟩) ⟨149, 22, 149, 35⟩) .nil) ⟨149, 7, 149, 36⟩)) (.ex (.frz (.lst (.cons (.str "told" 0 ⟨149, 41, 149, 47⟩) .nil) ⟨149, 40, 149, 48⟩))) ⟨149, 7, 149, 48⟩) (.cons (.retF (.lst (.cons (.str "stream" 0 ⟨150, 16, 150, 24⟩) (.cons (.str "queue" 0 ⟨150, 26, 150, 33⟩) .nil)) ⟨150, 15, 150, 34⟩) ⟨150, 8, 150, 34⟩) (.nil)) (.nil) ⟨149, 4, 150, 34⟩) (.cons (.iff (.nt (.call 10 "_law_is_whole" ⟨151, 11, 151, 24⟩ (.cons (.idx (.ex (.var 0 "_law_thing" ⟨151, 25, 151, 35⟩)) (.int 1 0 ⟨151, 36, 151, 37⟩) ⟨151, 25, 151, 38⟩) (.cons (.int 1 0 ⟨151, 40, 151, 41⟩) (.cons (.int 30 0 ⟨151, 43, 151, 45⟩) .nil))) ⟨151, 11, 151, 46⟩) ⟨151, 7, 151, 46⟩) (.cons (.retF (.lst (.cons (.str "stream" 0 ⟨152, 16, 152, 24⟩) (.cons (.str "writer" 0 ⟨152, 26, 152, 34⟩) .nil)) ⟨152, 15, 152, 35⟩) ⟨152, 8, 152, 35⟩) (.nil)) (.nil) ⟨151, 4, 152, 35⟩) (.cons (.iff (.nt (.call 10 "_law_is_whole" ⟨153, 11, 153, 24⟩ (.cons (.idx (.ex (.var 0 "_law_thing" ⟨153, 25, 153, 35⟩)) (.int 2 0 ⟨153, 36, 153, 37⟩) ⟨153, 25, 153, 38⟩) (.cons (.int 1 0 ⟨153, 40, 153, 41⟩) (.cons (.int 30 0 ⟨153, 43, 153, 45⟩) .nil))) ⟨153, 11, 153, 46⟩) ⟨153, 7, 153, 46⟩) (.cons (.retF (.lst (.cons (.str "stream" 0 ⟨154, 16, 154, 24⟩) (.cons (.str "reader" 0 ⟨154, 26, 154, 34⟩) .nil)) ⟨154, 15, 154, 35⟩) ⟨154, 8, 154, 35⟩) (.nil)) (.nil) ⟨153, 4, 154, 35⟩) (.cons (.iff (.nt (.call 10 "_law_is_whole" ⟨155, 11, 155, 24⟩ (.cons (.idx (.ex (.var 0 "_law_thing" ⟨155, 25, 155, 35⟩)) (.int 3 0 ⟨155, 36, 155, 37⟩) ⟨155, 25, 155, 38⟩) (.cons (.int 0 0 ⟨155, 40, 155, 41⟩) (.cons (.bin .sub (.idx (.ex (.var 0 "_law_thing" ⟨155, 43, 155, 53⟩)) (.int 2 0 ⟨155, 54, 155, 55⟩) ⟨155, 43, 155, 56⟩) (.int 1 0 ⟨155, 59, 155, 60⟩) ⟨155, 43, 155, 60⟩) .nil))) ⟨155, 11, 155, 61⟩) ⟨155, 7, 155, 61⟩) (.cons (.retF (.lst (.cons (.str "stream" 0 ⟨156, 16, 156, 24⟩) (.cons (.str "phase" 0 ⟨156, 26, 156, 33⟩) .nil)) ⟨156, 15, 156, 34⟩) ⟨156, 8, 156, 34⟩) (.nil)) (.nil) ⟨155, 4, 156, 34⟩) (.cons (.iff (.nt (.call 10 "_law_is_whole" ⟨157, 11, 157, 24⟩ (.cons (.idx (.ex (.var 0 "_law_thing" ⟨157, 25, 157, 35⟩)) (.int 4 0 ⟨157, 36, 157, 37⟩) ⟨157, 25, 157, 38⟩) (.cons (.int 0 0 ⟨157, 40, 157, 41⟩) (.cons (.int 1 0 ⟨157, 43, 157, 44⟩) .nil))) ⟨157, 11, 157, 45⟩) ⟨157, 7, 157, 45⟩) (.cons (.retF (.lst (.cons (.str "stream" 0 ⟨158, 16, 158, 24⟩) (.cons (.str "catch" 0 ⟨158, 26, 158, 33⟩) .nil)) ⟨158, 15, 158, 34⟩) ⟨158, 8, 158, 34⟩) (.nil)) (.nil) ⟨157, 4, 158, 34⟩) (.cons (.ret (.ife (.call 10 "_law_is_whole" ⟨159, 23, 159, 36⟩ (.cons (.idx (.ex (.var 0 "_law_thing" ⟨159, 37, 159, 47⟩)) (.int 5 0 ⟨159, 48, 159, 49⟩) ⟨159, 37, 159, 50⟩) (.cons (.int 0 0 ⟨159, 52, 159, 53⟩) (.cons (.int 1 0 ⟨159, 55, 159, 56⟩) .nil))) ⟨159, 23, 159, 57⟩) (.frz (.lst (.cons (.str "told" 0 ⟨159, 12, 159, 18⟩) .nil) ⟨159, 11, 159, 19⟩)) (.frz (.lst (.cons (.str "stream" 0 ⟨159, 64, 159, 72⟩) (.cons (.str "fetch" 0 ⟨159, 74, 159, 81⟩) .nil)) ⟨159, 63, 159, 82⟩)) ⟨159, 11, 159, 82⟩) ⟨159, 4, 159, 82⟩) (.nil))))))), false, false⟩
def f13 : Fd := ⟨"row_text", ["row", "one"], 1, .cons (.ret (.m1 .join (.con "BLANK" (.str " ") ⟨84, 11, 84, 16⟩) ⟨84, 11, 84, 21⟩ (.ex (.frz (.lc (.f1 .str ⟨84, 23, 84, 26⟩ (.ex (.var 1 "one" ⟨84, 27, 84, 30⟩)) ⟨84, 23, 84, 31⟩) (.nm 1 "one" ⟨84, 36, 84, 39⟩) (.seq (.var 0 "row" ⟨84, 43, 84, 46⟩)) .no [("one", 1)] ⟨.function, [(".0", .local), ("one", .local), ("str", .globalImplicit)], false, false, []⟩ ⟨84, 22, 84, 47⟩))) ⟨84, 11, 84, 48⟩) ⟨84, 4, 84, 48⟩) (.nil), false, false⟩
def f14 : Fd := ⟨"is_whole", ["thing", "least", "most"], 3, .cons (.iff (.orr (.cons (.nt (.isi ⟨27, 11, 27, 21⟩ (.var 0 "thing" ⟨27, 22, 27, 27⟩) .int ⟨27, 29, 27, 32⟩ ⟨27, 11, 27, 33⟩) ⟨27, 7, 27, 33⟩) (.cons (.isi ⟨27, 37, 27, 47⟩ (.var 0 "thing" ⟨27, 48, 27, 53⟩) .bool ⟨27, 55, 27, 59⟩ ⟨27, 37, 27, 60⟩) .nil)) ⟨27, 7, 27, 60⟩) (.cons (.ret (.bl false 0 ⟨28, 15, 28, 20⟩) ⟨28, 8, 28, 20⟩) (.nil)) (.nil) ⟨27, 4, 28, 20⟩) (.cons (.ret (.andd (.cons (.orr (.cons (.isn false (.var 1 "least" ⟨29, 12, 29, 17⟩) 0 ⟨29, 21, 29, 25⟩ ⟨29, 12, 29, 25⟩) (.cons (.cmp .ge (.ex (.var 0 "thing" ⟨29, 29, 29, 34⟩)) (.ex (.var 1 "least" ⟨29, 38, 29, 43⟩)) ⟨29, 29, 29, 43⟩) .nil)) ⟨29, 12, 29, 43⟩) (.cons (.orr (.cons (.isn false (.var 2 "most" ⟨29, 50, 29, 54⟩) 0 ⟨29, 58, 29, 62⟩ ⟨29, 50, 29, 62⟩) (.cons (.cmp .le (.ex (.var 0 "thing" ⟨29, 66, 29, 71⟩)) (.ex (.var 2 "most" ⟨29, 75, 29, 79⟩)) ⟨29, 66, 29, 79⟩) .nil)) ⟨29, 50, 29, 79⟩) .nil)) ⟨29, 11, 29, 80⟩) ⟨29, 4, 29, 80⟩) (.nil)), false, false⟩
def f15 : Fd := ⟨"wrong_part_queues", ["thing", "depth", "period", "room", "stages", "delay"], 1, .cons (.unp (.tp (.cons 1 "depth" ⟨31, 4, 31, 9⟩ (.cons 2 "period" ⟨31, 11, 31, 17⟩ (.cons 3 "room" ⟨31, 19, 31, 23⟩ (.cons 4 "stages" ⟨31, 25, 31, 31⟩ (.cons 5 "delay" ⟨31, 33, 31, 38⟩ .nil))))) 0 ⟨31, 4, 31, 38⟩) (.var 0 "thing" ⟨31, 41, 31, 46⟩) ⟨31, 4, 31, 46⟩) (.cons (.iff (.nt (.call 14 "is_whole" ⟨32, 11, 32, 19⟩ (.cons (.var 1 "depth" ⟨32, 20, 32, 25⟩) (.cons (.int 1 0 ⟨32, 27, 32, 28⟩) (.cons (.con "MOST_PLACES" (.int 64) ⟨32, 30, 32, 41⟩) .nil))) ⟨32, 11, 32, 42⟩) ⟨32, 7, 32, 42⟩) (.cons (.ret (.str "depth" 0 ⟨33, 15, 33, 22⟩) ⟨33, 8, 33, 22⟩) (.nil)) (.nil) ⟨32, 4, 33, 22⟩) (.cons (.iff (.nt (.call 14 "is_whole" ⟨34, 11, 34, 19⟩ (.cons (.var 2 "period" ⟨34, 20, 34, 26⟩) (.cons (.int 2 0 ⟨34, 28, 34, 29⟩) (.cons (.con "MOST_PERIOD" (.int 200) ⟨34, 31, 34, 42⟩) .nil))) ⟨34, 11, 34, 43⟩) ⟨34, 7, 34, 43⟩) (.cons (.ret (.str "period" 0 ⟨35, 15, 35, 23⟩) ⟨35, 8, 35, 23⟩) (.nil)) (.nil) ⟨34, 4, 35, 23⟩) (.cons (.iff (.nt (.call 14 "is_whole" ⟨36, 11, 36, 19⟩ (.cons (.var 3 "room" ⟨36, 20, 36, 24⟩) (.cons (.int 1 0 ⟨36, 26, 36, 27⟩) (.cons (.con "MOST_PLACES" (.int 64) ⟨36, 29, 36, 40⟩) .nil))) ⟨36, 11, 36, 41⟩) ⟨36, 7, 36, 41⟩) (.cons (.ret (.str "room" 0 ⟨37, 15, 37, 21⟩) ⟨37, 8, 37, 21⟩) (.nil)) (.nil) ⟨36, 4, 37, 21⟩) (.cons (.iff (.nt (.call 14 "is_whole" ⟨38, 11, 38, 19⟩ (.cons (.var 4 "stages" ⟨38, 20, 38, 26⟩) (.cons (.int 1 0 ⟨38, 28, 38, 29⟩) (.cons (.con "MOST_STAGES" (.int 4) ⟨38, 31, 38, 42⟩) .nil))) ⟨38, 11, 38, 43⟩) ⟨38, 7, 38, 43⟩) (.cons (.ret (.str "stages" 0 ⟨39, 15, 39, 23⟩) ⟨39, 8, 39, 23⟩) (.nil)) (.nil) ⟨38, 4, 39, 23⟩) (.cons (.ret (.ife (.call 14 "is_whole" ⟨40, 19, 40, 27⟩ (.cons (.var 5 "delay" ⟨40, 28, 40, 33⟩) (.cons (.int 0 0 ⟨40, 35, 40, 36⟩) (.cons (.con "MOST_DELAY" (.int 3) ⟨40, 38, 40, 48⟩) .nil))) ⟨40, 19, 40, 49⟩) (.non 0 ⟨40, 11, 40, 15⟩) (.str "delay" 0 ⟨40, 55, 40, 62⟩) ⟨40, 11, 40, 62⟩) ⟨40, 4, 40, 62⟩) (.nil)))))), false, false⟩
def f16 : Fd := ⟨"need_queue", ["thing", "part"], 1, .cons (.iff (.orr (.cons (.nt (.isi ⟨45, 11, 45, 21⟩ (.var 0 "thing" ⟨45, 22, 45, 27⟩) .tuple ⟨45, 29, 45, 34⟩ ⟨45, 11, 45, 35⟩) ⟨45, 7, 45, 35⟩) (.cons (.cmp .ne (.ex (.f1 .len ⟨45, 39, 45, 42⟩ (.ex (.var 0 "thing" ⟨45, 43, 45, 48⟩)) ⟨45, 39, 45, 49⟩)) (.ex (.int 5 0 ⟨45, 53, 45, 54⟩)) ⟨45, 39, 45, 54⟩) .nil)) ⟨45, 7, 45, 54⟩) (.cons (.rai 0 "BadQueue" ⟨46, 14, 46, 22⟩ (.str "form" 0 ⟨46, 23, 46, 29⟩) ⟨46, 14, 46, 30⟩ ⟨46, 8, 46, 30⟩) (.nil)) (.nil) ⟨45, 4, 46, 30⟩) (.cons (.asg 1 "part" ⟨47, 4, 47, 8⟩ (.call 15 "wrong_part_queues" ⟨47, 11, 47, 28⟩ (.cons (.var 0 "thing" ⟨47, 29, 47, 34⟩) .nil) ⟨47, 11, 47, 35⟩) ⟨47, 4, 47, 35⟩) (.cons (.iff (.isn true (.var 1 "part" ⟨48, 7, 48, 11⟩) 0 ⟨48, 19, 48, 23⟩ ⟨48, 7, 48, 23⟩) (.cons (.rai 0 "BadQueue" ⟨49, 14, 49, 22⟩ (.var 1 "part" ⟨49, 23, 49, 27⟩) ⟨49, 14, 49, 28⟩ ⟨49, 8, 49, 28⟩) (.nil)) (.nil) ⟨48, 4, 49, 28⟩) (.cons (.ret (.var 0 "thing" ⟨50, 11, 50, 16⟩) ⟨50, 4, 50, 16⟩) (.nil)))), false, false⟩
def f17 : Fd := ⟨"queue_text", ["queue"], 1, .cons (.ret (.call 13 "row_text" ⟨88, 11, 88, 19⟩ (.cons (.call 16 "need_queue" ⟨88, 20, 88, 30⟩ (.cons (.var 0 "queue" ⟨88, 31, 88, 36⟩) .nil) ⟨88, 20, 88, 37⟩) .nil) ⟨88, 11, 88, 38⟩) ⟨88, 4, 88, 38⟩) (.nil), false, false⟩
def f18 : Fd := ⟨"is_queue", ["thing"], 1, .cons (.ret (.andd (.cons (.isi ⟨43, 11, 43, 21⟩ (.var 0 "thing" ⟨43, 22, 43, 27⟩) .tuple ⟨43, 29, 43, 34⟩ ⟨43, 11, 43, 35⟩) (.cons (.cmp .eq (.ex (.f1 .len ⟨43, 40, 43, 43⟩ (.ex (.var 0 "thing" ⟨43, 44, 43, 49⟩)) ⟨43, 40, 43, 50⟩)) (.ex (.int 5 0 ⟨43, 54, 43, 55⟩)) ⟨43, 40, 43, 55⟩) (.cons (.isn false (.call 15 "wrong_part_queues" ⟨43, 61, 43, 78⟩ (.cons (.var 0 "thing" ⟨43, 79, 43, 84⟩) .nil) ⟨43, 61, 43, 85⟩) 0 ⟨43, 89, 43, 93⟩ ⟨43, 61, 43, 93⟩) .nil))) ⟨43, 11, 43, 94⟩) ⟨43, 4, 43, 94⟩) (.nil), false, false⟩
def f19 : Fd := ⟨"wrong_part_streams", ["thing", "queue", "writer", "reader", "phase", "catch", "fetch"], 1, .cons (.unp (.tp (.cons 1 "queue" ⟨54, 4, 54, 9⟩ (.cons 2 "writer" ⟨54, 11, 54, 17⟩ (.cons 3 "reader" ⟨54, 19, 54, 25⟩ (.cons 4 "phase" ⟨54, 27, 54, 32⟩ (.cons 5 "catch" ⟨54, 34, 54, 39⟩ (.cons 6 "fetch" ⟨54, 41, 54, 46⟩ .nil)))))) 0 ⟨54, 4, 54, 46⟩) (.var 0 "thing" ⟨54, 49, 54, 54⟩) ⟨54, 4, 54, 54⟩) (.cons (.iff (.nt (.call 18 "is_queue" ⟨55, 11, 55, 19⟩ (.cons (.var 1 "queue" ⟨55, 20, 55, 25⟩) .nil) ⟨55, 11, 55, 26⟩) ⟨55, 7, 55, 26⟩) (.cons (.ret (.str "queue" 0 ⟨56, 15, 56, 22⟩) ⟨56, 8, 56, 22⟩) (.nil)) (.nil) ⟨55, 4, 56, 22⟩) (.cons (.iff (.nt (.call 14 "is_whole" ⟨57, 11, 57, 19⟩ (.cons (.var 2 "writer" ⟨57, 20, 57, 26⟩) (.cons (.int 1 0 ⟨57, 28, 57, 29⟩) (.cons (.con "MOST_CLOCK" (.int 30) ⟨57, 31, 57, 41⟩) .nil))) ⟨57, 11, 57, 42⟩) ⟨57, 7, 57, 42⟩) (.cons (.ret (.str "writer" 0 ⟨58, 15, 58, 23⟩) ⟨58, 8, 58, 23⟩) (.nil)) (.nil) ⟨57, 4, 58, 23⟩) (.cons (.iff (.nt (.call 14 "is_whole" ⟨59, 11, 59, 19⟩ (.cons (.var 3 "reader" ⟨59, 20, 59, 26⟩) (.cons (.int 1 0 ⟨59, 28, 59, 29⟩) (.cons (.con "MOST_CLOCK" (.int 30) ⟨59, 31, 59, 41⟩) .nil))) ⟨59, 11, 59, 42⟩) ⟨59, 7, 59, 42⟩) (.cons (.ret (.str "reader" 0 ⟨60, 15, 60, 23⟩) ⟨60, 8, 60, 23⟩) (.nil)) (.nil) ⟨59, 4, 60, 23⟩) (.cons (.iff (.nt (.call 14 "is_whole" ⟨61, 11, 61, 19⟩ (.cons (.var 4 "phase" ⟨61, 20, 61, 25⟩) (.cons (.int 0 0 ⟨61, 27, 61, 28⟩) (.cons (.bin .sub (.var 3 "reader" ⟨61, 30, 61, 36⟩) (.int 1 0 ⟨61, 39, 61, 40⟩) ⟨61, 30, 61, 40⟩) .nil))) ⟨61, 11, 61, 41⟩) ⟨61, 7, 61, 41⟩) (.cons (.ret (.str "phase" 0 ⟨62, 15, 62, 22⟩) ⟨62, 8, 62, 22⟩) (.nil)) (.nil) ⟨61, 4, 62, 22⟩) (.cons (.iff (.nt (.call 14 "is_whole" ⟨63, 11, 63, 19⟩ (.cons (.var 5 "catch" ⟨63, 20, 63, 25⟩) (.cons (.int 0 0 ⟨63, 27, 63, 28⟩) (.cons (.int 1 0 ⟨63, 30, 63, 31⟩) .nil))) ⟨63, 11, 63, 32⟩) ⟨63, 7, 63, 32⟩) (.cons (.ret (.str "catch" 0 ⟨64, 15, 64, 22⟩) ⟨64, 8, 64, 22⟩) (.nil)) (.nil) ⟨63, 4, 64, 22⟩) (.cons (.ret (.ife (.call 14 "is_whole" ⟨65, 19, 65, 27⟩ (.cons (.var 6 "fetch" ⟨65, 28, 65, 33⟩) (.cons (.int 0 0 ⟨65, 35, 65, 36⟩) (.cons (.int 1 0 ⟨65, 38, 65, 39⟩) .nil))) ⟨65, 19, 65, 40⟩) (.non 0 ⟨65, 11, 65, 15⟩) (.str "fetch" 0 ⟨65, 46, 65, 53⟩) ⟨65, 11, 65, 53⟩) ⟨65, 4, 65, 53⟩) (.nil))))))), false, false⟩
def f20 : Fd := ⟨"need_stream", ["thing", "part"], 1, .cons (.iff (.orr (.cons (.nt (.isi ⟨68, 11, 68, 21⟩ (.var 0 "thing" ⟨68, 22, 68, 27⟩) .tuple ⟨68, 29, 68, 34⟩ ⟨68, 11, 68, 35⟩) ⟨68, 7, 68, 35⟩) (.cons (.cmp .ne (.ex (.f1 .len ⟨68, 39, 68, 42⟩ (.ex (.var 0 "thing" ⟨68, 43, 68, 48⟩)) ⟨68, 39, 68, 49⟩)) (.ex (.int 6 0 ⟨68, 53, 68, 54⟩)) ⟨68, 39, 68, 54⟩) .nil)) ⟨68, 7, 68, 54⟩) (.cons (.rai 1 "BadStream" ⟨69, 14, 69, 23⟩ (.str "form" 0 ⟨69, 24, 69, 30⟩) ⟨69, 14, 69, 31⟩ ⟨69, 8, 69, 31⟩) (.nil)) (.nil) ⟨68, 4, 69, 31⟩) (.cons (.asg 1 "part" ⟨70, 4, 70, 8⟩ (.call 19 "wrong_part_streams" ⟨70, 11, 70, 29⟩ (.cons (.var 0 "thing" ⟨70, 30, 70, 35⟩) .nil) ⟨70, 11, 70, 36⟩) ⟨70, 4, 70, 36⟩) (.cons (.iff (.isn true (.var 1 "part" ⟨71, 7, 71, 11⟩) 0 ⟨71, 19, 71, 23⟩ ⟨71, 7, 71, 23⟩) (.cons (.rai 1 "BadStream" ⟨72, 14, 72, 23⟩ (.var 1 "part" ⟨72, 24, 72, 28⟩) ⟨72, 14, 72, 29⟩ ⟨72, 8, 72, 29⟩) (.nil)) (.nil) ⟨71, 4, 72, 29⟩) (.cons (.ret (.var 0 "thing" ⟨73, 11, 73, 16⟩) ⟨73, 4, 73, 16⟩) (.nil)))), false, false⟩
def f21 : Fd := ⟨"stream_text", ["stream"], 1, .cons (.expr (.call 20 "need_stream" ⟨90, 4, 90, 15⟩ (.cons (.var 0 "stream" ⟨90, 16, 90, 22⟩) .nil) ⟨90, 4, 90, 23⟩) ⟨90, 4, 90, 23⟩) (.cons (.ret (.bin .add (.bin .add (.call 13 "row_text" ⟨91, 11, 91, 19⟩ (.cons (.idx (.ex (.var 0 "stream" ⟨91, 20, 91, 26⟩)) (.int 0 0 ⟨91, 27, 91, 28⟩) ⟨91, 20, 91, 29⟩) .nil) ⟨91, 11, 91, 30⟩) (.con "LINE_END" (.str "\n") ⟨91, 33, 91, 41⟩) ⟨91, 11, 91, 41⟩) (.call 13 "row_text" ⟨91, 44, 91, 52⟩ (.cons (.slc (.ex (.var 0 "stream" ⟨91, 53, 91, 59⟩)) (.so (.int 1 0 ⟨91, 60, 91, 61⟩)) .no ⟨91, 60, 91, 62⟩ ⟨91, 53, 91, 63⟩) .nil) ⟨91, 44, 91, 64⟩) ⟨91, 11, 91, 64⟩) ⟨91, 4, 91, 64⟩) (.nil)), false, false⟩
def f22 : Fd := ⟨"_law_right", ["_law_thing", "_law_kept", "_law_due", "_law_turn", "_law_heard_here"], 1, .cons (.par 1 "_law_kept" ⟨191, 4, 191, 13⟩ 2 "_law_due" ⟨191, 15, 191, 23⟩ (.ex (.f1 .repr ⟨191, 27, 191, 31⟩ (.ex (.var 0 "_law_thing" ⟨191, 32, 191, 42⟩)) ⟨191, 27, 191, 43⟩)) (.ex (.frz (.lst (.cons (.call 11 "_law_queue_due" ⟨191, 46, 191, 60⟩ (.cons (.var 0 "_law_thing" ⟨191, 61, 191, 71⟩) .nil) ⟨191, 46, 191, 72⟩) (.cons (.call 12 "_law_stream_due" ⟨191, 74, 191, 89⟩ (.cons (.var 0 "_law_thing" ⟨191, 90, 191, 100⟩) .nil) ⟨191, 74, 191, 101⟩) .nil)) ⟨191, 45, 191, 102⟩))) 0 ⟨191, 4, 191, 23⟩ 0 ⟨191, 26, 191, 103⟩ ⟨191, 4, 191, 103⟩) (.cons (.forr (.nm 3 "_law_turn" ⟨192, 8, 192, 17⟩) (.rg1 ⟨192, 21, 192, 26⟩ (.int 2 0 ⟨192, 27, 192, 28⟩) ⟨192, 21, 192, 29⟩) (.cons (.asg 4 "_law_heard_here" ⟨193, 8, 193, 23⟩ (.frz (.lst (.cons (.hc 2 "_law_heard" ⟨193, 27, 193, 37⟩ (.call 17 "queue_text" ⟨193, 46, 193, 56⟩ (.cons (.var 0 "_law_thing" ⟨193, 57, 193, 67⟩) .nil) ⟨193, 46, 193, 68⟩) none ⟨.function, [("_law_thing", .free), ("queue_text", .globalImplicit)], false, false, []⟩ ⟨193, 38, 193, 68⟩ ⟨193, 27, 193, 69⟩) (.cons (.hc 2 "_law_heard" ⟨193, 71, 193, 81⟩ (.call 21 "stream_text" ⟨193, 99, 193, 110⟩ (.cons (.var 0 "_law_thing" ⟨193, 111, 193, 121⟩) .nil) ⟨193, 99, 193, 122⟩) (some ("_law_x", ⟨193, 89, 193, 95⟩, 0, 0, ⟨193, 96, 193, 97⟩)) ⟨.function, [("_law_x", .local), ("_law_thing", .free), ("stream_text", .globalImplicit)], false, false, []⟩ ⟨193, 82, 193, 122⟩ ⟨193, 71, 193, 123⟩) .nil)) ⟨193, 26, 193, 124⟩)) ⟨193, 8, 193, 124⟩) (.cons (.iff (.cmp .ne (.ex (.f1 .repr ⟨194, 11, 194, 15⟩ (.ex (.var 4 "_law_heard_here" ⟨194, 16, 194, 31⟩)) ⟨194, 11, 194, 32⟩)) (.ex (.f1 .repr ⟨194, 36, 194, 40⟩ (.ex (.var 2 "_law_due" ⟨194, 41, 194, 49⟩)) ⟨194, 36, 194, 50⟩)) ⟨194, 11, 194, 50⟩) (.cons (.ret (.bl false 0 ⟨195, 19, 195, 24⟩) ⟨195, 12, 195, 24⟩) (.nil)) (.nil) ⟨194, 8, 195, 24⟩) (.nil))) ⟨192, 4, 195, 24⟩) (.cons (.ret (.cmp .eq (.ex (.f1 .repr ⟨196, 11, 196, 15⟩ (.ex (.var 0 "_law_thing" ⟨196, 16, 196, 26⟩)) ⟨196, 11, 196, 27⟩)) (.ex (.var 1 "_law_kept" ⟨196, 31, 196, 40⟩)) ⟨196, 11, 196, 40⟩) ⟨196, 4, 196, 40⟩) (.nil))), true, false⟩
def f23 : Fd := ⟨"integer_of", ["word", "sign"], 1, .cons (.iff (.orr (.cons (.nt (.chn .le .le (.int 1 0 ⟨80, 11, 80, 12⟩) (.f1 .len ⟨80, 16, 80, 19⟩ (.ex (.var 0 "word" ⟨80, 20, 80, 24⟩)) ⟨80, 16, 80, 25⟩) (.con "MOST_FIGURES" (.int 31) ⟨80, 29, 80, 41⟩) ⟨80, 11, 80, 41⟩) ⟨80, 7, 80, 41⟩) (.cons (.nt (.f1 .all ⟨80, 49, 80, 52⟩ (.ex (.frz (.lc (.cmp .inn (.ex (.var 1 "sign" ⟨80, 54, 80, 58⟩)) (.ex (.con "DIGITS" (.str "0123456789") ⟨80, 62, 80, 68⟩)) ⟨80, 54, 80, 68⟩) (.nm 1 "sign" ⟨80, 73, 80, 77⟩) (.seq (.var 0 "word" ⟨80, 81, 80, 85⟩)) .no [("sign", 1)] ⟨.function, [(".0", .local), ("sign", .local), ("DIGITS", .globalImplicit)], false, false, []⟩ ⟨80, 53, 80, 86⟩))) ⟨80, 49, 80, 87⟩) ⟨80, 45, 80, 87⟩) .nil)) ⟨80, 7, 80, 87⟩) (.cons (.ret (.non 0 ⟨81, 15, 81, 19⟩) ⟨81, 8, 81, 19⟩) (.nil)) (.nil) ⟨80, 4, 81, 19⟩) (.cons (.ret (.ife (.cmp .eq (.ex (.f1 .str ⟨82, 24, 82, 27⟩ (.ex (.f1 .int ⟨82, 28, 82, 31⟩ (.ex (.var 0 "word" ⟨82, 32, 82, 36⟩)) ⟨82, 28, 82, 37⟩)) ⟨82, 24, 82, 38⟩)) (.ex (.var 0 "word" ⟨82, 42, 82, 46⟩)) ⟨82, 24, 82, 46⟩) (.f1 .int ⟨82, 11, 82, 14⟩ (.ex (.var 0 "word" ⟨82, 15, 82, 19⟩)) ⟨82, 11, 82, 20⟩) (.non 0 ⟨82, 52, 82, 56⟩) ⟨82, 11, 82, 56⟩) ⟨82, 4, 82, 56⟩) (.nil)), false, false⟩
def f24 : Fd := ⟨"row_of", ["line", "word"], 1, .cons (.ret (.f1 .tuple ⟨86, 11, 86, 16⟩ (.ex (.frz (.lc (.call 23 "integer_of" ⟨86, 18, 86, 28⟩ (.cons (.var 1 "word" ⟨86, 29, 86, 33⟩) .nil) ⟨86, 18, 86, 34⟩) (.nm 1 "word" ⟨86, 39, 86, 43⟩) (.seq (.frz (.split (.var 0 "line" ⟨86, 47, 86, 51⟩) ⟨86, 47, 86, 57⟩ (.con "BLANK" (.str " ") ⟨86, 58, 86, 63⟩) ⟨86, 47, 86, 64⟩))) .no [("word", 1)] ⟨.function, [(".0", .local), ("word", .local), ("integer_of", .globalImplicit)], false, false, []⟩ ⟨86, 17, 86, 65⟩))) ⟨86, 11, 86, 66⟩) ⟨86, 4, 86, 66⟩) (.nil), false, false⟩
def f25 : Fd := ⟨"read_queue", ["string", "lines"], 1, .cons (.iff (.nt (.isi ⟨93, 11, 93, 21⟩ (.var 0 "string" ⟨93, 22, 93, 28⟩) .str ⟨93, 30, 93, 33⟩ ⟨93, 11, 93, 34⟩) ⟨93, 7, 93, 34⟩) (.cons (.rai 2 "BadText" ⟨94, 14, 94, 21⟩ (.int 0 0 ⟨94, 22, 94, 23⟩) ⟨94, 14, 94, 24⟩ ⟨94, 8, 94, 24⟩) (.nil)) (.nil) ⟨93, 4, 94, 24⟩) (.cons (.asg 1 "lines" ⟨95, 4, 95, 9⟩ (.frz (.split (.var 0 "string" ⟨95, 12, 95, 18⟩) ⟨95, 12, 95, 24⟩ (.con "LINE_END" (.str "\n") ⟨95, 25, 95, 33⟩) ⟨95, 12, 95, 34⟩)) ⟨95, 4, 95, 34⟩) (.cons (.iff (.nt (.call 18 "is_queue" ⟨96, 11, 96, 19⟩ (.cons (.call 24 "row_of" ⟨96, 20, 96, 26⟩ (.cons (.idx (.ex (.var 1 "lines" ⟨96, 27, 96, 32⟩)) (.int 0 0 ⟨96, 33, 96, 34⟩) ⟨96, 27, 96, 35⟩) .nil) ⟨96, 20, 96, 36⟩) .nil) ⟨96, 11, 96, 37⟩) ⟨96, 7, 96, 37⟩) (.cons (.rai 2 "BadText" ⟨97, 14, 97, 21⟩ (.int 1 0 ⟨97, 22, 97, 23⟩) ⟨97, 14, 97, 24⟩ ⟨97, 8, 97, 24⟩) (.nil)) (.nil) ⟨96, 4, 97, 24⟩) (.cons (.iff (.cmp .gt (.ex (.f1 .len ⟨98, 7, 98, 10⟩ (.ex (.var 1 "lines" ⟨98, 11, 98, 16⟩)) ⟨98, 7, 98, 17⟩)) (.ex (.int 1 0 ⟨98, 20, 98, 21⟩)) ⟨98, 7, 98, 21⟩) (.cons (.rai 2 "BadText" ⟨99, 14, 99, 21⟩ (.int 2 0 ⟨99, 22, 99, 23⟩) ⟨99, 14, 99, 24⟩ ⟨99, 8, 99, 24⟩) (.nil)) (.nil) ⟨98, 4, 99, 24⟩) (.cons (.ret (.call 24 "row_of" ⟨100, 11, 100, 17⟩ (.cons (.idx (.ex (.var 1 "lines" ⟨100, 18, 100, 23⟩)) (.int 0 0 ⟨100, 24, 100, 25⟩) ⟨100, 18, 100, 26⟩) .nil) ⟨100, 11, 100, 27⟩) ⟨100, 4, 100, 27⟩) (.nil))))), false, false⟩
def f26 : Fd := ⟨"read_stream", ["string", "lines", "found"], 1, .cons (.iff (.nt (.isi ⟨102, 11, 102, 21⟩ (.var 0 "string" ⟨102, 22, 102, 28⟩) .str ⟨102, 30, 102, 33⟩ ⟨102, 11, 102, 34⟩) ⟨102, 7, 102, 34⟩) (.cons (.rai 2 "BadText" ⟨103, 14, 103, 21⟩ (.int 0 0 ⟨103, 22, 103, 23⟩) ⟨103, 14, 103, 24⟩ ⟨103, 8, 103, 24⟩) (.nil)) (.nil) ⟨102, 4, 103, 24⟩) (.cons (.asg 1 "lines" ⟨104, 4, 104, 9⟩ (.frz (.split (.var 0 "string" ⟨104, 12, 104, 18⟩) ⟨104, 12, 104, 24⟩ (.con "LINE_END" (.str "\n") ⟨104, 25, 104, 33⟩) ⟨104, 12, 104, 34⟩)) ⟨104, 4, 104, 34⟩) (.cons (.iff (.nt (.call 18 "is_queue" ⟨105, 11, 105, 19⟩ (.cons (.call 24 "row_of" ⟨105, 20, 105, 26⟩ (.cons (.idx (.ex (.var 1 "lines" ⟨105, 27, 105, 32⟩)) (.int 0 0 ⟨105, 33, 105, 34⟩) ⟨105, 27, 105, 35⟩) .nil) ⟨105, 20, 105, 36⟩) .nil) ⟨105, 11, 105, 37⟩) ⟨105, 7, 105, 37⟩) (.cons (.rai 2 "BadText" ⟨106, 14, 106, 21⟩ (.int 1 0 ⟨106, 22, 106, 23⟩) ⟨106, 14, 106, 24⟩ ⟨106, 8, 106, 24⟩) (.nil)) (.nil) ⟨105, 4, 106, 24⟩) (.cons (.iff (.cmp .eq (.ex (.f1 .len ⟨107, 7, 107, 10⟩ (.ex (.var 1 "lines" ⟨107, 11, 107, 16⟩)) ⟨107, 7, 107, 17⟩)) (.ex (.int 1 0 ⟨107, 21, 107, 22⟩)) ⟨107, 7, 107, 22⟩) (.cons (.rai 2 "BadText" ⟨108, 14, 108, 21⟩ (.int 2 0 ⟨108, 22, 108, 23⟩) ⟨108, 14, 108, 24⟩ ⟨108, 8, 108, 24⟩) (.nil)) (.nil) ⟨107, 4, 108, 24⟩) (.cons (.asg 2 "found" ⟨109, 4, 109, 9⟩ (.bin .add (.tup (.cons (.call 24 "row_of" ⟨109, 13, 109, 19⟩ (.cons (.idx (.ex (.var 1 "lines" ⟨109, 20, 109, 25⟩)) (.int 0 0 ⟨109, 26, 109, 27⟩) ⟨109, 20, 109, 28⟩) .nil) ⟨109, 13, 109, 29⟩) .nil) 0 ⟨109, 12, 109, 31⟩) (.call 24 "row_of" ⟨109, 34, 109, 40⟩ (.cons (.idx (.ex (.var 1 "lines" ⟨109, 41, 109, 46⟩)) (.int 1 0 ⟨109, 47, 109, 48⟩) ⟨109, 41, 109, 49⟩) .nil) ⟨109, 34, 109, 50⟩) ⟨109, 12, 109, 50⟩) ⟨109, 4, 109, 50⟩) (.cons (.iff (.orr (.cons (.cmp .ne (.ex (.f1 .len ⟨110, 7, 110, 10⟩ (.ex (.var 2 "found" ⟨110, 11, 110, 16⟩)) ⟨110, 7, 110, 17⟩)) (.ex (.int 6 0 ⟨110, 21, 110, 22⟩)) ⟨110, 7, 110, 22⟩) (.cons (.isn true (.call 19 "wrong_part_streams" ⟨110, 26, 110, 44⟩ (.cons (.var 2 "found" ⟨110, 45, 110, 50⟩) .nil) ⟨110, 26, 110, 51⟩) 0 ⟨110, 59, 110, 63⟩ ⟨110, 26, 110, 63⟩) .nil)) ⟨110, 7, 110, 63⟩) (.cons (.rai 2 "BadText" ⟨111, 14, 111, 21⟩ (.int 2 0 ⟨111, 22, 111, 23⟩) ⟨111, 14, 111, 24⟩ ⟨111, 8, 111, 24⟩) (.nil)) (.nil) ⟨110, 4, 111, 24⟩) (.cons (.iff (.cmp .gt (.ex (.f1 .len ⟨112, 7, 112, 10⟩ (.ex (.var 1 "lines" ⟨112, 11, 112, 16⟩)) ⟨112, 7, 112, 17⟩)) (.ex (.int 2 0 ⟨112, 20, 112, 21⟩)) ⟨112, 7, 112, 21⟩) (.cons (.rai 2 "BadText" ⟨113, 14, 113, 21⟩ (.int 3 0 ⟨113, 22, 113, 23⟩) ⟨113, 14, 113, 24⟩ ⟨113, 8, 113, 24⟩) (.nil)) (.nil) ⟨112, 4, 113, 24⟩) (.cons (.ret (.var 2 "found" ⟨114, 11, 114, 16⟩) ⟨114, 4, 114, 16⟩) (.nil)))))))), false, false⟩
def lw0_0 : Sm := .asg 3 "_law_stream_so" ⟨200, 8, 200, 22⟩ (.call 1 "_law_stream" ⟨200, 25, 200, 36⟩ (.cons (.var 1 "_law_m" ⟨200, 37, 200, 43⟩) .nil) ⟨200, 25, 200, 44⟩) ⟨200, 8, 200, 44⟩
def lw0_1 : Sm := .forr (.nm 4 "_law_thing" ⟨201, 12, 201, 22⟩) (.seq (.tup (.cons (.var 3 "_law_stream_so" ⟨201, 27, 201, 41⟩) (.cons (.idx (.ex (.var 3 "_law_stream_so" ⟨201, 43, 201, 57⟩)) (.int 0 0 ⟨201, 58, 201, 59⟩) ⟨201, 43, 201, 60⟩) .nil)) 0 ⟨201, 26, 201, 61⟩)) (.cons (.iff (.orr (.cons (.nt (.call 22 "_law_right" ⟨202, 19, 202, 29⟩ (.cons (.var 4 "_law_thing" ⟨202, 30, 202, 40⟩) .nil) ⟨202, 19, 202, 41⟩) ⟨202, 15, 202, 41⟩) (.cons (.nt (.call 22 "_law_right" ⟨202, 49, 202, 59⟩ (.cons (.frz (.lof ⟨202, 60, 202, 64⟩ (.ex (.var 4 "_law_thing" ⟨202, 65, 202, 75⟩)) ⟨202, 60, 202, 76⟩)) .nil) ⟨202, 49, 202, 77⟩) ⟨202, 45, 202, 77⟩) (.cons (.nt (.call 22 "_law_right" ⟨202, 86, 202, 96⟩ (.cons (.call 4 "_law_odd" ⟨202, 97, 202, 105⟩ (.cons (.var 1 "_law_m" ⟨202, 106, 202, 112⟩) .nil) ⟨202, 97, 202, 113⟩) .nil) ⟨202, 86, 202, 114⟩) ⟨202, 82, 202, 114⟩) .nil))) ⟨202, 15, 202, 115⟩) (.cons (.ret (.bl false 0 ⟨203, 23, 203, 28⟩) ⟨203, 16, 203, 28⟩) (.nil)) (.nil) ⟨202, 12, 203, 28⟩) (.cons (.forr (.nm 5 "_law_k" ⟨204, 16, 204, 22⟩) (.rg1 ⟨204, 26, 204, 31⟩ (.int 8 0 ⟨204, 32, 204, 33⟩) ⟨204, 26, 204, 34⟩) (.cons (.asg 6 "_law_bent_here" ⟨205, 16, 205, 30⟩ (.call 9 "_law_bent" ⟨205, 33, 205, 42⟩ (.cons (.var 1 "_law_m" ⟨205, 43, 205, 49⟩) (.cons (.var 4 "_law_thing" ⟨205, 51, 205, 61⟩) .nil)) ⟨205, 33, 205, 62⟩) ⟨205, 16, 205, 62⟩) (.cons (.iff (.orr (.cons (.nt (.call 22 "_law_right" ⟨206, 23, 206, 33⟩ (.cons (.var 6 "_law_bent_here" ⟨206, 34, 206, 48⟩) .nil) ⟨206, 23, 206, 49⟩) ⟨206, 19, 206, 49⟩) (.cons (.nt (.call 22 "_law_right" ⟨206, 57, 206, 67⟩ (.cons (.call 9 "_law_bent" ⟨206, 68, 206, 77⟩ (.cons (.var 1 "_law_m" ⟨206, 78, 206, 84⟩) (.cons (.var 6 "_law_bent_here" ⟨206, 86, 206, 100⟩) .nil)) ⟨206, 68, 206, 101⟩) .nil) ⟨206, 57, 206, 102⟩) ⟨206, 53, 206, 102⟩) .nil)) ⟨206, 19, 206, 102⟩) (.cons (.ret (.bl false 0 ⟨207, 27, 207, 32⟩) ⟨207, 20, 207, 32⟩) (.nil)) (.nil) ⟨206, 16, 207, 32⟩) (.nil))) ⟨204, 12, 207, 32⟩) (.nil))) ⟨201, 8, 207, 32⟩
def lw2_0 : Sm := .forr (.nm 4 "_law_thing" ⟨210, 12, 210, 22⟩) (.seq (.tup (.cons (.var 9 "_law_odd_here" ⟨210, 27, 210, 40⟩) (.cons (.neg (.int 1 0 ⟨210, 43, 210, 44⟩) ⟨210, 42, 210, 44⟩) (.cons (.non 0 ⟨210, 46, 210, 50⟩) (.cons (.bl true 0 ⟨210, 52, 210, 56⟩) .nil)))) 0 ⟨210, 26, 210, 57⟩)) (.cons (.iff (.nt (.call 22 "_law_right" ⟨211, 19, 211, 29⟩ (.cons (.bin .add (.bin .add (.slc (.ex (.var 7 "_law_good" ⟨211, 30, 211, 39⟩)) .no (.so (.var 5 "_law_k" ⟨211, 41, 211, 47⟩)) ⟨211, 40, 211, 47⟩ ⟨211, 30, 211, 48⟩) (.tup (.cons (.var 4 "_law_thing" ⟨211, 52, 211, 62⟩) .nil) 0 ⟨211, 51, 211, 64⟩) ⟨211, 30, 211, 64⟩) (.bin .mul (.tup (.cons (.non 0 ⟨211, 68, 211, 72⟩) .nil) 0 ⟨211, 67, 211, 74⟩) (.bin .sub (.int 4 0 ⟨211, 78, 211, 79⟩) (.var 5 "_law_k" ⟨211, 82, 211, 88⟩) ⟨211, 78, 211, 88⟩) ⟨211, 67, 211, 89⟩) ⟨211, 30, 211, 89⟩) .nil) ⟨211, 19, 211, 90⟩) ⟨211, 15, 211, 90⟩) (.cons (.ret (.bl false 0 ⟨212, 23, 212, 28⟩) ⟨212, 16, 212, 28⟩) (.nil)) (.nil) ⟨211, 12, 212, 28⟩) (.nil)) ⟨210, 8, 212, 28⟩
def lw3_0 : Sm := .forr (.nm 4 "_law_thing" ⟨214, 12, 214, 22⟩) (.seq (.tup (.cons (.var 9 "_law_odd_here" ⟨214, 27, 214, 40⟩) (.cons (.neg (.int 1 0 ⟨214, 43, 214, 44⟩) ⟨214, 42, 214, 44⟩) (.cons (.non 0 ⟨214, 46, 214, 50⟩) (.cons (.bl true 0 ⟨214, 52, 214, 56⟩) .nil)))) 0 ⟨214, 26, 214, 57⟩)) (.cons (.iff (.nt (.call 22 "_law_right" ⟨215, 19, 215, 29⟩ (.cons (.bin .add (.bin .add (.bin .add (.tup (.cons (.var 7 "_law_good" ⟨215, 31, 215, 40⟩) .nil) 0 ⟨215, 30, 215, 42⟩) (.slc (.ex (.tup (.cons (.int 3 0 ⟨215, 46, 215, 47⟩) (.cons (.int 5 0 ⟨215, 49, 215, 50⟩) (.cons (.int 4 0 ⟨215, 52, 215, 53⟩) (.cons (.int 0 0 ⟨215, 55, 215, 56⟩) (.cons (.int 1 0 ⟨215, 58, 215, 59⟩) .nil))))) 0 ⟨215, 45, 215, 60⟩)) .no (.so (.var 5 "_law_k" ⟨215, 62, 215, 68⟩)) ⟨215, 61, 215, 68⟩ ⟨215, 45, 215, 69⟩) ⟨215, 30, 215, 69⟩) (.tup (.cons (.var 4 "_law_thing" ⟨215, 73, 215, 83⟩) .nil) 0 ⟨215, 72, 215, 85⟩) ⟨215, 30, 215, 85⟩) (.bin .mul (.tup (.cons (.non 0 ⟨215, 89, 215, 93⟩) .nil) 0 ⟨215, 88, 215, 95⟩) (.bin .sub (.int 4 0 ⟨215, 99, 215, 100⟩) (.var 5 "_law_k" ⟨215, 103, 215, 109⟩) ⟨215, 99, 215, 109⟩) ⟨215, 88, 215, 110⟩) ⟨215, 30, 215, 110⟩) .nil) ⟨215, 19, 215, 111⟩) ⟨215, 15, 215, 111⟩) (.cons (.ret (.bl false 0 ⟨216, 23, 216, 28⟩) ⟨216, 16, 216, 28⟩) (.nil)) (.nil) ⟨215, 12, 216, 28⟩) (.nil)) ⟨214, 8, 216, 28⟩
def lw4_0 : Sm := .asg 8 "_law_heard_here" ⟨218, 8, 218, 23⟩ (.frz (.lst (.cons (.hc 2 "_law_heard" ⟨218, 27, 218, 37⟩ (.call 25 "read_queue" ⟨218, 46, 218, 56⟩ (.cons (.var 9 "_law_odd_here" ⟨218, 57, 218, 70⟩) .nil) ⟨218, 46, 218, 71⟩) none ⟨.function, [("_law_odd_here", .free), ("read_queue", .globalImplicit)], false, false, []⟩ ⟨218, 38, 218, 71⟩ ⟨218, 27, 218, 72⟩) (.cons (.hc 2 "_law_heard" ⟨218, 74, 218, 84⟩ (.call 26 "read_stream" ⟨218, 102, 218, 113⟩ (.cons (.var 9 "_law_odd_here" ⟨218, 114, 218, 127⟩) .nil) ⟨218, 102, 218, 128⟩) (some ("_law_x", ⟨218, 92, 218, 98⟩, 0, 0, ⟨218, 99, 218, 100⟩)) ⟨.function, [("_law_x", .local), ("_law_odd_here", .free), ("read_stream", .globalImplicit)], false, false, []⟩ ⟨218, 85, 218, 128⟩ ⟨218, 74, 218, 129⟩) .nil)) ⟨218, 26, 218, 130⟩)) ⟨218, 8, 218, 130⟩
def lw4_1 : Sm := .iff (.cmp .ne (.ex (.f1 .repr ⟨219, 11, 219, 15⟩ (.ex (.var 8 "_law_heard_here" ⟨219, 16, 219, 31⟩)) ⟨219, 11, 219, 32⟩)) (.ex (.f1 .repr ⟨219, 36, 219, 40⟩ (.ex (.frz (.rep (.ex (.frz (.lst (.cons (.frz (.lst (.cons (.str "text" 0 ⟨219, 43, 219, 49⟩) (.cons (.int 0 0 ⟨219, 51, 219, 52⟩) .nil)) ⟨219, 42, 219, 53⟩)) .nil) ⟨219, 41, 219, 54⟩))) (.int 2 0 ⟨219, 57, 219, 58⟩) ⟨219, 41, 219, 58⟩))) ⟨219, 36, 219, 59⟩)) ⟨219, 11, 219, 59⟩) (.cons (.ret (.bl false 0 ⟨220, 19, 220, 24⟩) ⟨220, 12, 220, 24⟩) (.nil)) (.nil) ⟨219, 8, 220, 24⟩
def lw_0 : Sm := .forr (.nm 2 "_law_turn" ⟨199, 8, 199, 17⟩) (.rg1 ⟨199, 21, 199, 26⟩ (.bin .add (.int 3 0 ⟨199, 27, 199, 28⟩) (.f2 .min ⟨199, 31, 199, 34⟩ (.lns 0 "_law_script" ⟨199, 39, 199, 50⟩ ⟨199, 35, 199, 38⟩ ⟨199, 35, 199, 51⟩) (.int 6 0 ⟨199, 53, 199, 54⟩) ⟨199, 31, 199, 55⟩) ⟨199, 27, 199, 55⟩) ⟨199, 21, 199, 56⟩) (.fgt [0, 2, 3, 4, 5, 6] (.cons (lw0_0) (.cons (lw0_1) (.nil)))) ⟨199, 4, 207, 32⟩
def lw_1 : Sm := .asg 7 "_law_good" ⟨208, 4, 208, 13⟩ (.tup (.cons (.int 4 0 ⟨208, 17, 208, 18⟩) (.cons (.int 8 0 ⟨208, 20, 208, 21⟩) (.cons (.int 4 0 ⟨208, 23, 208, 24⟩) (.cons (.int 2 0 ⟨208, 26, 208, 27⟩) (.cons (.int 1 0 ⟨208, 29, 208, 30⟩) .nil))))) 0 ⟨208, 16, 208, 31⟩) ⟨208, 4, 208, 31⟩
def lw_2 : Sm := .forr (.tp (.cons 5 "_law_k" ⟨209, 8, 209, 14⟩ (.cons 9 "_law_odd_here" ⟨209, 16, 209, 29⟩ .nil)) 0 ⟨209, 8, 209, 29⟩) (.enu ⟨209, 33, 209, 42⟩ (.frz (.lst (.cons (.int 65 0 ⟨209, 44, 209, 46⟩) (.cons (.int 201 0 ⟨209, 48, 209, 51⟩) (.cons (.int 65 0 ⟨209, 53, 209, 55⟩) (.cons (.int 5 0 ⟨209, 57, 209, 58⟩) (.cons (.int 4 0 ⟨209, 60, 209, 61⟩) .nil))))) ⟨209, 43, 209, 62⟩)) ⟨209, 33, 209, 63⟩) (.fgt [0, 1, 2, 3, 4, 6] (.cons (lw2_0) (.nil))) ⟨209, 4, 212, 28⟩
def lw_3 : Sm := .forr (.tp (.cons 5 "_law_k" ⟨213, 8, 213, 14⟩ (.cons 9 "_law_odd_here" ⟨213, 16, 213, 29⟩ .nil)) 0 ⟨213, 8, 213, 29⟩) (.enu ⟨213, 33, 213, 42⟩ (.frz (.lst (.cons (.int 31 0 ⟨213, 44, 213, 46⟩) (.cons (.int 31 0 ⟨213, 48, 213, 50⟩) (.cons (.int 5 0 ⟨213, 52, 213, 53⟩) (.cons (.int 2 0 ⟨213, 55, 213, 56⟩) (.cons (.int 2 0 ⟨213, 58, 213, 59⟩) .nil))))) ⟨213, 43, 213, 60⟩)) ⟨213, 33, 213, 61⟩) (.fgt [0, 1, 2, 3, 4, 6] (.cons (lw3_0) (.nil))) ⟨213, 4, 216, 28⟩
def lw_4 : Sm := .forr (.nm 9 "_law_odd_here" ⟨217, 8, 217, 21⟩) (.seq (.tup (.cons (.non 0 ⟨217, 26, 217, 30⟩) (.cons (.int 5 0 ⟨217, 32, 217, 33⟩) (.cons (.bl true 0 ⟨217, 35, 217, 39⟩) (.cons (.tup .nil 0 ⟨217, 41, 217, 43⟩) (.cons (.tup (.cons (.str "4" 0 ⟨217, 46, 217, 49⟩) .nil) 0 ⟨217, 45, 217, 51⟩) (.cons (.frz (.lst (.cons (.str "4" 0 ⟨217, 54, 217, 57⟩) .nil) ⟨217, 53, 217, 58⟩)) (.cons (.dic ⟨217, 60, 217, 62⟩) (.cons (.bin .pow (.int 10 0 ⟨217, 64, 217, 66⟩) (.int 30 0 ⟨217, 70, 217, 72⟩) ⟨217, 64, 217, 72⟩) .nil)))))))) 0 ⟨217, 25, 217, 73⟩)) (.fgt [0, 1, 2, 3, 4, 5, 6, 7, 8] (.cons (lw4_0) (.cons (lw4_1) (.nil)))) ⟨217, 4, 220, 24⟩
def lw_5 : Sm := .ret (.bl true 0 ⟨221, 11, 221, 15⟩) ⟨221, 4, 221, 15⟩
def lw : Fd := ⟨"law", ["_law_script", "_law_m", "_law_turn", "_law_stream_so", "_law_thing", "_law_k", "_law_bent_here", "_law_good", "_law_heard_here", "_law_odd_here"], 1, .cons (lw_0) (.fgt [0, 2, 3, 6] (.cons (lw_1) (.cons (lw_2) (.fgt [0, 2, 3, 6] (.cons (lw_3) (.fgt [0, 2, 3, 4, 5, 6, 7] (.cons (lw_4) (.fgt [0, 2, 3, 4, 5, 6, 7, 8, 9] (.cons (lw_5) (.nil)))))))))), true, false⟩
def fns : List Fd := [f26, f25, f24, f23, f22, f21, f20, f19, f18, f17, f16, f15, f14, f13, f12, f11, f10, f9, f8, f7, f6, f5, f4, f3, f2, f1, f0]
def cons : List (Str × Cst) := [("BLANK", .str " "), ("MOST_PLACES", .int 64), ("MOST_PERIOD", .int 200), ("MOST_STAGES", .int 4), ("MOST_DELAY", .int 3), ("MOST_CLOCK", .int 30), ("LINE_END", .str "\n"), ("MOST_FIGURES", .int 31), ("DIGITS", .str "0123456789")]
def exN : List (Str × Option Str) := [("BadQueue", some "part"), ("BadStream", some "part"), ("BadText", some "line"), ("OutOfPlace", none)]
end Tk90

set_option Elab.async false
set_option linter.all false
set_option maxRecDepth 100000
set_option maxHeartbeats 4000000
namespace Tk90
open PySem L2 PySem.Spec PyProof.Rows TC
abbrev sNxt : Stmt := top 34
abbrev nN : List Str := ["_law_m", "_law_total", "_law_found", "_law_cell"]
theorem scN : FnScope nN ["_law_m", "_law_total"] (defScope sNxt) := ⟨rfl, rfl, rfl, by decide +kernel, rfl, by decide +kernel, by decide +kernel⟩
theorem gI : glB (defScope sNxt) "int" = true := by decide +kernel
theorem gL : glB (defScope sNxt) "len" = true := by decide +kernel
theorem at0 {α : Type} (x : α) (xs : List α) : L2.atI (x :: xs) 0 = some x := by
  unfold L2.atI L2.ixN
  simp
theorem cut1 (x : Int) (xs : List Int) : cutV ((x :: xs).map V.int) (some 1) none = xs.map V.int := by
  unfold cutV
  simp [HT.sIx]
  rw [List.take_of_length_le (by rw [List.length_map]; exact Nat.le_refl _)]
theorem at_mod (cs : List Int) (k : Int) (h : cs ≠ []) : ∃ cell, L2.atI (cs.map V.int) (k % ((cs.map V.int).length : Nat)) = some (.int cell) := by
  have hp := List.length_pos_iff.mpr h
  rw [List.length_map]
  have h0 := Int.emod_nonneg k (show ((cs.length : Nat) : Int) ≠ 0 by omega)
  have h1 := Int.emod_lt_of_pos k (show (0 : Int) < ((cs.length : Nat) : Int) by omega)
  generalize k % ((cs.length : Nat) : Int) = i at h0 h1
  unfold L2.atI L2.ixN
  rw [List.length_map, if_pos h0, if_pos (by omega)]
  have h2 : i.toNat < cs.length := by omega
  refine ⟨cs[i.toNat], ?_⟩
  show (cs.map V.int)[i.toNat]? = _
  rw [List.getElem?_map, List.getElem?_eq_getElem h2]
  rfl
section
variable {P : Program} {w : World} {K : PySem.W.Frag} {mg : Str → Option Value} {base : Heap}
theorem ok_next {C : TC.Ctx} (hr : C.rg = rgD C.am) {fa : Addr} {fd : FuncData} {qual : Str} {x : Str} (F : Fun K x qual sNxt fa fd) (hb : ∀ x, bltB x = true → mg x = none) : FnG P w K mg base 2 fa fd ["_law_m", "_law_total"] (spD C) := by
  obtain ⟨oc, od, kV, doc, pm, an, cdv, ct, osl, rfl, lk, hcd⟩ := F.ex
  refine fnG_of lk hcd scN (fun vs H Q E h => ?_) fun A outer s H vs Q E hg hr1 h => ?_
  · obtain ⟨b, R, G, n, _, rfl, _⟩ := h
    rfl
  · obtain ⟨b, R, G, n, B, rfl, n0, n1, hQ⟩ := h
    have hu := hu_of hr1
    have hu64 : (cxOf (L2.CX P w) P w K mg base nN qual (defScope sNxt) fa cdv A outer s H E).A.units + 64 < cLine := hr1.units
    have gi : mg "int" = none := hb _ (by decide +kernel)
    have gl : mg "len" = none := hb _ (by decide +kernel)
    have own : PassesOwn (model P w) (cxOf (L2.CX P w) P w K mg base nN qual (defScope sNxt) fa cdv A outer s H E).A (cxOf (L2.CX P w) P w K mg base nN qual (defScope sNxt) fa cdv A outer s H E).env (cxOf (L2.CX P w) P w K mg base nN qual (defScope sNxt) fa cdv A outer s H E).xe := passes_of rfl
    have hI : ID C.am (b + 1) R H := by
      have z := B.rg
      rw [hr] at z
      exact z
    obtain ⟨cl, g, t, u, cs, gs, rfl, D0, t0, tb, u0, u1⟩ := hI
    have n9 : n.natAbs.log2 < 9000 := by
      have h : n.natAbs < 2 ^ 30 := by omega
      by_cases z : n.natAbs = 0
      · rw [z]
        decide
      · exact Nat.lt_trans ((Nat.log2_lt z).mpr h) (by decide)
    let σ0 : L2.St := [some (.ref C.am), some (.int n), none, none]
    -- the rest, once the list of great ones is as it is to be
    let tR : TS := fun D σ H' => σ = σ0 ∧ (∃ g2 gs2, DD C.am H [C.am, cl, g] cl g2 (t + 1) u cs gs2 H') ∧ ∀ r H' g2 u2 gs2, 0 ≤ r → r < n → DD C.am H [C.am, cl, g] cl g2 (t + 1) u2 cs gs2 H' → 0 ≤ u2 → u2 < 4294967291 → D.rt (.int r) H'
    have cm : ∀ i j : Int, -(2 ^ 64) < i → i < 2 ^ 64 → CMul i j := fun i j h1 h2 => .inl ⟨h1, h2⟩
    have cm2 : ∀ i j : Int, -(2 ^ 64) < j → j < 2 ^ 64 → CMul i j := fun i j h1 h2 => .inr ⟨h1, h2⟩
    have R2 : PSs (cxOf (L2.CX P w) P w K mg base nN qual (defScope sNxt) fa cdv A outer s H E) ((defBody sNxt).drop 3) tR := by
      refine pssM (pss_cons (ps_set (i := 3) scN.nd rfl (.inl rfl) (pe_ix ix_seq (pe_dget hu (pv 0) pe_str (fun _ _ => rfl)) (pe_op op_mod (pe_callTy call_int1 (gl_of gI) gi (by decide +kernel) (pa_1 (pe_dget hu (pv 0) pe_str (fun _ _ => rfl)) rfl) (by decide +kernel) (by decide +kernel) rfl rfl)
          (pe_callB call_len_seq (gl_of gL) gl boot_len (pa_1 (pe_dget hu (pv 0) pe_str (fun _ _ => rfl)) rfl) (by decide +kernel) (by decide +kernel) rfl rfl)) (plainIx_of rfl)))
      (pss_cons (ps_dput hu (pv 0) pe_str (pe_op op_mod (pe_callTy call_int1 (gl_of gI) gi (by decide +kernel) (pa_1 (pe_op op_add (pe_op op_add (pe_op op_mul (pe_dget hu (pv 0) pe_str (fun _ _ => rfl)) pe_int) (pe_op op_mod (pe_callTy call_int1 (gl_of gI) gi (by decide +kernel) (pa_1 (pv 3) rfl) (by decide +kernel) (by decide +kernel) rfl rfl) pe_int))
          (pe_op op_mul pe_int (pe_dget hu (pv 0) pe_str (fun _ _ => rfl)))) rfl) (by decide +kernel) (by decide +kernel) rfl rfl) pe_int) rfl)
      (pss_one (ps_ret (pe_op op_mod (pe_op op_fdivW (pe_op op_mod (pe_callTy call_int1 (gl_of gI) gi (by decide +kernel) (pa_1 (pe_op op_add (pe_op op_mul (pe_dget hu (pv 0) pe_str (fun _ _ => rfl)) pe_int) (pe_dget hu (pv 0) pe_str (fun _ _ => rfl))) rfl) (by decide +kernel) (by decide +kernel) rfl rfl) pe_int) pe_int) (pv 1)))))) ?_
      rintro D σ H1 ⟨rfl, ⟨g2, gs2, D1⟩, hq⟩
      have pos : (0 : Int) < ((cs.map V.int).length : Nat) := by
        rw [List.length_map]
        have := List.length_pos_iff.mpr D1.ce
        omega
      obtain ⟨cell, hat⟩ := at_mod cs (t + 1) D1.ce
      refine ⟨.ref C.am, rfl, C.am, .ref cl, rfl, D1.get_c, .ref C.am, rfl, C.am, .int (t + 1), rfl, D1.get_t, .inl ⟨t + 1, rfl, .ref C.am, rfl, C.am, .ref cl, rfl, D1.get_c, cl, cs.map V.int, rfl, .inl (.inl (.inl D1.hc)), t + 1, _, rfl, rfl, pos, .inl ⟨cl, cs.map V.int, _, .int cell, rfl, rfl, .inl (.inl D1.hc), hat, ?_⟩⟩⟩
      refine ⟨.ref C.am, rfl, C.am, .int u, rfl, D1.get_u, u, 75364, rfl, rfl, cm2 _ _ (by decide) (by decide), .int cell, rfl, .inl ⟨cell, rfl, cell, 2147483587, rfl, rfl, (by decide : (0 : Int) < 2147483587), _, _, rfl, rfl, .ref C.am, rfl, C.am, .int (t + 1), rfl, D1.get_t, 977, t + 1, rfl, rfl, cm _ _ (by decide) (by decide), _, _, rfl, rfl, .inl ⟨_, rfl, _, 4294967291, rfl, rfl, (by decide : (0 : Int) < 4294967291), ?_⟩⟩⟩
      have D2 := D1.setT (t' := t + 1) (u' := (u * 75364 + cell % 2147483587 + 977 * (t + 1)) % 4294967291)
      have v0 : 0 ≤ (u * 75364 + cell % 2147483587 + 977 * (t + 1)) % 4294967291 := Int.emod_nonneg _ (by decide)
      have v1 : (u * 75364 + cell % 2147483587 + 977 * (t + 1)) % 4294967291 < 4294967291 := Int.emod_lt_of_pos _ (by decide)
      refine ⟨.ref C.am, rfl, C.am, _, rfl, D1.put_u, ?_⟩
      refine ⟨.ref C.am, rfl, C.am, .int _, rfl, D2.get_u, _, 40692, rfl, rfl, cm2 _ _ (by decide) (by decide), .ref C.am, rfl, C.am, .int (t + 1), rfl, D2.get_t, _, _, rfl, rfl, .inl ⟨_, rfl, _, 4294967279, rfl, rfl, (by decide : (0 : Int) < 4294967279), _, 128, rfl, rfl, ⟨by decide, by decide⟩, .int n, rfl, _, n, rfl, rfl, n0, ?_⟩⟩
      exact hq _ _ g2 _ gs2 (Int.emod_nonneg _ (by omega)) (Int.emod_lt_of_pos _ n0) D2 v0 v1
    have R1 : PSs (cxOf (L2.CX P w) P w K mg base nN qual (defScope sNxt) fa cdv A outer s H E) ((defBody sNxt).drop 2) tR := by
      refine pssM (pss_cons (ps_if (pt_cmpR (op_neD hu64) (pe_dget hu (pv 0) pe_str (fun _ _ => rfl)) (pe_lst pa_nil) (nomark _))
        (pss_cons (ps_asg (pe_tup (pa_2 (pe_op op_mod (pe_callTy call_int1 (gl_of gI) gi (by decide +kernel) (pa_1 (pe_ix ix_seq (pe_dget hu (pv 0) pe_str (fun _ _ => rfl)) pe_int (plainIx_of rfl)) rfl) (by decide +kernel) (by decide +kernel) rfl rfl) (pv 1))
            (pe_op op_fdivW (pe_callTy call_int1 (gl_of gI) gi (by decide +kernel) (pa_1 (pe_ix ix_seq (pe_dget hu (pv 0) pe_str (fun _ _ => rfl)) pe_int (plainIx_of rfl)) rfl) (by decide +kernel) (by decide +kernel) rfl rfl) (pv 1)) rfl rfl))
          (pg_tup rfl (pgs_cons (pg_name (i := 2) scN.nd rfl (.inl rfl)) (pgs_cons (pg_sub (pe_dget hu (pv 0) pe_str (fun _ _ => rfl)) pe_int set_list) pgs_nil))))
        (pss_one (ps_ret (pv 2)))) pss_nil) R2) ?_
      rintro D σ H1 ⟨rfl, ⟨g2, gs2, D1⟩, hq⟩
      refine ⟨.ref C.am, rfl, C.am, .ref g2, rfl, D1.get_g, some_red rfl D1.hg fun p np => ?_⟩
      have D2 := D1.junk (o := .lst []) np
      cases gs2 with
      | nil => exact ⟨rfl, ⟨g2, [], D2⟩, hq⟩
      | cons z zs =>
        show (if (true : Bool) = true then _ else _)
        rw [if_pos rfl]
        refine ⟨.ref C.am, rfl, C.am, .ref g2, rfl, D2.get_g, .inl ⟨g2, (z :: zs).map V.int, 0, .int z, rfl, rfl, .inl (.inl D2.hg), at0 _ _, .inl ⟨z, rfl, ?_⟩⟩⟩
        refine ⟨.int n, rfl, z, n, rfl, rfl, n0, .ref C.am, rfl, C.am, .ref g2, rfl, D2.get_g, .inl ⟨g2, (z :: zs).map V.int, 0, .int z, rfl, rfl, .inl (.inl D2.hg), at0 _ _, .inl ⟨z, rfl, ?_⟩⟩⟩
        refine ⟨.int n, rfl, z, n, rfl, rfl, ⟨n0, n9⟩, ?_⟩
        refine ⟨by show 2 ≤ sizeLine; decide, fun p2 n2 => ?_⟩
        have D3 := D2.junk (o := .tup [.int (z % n), .int (z / n)]) n2
        refine ⟨p2, [.int (z % n), .int (z / n)], rfl, .inl (.inl upd_same), rfl, ?_⟩
        refine ⟨_, _, rfl, _, _, rfl, .ref C.am, rfl, C.am, .ref g2, rfl, D3.get_g, g2, (z :: zs).map V.int, 0, 0, rfl, rfl, D3.hg, by simp [ixN], rfl, ?_⟩
        have D4 := D3.setG (gs' := (z / n) :: zs) D3.lg
        exact ⟨.int (z % n), rfl, hq (z % n) _ g2 u ((z / n) :: zs) (Int.emod_nonneg _ (by omega)) (Int.emod_lt_of_pos _ n0) D4 u0 u1⟩
    refine ⟨_, pss_cons (ps_dput hu (pv 0) pe_str (pe_op op_add (pe_dget hu (pv 0) pe_str (fun _ _ => rfl)) pe_int) rfl) (pss_cons (ps_while own (pw_and (pt_cmpR (op_neD hu64) (pe_dget hu (pv 0) pe_str (fun _ _ => rfl)) (pe_lst pa_nil) (nomark _)) (pw_and1 (pt_cmpR op_eq (pe_ix ix_seq (pe_dget hu (pv 0) pe_str (fun _ _ => rfl)) pe_int (plainIx_of rfl)) pe_int (nomark _)))).pt
        (pss_one (ps_dput hu (pv 0) pe_str (pe_slice sl_list (pe_dget hu (pv 0) pe_str (fun _ _ => rfl)) (po_some pe_int) po_none) rfl))) R1), ?_⟩
    have fin : ∀ {g2 gs2 H2}, DD C.am H [C.am, cl, g] cl g2 (t + 1) u cs gs2 H2 → tR { nx := fun _ H' => Q .non H', rt := Q } σ0 H2 := fun {g2 gs2 H2} D2 => ⟨rfl, ⟨g2, gs2, D2⟩, fun r H' g3 t2 gs3 h0 h1 D3 w0 w1 => by
      obtain ⟨st, B'⟩ := D3.fin hr B (by omega) (by omega) w0 w1
      exact hQ r _ H' h0 h1 st B'⟩
    refine ⟨.ref C.am, rfl, C.am, .int t, rfl, D0.get_t, t, 1, rfl, rfl, .ref C.am, rfl, C.am, _, rfl, D0.put_t (t' := t + 1), ?_⟩
    have D0 := D0.setT (t' := t + 1) (u' := u)
    refine ⟨fun m σ H' => ∃ g' gs', σ = σ0 ∧ gs'.length = m ∧ DD C.am H [C.am, cl, g] cl g' (t + 1) u cs gs' H', ⟨gs.length, g, gs, rfl, rfl, D0⟩, ?_⟩
    rintro m σ H1 ⟨g1, gs1, rfl, rfl, D1⟩
    refine ⟨.ref C.am, rfl, C.am, .ref g1, rfl, D1.get_g, some_red rfl D1.hg fun p np => ?_⟩
    have D2 := D1.junk (o := .lst []) np
    cases gs1 with
    | nil =>
      show (if (false : Bool) = true then _ else _)
      rw [if_neg (by decide)]
      show (if (false : Bool) = true then _ else _)
      rw [if_neg (by decide)]
      exact fin D2
    | cons z zs =>
      show (if (true : Bool) = true then _ else _)
      rw [if_pos rfl]
      refine ⟨.ref C.am, rfl, C.am, .ref g1, rfl, D2.get_g, .inl ⟨g1, (z :: zs).map V.int, 0, .int z, rfl, rfl, .inl (.inl D2.hg), at0 _ _, rfl, _, rfl, ?_⟩⟩
      by_cases hz : z = 0
      · subst hz
        have e : decide (V.int 0 = V.int 0) = true := decide_eq_true rfl
        rw [e]
        show (if (true : Bool) = true then _ else _)
        rw [if_pos rfl]
        refine ⟨fun σ' H' => ∃ g2, σ' = σ0 ∧ DD C.am H [C.am, cl, g] cl g2 (t + 1) u cs zs H', fun σ' H' ⟨g2, e1, D3⟩ => ⟨zs.length, Nat.lt_succ_self _, g2, zs, e1, rfl, D3⟩, ?_⟩
        refine ⟨.ref C.am, rfl, C.am, .ref g1, rfl, D2.get_g, ?_⟩
        refine ⟨1, rfl, g1, (0 :: zs).map V.int, rfl, .inl (.inl D2.hg), fun p2 n2 => ⟨.ref C.am, rfl, C.am, _, rfl, (D2.junk n2).put_g, p2, rfl, ?_⟩⟩
        have z := D2.newG (gs' := zs) n2 (Nat.le_of_succ_le D2.lg)
        rw [← cut1 0 zs] at z
        exact z
      · have e : decide (V.int z = V.int 0) = false := decide_eq_false fun q => hz (V.int.inj q)
        rw [e]
        show (if (false : Bool) = true then _ else _)
        rw [if_neg (by decide)]
        exact fin D2
end
end Tk90

set_option Elab.async false
set_option linter.all false
set_option maxRecDepth 100000
set_option maxHeartbeats 4000000
namespace Tk90
open PySem L2 PySem.Spec PyProof.Rows TC
abbrev sBeg : Stmt := top 33
abbrev bN : List Str := ["_law_script", "_law_cells", "_law_cell"]
theorem scB : FnScope bN ["_law_script"] (defScope sBeg) := ⟨rfl, rfl, rfl, by decide +kernel, rfl, by decide +kernel, by decide +kernel⟩
theorem gS : glB (defScope sBeg) "list" = true := by decide +kernel
theorem gN : glB (defScope sBeg) "len" = true := by decide +kernel
theorem merge_kvD (cl g : Addr) (t u : Int) : mergeK [] (kvD cl g t u) = kvD cl g t u := by
  have h1 : ¬ ("cells" : Str) = "great" := by decide +kernel
  have h2 : ¬ ("cells" : Str) = "turn" := by decide +kernel
  have h3 : ¬ ("cells" : Str) = "sum" := by decide +kernel
  have h4 : ¬ ("great" : Str) = "turn" := by decide +kernel
  have h5 : ¬ ("great" : Str) = "sum" := by decide +kernel
  have h6 : ¬ ("turn" : Str) = "sum" := by decide +kernel
  simp [mergeK, kvD, putK, h1, h2, h3, h4, h5, h6]
theorem bkB : blkC bN (defScope sBeg) ⟨.function, [(".0", .local), ("_law_cell", .local)], false, false, []⟩ [("_law_cell", 2)] = true := by decide +kernel
section
variable {P : Program} {w : World} {K : PySem.W.Frag} {mg : Str → Option Value} {base : Heap}
theorem ok_begun {nb : Nat} (hnb : nb ≤ 1000000) {fa : Addr} {fd : FuncData} {qual : Str} {x : Str} (F : Fun K x qual sBeg fa fd) (hb : ∀ x, bltB x = true → mg x = none) : FnG P w K mg base 2 fa fd ["_law_script"] (spS K rgD nb) := by
  obtain ⟨oc, od, kV, doc, pm, an, cdv, ct, osl, rfl, lk, hcd⟩ := F.ex
  refine fnG_of lk hcd scB (fun vs H Q E h => ?_) fun A outer s H vs Q E hg hr1 h => ?_
  · obtain ⟨a, ns, rfl, _⟩ := h
    rfl
  · obtain ⟨a, ns, rfl, sq, hl, hbt, hQ⟩ := h
    have gl : mg "list" = none := hb _ (by decide +kernel)
    have gn : mg "len" = none := hb _ (by decide +kernel)
    have sk : ∀ {H' : Hp}, (∀ c o, H c = some o → H' c = some o) → SqL K H' a (ns.map V.int) := fun {H'} k => sq.imp (fun r => r.imp (k _ _) fun ⟨u, z⟩ => ⟨u, k _ _ z⟩) id
    have u1 : ∀ {H1 : Hp} {p : Addr} {o : HO}, (∀ c o, H c = some o → H1 c = some o) → H1 p = none → ∀ c u, H c = some u → upd H1 p o c = some u := fun {H1 p o} k n c u h => by
      have z := k c u h
      rw [upd_ne (ne_of_none z n)]
      exact z
    refine ⟨_, pss_cons (ps_set (i := 1) scB.nd rfl (.inl rfl) (pe_op op_catR (pe_callTy call_list_of (gl_of gS) gl (by decide +kernel) (pa_1 (pv 0) rfl) (by decide +kernel) (by decide +kernel) rfl rfl) (pe_lst (pa_cons pe_int pa_nil rfl))))
      (pss_one (ps_ret (pe_disp (pps_cons pe_str (pv 1) (pps_cons pe_str (pe_lc rfl scB.nd (pi_list (pv 0)) (blkOk_by (own := [("_law_cell", 2)]) bkB) (fun s H D cl fp => pg_name (i := 2) scB.nd rfl (.inl rfl) (.inr rfl))
          (fun s H D cl fp => pts_one (pt_cmpR op_ge (pv 2) (pe_op op_pow pe_int pe_int) (nomark _))) (fun s H D cl fp => pv 2))
        (pps_cons pe_str pe_int (pps_cons pe_str (pe_callB call_len_seq (gl_of gN) gn boot_len (pa_1 (pv 1) rfl) (by decide +kernel) (by decide +kernel) rfl rfl) pps_nil)))) rfl rfl (by simp) (by decide)))), ?_⟩
    refine ⟨.ref a, rfl, a, ns.map V.int, rfl, .inl sq, fun l0 n0 => ⟨by show 1 ≤ sizeLine; decide, fun l1 n1 => ?_⟩⟩
    have k0 := u1 (o := .lst (ns.map V.int)) (fun _ _ h => h) n0
    have k1 := u1 (o := .lst [V.int 29]) k0 n1
    refine ⟨l0, l1, ns.map V.int, [.int 29], rfl, rfl, .inl (by rw [upd_ne (fun z => by rw [← z, upd_same] at n1; cases n1), upd_same]), .inl upd_same, ?_, fun cl nc => ?_⟩
    · rw [List.length_map]
      show ns.length + 1 ≤ sizeLine
      have := line_num
      omega
    have k2 := u1 (o := .lst (ns.map V.int ++ [V.int 29])) k1 nc
    have ec : ns.map V.int ++ [V.int 29] = (ns ++ [29]).map V.int := by rw [List.map_append]; rfl
    have hc0 : H cl = none := upd_none (upd_none nc)
    intro p np
    have k3 := u1 (o := .dK []) k2 np
    have hp0 : H p = none := upd_none (upd_none (upd_none np))
    have pc : cl ≠ p := fun z => by
      rw [← z, upd_same] at np
      cases np
    refine ⟨.ref cl, rfl, .ref a, rfl, a, rfl, ⟨_, sk k3⟩, fun D nD => lc_list (K := K) (a := a) (xs := ns.map V.int) (fun i H' => ∃ acc : List Int, H' = upd (upd (upd (upd (upd H l0 (.lst (ns.map V.int))) l1 (.lst [V.int 29])) cl (.lst (ns.map V.int ++ [V.int 29]))) p (.dK [])) D (.lst (acc.map V.int)) ∧ acc.length ≤ i) ⟨[], rfl, Nat.le_refl _⟩ (fun i H' _ ⟨acc, e, _⟩ => by rw [e]; exact sk (u1 k3 nD)) ?_ ?_⟩
    · rintro i y H' hi ⟨acc, rfl, la⟩
      obtain ⟨z, rfl⟩ : ∃ z, y = V.int z := by
        rw [List.getElem?_map] at hi
        obtain ⟨z, _, e⟩ := Option.map_eq_some_iff.mp hi
        exact ⟨z, e.symm⟩
      have il : i < (ns.map V.int).length := (List.getElem?_eq_some_iff.mp hi).1
      rw [List.length_map] at il
      refine ⟨rfl, .int z, rfl, 10, 18, rfl, rfl, ⟨by decide, by decide, by decide⟩, z, _, rfl, rfl, _, rfl, ?_⟩
      by_cases c : (10 : Int) ^ (18 : Int).toNat ≤ z
      · rw [decide_eq_true c]
        show ite _ _ _
        rw [if_pos rfl]
        refine ⟨.int z, rfl, acc.map V.int, upd_same, ?_, acc ++ [z], ?_, ?_⟩
        · rw [List.length_map]
          have := line_num
          omega
        · rw [upd_upd, List.map_append]
          rfl
        · rw [List.length_append]
          exact Nat.succ_le_succ la
      · rw [decide_eq_false c]
        show ite _ _ _
        rw [if_neg (by decide)]
        exact ⟨acc, rfl, Nat.le_succ_of_le la⟩
    · rintro H' ⟨acc, rfl, la⟩
      rw [List.length_map] at la
      have k4 := u1 (o := .lst (acc.map V.int)) k3 nD
      have Dp : p ≠ D := fun z => by
        rw [← z, upd_same] at nD
        cases nD
      have Dc : cl ≠ D := fun z => by
        rw [← z, upd_ne pc, upd_same] at nD
        cases nD
      have hcl : (upd (upd (upd (upd (upd H l0 (.lst (ns.map V.int))) l1 (.lst [V.int 29])) cl (.lst (ns.map V.int ++ [V.int 29]))) p (.dK [])) D (.lst (acc.map V.int))) cl = some (.lst (ns.map V.int ++ [V.int 29])) := by
        rw [upd_ne Dc, upd_ne pc, upd_same]
      refine ⟨.ref cl, rfl, cl, ns.map V.int ++ [V.int 29], rfl, .inl (.inl (.inl hcl)), ?_⟩
      refine ⟨by rw [upd_ne Dp]; exact upd_same, kvD cl D 0 ((ns.length + 1 : Nat) : Int), ?_, by show 4 ≤ 15; decide, ?_⟩
      · have e : (ns.map V.int ++ [V.int 29]).length = ns.length + 1 := by simp
        rw [e]
        rfl
      rw [merge_kvD]
      have hD0 : H D = none := upd_none (upd_none (upd_none (upd_none nD)))
      have fresh : ∀ c ∈ [p, cl, D], H c = none := fun c hc => by
        simp only [List.mem_cons, List.not_mem_nil, or_false] at hc
        rcases hc with rfl | rfl | rfl
        · exact hp0
        · exact hc0
        · exact hD0
      refine hQ p [p, cl, D] _ ⟨cl, D, 0, ((ns.length + 1 : Nat) : Int), ns ++ [29], acc, rfl, ⟨upd_same, by rw [upd_ne pc, hcl, ec], by rw [upd_ne Dp.symm, upd_same], Dc, by simp, by rw [List.length_append]; show ns.length + 1 ≤ 64; omega, by omega, fun _ _ h _ => h, fun _ h => h, by simp, .inl (by simp), .inl (by simp)⟩, by decide, by omega, by omega, by omega⟩ (fun c u h => ?_) fresh
      rw [upd_ne (ne_of_none h hp0)]
      exact k4 c u h
end
end Tk90

set_option Elab.async false
set_option linter.all false
set_option maxRecDepth 100000
set_option maxHeartbeats 4000000
namespace Tk90
open PySem TC
theorem fl {s : Str} : flatP (.str s) = true := rfl
/-- an integer within bounds -/
def isW : PyData → Int → Int → Bool
  | .int i, lo, hi => decide (lo ≤ i) && decide (i ≤ hi)
  | _, _, _ => false
abbrev W1 (TL : Nat → List Wd → Comp FR) (j : Nat) : Prop := ∀ {d : PyData} {lo hi : Int}, TL j [.d d, .d (.int lo), .d (.int hi)] = .ret (.fz (.d (.bool (isW d lo hi))))
theorem s10 : W1 (clF fns) 10 := fun {d lo hi} => by
  rw [clF_at (f := f10) rfl (by decide)]
  unfold f10
  generalize tlC fns 10 = TL at *
  cases d with
  | int i =>
    by_cases h : lo ≤ i
    · simp [Fd.run, isiE, isW, h]
    · simp [Fd.run, isiE, isW, h]
  | _ => simp [Fd.run, isiE, isW]
theorem s14 : W1 (clF fns) 14 := fun {d lo hi} => by
  rw [clF_at (f := f14) rfl (by decide)]
  unfold f14
  generalize tlC fns 14 = TL at *
  cases d with
  | int i =>
    by_cases h : lo ≤ i
    · simp [Fd.run, isiE, isW, h]
    · simp [Fd.run, isiE, isW, h]
  | _ => simp [Fd.run, isiE, isW]
theorem isW_t {x : PyData} {lo hi : Int} (h : isW x lo hi = true) : ∃ i : Int, x = .int i ∧ lo ≤ i ∧ i ≤ hi := by
  cases x with
  | int i =>
    have h : (decide (lo ≤ i) && decide (i ≤ hi)) = true := h
    rw [Bool.and_eq_true] at h
    exact ⟨i, rfl, of_decide_eq_true h.1, of_decide_eq_true h.2⟩
  | _ => cases h
/-! ### why a thing is no queue, no stream -/
def qW (d p r s l : PyData) : Option Str :=
  if isW d 1 64 then if isW p 2 200 then if isW r 1 64 then if isW s 1 4 then if isW l 0 3 then none else some "delay" else some "stages" else some "room" else some "period" else some "depth"
def whyQ : PyData → Option Str
  | .tuple [d, p, r, s, l] => qW d p r s l
  | _ => some "form"
def hiOf : PyData → Int
  | .int i => i
  | _ => 0
def sW (q w r p c f : PyData) : Option Str :=
  if whyQ q = none then if isW w 1 30 then if isW r 1 30 then if isW p 0 (hiOf r - 1) then if isW c 0 1 then if isW f 0 1 then none else some "fetch" else some "catch" else some "phase" else some "reader" else some "writer" else some "queue"
def whyS : PyData → Option Str
  | .tuple [q, w, r, p, c, f] => sW q w r p c f
  | _ => some "form"
def wd : Option Str → PyData
  | none => .none
  | some w => .str w
theorem whyQ_cases (x : PyData) : (∃ d p r s l, x = .tuple [d, p, r, s, l]) ∨ (whyQ x = some "form" ∧ ((isiE .tuple x = false) ∨ ∃ xs : List PyData, x = .tuple xs ∧ ((xs.length : Nat) : Int) ≠ 5)) := by
  cases x with
  | tuple xs =>
    match xs with
    | [d, p, r, s, l] => exact .inl ⟨d, p, r, s, l, rfl⟩
    | [] | [_] | [_, _] | [_, _, _] | [_, _, _, _] => exact .inr ⟨rfl, .inr ⟨_, rfl, by simp⟩⟩
    | _ :: _ :: _ :: _ :: _ :: _ :: _ => exact .inr ⟨rfl, .inr ⟨_, rfl, by simp only [List.length_cons]; omega⟩⟩
  | _ => exact .inr ⟨rfl, .inl rfl⟩
theorem whyS_cases (x : PyData) : (∃ q w r p c f, x = .tuple [q, w, r, p, c, f]) ∨ (whyS x = some "form" ∧ ((isiE .tuple x = false) ∨ ∃ xs : List PyData, x = .tuple xs ∧ ((xs.length : Nat) : Int) ≠ 6)) := by
  cases x with
  | tuple xs =>
    match xs with
    | [d, p, r, s, l, m] => exact .inl ⟨d, p, r, s, l, m, rfl⟩
    | [] | [_] | [_, _] | [_, _, _] | [_, _, _, _] | [_, _, _, _, _] => exact .inr ⟨rfl, .inr ⟨_, rfl, by simp⟩⟩
    | _ :: _ :: _ :: _ :: _ :: _ :: _ :: _ => exact .inr ⟨rfl, .inr ⟨_, rfl, by simp only [List.length_cons]; omega⟩⟩
  | _ => exact .inr ⟨rfl, .inl rfl⟩
/-! the program's look -/
theorem s15g {TL : Nat → List Wd → Comp FR} (h : W1 TL 14) {d p r s l : PyData} : f15.run 100 TL [.d (.tuple [d, p, r, s, l])] = .ret (.fz (.d (wd (qW d p r s l)))) := by
  unfold f15 qW
  cases h1 : isW d 1 64 with
  | false => simp [Fd.run, h, Cst.val, h1, wd]
  | true =>
  cases h2 : isW p 2 200 with
  | false => simp [Fd.run, h, Cst.val, h1, h2, wd]
  | true =>
  cases h3 : isW r 1 64 with
  | false => simp [Fd.run, h, Cst.val, h1, h2, h3, wd]
  | true =>
  cases h4 : isW s 1 4 with
  | false => simp [Fd.run, h, Cst.val, h1, h2, h3, h4, wd]
  | true =>
  cases h5 : isW l 0 3 with
  | false => simp [Fd.run, h, Cst.val, h1, h2, h3, h4, h5, wd]
  | true => simp [Fd.run, h, Cst.val, h1, h2, h3, h4, h5, wd]
theorem s15 {d p r s l : PyData} : clF fns 15 [.d (.tuple [d, p, r, s, l])] = .ret (.fz (.d (wd (qW d p r s l)))) := by
  rw [clF_at (f := f15) rfl (by decide)]
  exact s15g fun {d lo hi} => (tlF (by decide) (by decide)).trans s14
theorem s16g {TL : Nat → List Wd → Comp FR} (h : ∀ d p r s l, TL 15 [.d (.tuple [d, p, r, s, l])] = .ret (.fz (.d (wd (qW d p r s l))))) {x : PyData} : f16.run 100 TL [.d x] = match whyQ x with | none => .ret (.fz (.d x)) | some w => .raise ⟨0, .str w⟩ := by
  unfold f16
  rcases whyQ_cases x with ⟨d, p, r, s, l, rfl⟩ | ⟨hw, hn | ⟨xs, rfl, hl⟩⟩
  · have hi := isiT2 (xs := [d, p, r, s, l])
    have q := h d p r s l
    show _ = (match qW d p r s l with | none => Comp.ret (FR.fz (Wd.d (.tuple [d, p, r, s, l]))) | some w => Comp.raise ⟨0, .str w⟩)
    cases hq : qW d p r s l with
    | none =>
      rw [hq] at q
      simp [Fd.run, hi, q, wd]
    | some w =>
      rw [hq] at q
      simp [Fd.run, hi, q, wd, fl]
  · rw [hw]
    simp [Fd.run, hn, fl]
  · obtain ⟨N, hN⟩ : ∃ N : Int, N = xs.length := ⟨_, rfl⟩
    have l1 : f1E .len (.tuple xs) = .ret (.int N) := by rw [slen_tuple, hN]
    have hi := isiT2 (xs := xs)
    rw [← hN] at hl
    rw [hw]
    simp [Fd.run, hi, l1, hl, fl, -slen_tuple]
theorem s16 {x : PyData} : clF fns 16 [.d x] = match whyQ x with | none => .ret (.fz (.d x)) | some w => .raise ⟨0, .str w⟩ := by
  rw [clF_at (f := f16) rfl (by decide)]
  exact s16g fun d p r s l => (tlF (by decide) (by decide)).trans s15
theorem s18g {TL : Nat → List Wd → Comp FR} (h : ∀ d p r s l, TL 15 [.d (.tuple [d, p, r, s, l])] = .ret (.fz (.d (wd (qW d p r s l))))) {x : PyData} : f18.run 100 TL [.d x] = .ret (.fz (.d (.bool (decide (whyQ x = none))))) := by
  unfold f18
  rcases whyQ_cases x with ⟨d, p, r, s, l, rfl⟩ | ⟨hw, hn | ⟨xs, rfl, hl⟩⟩
  · have hi := isiT2 (xs := [d, p, r, s, l])
    have q := h d p r s l
    show _ = Comp.ret (FR.fz (Wd.d (PyData.bool (decide (qW d p r s l = none)))))
    cases hq : qW d p r s l with
    | none =>
      rw [hq] at q
      simp [Fd.run, hi, q, wd]
    | some w =>
      rw [hq] at q
      simp [Fd.run, hi, q, wd]
  · rw [hw]
    simp [Fd.run, hn]
  · obtain ⟨N, hN⟩ : ∃ N : Int, N = xs.length := ⟨_, rfl⟩
    have l1 : f1E .len (.tuple xs) = .ret (.int N) := by rw [slen_tuple, hN]
    have hi := isiT2 (xs := xs)
    rw [← hN] at hl
    rw [hw]
    simp [Fd.run, hi, l1, hl, -slen_tuple]
theorem s18 {x : PyData} : clF fns 18 [.d x] = .ret (.fz (.d (.bool (decide (whyQ x = none))))) := by
  rw [clF_at (f := f18) rfl (by decide)]
  exact s18g fun d p r s l => (tlF (by decide) (by decide)).trans s15
theorem s19g {TL : Nat → List Wd → Comp FR} (h : W1 TL 14) (hq : ∀ x, TL 18 [.d x] = .ret (.fz (.d (.bool (decide (whyQ x = none)))))) {q w r p c f : PyData} : f19.run 100 TL [.d (.tuple [q, w, r, p, c, f])] = .ret (.fz (.d (wd (sW q w r p c f)))) := by
  unfold f19 sW
  by_cases h0 : whyQ q = none
  · cases h1 : isW w 1 30 with
    | false => simp [Fd.run, h, hq, Cst.val, h0, h1, wd]
    | true =>
    cases h2 : isW r 1 30 with
    | false => simp [Fd.run, h, hq, Cst.val, h0, h1, h2, wd]
    | true =>
    obtain ⟨i, rfl, i0, i1⟩ := isW_t h2
    cases h3 : isW p 0 (i - 1) with
    | false => simp [Fd.run, h, hq, Cst.val, h0, h1, h2, h3, wd, hiOf]
    | true =>
    cases h4 : isW c 0 1 with
    | false => simp [Fd.run, h, hq, Cst.val, h0, h1, h2, h3, h4, wd, hiOf]
    | true =>
    cases h5 : isW f 0 1 with
    | false => simp [Fd.run, h, hq, Cst.val, h0, h1, h2, h3, h4, h5, wd, hiOf]
    | true => simp [Fd.run, h, hq, Cst.val, h0, h1, h2, h3, h4, h5, wd, hiOf]
  · simp [Fd.run, hq, h0, wd]
theorem s19 {q w r p c f : PyData} : clF fns 19 [.d (.tuple [q, w, r, p, c, f])] = .ret (.fz (.d (wd (sW q w r p c f)))) := by
  rw [clF_at (f := f19) rfl (by decide)]
  exact s19g (fun {d lo hi} => (tlF (by decide) (by decide)).trans s14) fun x => (tlF (by decide) (by decide)).trans s18
theorem s20g {TL : Nat → List Wd → Comp FR} (h : ∀ q w r p c f, TL 19 [.d (.tuple [q, w, r, p, c, f])] = .ret (.fz (.d (wd (sW q w r p c f))))) {x : PyData} : f20.run 100 TL [.d x] = match whyS x with | none => .ret (.fz (.d x)) | some w => .raise ⟨1, .str w⟩ := by
  unfold f20
  rcases whyS_cases x with ⟨a, b, c, d, e, f, rfl⟩ | ⟨hw, hn | ⟨xs, rfl, hl⟩⟩
  · have hi := isiT2 (xs := [a, b, c, d, e, f])
    have q := h a b c d e f
    show _ = (match sW a b c d e f with | none => Comp.ret (FR.fz (Wd.d (.tuple [a, b, c, d, e, f]))) | some w => Comp.raise ⟨1, .str w⟩)
    cases hq : sW a b c d e f with
    | none =>
      rw [hq] at q
      simp [Fd.run, hi, q, wd]
    | some w =>
      rw [hq] at q
      simp [Fd.run, hi, q, wd, fl]
  · rw [hw]
    simp [Fd.run, hn, fl]
  · obtain ⟨N, hN⟩ : ∃ N : Int, N = xs.length := ⟨_, rfl⟩
    have l1 : f1E .len (.tuple xs) = .ret (.int N) := by rw [slen_tuple, hN]
    have hi := isiT2 (xs := xs)
    rw [← hN] at hl
    rw [hw]
    simp [Fd.run, hi, l1, hl, fl, -slen_tuple]
theorem s20 {x : PyData} : clF fns 20 [.d x] = match whyS x with | none => .ret (.fz (.d x)) | some w => .raise ⟨1, .str w⟩ := by
  rw [clF_at (f := f20) rfl (by decide)]
  exact s20g fun q w r p c f => (tlF (by decide) (by decide)).trans s19
/-! the law's look -/
def told : PyData := .list [.str "told"]
def dueQ (x : PyData) : PyData := match whyQ x with
  | none => told
  | some w => .list [.str "queue", .str w]
def dueS (x : PyData) : PyData := match whyS x with
  | none => told
  | some w => .list [.str "stream", .str w]
theorem zip5 {d p r s l a b c e f : PyData} : zipE (.tuple [d, p, r, s, l]) (.list [a, b, c, e, f]) = .ret [.tuple [d, a], .tuple [p, b], .tuple [r, c], .tuple [s, e], .tuple [l, f]] := rfl
end Tk90

set_option Elab.async false
set_option linter.all false
set_option maxRecDepth 100000
set_option maxHeartbeats 4000000
namespace Tk90
open PySem TC
theorem s11g {TL : Nat → List Wd → Comp FR} (h : W1 TL 10) {x : PyData} : ∃ r, f11.run 100 TL [.d x] = .ret r ∧ frC r = .ret (.d (dueQ x)) := by
  unfold f11
  rcases whyQ_cases x with ⟨d, p, r, s, l, rfl⟩ | ⟨hw, hn | ⟨xs, rfl, hl⟩⟩
  · have hi := isiT2 (xs := [d, p, r, s, l])
    refine ⟨.fz (.d (dueQ (.tuple [d, p, r, s, l]))), ?_, rfl⟩
    have e : dueQ (.tuple [d, p, r, s, l]) = match qW d p r s l with | none => told | some w => .list [.str "queue", .str w] := rfl
    rw [e]
    unfold qW
    cases h1 : isW d 1 64 <;> cases h2 : isW p 2 200 <;> cases h3 : isW r 1 64 <;> cases h4 : isW s 1 4 <;> cases h5 : isW l 0 3 <;> simp [Fd.run, hi, zip5, limL, LIM, mapC, consO, h, h1, h2, h3, h4, h5, eqE_lnil, frzE, told]
  · refine ⟨.ow [.str "queue", .str "form"], ?_, ?_⟩
    · simp [Fd.run, hn]
    · simp [dueQ, hw]
  · obtain ⟨N, hN⟩ : ∃ N : Int, N = xs.length := ⟨_, rfl⟩
    have l1 : f1E .len (.tuple xs) = .ret (.int N) := by rw [slen_tuple, hN]
    have hi := isiT2 (xs := xs)
    rw [← hN] at hl
    refine ⟨.ow [.str "queue", .str "form"], ?_, ?_⟩
    · simp [Fd.run, hi, l1, hl, -slen_tuple]
    · simp [dueQ, hw]
abbrev R1 (C : Nat → List Wd → Comp FR) (j : Nat) (f : PyData → PyData) : Prop := ∀ x : PyData, ∃ r, C j [.d x] = .ret r ∧ frC r = .ret (.d (f x))
theorem s11 : R1 (clF fns) 11 dueQ := fun x => by
  rw [clF_at (f := f11) rfl (by decide)]
  exact s11g (TL := tlC fns 11) (x := x) fun {d lo hi} => (tlF (by decide) (by decide)).trans s10
def wq : List Str := ["form", "depth", "period", "room", "stages", "delay"]
def ws : List Str := ["form", "queue", "writer", "reader", "phase", "catch", "fetch"]
theorem whyQ_mem {x : PyData} {w : Str} (h : whyQ x = some w) : w ∈ wq := by
  rcases whyQ_cases x with ⟨d, p, r, s, l, rfl⟩ | ⟨h2, _⟩
  · have hw : qW d p r s l = some w := h
    unfold qW at hw
    split at hw
    · split at hw
      · split at hw
        · split at hw
          · split at hw
            · cases hw
            · cases hw
              simp [wq]
          · cases hw
            simp [wq]
        · cases hw
          simp [wq]
      · cases hw
        simp [wq]
    · cases hw
      simp [wq]
  · rw [h2] at h
    cases h
    simp [wq]
theorem whyS_mem {x : PyData} {w : Str} (h : whyS x = some w) : w ∈ ws := by
  rcases whyS_cases x with ⟨q, a, r, p, c, f, rfl⟩ | ⟨h2, _⟩
  · have hw : sW q a r p c f = some w := h
    unfold sW at hw
    split at hw
    · split at hw
      · split at hw
        · split at hw
          · split at hw
            · split at hw
              · cases hw
              · cases hw
                simp [ws]
            · cases hw
              simp [ws]
          · cases hw
            simp [ws]
        · cases hw
          simp [ws]
      · cases hw
        simp [ws]
    · cases hw
      simp [ws]
  · rw [h2] at h
    cases h
    simp [ws]
theorem ne_told : ∀ w ∈ wq, eqE (.list [.str "queue", .str w]) (.list [.str "told"]) = .ret false := fun w hw => by
  have z : (wq.all fun w => SeqAt.shaped (.list [.str "queue", .str w]) && !(PyData.eqv (.list [.str "queue", .str w]) (.list [.str "told"]))) = true := by decide +kernel
  have y := List.all_eq_true.mp z w hw
  rw [Bool.and_eq_true] at y
  rw [eqE_shp y.1 (by decide +kernel)]
  simpa using y.2
theorem eq_told : eqE told told = .ret true := eqE_self (by decide +kernel) (by decide +kernel)
theorem s12g {TL : Nat → List Wd → Comp FR} (h : W1 TL 10) (hq : R1 TL 11 dueQ) {x : PyData} : ∃ r, f12.run 100 TL [.d x] = .ret r ∧ frC r = .ret (.d (dueS x)) := by
  unfold f12
  rcases whyS_cases x with ⟨q, w, r, p, c, f, rfl⟩ | ⟨hw, hn | ⟨xs, rfl, hl⟩⟩
  · have hi := isiT2 (xs := [q, w, r, p, c, f])
    have i0 : idxE (.tuple [q, w, r, p, c, f]) (.int 0) = .ret q := rfl
    have i1 : idxE (.tuple [q, w, r, p, c, f]) (.int 1) = .ret w := rfl
    have i2 : idxE (.tuple [q, w, r, p, c, f]) (.int 2) = .ret r := rfl
    have i3 : idxE (.tuple [q, w, r, p, c, f]) (.int 3) = .ret p := rfl
    have i4 : idxE (.tuple [q, w, r, p, c, f]) (.int 4) = .ret c := rfl
    have i5 : idxE (.tuple [q, w, r, p, c, f]) (.int 5) = .ret f := rfl
    have e : dueS (.tuple [q, w, r, p, c, f]) = match sW q w r p c f with | none => told | some w => .list [.str "stream", .str w] := rfl
    rw [e]
    obtain ⟨rq, hq1, hq⟩ := hq q
    unfold sW
    cases h0 : whyQ q with
    | some z =>
      have e2 : dueQ q = .list [.str "queue", .str z] := by unfold dueQ; rw [h0]
      rw [e2] at hq
      have nt := ne_told z (whyQ_mem h0)
      refine ⟨.ow [.str "stream", .str "queue"], ?_, by simp⟩
      simp [Fd.run, hi, i0, hq1, hq, nt]
    | none =>
    have e2 : dueQ q = told := by unfold dueQ; rw [h0]
    rw [e2] at hq
    have nt := eq_told
    unfold told at hq nt
    cases h1 : isW w 1 30 with
    | false => exact ⟨.ow [.str "stream", .str "writer"], by simp [Fd.run, hi, i0, i1, hq1, hq, nt, h, h1], by simp⟩
    | true =>
    cases h2 : isW r 1 30 with
    | false => exact ⟨.ow [.str "stream", .str "reader"], by simp [Fd.run, hi, i0, i1, i2, hq1, hq, nt, h, h1, h2], by simp⟩
    | true =>
    obtain ⟨i, rfl, j0, j1⟩ := isW_t h2
    cases h3 : isW p 0 (i - 1) with
    | false => exact ⟨.ow [.str "stream", .str "phase"], by simp [Fd.run, hi, i0, i1, i2, i3, hq1, hq, nt, h, h1, h2, h3], by simp [hiOf, h3]⟩
    | true =>
    cases h4 : isW c 0 1 with
    | false => exact ⟨.ow [.str "stream", .str "catch"], by simp [Fd.run, hi, i0, i1, i2, i3, i4, hq1, hq, nt, h, h1, h2, h3, h4], by simp [hiOf, h3]⟩
    | true =>
    cases h5 : isW f 0 1 with
    | false => exact ⟨.fz (.d (.list [.str "stream", .str "fetch"])), by simp [Fd.run, hi, i0, i1, i2, i3, i4, i5, hq1, hq, nt, h, h1, h2, h3, h4, h5], by simp [hiOf, h3]⟩
    | true => exact ⟨.fz (.d (.list [.str "told"])), by simp [Fd.run, hi, i0, i1, i2, i3, i4, i5, hq1, hq, nt, h, h1, h2, h3, h4, h5], by simp [hiOf, h3, told]⟩
  · refine ⟨.ow [.str "stream", .str "form"], ?_, ?_⟩
    · simp [Fd.run, hn]
    · simp [dueS, hw]
  · obtain ⟨N, hN⟩ : ∃ N : Int, N = xs.length := ⟨_, rfl⟩
    have l1 : f1E .len (.tuple xs) = .ret (.int N) := by rw [slen_tuple, hN]
    have hi := isiT2 (xs := xs)
    rw [← hN] at hl
    refine ⟨.ow [.str "stream", .str "form"], ?_, ?_⟩
    · simp [Fd.run, hi, l1, hl, -slen_tuple]
    · simp [dueS, hw]
theorem s12 : R1 (clF fns) 12 dueS := fun x => by
  rw [clF_at (f := f12) rfl (by decide)]
  refine s12g (TL := tlC fns 12) (x := x) (fun {d lo hi} => (tlF (by decide) (by decide)).trans s10) fun x => ?_
  obtain ⟨r, h1, h2⟩ := s11 x
  exact ⟨r, (tlF (by decide) (by decide)).trans h1, h2⟩
/-! ### what is heard -/
section
variable {v : PyData} {wv : Wd}
theorem h0 : clF fns 2 [.fn (.ret wv)] = .ret (.ow [.str "told"]) := by
  rw [clF_at (f := f2) rfl (by decide)]
  unfold f2
  generalize tlC fns 2 = TL at *
  simp [Fd.run, capE, tgE]
theorem hq : clF fns 2 [.fn (.raise ⟨0, v⟩)] = .ret (.ow [.str "queue", v]) := by
  rw [clF_at (f := f2) rfl (by decide)]
  unfold f2
  generalize tlC fns 2 = TL at *
  simp [Fd.run, capE, tgE]
theorem hs : clF fns 2 [.fn (.raise ⟨1, v⟩)] = .ret (.ow [.str "stream", v]) := by
  rw [clF_at (f := f2) rfl (by decide)]
  unfold f2
  generalize tlC fns 2 = TL at *
  simp [Fd.run, capE, tgE]
theorem ht : clF fns 2 [.fn (.raise ⟨2, v⟩)] = .ret (.fz (.d (.list [.str "text", v]))) := by
  rw [clF_at (f := f2) rfl (by decide)]
  unfold f2
  generalize tlC fns 2 = TL at *
  simp [Fd.run, capE, tgE]
end
/-! ### texts of good ones -/
def tS (i : Int) : Str := toString i
theorem tS_len {i : Int} (h0 : 0 ≤ i) (h : i < 1000) : (tS i).length ≤ 1921 := by
  unfold tS
  rw [PySem.ofString_length]
  refine PySem.int_text_length_le (by decide) ?_
  by_cases z : i.natAbs = 0
  · rw [z]
    decide
  · exact Nat.lt_trans ((Nat.log2_lt z (k := 10)).mpr (by omega)) (by decide)
theorem strE {i : Int} (h0 : 0 ≤ i) (h : i < 1000) : f1E .str (.int i) = .ret (.str (tS i)) := by
  have e : f1E .str (.int i) = okB (decide (i.natAbs.log2 < 1920)) (.str (toString i)) := rfl
  have z : i.natAbs.log2 < 1920 := by
    by_cases z : i.natAbs = 0
    · rw [z]
      decide
    · exact Nat.lt_trans ((Nat.log2_lt z (k := 10)).mpr (by omega)) (by decide)
  rw [e, decide_eq_true z]
  rfl
def rowS (is : List Int) : Str := Txt.join " " (is.map tS)
theorem sum_b {B : Nat} : ∀ {l : List Nat}, (∀ x ∈ l, x ≤ B) → l.sum ≤ B * l.length
  | [], _ => by simp
  | x :: l, h => by
    have := sum_b fun y hy => h y (List.mem_cons_of_mem _ hy)
    have := h x (List.mem_cons_self ..)
    rw [List.sum_cons, List.length_cons, Nat.mul_succ]
    omega
theorem rowS_len {is : List Int} (hl : is.length ≤ 10) (hb : ∀ i ∈ is, 0 ≤ i ∧ i < 1000) : ((is.map tS).map (·.length)).sum + (is.map tS).length * (" " : Str).length ≤ 20000 ∧ (rowS is).length ≤ 20000 := by
  have z : ((is.map tS).map (·.length)).sum + (is.map tS).length * (" " : Str).length ≤ 20000 := by
    have h1 := sum_b (B := 1921) (l := (is.map tS).map (·.length)) fun x hx => by
      obtain ⟨y, hy, rfl⟩ := List.mem_map.mp hx
      obtain ⟨i, hi, rfl⟩ := List.mem_map.mp hy
      exact tS_len (hb i hi).1 (hb i hi).2
    have e1 : (" " : Str).length = 1 := rfl
    rw [List.length_map, List.length_map] at h1
    rw [List.length_map, e1]
    omega
  exact ⟨z, Nat.le_trans join_len_le z⟩
theorem s13g {TL : Nat → List Wd → Comp FR} {is : List Int} (hl : is.length ≤ 10) (hb : ∀ i ∈ is, 0 ≤ i ∧ i < 1000) : f13.run 100 TL [.d (.tuple (iL is))] = .ret (.fz (.d (.str (rowS is)))) := by
  have lim : limL (iL is) = .ret (iL is) := limL_ok (by rw [iL_len]; unfold LIM; omega)
  have hM : ∀ f : PyData → Comp (Option PyData), (∀ i ∈ is, f (.int i) = .ret (some (.str (tS i)))) → mapC f (iL is) = .ret (is.map fun i => .str (tS i)) := fun f hf => mapC_mapL (u := fun i => PyData.int i) hf
  have hj : m1E .join " " (.list (is.map fun i => .str (tS i))) = .ret (.str (rowS is)) := by
    have e : m1E .join " " (.list (is.map fun i => .str (tS i))) = match strsP (is.map fun i => .str (tS i)) with | some ys => joinE " " ys | none => .stuck := rfl
    rw [e, strs_map]
    show joinE " " (is.map tS) = _
    unfold joinE
    rw [decide_eq_true (by
      have := (rowS_len hl hb).1
      unfold LIM
      omega)]
    rfl
  unfold f13
  simp [Fd.run, lim, Cst.val]
  rw [hM _ fun i hi => by simp [strE (hb i hi).1 (hb i hi).2]]
  simp [hj]
theorem s13 {is : List Int} (hl : is.length ≤ 10) (hb : ∀ i ∈ is, 0 ≤ i ∧ i < 1000) : clF fns 13 [.d (.tuple (iL is))] = .ret (.fz (.d (.str (rowS is)))) := by
  rw [clF_at (f := f13) rfl (by decide)]
  exact s13g hl hb
theorem why_none {x : PyData} (h : whyQ x = none) : ∃ is : List Int, x = .tuple (iL is) ∧ is.length = 5 ∧ ∀ i ∈ is, 0 ≤ i ∧ i < 1000 := by
  rcases whyQ_cases x with ⟨d, p, r, s, l, rfl⟩ | ⟨hw, _⟩
  · have h : qW d p r s l = none := h
    unfold qW at h
    cases h1 : isW d 1 64 with
    | false => rw [h1] at h; cases h
    | true =>
    cases h2 : isW p 2 200 with
    | false => rw [h1, h2] at h; cases h
    | true =>
    cases h3 : isW r 1 64 with
    | false => rw [h1, h2, h3] at h; cases h
    | true =>
    cases h4 : isW s 1 4 with
    | false => rw [h1, h2, h3, h4] at h; cases h
    | true =>
    cases h5 : isW l 0 3 with
    | false => rw [h1, h2, h3, h4, h5] at h; cases h
    | true =>
      obtain ⟨a, rfl, a1, a2⟩ := isW_t h1
      obtain ⟨b, rfl, b1, b2⟩ := isW_t h2
      obtain ⟨c, rfl, c1, c2⟩ := isW_t h3
      obtain ⟨e, rfl, e1, e2⟩ := isW_t h4
      obtain ⟨g, rfl, g1, g2⟩ := isW_t h5
      refine ⟨[a, b, c, e, g], rfl, rfl, fun i hi => ?_⟩
      simp only [List.mem_cons, List.not_mem_nil, or_false] at hi
      rcases hi with rfl | rfl | rfl | rfl | rfl <;> omega
  · rw [h] at hw
    cases hw
theorem whyS_none {x : PyData} (h : whyS x = none) : ∃ q is, x = .tuple (q :: iL is) ∧ whyQ q = none ∧ is.length = 5 ∧ ∀ i ∈ is, 0 ≤ i ∧ i < 1000 := by
  rcases whyS_cases x with ⟨q, w, r, p, c, f, rfl⟩ | ⟨hw, _⟩
  · have h : sW q w r p c f = none := h
    unfold sW at h
    by_cases h0 : whyQ q = none
    · rw [if_pos h0] at h
      cases h1 : isW w 1 30 with
      | false => rw [h1] at h; cases h
      | true =>
      cases h2 : isW r 1 30 with
      | false => rw [h1, h2] at h; cases h
      | true =>
      obtain ⟨i, rfl, i0, i1⟩ := isW_t h2
      cases h3 : isW p 0 (i - 1) with
      | false => rw [h1, h2] at h; simp [hiOf, h3] at h
      | true =>
      cases h4 : isW c 0 1 with
      | false => rw [h1, h2] at h; simp [hiOf, h3, h4] at h
      | true =>
      cases h5 : isW f 0 1 with
      | false => rw [h1, h2] at h; simp [hiOf, h3, h4, h5] at h
      | true =>
        obtain ⟨a, rfl, a1, a2⟩ := isW_t h1
        obtain ⟨c', rfl, c1, c2⟩ := isW_t h3
        obtain ⟨e, rfl, e1, e2⟩ := isW_t h4
        obtain ⟨g, rfl, g1, g2⟩ := isW_t h5
        refine ⟨q, [a, i, c', e, g], rfl, h0, rfl, fun i hi => ?_⟩
        simp only [List.mem_cons, List.not_mem_nil, or_false] at hi
        rcases hi with rfl | rfl | rfl | rfl | rfl <;> omega
    · rw [if_neg h0] at h
      cases h
  · rw [h] at hw
    cases hw
theorem s17g {TL : Nat → List Wd → Comp FR} {x : PyData} (h : ∀ x, TL 16 [.d x] = match whyQ x with | none => .ret (.fz (.d x)) | some w => .raise ⟨0, .str w⟩) (h13 : ∀ is : List Int, is.length ≤ 10 → (∀ i ∈ is, 0 ≤ i ∧ i < 1000) → TL 13 [.d (.tuple (iL is))] = .ret (.fz (.d (.str (rowS is))))) : ∃ z : Str, f17.run 100 TL [.d x] = match whyQ x with | none => .ret (.fz (.d (.str z))) | some w => .raise ⟨0, .str w⟩ := by
  have h := h x
  unfold f17
  cases hw : whyQ x with
  | none =>
    rw [hw] at h
    obtain ⟨is, rfl, hl, hb⟩ := why_none hw
    have q := h13 is (by omega) hb
    exact ⟨rowS is, by simp [Fd.run, h, q]⟩
  | some w =>
    rw [hw] at h
    exact ⟨Str.empty, by simp [Fd.run, h]⟩
theorem s17 {x : PyData} : ∃ z : Str, clF fns 17 [.d x] = match whyQ x with | none => .ret (.fz (.d (.str z))) | some w => .raise ⟨0, .str w⟩ := by
  rw [clF_at (f := f17) rfl (by decide)]
  exact s17g (fun x => (tlF (by decide) (by decide)).trans s16) fun is a b => (tlF (by decide) (by decide)).trans (s13 a b)
theorem s21g {TL : Nat → List Wd → Comp FR} {x : PyData} (h : ∀ x, TL 20 [.d x] = match whyS x with | none => .ret (.fz (.d x)) | some w => .raise ⟨1, .str w⟩) (h13 : ∀ is : List Int, is.length ≤ 10 → (∀ i ∈ is, 0 ≤ i ∧ i < 1000) → TL 13 [.d (.tuple (iL is))] = .ret (.fz (.d (.str (rowS is))))) : ∃ z : Str, f21.run 100 TL [.d x] = match whyS x with | none => .ret (.fz (.d (.str z))) | some w => .raise ⟨1, .str w⟩ := by
  have h := h x
  unfold f21
  cases hw : whyS x with
  | none =>
    rw [hw] at h
    obtain ⟨q, is, rfl, hq, hl, hb⟩ := whyS_none hw
    obtain ⟨js, rfl, hl2, hb2⟩ := why_none hq
    have q1 := h13 is (by omega) hb
    have q2 := h13 js (by omega) hb2
    have l1 := (rowS_len (by omega) hb).2
    have l2 := (rowS_len (by omega) hb2).2
    have i0 : idxE (.tuple (.tuple (iL js) :: iL is)) (.int 0) = .ret (.tuple (iL js)) := by
      refine idx_T ?_
      simp [L2.atI, L2.ixN, PySem.seqIndex?]
    have c1 : slcE (.tuple (.tuple (iL js) :: iL is)) (some 1) none = .ret (.tuple (iL is)) := cutD (xs := .tuple (iL js) :: iL is) (by decide)
    have a1 : ∀ u v : Str, u.length + v.length ≤ 60000 → binE .add (.str u) (.str v) = .ret (.str (u ++ v)) := fun u v hle => by
      have e : binE .add (.str u) (.str v) = okB (decide (u.length + v.length ≤ LIM)) (.str (u ++ v)) := rfl
      rw [e, decide_eq_true (by unfold LIM; omega)]
      rfl
    have n1 : (("\n" : String) : Str).length = 1 := rfl
    have b1 := a1 (rowS js) "\n" (by omega)
    have b2 := a1 (rowS js ++ "\n") (rowS is) (by rw [PySem.strLen_append]; omega)
    generalize PyData.tuple (PyData.tuple (iL js) :: iL is) = X at *
    exact ⟨rowS js ++ "\n" ++ rowS is, by simp [Fd.run, h, i0, c1, q1, q2, b1, b2, Cst.val]⟩
  | some w =>
    rw [hw] at h
    exact ⟨Str.empty, by simp [Fd.run, h]⟩
theorem s21 {x : PyData} : ∃ z : Str, clF fns 21 [.d x] = match whyS x with | none => .ret (.fz (.d (.str z))) | some w => .raise ⟨1, .str w⟩ := by
  rw [clF_at (f := f21) rfl (by decide)]
  exact s21g (fun x => (tlF (by decide) (by decide)).trans s20) fun is a b => (tlF (by decide) (by decide)).trans (s13 a b)
end Tk90

set_option Elab.async false
set_option linter.all false
set_option maxRecDepth 100000
set_option maxHeartbeats 4000000
namespace Tk90
open PySem TC
/-! ### things that can be shown -/
def atB (x : PyData) : Bool := x.showable && decide (x.depth ≤ 1) && decide (szD x ≤ 1921) && !isiE .tuple x
def Gd (n : Nat) : Nat → PyData → Prop
  | 0, x => atB x = true
  | d + 1, x => atB x = true ∨ ∃ xs, (x = .tuple xs ∨ x = .list xs) ∧ xs.length ≤ n ∧ ∀ y ∈ xs, Gd n d y
theorem Gd.at_ {n : Nat} {x : PyData} (h : atB x = true) : ∀ {d : Nat}, Gd n d x
  | 0 => h
  | _ + 1 => .inl h
theorem Gd.mono {n n' : Nat} (hn : n ≤ n') : ∀ {d d' : Nat} {x : PyData}, Gd n d x → d ≤ d' → Gd n' d' x
  | 0, _, _, h, _ => Gd.at_ h
  | d + 1, 0, _, _, hd => by omega
  | d + 1, d' + 1, x, h, hd => by
    rcases h with h | ⟨xs, e, l, h⟩
    · exact .inl h
    · exact .inr ⟨xs, e, Nat.le_trans l hn, fun y hy => Gd.mono hn (h y hy) (by omega)⟩
theorem Gd.tup {n d : Nat} {xs : List PyData} (h1 : xs.length ≤ n) (h2 : ∀ y ∈ xs, Gd n d y) : Gd n (d + 1) (.tuple xs) := .inr ⟨xs, .inl rfl, h1, h2⟩
theorem Gd.lst {n d : Nat} {xs : List PyData} (h1 : xs.length ≤ n) (h2 : ∀ y ∈ xs, Gd n d y) : Gd n (d + 1) (.list xs) := .inr ⟨xs, .inr rfl, h1, h2⟩
theorem Gd.of_tup {n e : Nat} {xs : List PyData} (h : Gd n e (.tuple xs)) : ∃ e', e = e' + 1 ∧ xs.length ≤ n ∧ ∀ y ∈ xs, Gd n e' y := by
  have na : atB (.tuple xs) = false := by simp [atB, isiE]
  cases e with
  | zero =>
    have h : atB (.tuple xs) = true := h
    rw [na] at h
    cases h
  | succ e =>
    rcases h with h | ⟨ys, h1 | h1, h2, h3⟩
    · rw [na] at h
      cases h
    · cases h1
      exact ⟨e, rfl, h2, h3⟩
    · cases h1
def sizB (n : Nat) : Nat → Nat
  | 0 => 1921
  | d + 1 => n * (sizB n d + 2) + 3
theorem sizB_lo {n : Nat} (hn : 1 ≤ n) : ∀ d, 1921 ≤ sizB n d
  | 0 => Nat.le_refl _
  | d + 1 => by
    have h := sizB_lo hn d
    have : 1 * (sizB n d + 2) ≤ n * (sizB n d + 2) := Nat.mul_le_mul_right _ hn
    show 1921 ≤ n * (sizB n d + 2) + 3
    omega
theorem all_of {B D : Nat} : ∀ {xs : List PyData}, (∀ y ∈ xs, y.showable = true ∧ y.depth ≤ D ∧ szD y ≤ B) → PyData.showableAll xs = true ∧ PyData.depthAll xs ≤ D ∧ szL xs ≤ xs.length * (B + 2)
  | [], _ => ⟨rfl, Nat.zero_le _, Nat.zero_le _⟩
  | x :: xs, h => by
    obtain ⟨h1, h2, h3⟩ := all_of fun y hy => h y (List.mem_cons_of_mem _ hy)
    obtain ⟨a, b, c⟩ := h x (List.mem_cons_self ..)
    refine ⟨?_, ?_, ?_⟩
    · simp only [PyData.showableAll, a, h1, Bool.and_self]
    · simp only [PyData.depthAll]
      omega
    · simp only [szL, List.length_cons, Nat.succ_mul]
      omega
theorem Gd.rep {n : Nat} (hn : 1 ≤ n) : ∀ {d : Nat} {x : PyData}, Gd n d x → x.showable = true ∧ x.depth ≤ d + 1 ∧ szD x ≤ sizB n d := by
  have atm : ∀ {d : Nat} {x : PyData}, atB x = true → x.showable = true ∧ x.depth ≤ d + 1 ∧ szD x ≤ sizB n d := fun {d x} h => by
    unfold atB at h
    simp only [Bool.and_eq_true, decide_eq_true_eq] at h
    exact ⟨h.1.1.1, by have := h.1.1.2; omega, Nat.le_trans h.1.2 (sizB_lo hn d)⟩
  intro d
  induction d with
  | zero => exact fun h => atm h
  | succ d ih =>
    intro x h
    rcases h with h | ⟨xs, e, l, h⟩
    · exact atm h
    · obtain ⟨a, b, c⟩ := all_of (B := sizB n d) (D := d + 1) (xs := xs) fun y hy => ih (h y hy)
      have hm : xs.length * (sizB n d + 2) ≤ n * (sizB n d + 2) := Nat.mul_le_mul_right _ l
      have es : sizB n (d + 1) = n * (sizB n d + 2) + 3 := rfl
      rcases e with rfl | rfl
      · refine ⟨by simpa [PyData.showable] using a, ?_, ?_⟩
        · simp only [PyData.depth]
          omega
        · simp only [szD]
          omega
      · refine ⟨by simpa [PyData.showable] using a, ?_, ?_⟩
        · simp only [PyData.depth]
          omega
        · simp only [szD]
          omega
theorem reprG {x : PyData} (h : Gd 8 4 x) : f1E .repr x = .ret (.str x.shown) := by
  obtain ⟨a, b, c⟩ := h.rep (by decide)
  exact f1_repr2 a (by omega) (Nat.le_trans c (by decide +kernel))
theorem due_rep (x : PyData) : f1E .repr (.list [dueQ x, dueS x]) = .ret (.str (PyData.shown (.list [dueQ x, dueS x]))) := by
  have hq : dueQ x ∈ told :: wq.map fun w => .list [.str "queue", .str w] := by
    unfold dueQ
    cases h : whyQ x with
    | none => exact List.mem_cons_self ..
    | some w => exact List.mem_cons_of_mem _ (List.mem_map.mpr ⟨w, whyQ_mem h, rfl⟩)
  have hs : dueS x ∈ told :: ws.map fun w => .list [.str "stream", .str w] := by
    unfold dueS
    cases h : whyS x with
    | none => exact List.mem_cons_self ..
    | some w => exact List.mem_cons_of_mem _ (List.mem_map.mpr ⟨w, whyS_mem h, rfl⟩)
  have z : ((told :: wq.map fun w => .list [.str "queue", .str w]).all fun a => (told :: ws.map fun w => .list [.str "stream", .str w]).all fun b => repOk (.list [a, b])) = true := by decide +kernel
  exact f1_repr (List.all_eq_true.mp (List.all_eq_true.mp z _ hq) _ hs)
theorem rg2 : rngP 0 2 = [.int 0, .int 1] := rfl
theorem s22g {TL : Nat → List Wd → Comp FR} {x : PyData} {K D : Str} {zq zs : Str} (h11 : R1 TL 11 dueQ) (h12 : R1 TL 12 dueS) (h17 : TL 17 [.d x] = match whyQ x with | none => .ret (.fz (.d (.str zq))) | some w => .raise ⟨0, .str w⟩) (h21 : TL 21 [.d x] = match whyS x with | none => .ret (.fz (.d (.str zs))) | some w => .raise ⟨1, .str w⟩)
    (H0 : ∀ w, TL 2 [.fn (.ret w)] = .ret (.ow [.str "told"])) (Hq : ∀ v, TL 2 [.fn (.raise ⟨0, v⟩)] = .ret (.ow [.str "queue", v])) (Hs : ∀ v, TL 2 [.fn (.raise ⟨1, v⟩)] = .ret (.ow [.str "stream", v]))
    (hr : f1E .repr x = .ret (.str K)) (hd : f1E .repr (.list [dueQ x, dueS x]) = .ret (.str D)) : f22.run 100 TL [.d x] = .ret (.fz (.d (.bool true))) := by
  obtain ⟨r1, a1, a2⟩ := h11 x
  obtain ⟨r2, c1, c2⟩ := h12 x
  have b2 : bigI 2 = true := by decide
  unfold dueQ dueS at *
  unfold f22
  cases hq : whyQ x with
  | none =>
    rw [hq] at h17 a2 hd
    cases hs : whyS x with
    | none =>
      rw [hs] at h21 c2 hd
      simp only [told] at a2 c2 hd
      simp [Fd.run, hr, a1, a2, c1, c2, b2, rg2, forC, h17, h21, H0, hd]
    | some w =>
      rw [hs] at h21 c2 hd
      simp only [told] at a2 c2 hd
      simp [Fd.run, hr, a1, a2, c1, c2, b2, rg2, forC, h17, h21, H0, Hs, hd]
  | some v =>
    rw [hq] at h17 a2 hd
    cases hs : whyS x with
    | none =>
      rw [hs] at h21 c2 hd
      simp only [told] at a2 c2 hd
      simp [Fd.run, hr, a1, a2, c1, c2, b2, rg2, forC, h17, h21, H0, Hq, hd]
    | some w =>
      rw [hs] at h21 c2 hd
      simp only at a2 c2 hd
      simp [Fd.run, hr, a1, a2, c1, c2, b2, rg2, forC, h17, h21, Hq, Hs, hd]
theorem s22 {x : PyData} (h : Gd 8 4 x) : clF fns 22 [.d x] = .ret (.fz (.d (.bool true))) := by
  rw [clF_at (f := f22) rfl (by decide)]
  obtain ⟨zq, e17⟩ := s17 (x := x)
  obtain ⟨zs, e21⟩ := s21 (x := x)
  exact s22g (fun x => by
    obtain ⟨r, h1, h2⟩ := s11 x
    exact ⟨r, (tlF (by decide) (by decide)).trans h1, h2⟩) (fun x => by
    obtain ⟨r, h1, h2⟩ := s12 x
    exact ⟨r, (tlF (by decide) (by decide)).trans h1, h2⟩) ((tlF (by decide) (by decide)).trans e17) ((tlF (by decide) (by decide)).trans e21) (fun w => (tlF (by decide) (by decide)).trans h0) (fun w => (tlF (by decide) (by decide)).trans hq) (fun w => (tlF (by decide) (by decide)).trans hs) (reprG h) (due_rep x)
/-! ### things by hand -/
def oDl : List PyData := [.none, .int 0, .int 1, .int (-1), .int 2, .int 4, .int 5, .int 30, .int 31, .int 64, .int 65, .int 200, .int 201, .bool true, .bool false, .str "", .str "0", .tuple [], .list [], .dict [], .tuple [.int 0], .tuple [.int 1, .int 2, .int 1, .int 1, .int 0], .list [.int 1, .int 2, .int 1, .int 1, .int 0], .tuple [.int 1, .int 2, .int 1, .int 1], .tuple [.int 1, .int 2, .int 1, .int 1, .bool true], .int 1000000000000000000000000000000, .tuple [.none, .none, .none, .none, .none, .none]]
def gdB : Nat → PyData → Bool
  | 0, x => atB x
  | d + 1, x => atB x || match x with
    | .tuple xs => decide (xs.length ≤ 6) && xs.all fun y => gdB d y
    | .list xs => decide (xs.length ≤ 6) && xs.all fun y => gdB d y
    | _ => false
theorem gdB_ok : ∀ {d : Nat} {x : PyData}, gdB d x = true → Gd 6 d x
  | 0, x, h => by
    have h : atB x = true := by cases x <;> exact h
    exact h
  | d + 1, x, h => by
    have key : atB x = true ∨ ∃ xs, (x = .tuple xs ∨ x = .list xs) ∧ (decide (xs.length ≤ 6) && xs.all fun y => gdB d y) = true := by
      by_cases c : atB x = true
      · exact .inl c
      · have c : atB x = false := by simpa using c
        cases x with
        | tuple xs =>
          have h : (atB (.tuple xs) || (decide (xs.length ≤ 6) && xs.all fun y => gdB d y)) = true := h
          rw [c, Bool.false_or] at h
          exact .inr ⟨xs, .inl rfl, h⟩
        | list xs =>
          have h : (atB (.list xs) || (decide (xs.length ≤ 6) && xs.all fun y => gdB d y)) = true := h
          rw [c, Bool.false_or] at h
          exact .inr ⟨xs, .inr rfl, h⟩
        | none =>
          have h : (atB .none || false) = true := h
          rw [c] at h
          cases h
        | bool b =>
          have h : (atB (.bool b) || false) = true := h
          rw [c] at h
          cases h
        | int b =>
          have h : (atB (.int b) || false) = true := h
          rw [c] at h
          cases h
        | str b =>
          have h : (atB (.str b) || false) = true := h
          rw [c] at h
          cases h
        | dict b =>
          have h : (atB (.dict b) || false) = true := h
          rw [c] at h
          cases h
    rcases key with h | ⟨xs, e, h⟩
    · exact .inl h
    · rw [Bool.and_eq_true] at h
      exact .inr ⟨xs, e, of_decide_eq_true h.1, fun y hy => gdB_ok (List.all_eq_true.mp h.2 y hy)⟩
theorem oD_gd : ∀ x ∈ oDl, Gd 6 1 x := fun x hx => by
  have z : (oDl.all fun y => gdB 1 y) = true := by decide +kernel
  exact gdB_ok (List.all_eq_true.mp z x hx)
theorem pw30 : binE .pow (.int 10) (.int 30) = .ret (.int 1000000000000000000000000000000) := by
  have e : binE .pow (.int 10) (.int 30) = okB (decide ((0 : Int) ≤ 30) && decide ((30 : Int) ≤ 1000) && decide ((10 : Int).natAbs < 1024)) (.int ((10 : Int) ^ (30 : Int).toNat)) := rfl
  rw [e, show (decide ((0 : Int) ≤ 30) && decide ((30 : Int) ≤ 1000) && decide ((10 : Int).natAbs < 1024)) = true by decide +kernel, show (10 : Int) ^ (30 : Int).toNat = 1000000000000000000000000000000 by decide +kernel]
  rfl
theorem s3 {xs : List PyData} (hl : xs.length ≤ 1000) (hn : 0 < xs.length) : (clF fns 3 [.rng, .d (.list xs)]).okW 1 (fun r => ∃ x, r = .fz (.d x) ∧ x ∈ xs) nEx :=
  clF_ok (f := f3) rfl (by decide) rfl (of_ok hl hn)
theorem s4 : (clF fns 4 [.rng]).okW 1 (fun r => ∃ y, r = .fz (.d y) ∧ Gd 6 1 y) nEx := by
  have h3 : (tlC fns 4 3 [.rng, .d (.list oDl)]).okW 1 (fun r => ∃ y, r = .fz (.d y) ∧ Gd 6 1 y) nEx := by
    rw [tlF (by decide) (by decide)]
    exact Comp.okW_mono (s3 (xs := oDl) (by decide) (by decide)) (Nat.le_refl _) (fun r ⟨x, e, hx⟩ => ⟨x, e, oD_gd x hx⟩) fun _ z => z
  have m6 : binE .mul (.tuple [.none]) (.int 6) = .ret (.tuple [.none, .none, .none, .none, .none, .none]) := rfl
  refine clF_ok (f := f4) rfl (by decide) rfl ?_
  unfold f4
  generalize tlC fns 4 = TL at *
  refine k_asg (w := .d (.list (oDl.take 21))) (by simp [oDl]) ?_
  refine k_asg (w := .d (.list oDl)) (by simp [oDl, pw30, m6, limL, LIM]) ?_
  refine k_retW (b := 1) ?_
  generalize oDl = OD at *
  generalize hQ : (fun w : Wd => (endC (.rt (.fz w))).okW 0 (fun r => ∃ y, r = .fz (.d y) ∧ Gd 6 1 y) nEx) = Q
  simp
  refine Comp.okW_bind (b := 1) (b2 := 0) h3 ?_
  rintro r ⟨y, rfl, hy⟩
  subst hQ
  exact Comp.okW_ret (Comp.okW_ret ⟨y, rfl, hy⟩)
/-! ### bent -/
def bentS (n i j : Nat) : Prop := ∀ e : Nat, e ≤ i → ∀ x : PyData, Gd n e x → (clF fns j [.rng, .d x]).okW (3 * e + 1) (fun r => ∃ y, frC r = .ret (.d y) ∧ Gd (n + 1) (e + 1) y) nEx
theorem bent_5 {n : Nat} (n1 : 6 ≤ n) (n2 : n ≤ 1000) : bentS n 0 5 := by
  intro e he x hx
  have ho : (tlC fns 5 4 [.rng]).okW 1 (fun r => ∃ x, r = .fz (.d x) ∧ Gd (n + 1) 1 x) nEx := by
    rw [tlF (by decide) (by decide)]
    exact Comp.okW_mono s4 (Nat.le_refl _) (fun r ⟨x, q, hx⟩ => ⟨x, q, hx.mono (by omega) (Nat.le_refl _)⟩) fun _ z => z
  refine clF_ok (f := f5) rfl (by decide) rfl ?_
  unfold f5
  generalize tlC fns 5 = TL at *
  have fin : ∀ {y : PyData}, Gd (n + 1) (e + 1) y → (fun o => (endC o).okW 0 (fun r => ∃ y, frC r = .ret (.d y) ∧ Gd (n + 1) (e + 1) y) nEx) (.rt (.fz (.d y))) := fun h => Comp.okW_ret ⟨_, rfl, h⟩
  have finL : ∀ {ys : List PyData}, Gd (n + 1) (e + 1) (.list ys) → (fun o => (endC o).okW 0 (fun r => ∃ y, frC r = .ret (.d y) ∧ Gd (n + 1) (e + 1) y) nEx) (.rt (.ow ys)) := fun h => Comp.okW_ret ⟨_, rfl, h⟩
  generalize (fun o => (endC o).okW 0 (fun r => ∃ y, frC r = .ret (.d y) ∧ Gd (n + 1) (e + 1) y) nEx) = Q at *
  have ofQ : ∀ {Q2 : FR → Prop}, (∀ y, Gd (n + 1) (e + 1) y → Q2 (.fz (.d y))) → (TL 4 [.rng]).okW 1 Q2 nEx := fun hq => Comp.okW_mono ho (Nat.le_refl _) (fun r ⟨y, q, hy⟩ => by
    subst q
    exact hq y (hy.mono (Nat.le_refl _) (by omega))) fun _ z => z
  by_cases nt : isiE .tuple x = false
  · refine okW_le (b := 0 + (3 * e + 1)) (by omega) ?_
    refine k_iffW (b := 0) (b2 := 3 * e + 1) (P := fun t => t = true) (okW_eq (by simp [nt]) rfl) (fun _ => ?_) (fun h => by cases h)
    refine k_retW (Comp.okW_mono (b := 1) ?_ (by omega) (fun _ z => z) fun _ z => z)
    generalize hQ : (fun w : Wd => Q (.rt (.fz w)) ∧ ∃ r, Ou.rt (.fz w) = .rt r) = Q'
    simp
    refine Comp.okW_bind (b := 1) (b2 := 0) (ofQ (Q2 := fun r => ∃ y, r = .fz (.d y) ∧ Gd (n + 1) (e + 1) y) fun y hy => ⟨y, rfl, hy⟩) ?_
    rintro r ⟨y, rfl, hy⟩
    simp
    subst hQ
    exact Comp.okW_ret ⟨fin hy, _, rfl⟩
  · obtain ⟨xs, rfl⟩ : ∃ xs, x = .tuple xs := by
      cases x with
      | tuple xs => exact ⟨xs, rfl⟩
      | _ => exact absurd rfl nt
    obtain ⟨e', rfl, hl, hy⟩ := hx.of_tup
    exact absurd he (by omega)
theorem bent_6 {n : Nat} (n1 : 6 ≤ n) (n2 : n ≤ 1000) (hr : bentS n 0 5) : bentS n 1 6 := by
  intro e he x hx
  have ho : (tlC fns 6 4 [.rng]).okW 1 (fun r => ∃ x, r = .fz (.d x) ∧ Gd (n + 1) 1 x) nEx := by
    rw [tlF (by decide) (by decide)]
    exact Comp.okW_mono s4 (Nat.le_refl _) (fun r ⟨x, q, hx⟩ => ⟨x, q, hx.mono (by omega) (Nat.le_refl _)⟩) fun _ z => z
  have ho2 : ∀ e' : Nat, (tlC fns 6 4 [.rng]).okW 1 (fun r => ∃ x, r = .fz (.d x) ∧ Gd (n + 1) (e' + 1) x) nEx := fun e' => Comp.okW_mono ho (Nat.le_refl _) (fun r ⟨x, q, hx⟩ => ⟨x, q, hx.mono (Nat.le_refl _) (by omega)⟩) fun _ z => z
  have hrec : ∀ e', e' + 1 ≤ 1 → ∀ x : PyData, Gd n e' x → (tlC fns 6 5 [.rng, .d x]).okW (3 * (e' + 1) - 2) (fun r => ∃ y, frC r = .ret (.d y) ∧ Gd (n + 1) (e' + 1) y) nEx := fun e' he' x hx => by
    rw [tlF (by decide) (by decide)]
    exact Comp.okW_mono (hr e' (by omega) x hx) (by omega) (fun _ z => z) fun _ z => z
  refine clF_ok (f := f6) rfl (by decide) rfl ?_
  unfold f6
  generalize tlC fns 6 = TL at *
  have fin : ∀ {y : PyData}, Gd (n + 1) (e + 1) y → (fun o => (endC o).okW 0 (fun r => ∃ y, frC r = .ret (.d y) ∧ Gd (n + 1) (e + 1) y) nEx) (.rt (.fz (.d y))) := fun h => Comp.okW_ret ⟨_, rfl, h⟩
  have finL : ∀ {ys : List PyData}, Gd (n + 1) (e + 1) (.list ys) → (fun o => (endC o).okW 0 (fun r => ∃ y, frC r = .ret (.d y) ∧ Gd (n + 1) (e + 1) y) nEx) (.rt (.ow ys)) := fun h => Comp.okW_ret ⟨_, rfl, h⟩
  generalize (fun o => (endC o).okW 0 (fun r => ∃ y, frC r = .ret (.d y) ∧ Gd (n + 1) (e + 1) y) nEx) = Q at *
  have ofQ : ∀ {Q2 : FR → Prop}, (∀ y, Gd (n + 1) (e + 1) y → Q2 (.fz (.d y))) → (TL 4 [.rng]).okW 1 Q2 nEx := fun hq => Comp.okW_mono ho (Nat.le_refl _) (fun r ⟨y, q, hy⟩ => by
    subst q
    exact hq y (hy.mono (Nat.le_refl _) (by omega))) fun _ z => z
  by_cases nt : isiE .tuple x = false
  · refine okW_le (b := 0 + (3 * e + 1)) (by omega) ?_
    refine k_iffW (b := 0) (b2 := 3 * e + 1) (P := fun t => t = true) (okW_eq (by simp [nt]) rfl) (fun _ => ?_) (fun h => by cases h)
    refine k_retW (Comp.okW_mono (b := 1) ?_ (by omega) (fun _ z => z) fun _ z => z)
    generalize hQ : (fun w : Wd => Q (.rt (.fz w)) ∧ ∃ r, Ou.rt (.fz w) = .rt r) = Q'
    simp
    refine Comp.okW_bind (b := 1) (b2 := 0) (ofQ (Q2 := fun r => ∃ y, r = .fz (.d y) ∧ Gd (n + 1) (e + 1) y) fun y hy => ⟨y, rfl, hy⟩) ?_
    rintro r ⟨y, rfl, hy⟩
    simp
    subst hQ
    exact Comp.okW_ret ⟨fin hy, _, rfl⟩
  · obtain ⟨xs, rfl⟩ : ∃ xs, x = .tuple xs := by
      cases x with
      | tuple xs => exact ⟨xs, rfl⟩
      | _ => exact absurd rfl nt
    obtain ⟨e', rfl, hl, hy⟩ := hx.of_tup
    have ho2 := ho2 e'
    have hrec := hrec e' (by omega)
    obtain ⟨N, hN⟩ : ∃ N : Int, N = xs.length := ⟨_, rfl⟩
    have l1 : f1E .len (.tuple xs) = .ret (.int N) := by rw [slen_tuple, hN]
    have oddR : ∀ {q1 q2 q3 : Pos} {p2 : Pos} {ss : Sms} {b : Nat}, 1 ≤ b → ((Sms.cons (.ret (.call 4 "_law_odd" q1 (.cons (.var 0 "_law_m" q2) .nil) q3) p2) ss).ev TL 100 [.fz .rng, .fz (.d (.tuple xs)), .un, .un]).okW b (fun o => Q o ∧ ∃ r, o = .rt r) nEx := fun hb => by
      refine k_retW (Comp.okW_mono (b := 1) ?_ hb (fun _ z => z) fun _ z => z)
      generalize hQ : (fun w : Wd => Q (.rt (.fz w)) ∧ ∃ r, Ou.rt (.fz w) = .rt r) = Q'
      simp
      refine Comp.okW_bind (b := 1) (b2 := 0) (ofQ (Q2 := fun r => ∃ y, r = .fz (.d y) ∧ Gd (n + 1) (e' + 1 + 1) y) fun y hy => ⟨y, rfl, hy⟩) ?_
      rintro r ⟨y, rfl, hy⟩
      simp
      subst hQ
      exact Comp.okW_ret ⟨fin hy, _, rfl⟩
    by_cases hne : xs = []
    · subst hne
      refine okW_le (b := 0 + (3 * (e' + 1) + 1)) (by omega) ?_
      exact k_iffW (b := 0) (b2 := 3 * (e' + 1) + 1) (P := fun t => t = true) (okW_eq (by simp [isiT2, eqE_tnil]) rfl) (fun _ => oddR (by omega)) (fun h => by cases h)
    have hne2 : xs.isEmpty = false := by cases xs with
      | nil => exact absurd rfl hne
      | cons _ _ => rfl
    have hpos : 0 < xs.length := List.length_pos_iff.mpr hne
    refine okW_le (b := 1 + (3 * (e' + 1))) (by omega) ?_
    refine k_iffW (b := 1) (b2 := 3 * (e' + 1)) (P := fun _ => True) ?_ (fun _ => oddR (by omega)) fun _ => ?_
    · simp [isiT2, eqE_tnil, hne2]
      refine Comp.okW_draw (b := 0) (by omega) (by omega) fun r r0 r1 => ?_
      exact Comp.okW_ret trivial
    refine okW_le (b := 2 + (3 * (e' + 1) - 2)) (by omega) ?_
    refine k_stW (b := 2) (b2 := 3 * (e' + 1) - 2) (P := fun o => ∃ k w : Int, (0 ≤ k ∧ k < N) ∧ (0 ≤ w ∧ w < 9) ∧ o = .nx [.fz .rng, .fz (.d (.tuple xs)), .fz (.d (.int k)), .fz (.d (.int w))]) ?_ ?_
    · generalize hQ : (fun o : Ou => ∃ k w : Int, (0 ≤ k ∧ k < N) ∧ (0 ≤ w ∧ w < 9) ∧ o = .nx [.fz .rng, .fz (.d (.tuple xs)), .fz (.d (.int k)), .fz (.d (.int w))]) = Q'
      simp [l1, -slen_tuple]
      refine Comp.okW_draw (b := 1) (by omega) (by omega) fun k k0 k1 => ?_
      refine Comp.okW_draw (b := 0) (by omega) (by omega) fun w w0 w1 => ?_
      subst hQ
      exact Comp.okW_ret ⟨k, w, ⟨k0, k1⟩, ⟨w0, w1⟩, rfl⟩
    rintro o ⟨k, w, ⟨k0, k1⟩, ⟨w0, w1⟩, rfl⟩
    rw [goOn_nx]
    have t1 := cutT (xs := xs) k0
    have t2 := cutD (xs := xs) k0
    have t3 := cutD (xs := xs) (k := k + 1) (by omega)
    have lt := List.length_take_le k.toNat xs
    have ld : (xs.drop k.toNat).length ≤ xs.length - k.toNat := by rw [List.length_drop]; omega
    have ld2 : (xs.drop (k + 1).toNat).length ≤ xs.length - (k + 1).toNat := by rw [List.length_drop]; omega
    have lt2 : (xs.take k.toNat).length ≤ k.toNat := by rw [List.length_take]; omega
    have mono : ∀ {y : PyData}, Gd n e' y → Gd (n + 1) (e' + 1) y := fun h => h.mono (by omega) (by omega)
    have mt : ∀ y ∈ xs.take k.toNat, Gd (n + 1) (e' + 1) y := fun y h => mono (hy y (List.mem_of_mem_take h))
    have md : ∀ {j : Nat}, ∀ y ∈ xs.drop j, Gd (n + 1) (e' + 1) y := fun y h => mono (hy y (List.mem_of_mem_drop h))
    obtain ⟨z, z1, z2, z3⟩ := idxT k0 (by rw [← hN]; exact k1)
    have put : ∀ {u : PyData} {j : Nat}, Gd (n + 1) (e' + 1) u → (xs.take k.toNat ++ [u] ++ xs.drop j).length ≤ n + 1 → Q (.rt (.fz (.d (.tuple (xs.take k.toNat ++ [u] ++ xs.drop j))))) := fun {u j} hu hlen => fin (Gd.tup hlen fun y hy2 => by
      rcases List.mem_append.mp hy2 with h | h
      · rcases List.mem_append.mp h with h | h
        · exact mt y h
        · rw [List.mem_singleton] at h
          subst h
          exact hu
      · exact md y h)
    have a1 : ∀ u : PyData, binE .add (.tuple (xs.take k.toNat)) (.tuple [u]) = .ret (.tuple (xs.take k.toNat ++ [u])) := fun u => addT (by unfold LIM; simp only [List.length_singleton]; omega)
    have a2 : ∀ u : PyData, binE .add (.tuple (xs.take k.toNat ++ [u])) (.tuple (xs.drop k.toNat)) = .ret (.tuple (xs.take k.toNat ++ [u] ++ xs.drop k.toNat)) := fun u => addT (by unfold LIM; rw [List.length_append, List.length_singleton]; omega)
    have a3 : ∀ u : PyData, binE .add (.tuple (xs.take k.toNat ++ [u])) (.tuple (xs.drop (k + 1).toNat)) = .ret (.tuple (xs.take k.toNat ++ [u] ++ xs.drop (k + 1).toNat)) := fun u => addT (by unfold LIM; rw [List.length_append, List.length_singleton]; omega)
    have a4 : binE .add (.tuple (xs.take k.toNat)) (.tuple (xs.drop (k + 1).toNat)) = .ret (.tuple (xs.take k.toNat ++ xs.drop (k + 1).toNat)) := addT (by unfold LIM; omega)
    have b2 : ∀ u : PyData, (xs.take k.toNat ++ [u] ++ xs.drop k.toNat).length ≤ n + 1 := fun u => by rw [List.length_append, List.length_append, List.length_singleton]; omega
    have b3 : ∀ u : PyData, (xs.take k.toNat ++ [u] ++ xs.drop (k + 1).toNat).length ≤ n + 1 := fun u => by rw [List.length_append, List.length_append, List.length_singleton]; omega
    by_cases w0 : w = 0
    · refine k_iffr (w := .d (.tuple (xs.take k.toNat ++ xs.drop (k + 1).toNat))) (by simp [w0]) (by simp [t1, t3, a4]) ?_
      refine fin (Gd.tup (by rw [List.length_append]; omega) fun y hy2 => ?_)
      rcases List.mem_append.mp hy2 with h | h
      · exact mt y h
      · exact md y h
    refine k_iff (by simp [w0]) ?_
    by_cases w1 : w = 1
    · refine okW_le (b := 0 + (3 * (e' + 1) - 2)) (by omega) ?_
      refine k_iffW (b := 0) (b2 := 3 * (e' + 1) - 2) (P := fun t => t = true) (okW_eq (by simp [w1]) rfl) (fun _ => ?_) (fun h => by cases h)
      refine k_retW (Comp.okW_mono (b := 1) ?_ (by omega) (fun _ z => z) fun _ z => z)
      generalize hQ : (fun w : Wd => Q (.rt (.fz w)) ∧ ∃ r, Ou.rt (.fz w) = .rt r) = Q'
      simp [t1]
      refine Comp.okW_bind (b := 1) (b2 := 0) ho2 ?_
      rintro r ⟨y, rfl, hy⟩
      simp [a1, t2, a2, -List.append_assoc]
      subst hQ
      exact Comp.okW_ret ⟨put hy (b2 y), _, rfl⟩
    refine k_iff (by simp [w1]) ?_
    by_cases w2 : w = 2
    · refine k_iffr (w := .d (.tuple xs.reverse)) (by simp [w2]) (by simp [revE]) ?_
      refine fin (Gd.tup (by rw [List.length_reverse]; omega) fun y hy2 => mono (hy y (List.mem_reverse.mp hy2)))
    refine k_iff (by simp [w2]) ?_
    by_cases w3 : w = 3
    · refine okW_le (b := 0 + 0) (by omega) ?_
      refine okW_cons (b := 0) (b2 := 0) (P := fun o => o = .rt (.ow xs)) (okW_eq (by simp [w3]) rfl) ?_
      rintro o rfl
      rw [goOn_rt]
      exact Comp.okW_ret (finL (Gd.lst (by omega) fun y hy2 => mono (hy y hy2)))
    refine k_iff (by simp [w3]) ?_
    refine k_retW (b := 3 * (e' + 1) - 2) ?_
    have hz := hrec z (hy z z1)
    generalize hQ : (fun w : Wd => Q (.rt (.fz w))) = Q'
    simp [t1, z3]
    refine okW_le (b := 3 * (e' + 1) - 2 + 0) (by omega) ?_
    refine Comp.okW_bind (b := 3 * (e' + 1) - 2) (b2 := 0) hz ?_
    rintro r ⟨y, hr, hy⟩
    simp [hr, a1, t3, a3, -List.append_assoc]
    subst hQ
    exact Comp.okW_ret (put hy (b3 y))
theorem bent_7 {n : Nat} (n1 : 6 ≤ n) (n2 : n ≤ 1000) (hr : bentS n 1 6) : bentS n 2 7 := by
  intro e he x hx
  have ho : (tlC fns 7 4 [.rng]).okW 1 (fun r => ∃ x, r = .fz (.d x) ∧ Gd (n + 1) 1 x) nEx := by
    rw [tlF (by decide) (by decide)]
    exact Comp.okW_mono s4 (Nat.le_refl _) (fun r ⟨x, q, hx⟩ => ⟨x, q, hx.mono (by omega) (Nat.le_refl _)⟩) fun _ z => z
  have ho2 : ∀ e' : Nat, (tlC fns 7 4 [.rng]).okW 1 (fun r => ∃ x, r = .fz (.d x) ∧ Gd (n + 1) (e' + 1) x) nEx := fun e' => Comp.okW_mono ho (Nat.le_refl _) (fun r ⟨x, q, hx⟩ => ⟨x, q, hx.mono (Nat.le_refl _) (by omega)⟩) fun _ z => z
  have hrec : ∀ e', e' + 1 ≤ 2 → ∀ x : PyData, Gd n e' x → (tlC fns 7 6 [.rng, .d x]).okW (3 * (e' + 1) - 2) (fun r => ∃ y, frC r = .ret (.d y) ∧ Gd (n + 1) (e' + 1) y) nEx := fun e' he' x hx => by
    rw [tlF (by decide) (by decide)]
    exact Comp.okW_mono (hr e' (by omega) x hx) (by omega) (fun _ z => z) fun _ z => z
  refine clF_ok (f := f7) rfl (by decide) rfl ?_
  unfold f7
  generalize tlC fns 7 = TL at *
  have fin : ∀ {y : PyData}, Gd (n + 1) (e + 1) y → (fun o => (endC o).okW 0 (fun r => ∃ y, frC r = .ret (.d y) ∧ Gd (n + 1) (e + 1) y) nEx) (.rt (.fz (.d y))) := fun h => Comp.okW_ret ⟨_, rfl, h⟩
  have finL : ∀ {ys : List PyData}, Gd (n + 1) (e + 1) (.list ys) → (fun o => (endC o).okW 0 (fun r => ∃ y, frC r = .ret (.d y) ∧ Gd (n + 1) (e + 1) y) nEx) (.rt (.ow ys)) := fun h => Comp.okW_ret ⟨_, rfl, h⟩
  generalize (fun o => (endC o).okW 0 (fun r => ∃ y, frC r = .ret (.d y) ∧ Gd (n + 1) (e + 1) y) nEx) = Q at *
  have ofQ : ∀ {Q2 : FR → Prop}, (∀ y, Gd (n + 1) (e + 1) y → Q2 (.fz (.d y))) → (TL 4 [.rng]).okW 1 Q2 nEx := fun hq => Comp.okW_mono ho (Nat.le_refl _) (fun r ⟨y, q, hy⟩ => by
    subst q
    exact hq y (hy.mono (Nat.le_refl _) (by omega))) fun _ z => z
  by_cases nt : isiE .tuple x = false
  · refine okW_le (b := 0 + (3 * e + 1)) (by omega) ?_
    refine k_iffW (b := 0) (b2 := 3 * e + 1) (P := fun t => t = true) (okW_eq (by simp [nt]) rfl) (fun _ => ?_) (fun h => by cases h)
    refine k_retW (Comp.okW_mono (b := 1) ?_ (by omega) (fun _ z => z) fun _ z => z)
    generalize hQ : (fun w : Wd => Q (.rt (.fz w)) ∧ ∃ r, Ou.rt (.fz w) = .rt r) = Q'
    simp
    refine Comp.okW_bind (b := 1) (b2 := 0) (ofQ (Q2 := fun r => ∃ y, r = .fz (.d y) ∧ Gd (n + 1) (e + 1) y) fun y hy => ⟨y, rfl, hy⟩) ?_
    rintro r ⟨y, rfl, hy⟩
    simp
    subst hQ
    exact Comp.okW_ret ⟨fin hy, _, rfl⟩
  · obtain ⟨xs, rfl⟩ : ∃ xs, x = .tuple xs := by
      cases x with
      | tuple xs => exact ⟨xs, rfl⟩
      | _ => exact absurd rfl nt
    obtain ⟨e', rfl, hl, hy⟩ := hx.of_tup
    have ho2 := ho2 e'
    have hrec := hrec e' (by omega)
    obtain ⟨N, hN⟩ : ∃ N : Int, N = xs.length := ⟨_, rfl⟩
    have l1 : f1E .len (.tuple xs) = .ret (.int N) := by rw [slen_tuple, hN]
    have oddR : ∀ {q1 q2 q3 : Pos} {p2 : Pos} {ss : Sms} {b : Nat}, 1 ≤ b → ((Sms.cons (.ret (.call 4 "_law_odd" q1 (.cons (.var 0 "_law_m" q2) .nil) q3) p2) ss).ev TL 100 [.fz .rng, .fz (.d (.tuple xs)), .un, .un]).okW b (fun o => Q o ∧ ∃ r, o = .rt r) nEx := fun hb => by
      refine k_retW (Comp.okW_mono (b := 1) ?_ hb (fun _ z => z) fun _ z => z)
      generalize hQ : (fun w : Wd => Q (.rt (.fz w)) ∧ ∃ r, Ou.rt (.fz w) = .rt r) = Q'
      simp
      refine Comp.okW_bind (b := 1) (b2 := 0) (ofQ (Q2 := fun r => ∃ y, r = .fz (.d y) ∧ Gd (n + 1) (e' + 1 + 1) y) fun y hy => ⟨y, rfl, hy⟩) ?_
      rintro r ⟨y, rfl, hy⟩
      simp
      subst hQ
      exact Comp.okW_ret ⟨fin hy, _, rfl⟩
    by_cases hne : xs = []
    · subst hne
      refine okW_le (b := 0 + (3 * (e' + 1) + 1)) (by omega) ?_
      exact k_iffW (b := 0) (b2 := 3 * (e' + 1) + 1) (P := fun t => t = true) (okW_eq (by simp [isiT2, eqE_tnil]) rfl) (fun _ => oddR (by omega)) (fun h => by cases h)
    have hne2 : xs.isEmpty = false := by cases xs with
      | nil => exact absurd rfl hne
      | cons _ _ => rfl
    have hpos : 0 < xs.length := List.length_pos_iff.mpr hne
    refine okW_le (b := 1 + (3 * (e' + 1))) (by omega) ?_
    refine k_iffW (b := 1) (b2 := 3 * (e' + 1)) (P := fun _ => True) ?_ (fun _ => oddR (by omega)) fun _ => ?_
    · simp [isiT2, eqE_tnil, hne2]
      refine Comp.okW_draw (b := 0) (by omega) (by omega) fun r r0 r1 => ?_
      exact Comp.okW_ret trivial
    refine okW_le (b := 2 + (3 * (e' + 1) - 2)) (by omega) ?_
    refine k_stW (b := 2) (b2 := 3 * (e' + 1) - 2) (P := fun o => ∃ k w : Int, (0 ≤ k ∧ k < N) ∧ (0 ≤ w ∧ w < 9) ∧ o = .nx [.fz .rng, .fz (.d (.tuple xs)), .fz (.d (.int k)), .fz (.d (.int w))]) ?_ ?_
    · generalize hQ : (fun o : Ou => ∃ k w : Int, (0 ≤ k ∧ k < N) ∧ (0 ≤ w ∧ w < 9) ∧ o = .nx [.fz .rng, .fz (.d (.tuple xs)), .fz (.d (.int k)), .fz (.d (.int w))]) = Q'
      simp [l1, -slen_tuple]
      refine Comp.okW_draw (b := 1) (by omega) (by omega) fun k k0 k1 => ?_
      refine Comp.okW_draw (b := 0) (by omega) (by omega) fun w w0 w1 => ?_
      subst hQ
      exact Comp.okW_ret ⟨k, w, ⟨k0, k1⟩, ⟨w0, w1⟩, rfl⟩
    rintro o ⟨k, w, ⟨k0, k1⟩, ⟨w0, w1⟩, rfl⟩
    rw [goOn_nx]
    have t1 := cutT (xs := xs) k0
    have t2 := cutD (xs := xs) k0
    have t3 := cutD (xs := xs) (k := k + 1) (by omega)
    have lt := List.length_take_le k.toNat xs
    have ld : (xs.drop k.toNat).length ≤ xs.length - k.toNat := by rw [List.length_drop]; omega
    have ld2 : (xs.drop (k + 1).toNat).length ≤ xs.length - (k + 1).toNat := by rw [List.length_drop]; omega
    have lt2 : (xs.take k.toNat).length ≤ k.toNat := by rw [List.length_take]; omega
    have mono : ∀ {y : PyData}, Gd n e' y → Gd (n + 1) (e' + 1) y := fun h => h.mono (by omega) (by omega)
    have mt : ∀ y ∈ xs.take k.toNat, Gd (n + 1) (e' + 1) y := fun y h => mono (hy y (List.mem_of_mem_take h))
    have md : ∀ {j : Nat}, ∀ y ∈ xs.drop j, Gd (n + 1) (e' + 1) y := fun y h => mono (hy y (List.mem_of_mem_drop h))
    obtain ⟨z, z1, z2, z3⟩ := idxT k0 (by rw [← hN]; exact k1)
    have put : ∀ {u : PyData} {j : Nat}, Gd (n + 1) (e' + 1) u → (xs.take k.toNat ++ [u] ++ xs.drop j).length ≤ n + 1 → Q (.rt (.fz (.d (.tuple (xs.take k.toNat ++ [u] ++ xs.drop j))))) := fun {u j} hu hlen => fin (Gd.tup hlen fun y hy2 => by
      rcases List.mem_append.mp hy2 with h | h
      · rcases List.mem_append.mp h with h | h
        · exact mt y h
        · rw [List.mem_singleton] at h
          subst h
          exact hu
      · exact md y h)
    have a1 : ∀ u : PyData, binE .add (.tuple (xs.take k.toNat)) (.tuple [u]) = .ret (.tuple (xs.take k.toNat ++ [u])) := fun u => addT (by unfold LIM; simp only [List.length_singleton]; omega)
    have a2 : ∀ u : PyData, binE .add (.tuple (xs.take k.toNat ++ [u])) (.tuple (xs.drop k.toNat)) = .ret (.tuple (xs.take k.toNat ++ [u] ++ xs.drop k.toNat)) := fun u => addT (by unfold LIM; rw [List.length_append, List.length_singleton]; omega)
    have a3 : ∀ u : PyData, binE .add (.tuple (xs.take k.toNat ++ [u])) (.tuple (xs.drop (k + 1).toNat)) = .ret (.tuple (xs.take k.toNat ++ [u] ++ xs.drop (k + 1).toNat)) := fun u => addT (by unfold LIM; rw [List.length_append, List.length_singleton]; omega)
    have a4 : binE .add (.tuple (xs.take k.toNat)) (.tuple (xs.drop (k + 1).toNat)) = .ret (.tuple (xs.take k.toNat ++ xs.drop (k + 1).toNat)) := addT (by unfold LIM; omega)
    have b2 : ∀ u : PyData, (xs.take k.toNat ++ [u] ++ xs.drop k.toNat).length ≤ n + 1 := fun u => by rw [List.length_append, List.length_append, List.length_singleton]; omega
    have b3 : ∀ u : PyData, (xs.take k.toNat ++ [u] ++ xs.drop (k + 1).toNat).length ≤ n + 1 := fun u => by rw [List.length_append, List.length_append, List.length_singleton]; omega
    by_cases w0 : w = 0
    · refine k_iffr (w := .d (.tuple (xs.take k.toNat ++ xs.drop (k + 1).toNat))) (by simp [w0]) (by simp [t1, t3, a4]) ?_
      refine fin (Gd.tup (by rw [List.length_append]; omega) fun y hy2 => ?_)
      rcases List.mem_append.mp hy2 with h | h
      · exact mt y h
      · exact md y h
    refine k_iff (by simp [w0]) ?_
    by_cases w1 : w = 1
    · refine okW_le (b := 0 + (3 * (e' + 1) - 2)) (by omega) ?_
      refine k_iffW (b := 0) (b2 := 3 * (e' + 1) - 2) (P := fun t => t = true) (okW_eq (by simp [w1]) rfl) (fun _ => ?_) (fun h => by cases h)
      refine k_retW (Comp.okW_mono (b := 1) ?_ (by omega) (fun _ z => z) fun _ z => z)
      generalize hQ : (fun w : Wd => Q (.rt (.fz w)) ∧ ∃ r, Ou.rt (.fz w) = .rt r) = Q'
      simp [t1]
      refine Comp.okW_bind (b := 1) (b2 := 0) ho2 ?_
      rintro r ⟨y, rfl, hy⟩
      simp [a1, t2, a2, -List.append_assoc]
      subst hQ
      exact Comp.okW_ret ⟨put hy (b2 y), _, rfl⟩
    refine k_iff (by simp [w1]) ?_
    by_cases w2 : w = 2
    · refine k_iffr (w := .d (.tuple xs.reverse)) (by simp [w2]) (by simp [revE]) ?_
      refine fin (Gd.tup (by rw [List.length_reverse]; omega) fun y hy2 => mono (hy y (List.mem_reverse.mp hy2)))
    refine k_iff (by simp [w2]) ?_
    by_cases w3 : w = 3
    · refine okW_le (b := 0 + 0) (by omega) ?_
      refine okW_cons (b := 0) (b2 := 0) (P := fun o => o = .rt (.ow xs)) (okW_eq (by simp [w3]) rfl) ?_
      rintro o rfl
      rw [goOn_rt]
      exact Comp.okW_ret (finL (Gd.lst (by omega) fun y hy2 => mono (hy y hy2)))
    refine k_iff (by simp [w3]) ?_
    refine k_retW (b := 3 * (e' + 1) - 2) ?_
    have hz := hrec z (hy z z1)
    generalize hQ : (fun w : Wd => Q (.rt (.fz w))) = Q'
    simp [t1, z3]
    refine okW_le (b := 3 * (e' + 1) - 2 + 0) (by omega) ?_
    refine Comp.okW_bind (b := 3 * (e' + 1) - 2) (b2 := 0) hz ?_
    rintro r ⟨y, hr, hy⟩
    simp [hr, a1, t3, a3, -List.append_assoc]
    subst hQ
    exact Comp.okW_ret (put hy (b3 y))
theorem bent_8 {n : Nat} (n1 : 6 ≤ n) (n2 : n ≤ 1000) (hr : bentS n 2 7) : bentS n 3 8 := by
  intro e he x hx
  have ho : (tlC fns 8 4 [.rng]).okW 1 (fun r => ∃ x, r = .fz (.d x) ∧ Gd (n + 1) 1 x) nEx := by
    rw [tlF (by decide) (by decide)]
    exact Comp.okW_mono s4 (Nat.le_refl _) (fun r ⟨x, q, hx⟩ => ⟨x, q, hx.mono (by omega) (Nat.le_refl _)⟩) fun _ z => z
  have ho2 : ∀ e' : Nat, (tlC fns 8 4 [.rng]).okW 1 (fun r => ∃ x, r = .fz (.d x) ∧ Gd (n + 1) (e' + 1) x) nEx := fun e' => Comp.okW_mono ho (Nat.le_refl _) (fun r ⟨x, q, hx⟩ => ⟨x, q, hx.mono (Nat.le_refl _) (by omega)⟩) fun _ z => z
  have hrec : ∀ e', e' + 1 ≤ 3 → ∀ x : PyData, Gd n e' x → (tlC fns 8 7 [.rng, .d x]).okW (3 * (e' + 1) - 2) (fun r => ∃ y, frC r = .ret (.d y) ∧ Gd (n + 1) (e' + 1) y) nEx := fun e' he' x hx => by
    rw [tlF (by decide) (by decide)]
    exact Comp.okW_mono (hr e' (by omega) x hx) (by omega) (fun _ z => z) fun _ z => z
  refine clF_ok (f := f8) rfl (by decide) rfl ?_
  unfold f8
  generalize tlC fns 8 = TL at *
  have fin : ∀ {y : PyData}, Gd (n + 1) (e + 1) y → (fun o => (endC o).okW 0 (fun r => ∃ y, frC r = .ret (.d y) ∧ Gd (n + 1) (e + 1) y) nEx) (.rt (.fz (.d y))) := fun h => Comp.okW_ret ⟨_, rfl, h⟩
  have finL : ∀ {ys : List PyData}, Gd (n + 1) (e + 1) (.list ys) → (fun o => (endC o).okW 0 (fun r => ∃ y, frC r = .ret (.d y) ∧ Gd (n + 1) (e + 1) y) nEx) (.rt (.ow ys)) := fun h => Comp.okW_ret ⟨_, rfl, h⟩
  generalize (fun o => (endC o).okW 0 (fun r => ∃ y, frC r = .ret (.d y) ∧ Gd (n + 1) (e + 1) y) nEx) = Q at *
  have ofQ : ∀ {Q2 : FR → Prop}, (∀ y, Gd (n + 1) (e + 1) y → Q2 (.fz (.d y))) → (TL 4 [.rng]).okW 1 Q2 nEx := fun hq => Comp.okW_mono ho (Nat.le_refl _) (fun r ⟨y, q, hy⟩ => by
    subst q
    exact hq y (hy.mono (Nat.le_refl _) (by omega))) fun _ z => z
  by_cases nt : isiE .tuple x = false
  · refine okW_le (b := 0 + (3 * e + 1)) (by omega) ?_
    refine k_iffW (b := 0) (b2 := 3 * e + 1) (P := fun t => t = true) (okW_eq (by simp [nt]) rfl) (fun _ => ?_) (fun h => by cases h)
    refine k_retW (Comp.okW_mono (b := 1) ?_ (by omega) (fun _ z => z) fun _ z => z)
    generalize hQ : (fun w : Wd => Q (.rt (.fz w)) ∧ ∃ r, Ou.rt (.fz w) = .rt r) = Q'
    simp
    refine Comp.okW_bind (b := 1) (b2 := 0) (ofQ (Q2 := fun r => ∃ y, r = .fz (.d y) ∧ Gd (n + 1) (e + 1) y) fun y hy => ⟨y, rfl, hy⟩) ?_
    rintro r ⟨y, rfl, hy⟩
    simp
    subst hQ
    exact Comp.okW_ret ⟨fin hy, _, rfl⟩
  · obtain ⟨xs, rfl⟩ : ∃ xs, x = .tuple xs := by
      cases x with
      | tuple xs => exact ⟨xs, rfl⟩
      | _ => exact absurd rfl nt
    obtain ⟨e', rfl, hl, hy⟩ := hx.of_tup
    have ho2 := ho2 e'
    have hrec := hrec e' (by omega)
    obtain ⟨N, hN⟩ : ∃ N : Int, N = xs.length := ⟨_, rfl⟩
    have l1 : f1E .len (.tuple xs) = .ret (.int N) := by rw [slen_tuple, hN]
    have oddR : ∀ {q1 q2 q3 : Pos} {p2 : Pos} {ss : Sms} {b : Nat}, 1 ≤ b → ((Sms.cons (.ret (.call 4 "_law_odd" q1 (.cons (.var 0 "_law_m" q2) .nil) q3) p2) ss).ev TL 100 [.fz .rng, .fz (.d (.tuple xs)), .un, .un]).okW b (fun o => Q o ∧ ∃ r, o = .rt r) nEx := fun hb => by
      refine k_retW (Comp.okW_mono (b := 1) ?_ hb (fun _ z => z) fun _ z => z)
      generalize hQ : (fun w : Wd => Q (.rt (.fz w)) ∧ ∃ r, Ou.rt (.fz w) = .rt r) = Q'
      simp
      refine Comp.okW_bind (b := 1) (b2 := 0) (ofQ (Q2 := fun r => ∃ y, r = .fz (.d y) ∧ Gd (n + 1) (e' + 1 + 1) y) fun y hy => ⟨y, rfl, hy⟩) ?_
      rintro r ⟨y, rfl, hy⟩
      simp
      subst hQ
      exact Comp.okW_ret ⟨fin hy, _, rfl⟩
    by_cases hne : xs = []
    · subst hne
      refine okW_le (b := 0 + (3 * (e' + 1) + 1)) (by omega) ?_
      exact k_iffW (b := 0) (b2 := 3 * (e' + 1) + 1) (P := fun t => t = true) (okW_eq (by simp [isiT2, eqE_tnil]) rfl) (fun _ => oddR (by omega)) (fun h => by cases h)
    have hne2 : xs.isEmpty = false := by cases xs with
      | nil => exact absurd rfl hne
      | cons _ _ => rfl
    have hpos : 0 < xs.length := List.length_pos_iff.mpr hne
    refine okW_le (b := 1 + (3 * (e' + 1))) (by omega) ?_
    refine k_iffW (b := 1) (b2 := 3 * (e' + 1)) (P := fun _ => True) ?_ (fun _ => oddR (by omega)) fun _ => ?_
    · simp [isiT2, eqE_tnil, hne2]
      refine Comp.okW_draw (b := 0) (by omega) (by omega) fun r r0 r1 => ?_
      exact Comp.okW_ret trivial
    refine okW_le (b := 2 + (3 * (e' + 1) - 2)) (by omega) ?_
    refine k_stW (b := 2) (b2 := 3 * (e' + 1) - 2) (P := fun o => ∃ k w : Int, (0 ≤ k ∧ k < N) ∧ (0 ≤ w ∧ w < 9) ∧ o = .nx [.fz .rng, .fz (.d (.tuple xs)), .fz (.d (.int k)), .fz (.d (.int w))]) ?_ ?_
    · generalize hQ : (fun o : Ou => ∃ k w : Int, (0 ≤ k ∧ k < N) ∧ (0 ≤ w ∧ w < 9) ∧ o = .nx [.fz .rng, .fz (.d (.tuple xs)), .fz (.d (.int k)), .fz (.d (.int w))]) = Q'
      simp [l1, -slen_tuple]
      refine Comp.okW_draw (b := 1) (by omega) (by omega) fun k k0 k1 => ?_
      refine Comp.okW_draw (b := 0) (by omega) (by omega) fun w w0 w1 => ?_
      subst hQ
      exact Comp.okW_ret ⟨k, w, ⟨k0, k1⟩, ⟨w0, w1⟩, rfl⟩
    rintro o ⟨k, w, ⟨k0, k1⟩, ⟨w0, w1⟩, rfl⟩
    rw [goOn_nx]
    have t1 := cutT (xs := xs) k0
    have t2 := cutD (xs := xs) k0
    have t3 := cutD (xs := xs) (k := k + 1) (by omega)
    have lt := List.length_take_le k.toNat xs
    have ld : (xs.drop k.toNat).length ≤ xs.length - k.toNat := by rw [List.length_drop]; omega
    have ld2 : (xs.drop (k + 1).toNat).length ≤ xs.length - (k + 1).toNat := by rw [List.length_drop]; omega
    have lt2 : (xs.take k.toNat).length ≤ k.toNat := by rw [List.length_take]; omega
    have mono : ∀ {y : PyData}, Gd n e' y → Gd (n + 1) (e' + 1) y := fun h => h.mono (by omega) (by omega)
    have mt : ∀ y ∈ xs.take k.toNat, Gd (n + 1) (e' + 1) y := fun y h => mono (hy y (List.mem_of_mem_take h))
    have md : ∀ {j : Nat}, ∀ y ∈ xs.drop j, Gd (n + 1) (e' + 1) y := fun y h => mono (hy y (List.mem_of_mem_drop h))
    obtain ⟨z, z1, z2, z3⟩ := idxT k0 (by rw [← hN]; exact k1)
    have put : ∀ {u : PyData} {j : Nat}, Gd (n + 1) (e' + 1) u → (xs.take k.toNat ++ [u] ++ xs.drop j).length ≤ n + 1 → Q (.rt (.fz (.d (.tuple (xs.take k.toNat ++ [u] ++ xs.drop j))))) := fun {u j} hu hlen => fin (Gd.tup hlen fun y hy2 => by
      rcases List.mem_append.mp hy2 with h | h
      · rcases List.mem_append.mp h with h | h
        · exact mt y h
        · rw [List.mem_singleton] at h
          subst h
          exact hu
      · exact md y h)
    have a1 : ∀ u : PyData, binE .add (.tuple (xs.take k.toNat)) (.tuple [u]) = .ret (.tuple (xs.take k.toNat ++ [u])) := fun u => addT (by unfold LIM; simp only [List.length_singleton]; omega)
    have a2 : ∀ u : PyData, binE .add (.tuple (xs.take k.toNat ++ [u])) (.tuple (xs.drop k.toNat)) = .ret (.tuple (xs.take k.toNat ++ [u] ++ xs.drop k.toNat)) := fun u => addT (by unfold LIM; rw [List.length_append, List.length_singleton]; omega)
    have a3 : ∀ u : PyData, binE .add (.tuple (xs.take k.toNat ++ [u])) (.tuple (xs.drop (k + 1).toNat)) = .ret (.tuple (xs.take k.toNat ++ [u] ++ xs.drop (k + 1).toNat)) := fun u => addT (by unfold LIM; rw [List.length_append, List.length_singleton]; omega)
    have a4 : binE .add (.tuple (xs.take k.toNat)) (.tuple (xs.drop (k + 1).toNat)) = .ret (.tuple (xs.take k.toNat ++ xs.drop (k + 1).toNat)) := addT (by unfold LIM; omega)
    have b2 : ∀ u : PyData, (xs.take k.toNat ++ [u] ++ xs.drop k.toNat).length ≤ n + 1 := fun u => by rw [List.length_append, List.length_append, List.length_singleton]; omega
    have b3 : ∀ u : PyData, (xs.take k.toNat ++ [u] ++ xs.drop (k + 1).toNat).length ≤ n + 1 := fun u => by rw [List.length_append, List.length_append, List.length_singleton]; omega
    by_cases w0 : w = 0
    · refine k_iffr (w := .d (.tuple (xs.take k.toNat ++ xs.drop (k + 1).toNat))) (by simp [w0]) (by simp [t1, t3, a4]) ?_
      refine fin (Gd.tup (by rw [List.length_append]; omega) fun y hy2 => ?_)
      rcases List.mem_append.mp hy2 with h | h
      · exact mt y h
      · exact md y h
    refine k_iff (by simp [w0]) ?_
    by_cases w1 : w = 1
    · refine okW_le (b := 0 + (3 * (e' + 1) - 2)) (by omega) ?_
      refine k_iffW (b := 0) (b2 := 3 * (e' + 1) - 2) (P := fun t => t = true) (okW_eq (by simp [w1]) rfl) (fun _ => ?_) (fun h => by cases h)
      refine k_retW (Comp.okW_mono (b := 1) ?_ (by omega) (fun _ z => z) fun _ z => z)
      generalize hQ : (fun w : Wd => Q (.rt (.fz w)) ∧ ∃ r, Ou.rt (.fz w) = .rt r) = Q'
      simp [t1]
      refine Comp.okW_bind (b := 1) (b2 := 0) ho2 ?_
      rintro r ⟨y, rfl, hy⟩
      simp [a1, t2, a2, -List.append_assoc]
      subst hQ
      exact Comp.okW_ret ⟨put hy (b2 y), _, rfl⟩
    refine k_iff (by simp [w1]) ?_
    by_cases w2 : w = 2
    · refine k_iffr (w := .d (.tuple xs.reverse)) (by simp [w2]) (by simp [revE]) ?_
      refine fin (Gd.tup (by rw [List.length_reverse]; omega) fun y hy2 => mono (hy y (List.mem_reverse.mp hy2)))
    refine k_iff (by simp [w2]) ?_
    by_cases w3 : w = 3
    · refine okW_le (b := 0 + 0) (by omega) ?_
      refine okW_cons (b := 0) (b2 := 0) (P := fun o => o = .rt (.ow xs)) (okW_eq (by simp [w3]) rfl) ?_
      rintro o rfl
      rw [goOn_rt]
      exact Comp.okW_ret (finL (Gd.lst (by omega) fun y hy2 => mono (hy y hy2)))
    refine k_iff (by simp [w3]) ?_
    refine k_retW (b := 3 * (e' + 1) - 2) ?_
    have hz := hrec z (hy z z1)
    generalize hQ : (fun w : Wd => Q (.rt (.fz w))) = Q'
    simp [t1, z3]
    refine okW_le (b := 3 * (e' + 1) - 2 + 0) (by omega) ?_
    refine Comp.okW_bind (b := 3 * (e' + 1) - 2) (b2 := 0) hz ?_
    rintro r ⟨y, hr, hy⟩
    simp [hr, a1, t3, a3, -List.append_assoc]
    subst hQ
    exact Comp.okW_ret (put hy (b3 y))
theorem bent_9 {n : Nat} (n1 : 6 ≤ n) (n2 : n ≤ 1000) (hr : bentS n 3 8) : bentS n 4 9 := by
  intro e he x hx
  have ho : (tlC fns 9 4 [.rng]).okW 1 (fun r => ∃ x, r = .fz (.d x) ∧ Gd (n + 1) 1 x) nEx := by
    rw [tlF (by decide) (by decide)]
    exact Comp.okW_mono s4 (Nat.le_refl _) (fun r ⟨x, q, hx⟩ => ⟨x, q, hx.mono (by omega) (Nat.le_refl _)⟩) fun _ z => z
  have ho2 : ∀ e' : Nat, (tlC fns 9 4 [.rng]).okW 1 (fun r => ∃ x, r = .fz (.d x) ∧ Gd (n + 1) (e' + 1) x) nEx := fun e' => Comp.okW_mono ho (Nat.le_refl _) (fun r ⟨x, q, hx⟩ => ⟨x, q, hx.mono (Nat.le_refl _) (by omega)⟩) fun _ z => z
  have hrec : ∀ e', e' + 1 ≤ 4 → ∀ x : PyData, Gd n e' x → (tlC fns 9 8 [.rng, .d x]).okW (3 * (e' + 1) - 2) (fun r => ∃ y, frC r = .ret (.d y) ∧ Gd (n + 1) (e' + 1) y) nEx := fun e' he' x hx => by
    rw [tlF (by decide) (by decide)]
    exact Comp.okW_mono (hr e' (by omega) x hx) (by omega) (fun _ z => z) fun _ z => z
  refine clF_ok (f := f9) rfl (by decide) rfl ?_
  unfold f9
  generalize tlC fns 9 = TL at *
  have fin : ∀ {y : PyData}, Gd (n + 1) (e + 1) y → (fun o => (endC o).okW 0 (fun r => ∃ y, frC r = .ret (.d y) ∧ Gd (n + 1) (e + 1) y) nEx) (.rt (.fz (.d y))) := fun h => Comp.okW_ret ⟨_, rfl, h⟩
  have finL : ∀ {ys : List PyData}, Gd (n + 1) (e + 1) (.list ys) → (fun o => (endC o).okW 0 (fun r => ∃ y, frC r = .ret (.d y) ∧ Gd (n + 1) (e + 1) y) nEx) (.rt (.ow ys)) := fun h => Comp.okW_ret ⟨_, rfl, h⟩
  generalize (fun o => (endC o).okW 0 (fun r => ∃ y, frC r = .ret (.d y) ∧ Gd (n + 1) (e + 1) y) nEx) = Q at *
  have ofQ : ∀ {Q2 : FR → Prop}, (∀ y, Gd (n + 1) (e + 1) y → Q2 (.fz (.d y))) → (TL 4 [.rng]).okW 1 Q2 nEx := fun hq => Comp.okW_mono ho (Nat.le_refl _) (fun r ⟨y, q, hy⟩ => by
    subst q
    exact hq y (hy.mono (Nat.le_refl _) (by omega))) fun _ z => z
  by_cases nt : isiE .tuple x = false
  · refine okW_le (b := 0 + (3 * e + 1)) (by omega) ?_
    refine k_iffW (b := 0) (b2 := 3 * e + 1) (P := fun t => t = true) (okW_eq (by simp [nt]) rfl) (fun _ => ?_) (fun h => by cases h)
    refine k_retW (Comp.okW_mono (b := 1) ?_ (by omega) (fun _ z => z) fun _ z => z)
    generalize hQ : (fun w : Wd => Q (.rt (.fz w)) ∧ ∃ r, Ou.rt (.fz w) = .rt r) = Q'
    simp
    refine Comp.okW_bind (b := 1) (b2 := 0) (ofQ (Q2 := fun r => ∃ y, r = .fz (.d y) ∧ Gd (n + 1) (e + 1) y) fun y hy => ⟨y, rfl, hy⟩) ?_
    rintro r ⟨y, rfl, hy⟩
    simp
    subst hQ
    exact Comp.okW_ret ⟨fin hy, _, rfl⟩
  · obtain ⟨xs, rfl⟩ : ∃ xs, x = .tuple xs := by
      cases x with
      | tuple xs => exact ⟨xs, rfl⟩
      | _ => exact absurd rfl nt
    obtain ⟨e', rfl, hl, hy⟩ := hx.of_tup
    have ho2 := ho2 e'
    have hrec := hrec e' (by omega)
    obtain ⟨N, hN⟩ : ∃ N : Int, N = xs.length := ⟨_, rfl⟩
    have l1 : f1E .len (.tuple xs) = .ret (.int N) := by rw [slen_tuple, hN]
    have oddR : ∀ {q1 q2 q3 : Pos} {p2 : Pos} {ss : Sms} {b : Nat}, 1 ≤ b → ((Sms.cons (.ret (.call 4 "_law_odd" q1 (.cons (.var 0 "_law_m" q2) .nil) q3) p2) ss).ev TL 100 [.fz .rng, .fz (.d (.tuple xs)), .un, .un]).okW b (fun o => Q o ∧ ∃ r, o = .rt r) nEx := fun hb => by
      refine k_retW (Comp.okW_mono (b := 1) ?_ hb (fun _ z => z) fun _ z => z)
      generalize hQ : (fun w : Wd => Q (.rt (.fz w)) ∧ ∃ r, Ou.rt (.fz w) = .rt r) = Q'
      simp
      refine Comp.okW_bind (b := 1) (b2 := 0) (ofQ (Q2 := fun r => ∃ y, r = .fz (.d y) ∧ Gd (n + 1) (e' + 1 + 1) y) fun y hy => ⟨y, rfl, hy⟩) ?_
      rintro r ⟨y, rfl, hy⟩
      simp
      subst hQ
      exact Comp.okW_ret ⟨fin hy, _, rfl⟩
    by_cases hne : xs = []
    · subst hne
      refine okW_le (b := 0 + (3 * (e' + 1) + 1)) (by omega) ?_
      exact k_iffW (b := 0) (b2 := 3 * (e' + 1) + 1) (P := fun t => t = true) (okW_eq (by simp [isiT2, eqE_tnil]) rfl) (fun _ => oddR (by omega)) (fun h => by cases h)
    have hne2 : xs.isEmpty = false := by cases xs with
      | nil => exact absurd rfl hne
      | cons _ _ => rfl
    have hpos : 0 < xs.length := List.length_pos_iff.mpr hne
    refine okW_le (b := 1 + (3 * (e' + 1))) (by omega) ?_
    refine k_iffW (b := 1) (b2 := 3 * (e' + 1)) (P := fun _ => True) ?_ (fun _ => oddR (by omega)) fun _ => ?_
    · simp [isiT2, eqE_tnil, hne2]
      refine Comp.okW_draw (b := 0) (by omega) (by omega) fun r r0 r1 => ?_
      exact Comp.okW_ret trivial
    refine okW_le (b := 2 + (3 * (e' + 1) - 2)) (by omega) ?_
    refine k_stW (b := 2) (b2 := 3 * (e' + 1) - 2) (P := fun o => ∃ k w : Int, (0 ≤ k ∧ k < N) ∧ (0 ≤ w ∧ w < 9) ∧ o = .nx [.fz .rng, .fz (.d (.tuple xs)), .fz (.d (.int k)), .fz (.d (.int w))]) ?_ ?_
    · generalize hQ : (fun o : Ou => ∃ k w : Int, (0 ≤ k ∧ k < N) ∧ (0 ≤ w ∧ w < 9) ∧ o = .nx [.fz .rng, .fz (.d (.tuple xs)), .fz (.d (.int k)), .fz (.d (.int w))]) = Q'
      simp [l1, -slen_tuple]
      refine Comp.okW_draw (b := 1) (by omega) (by omega) fun k k0 k1 => ?_
      refine Comp.okW_draw (b := 0) (by omega) (by omega) fun w w0 w1 => ?_
      subst hQ
      exact Comp.okW_ret ⟨k, w, ⟨k0, k1⟩, ⟨w0, w1⟩, rfl⟩
    rintro o ⟨k, w, ⟨k0, k1⟩, ⟨w0, w1⟩, rfl⟩
    rw [goOn_nx]
    have t1 := cutT (xs := xs) k0
    have t2 := cutD (xs := xs) k0
    have t3 := cutD (xs := xs) (k := k + 1) (by omega)
    have lt := List.length_take_le k.toNat xs
    have ld : (xs.drop k.toNat).length ≤ xs.length - k.toNat := by rw [List.length_drop]; omega
    have ld2 : (xs.drop (k + 1).toNat).length ≤ xs.length - (k + 1).toNat := by rw [List.length_drop]; omega
    have lt2 : (xs.take k.toNat).length ≤ k.toNat := by rw [List.length_take]; omega
    have mono : ∀ {y : PyData}, Gd n e' y → Gd (n + 1) (e' + 1) y := fun h => h.mono (by omega) (by omega)
    have mt : ∀ y ∈ xs.take k.toNat, Gd (n + 1) (e' + 1) y := fun y h => mono (hy y (List.mem_of_mem_take h))
    have md : ∀ {j : Nat}, ∀ y ∈ xs.drop j, Gd (n + 1) (e' + 1) y := fun y h => mono (hy y (List.mem_of_mem_drop h))
    obtain ⟨z, z1, z2, z3⟩ := idxT k0 (by rw [← hN]; exact k1)
    have put : ∀ {u : PyData} {j : Nat}, Gd (n + 1) (e' + 1) u → (xs.take k.toNat ++ [u] ++ xs.drop j).length ≤ n + 1 → Q (.rt (.fz (.d (.tuple (xs.take k.toNat ++ [u] ++ xs.drop j))))) := fun {u j} hu hlen => fin (Gd.tup hlen fun y hy2 => by
      rcases List.mem_append.mp hy2 with h | h
      · rcases List.mem_append.mp h with h | h
        · exact mt y h
        · rw [List.mem_singleton] at h
          subst h
          exact hu
      · exact md y h)
    have a1 : ∀ u : PyData, binE .add (.tuple (xs.take k.toNat)) (.tuple [u]) = .ret (.tuple (xs.take k.toNat ++ [u])) := fun u => addT (by unfold LIM; simp only [List.length_singleton]; omega)
    have a2 : ∀ u : PyData, binE .add (.tuple (xs.take k.toNat ++ [u])) (.tuple (xs.drop k.toNat)) = .ret (.tuple (xs.take k.toNat ++ [u] ++ xs.drop k.toNat)) := fun u => addT (by unfold LIM; rw [List.length_append, List.length_singleton]; omega)
    have a3 : ∀ u : PyData, binE .add (.tuple (xs.take k.toNat ++ [u])) (.tuple (xs.drop (k + 1).toNat)) = .ret (.tuple (xs.take k.toNat ++ [u] ++ xs.drop (k + 1).toNat)) := fun u => addT (by unfold LIM; rw [List.length_append, List.length_singleton]; omega)
    have a4 : binE .add (.tuple (xs.take k.toNat)) (.tuple (xs.drop (k + 1).toNat)) = .ret (.tuple (xs.take k.toNat ++ xs.drop (k + 1).toNat)) := addT (by unfold LIM; omega)
    have b2 : ∀ u : PyData, (xs.take k.toNat ++ [u] ++ xs.drop k.toNat).length ≤ n + 1 := fun u => by rw [List.length_append, List.length_append, List.length_singleton]; omega
    have b3 : ∀ u : PyData, (xs.take k.toNat ++ [u] ++ xs.drop (k + 1).toNat).length ≤ n + 1 := fun u => by rw [List.length_append, List.length_append, List.length_singleton]; omega
    by_cases w0 : w = 0
    · refine k_iffr (w := .d (.tuple (xs.take k.toNat ++ xs.drop (k + 1).toNat))) (by simp [w0]) (by simp [t1, t3, a4]) ?_
      refine fin (Gd.tup (by rw [List.length_append]; omega) fun y hy2 => ?_)
      rcases List.mem_append.mp hy2 with h | h
      · exact mt y h
      · exact md y h
    refine k_iff (by simp [w0]) ?_
    by_cases w1 : w = 1
    · refine okW_le (b := 0 + (3 * (e' + 1) - 2)) (by omega) ?_
      refine k_iffW (b := 0) (b2 := 3 * (e' + 1) - 2) (P := fun t => t = true) (okW_eq (by simp [w1]) rfl) (fun _ => ?_) (fun h => by cases h)
      refine k_retW (Comp.okW_mono (b := 1) ?_ (by omega) (fun _ z => z) fun _ z => z)
      generalize hQ : (fun w : Wd => Q (.rt (.fz w)) ∧ ∃ r, Ou.rt (.fz w) = .rt r) = Q'
      simp [t1]
      refine Comp.okW_bind (b := 1) (b2 := 0) ho2 ?_
      rintro r ⟨y, rfl, hy⟩
      simp [a1, t2, a2, -List.append_assoc]
      subst hQ
      exact Comp.okW_ret ⟨put hy (b2 y), _, rfl⟩
    refine k_iff (by simp [w1]) ?_
    by_cases w2 : w = 2
    · refine k_iffr (w := .d (.tuple xs.reverse)) (by simp [w2]) (by simp [revE]) ?_
      refine fin (Gd.tup (by rw [List.length_reverse]; omega) fun y hy2 => mono (hy y (List.mem_reverse.mp hy2)))
    refine k_iff (by simp [w2]) ?_
    by_cases w3 : w = 3
    · refine okW_le (b := 0 + 0) (by omega) ?_
      refine okW_cons (b := 0) (b2 := 0) (P := fun o => o = .rt (.ow xs)) (okW_eq (by simp [w3]) rfl) ?_
      rintro o rfl
      rw [goOn_rt]
      exact Comp.okW_ret (finL (Gd.lst (by omega) fun y hy2 => mono (hy y hy2)))
    refine k_iff (by simp [w3]) ?_
    refine k_retW (b := 3 * (e' + 1) - 2) ?_
    have hz := hrec z (hy z z1)
    generalize hQ : (fun w : Wd => Q (.rt (.fz w))) = Q'
    simp [t1, z3]
    refine okW_le (b := 3 * (e' + 1) - 2 + 0) (by omega) ?_
    refine Comp.okW_bind (b := 3 * (e' + 1) - 2) (b2 := 0) hz ?_
    rintro r ⟨y, hr, hy⟩
    simp [hr, a1, t3, a3, -List.append_assoc]
    subst hQ
    exact Comp.okW_ret (put hy (b3 y))
theorem bent {n e : Nat} (n1 : 6 ≤ n) (n2 : n ≤ 1000) (he : e ≤ 4) {x : PyData} (hx : Gd n e x) : (clF fns 9 [.rng, .d x]).okW (3 * e + 1) (fun r => ∃ y, frC r = .ret (.d y) ∧ Gd (n + 1) (e + 1) y) nEx :=
  bent_9 n1 n2 (bent_8 n1 n2 (bent_7 n1 n2 (bent_6 n1 n2 (bent_5 n1 n2)))) e he x hx
end Tk90

set_option Elab.async false
set_option linter.all false
set_option maxRecDepth 100000
set_option maxHeartbeats 4000000
namespace Tk90
open PySem TC
/-! ### what is drawn -/
def Tq (d : Nat) (x : PyData) : Prop := ∃ xs, x = .tuple xs ∧ xs.length ≤ 6 ∧ ∀ y ∈ xs, Gd 6 d y
theorem Tq.gd {d : Nat} {x : PyData} (h : Tq d x) : Gd 6 (d + 1) x := by
  obtain ⟨xs, e, l, h⟩ := h
  exact .inr ⟨xs, .inl e, l, h⟩
theorem atI {i : Int} {d : Nat} (h0 : 0 ≤ i) (h1 : i < 1000) : Gd 6 d (.int i) := by
  have z : ((List.range 1000).all fun n => atB (.int n)) = true := by decide +kernel
  obtain ⟨n, rfl⟩ : ∃ n : Nat, i = n := ⟨i.toNat, by omega⟩
  exact Gd.at_ (List.all_eq_true.mp z n (List.mem_range.mpr (by omega)))
theorem s0 : (clF fns 0 [.rng]).okW 5 (fun r => ∃ y, r = .fz (.d y) ∧ Tq 0 y) nEx := by
  refine clF_ok (f := f0) rfl (by decide) rfl ?_
  unfold f0
  generalize tlC fns 0 = TL at *
  refine k_asgW (b := 1) (b2 := 4) (P := fun w => ∃ i : Int, 0 ≤ i ∧ i < 1000 ∧ w = .d (.int i)) ?_ ?_
  · generalize hQ : (fun w : Wd => ∃ i : Int, 0 ≤ i ∧ i < 1000 ∧ w = .d (.int i)) = Q
    simp
    refine Comp.okW_draw (b := 0) (by omega) (by omega) fun k k0 k1 => ?_
    subst hQ
    exact Comp.okW_ret ⟨_, by omega, by omega, rfl⟩
  rintro w ⟨i, i0, i1, rfl⟩
  refine k_retW (b := 4) ?_
  generalize hQ : (fun w : Wd => (endC (.rt (.fz w))).okW 0 (fun r => ∃ y, r = .fz (.d y) ∧ Tq 0 y) nEx) = Q
  simp
  refine Comp.okW_draw (b := 3) (by omega) (by omega) fun a a0 a1 => ?_
  refine Comp.okW_draw (b := 2) (by omega) (by omega) fun b b0 b1 => ?_
  refine Comp.okW_draw (b := 1) (by omega) (by omega) fun c c0 c1 => ?_
  refine Comp.okW_draw (b := 0) (by omega) (by omega) fun d d0 d1 => ?_
  subst hQ
  refine Comp.okW_ret (Comp.okW_ret ⟨_, rfl, _, rfl, by simp, fun y hy => ?_⟩)
  simp only [List.mem_cons, List.not_mem_nil, or_false] at hy
  rcases hy with rfl | rfl | rfl | rfl | rfl <;> exact atI (by omega) (by omega)
theorem s1 : (clF fns 1 [.rng]).okW 10 (fun r => ∃ q ys, r = .fz (.d (.tuple (q :: ys))) ∧ Tq 0 q ∧ Tq 1 (.tuple (q :: ys))) nEx := by
  have h0 : (tlC fns 1 0 [.rng]).okW 5 (fun r => ∃ y, r = .fz (.d y) ∧ Tq 0 y) nEx := by
    rw [tlF (by decide) (by decide)]
    exact s0
  refine clF_ok (f := f1) rfl (by decide) rfl ?_
  unfold f1
  generalize tlC fns 1 = TL at *
  refine k_stW (b := 2) (b2 := 8) (P := fun o => ∃ a b : Int, 1 ≤ a ∧ a ≤ 30 ∧ 1 ≤ b ∧ b ≤ 30 ∧ o = .nx [.fz .rng, .fz (.d (.int a)), .fz (.d (.int b)), .un]) ?_ ?_
  · generalize hQ : (fun o : Ou => ∃ a b : Int, 1 ≤ a ∧ a ≤ 30 ∧ 1 ≤ b ∧ b ≤ 30 ∧ o = .nx [.fz .rng, .fz (.d (.int a)), .fz (.d (.int b)), .un]) = Q
    simp
    refine Comp.okW_draw (b := 1) (by omega) (by omega) fun a a0 a1 => ?_
    refine Comp.okW_draw (b := 0) (by omega) (by omega) fun b b0 b1 => ?_
    subst hQ
    exact Comp.okW_ret ⟨1 + a, 1 + b, by omega, by omega, by omega, by omega, rfl⟩
  rintro o ⟨a, b, a0, a1, b0, b1, rfl⟩
  rw [goOn_nx]
  refine k_asgW (b := 1) (b2 := 7) (P := fun w => ∃ i : Int, 0 ≤ i ∧ i < 1000 ∧ w = .d (.int i)) ?_ ?_
  · generalize hQ : (fun w : Wd => ∃ i : Int, 0 ≤ i ∧ i < 1000 ∧ w = .d (.int i)) = Q
    simp
    refine Comp.okW_draw (b := 0) (by omega) (by omega) fun k k0 k1 => ?_
    subst hQ
    exact Comp.okW_ret ⟨_, by omega, by omega, rfl⟩
  rintro w ⟨i, i0, i1, rfl⟩
  refine k_retW (b := 7) ?_
  generalize hQ : (fun w : Wd => (endC (.rt (.fz w))).okW 0 (fun r => ∃ q ys, r = .fz (.d (.tuple (q :: ys))) ∧ Tq 0 q ∧ Tq 1 (.tuple (q :: ys))) nEx) = Q
  simp
  refine Comp.okW_bind (b := 5) (b2 := 2) h0 ?_
  rintro r ⟨q, rfl, hq⟩
  simp
  refine Comp.okW_draw (b := 1) (by omega) (by omega) fun c c0 c1 => ?_
  refine Comp.okW_draw (b := 0) (by omega) (by omega) fun d d0 d1 => ?_
  subst hQ
  refine Comp.okW_ret (Comp.okW_ret ⟨q, _, rfl, hq, _, rfl, by simp, fun y hy => ?_⟩)
  simp only [List.mem_cons, List.not_mem_nil, or_false] at hy
  rcases hy with rfl | rfl | rfl | rfl | rfl | rfl
  · exact hq.gd
  all_goals exact atI (by omega) (by omega)
/-! ### a turn -/
abbrev E0 (st th k bh : Sl) : En := [.un, .fz .rng, .un, st, th, k, bh, .un, .un, .un]
def lapB : Sms := match lw0_1 with
  | .forr _ _ (.cons _ (.cons (.forr _ _ b _) _)) _ => b
  | _ => .nil
theorem lap1 {st k bh : Sl} {x : PyData} {e : Nat} (he : e ≤ 2) (h : Gd 6 e x) : (lapB.ev (clF fns) 100 (E0 st (.fz (.d x)) k bh)).okW 17 (fun o => ∃ bh, o = .nx (E0 st (.fz (.d x)) k bh)) nEx := by
  have b1 := bent (n := 6) (e := e) (by omega) (by omega) (by omega) h
  have hr : ∀ {y : PyData}, Gd 8 4 y → clF fns 22 [.d y] = .ret (.fz (.d (.bool true))) := s22
  have b2 : ∀ {y : PyData}, Gd 7 (e + 1) y → (clF fns 9 [.rng, .d y]).okW (3 * (e + 1) + 1) (fun r => ∃ z, frC r = .ret (.d z) ∧ Gd 8 (e + 1 + 1) z) nEx := fun h => bent (by omega) (by omega) (by omega) h
  generalize clF fns = C at *
  unfold lapB lw0_1
  simp only
  refine okW_le (b := (3 * e + 1) + (3 * (e + 1) + 1)) (by omega) ?_
  refine k_asgW (b := 3 * e + 1) (b2 := 3 * (e + 1) + 1) (P := fun w => ∃ y, w = .d y ∧ Gd 7 (e + 1) y) ?_ ?_
  · generalize hQ : (fun w : Wd => ∃ y, w = .d y ∧ Gd 7 (e + 1) y) = Q
    simp
    refine Comp.okW_bind (b := 3 * e + 1) (b2 := 0) b1 ?_
    rintro r ⟨y, hy, gy⟩
    simp [hy]
    subst hQ
    exact Comp.okW_ret ⟨y, rfl, gy⟩
  rintro w ⟨y, rfl, gy⟩
  refine k_iffW (b := 3 * (e + 1) + 1) (b2 := 0) (P := fun t => t = false) ?_ (fun h => by cases h) fun _ => ?_
  · generalize hQ : (fun t : Bool => t = false) = Q
    simp [hr (gy.mono (n' := 8) (d' := 4) (by omega) (by omega))]
    refine Comp.okW_bind (b := 3 * (e + 1) + 1) (b2 := 0) (b2 gy) ?_
    rintro r ⟨z, hz, gz⟩
    simp [hz, hr (gz.mono (n' := 8) (d' := 4) (by omega) (by omega))]
    subst hQ
    exact Comp.okW_ret rfl
  · rw [ev_nil]
    exact Comp.okW_ret ⟨_, rfl⟩
def begB : Sms := match lw0_1 with
  | .forr _ _ b _ => b
  | _ => .nil
theorem beg1 {st k bh : Sl} {x : PyData} {d : Nat} (hd : d ≤ 1) (h : Tq d x) : (begB.ev (clF fns) 100 (E0 st (.fz (.d x)) k bh)).okW 137 (fun o => ∃ k bh, o = .nx (E0 st (.fz (.d x)) k bh)) nEx := by
  have h1 : ∀ {k bh : Sl}, (lapB.ev (clF fns) 100 (E0 st (.fz (.d x)) k bh)).okW 17 (fun o => ∃ bh, o = .nx (E0 st (.fz (.d x)) k bh)) nEx := lap1 (e := d + 1) (by omega) h.gd
  have hr : ∀ {y : PyData}, Gd 8 4 y → clF fns 22 [.d y] = .ret (.fz (.d (.bool true))) := s22
  have r1 := hr (h.gd.mono (n' := 8) (d' := 4) (by omega) (by omega))
  obtain ⟨xs, rfl, hl, hy⟩ := h
  have r2 := hr (y := .list xs) ((Gd.lst hl hy).mono (n' := 8) (d' := 4) (by omega) (by omega))
  have h4 := s4
  have lim : limL xs = .ret xs := limL_ok (by unfold LIM; omega)
  generalize clF fns = C at *
  unfold lapB lw0_1 at h1
  simp only at h1
  unfold begB lw0_1
  simp only
  refine k_iffW (b := 1) (b2 := 136) (P := fun t => t = false) ?_ (fun h => by cases h) fun _ => ?_
  · generalize hQ : (fun t : Bool => t = false) = Q
    simp [r1, r2, lim]
    refine Comp.okW_bind (b := 1) (b2 := 0) h4 ?_
    rintro r ⟨z, rfl, gz⟩
    simp [hr (gz.mono (n' := 8) (d' := 4) (by omega) (by omega))]
    subst hQ
    exact Comp.okW_ret rfl
  refine okW_cons (b := 136) (b2 := 0) (P := fun o => ∃ k bh, o = .nx (E0 st (.fz (.d (.tuple xs))) k bh)) ?_ (by
    rintro o ⟨t, lap, rfl⟩
    rw [goOn_nx, ev_nil]
    exact Comp.okW_ret ⟨t, lap, rfl⟩)
  rw [ev_forr]
  refine okW_exO (b := 0) (b2 := 136) (P := fun ds => ds = rngP 0 8) (okW_eq (by
    have b4 : bigI 8 = true := by decide
    simp [b4]) rfl) ?_
  rintro ds rfl
  refine okW_for (c := 17) (P := fun e => ∃ k bh, e = E0 st (.fz (.d (.tuple xs))) k bh) ?_ ?_ ⟨_, _, rfl⟩
  · rintro d2 hd2 e ⟨k, bh, rfl⟩
    rw [bindT, sbind_ret]
    refine Comp.okW_mono (h1 (k := .fz (.d d2)) (bh := bh)) (Nat.le_refl _) ?_ fun _ z => z
    rintro o ⟨z, rfl⟩
    exact ⟨_, .inl rfl, _, _, rfl⟩
  · rintro e ⟨k, bh, rfl⟩
    exact ⟨_, _, rfl⟩
theorem t0 : (lw0_0.ev (clF fns) 100 (E0 .un .un .un .un)).okW 10 (fun o => ∃ q ys, Tq 0 q ∧ Tq 1 (.tuple (q :: ys)) ∧ o = .nx (E0 (.fz (.d (.tuple (q :: ys)))) .un .un .un)) nEx := by
  unfold lw0_0
  rw [Sm.ev]
  refine okW_exO (b := 10) (b2 := 0) (P := fun w => ∃ q ys, Tq 0 q ∧ Tq 1 (.tuple (q :: ys)) ∧ w = .d (.tuple (q :: ys))) ?_ ?_
  · generalize hQ : (fun w : Wd => ∃ q ys, Tq 0 q ∧ Tq 1 (.tuple (q :: ys)) ∧ w = .d (.tuple (q :: ys))) = Q
    simp
    refine Comp.okW_bind (b := 10) (b2 := 0) s1 ?_
    rintro r ⟨q, ys, rfl, h1, h2⟩
    subst hQ
    exact Comp.okW_ret ⟨q, ys, h1, h2, rfl⟩
  · rintro w ⟨q, ys, h1, h2, rfl⟩
    exact Comp.okW_ret ⟨q, ys, h1, h2, rfl⟩
theorem t1 {q : PyData} {ys : List PyData} (hq : Tq 0 q) (hs : Tq 1 (.tuple (q :: ys))) : (lw0_1.ev (clF fns) 100 (E0 (.fz (.d (.tuple (q :: ys)))) .un .un .un)).okW 274 (fun o => ∃ a b c d, o = .nx (E0 a b c d)) nEx := by
  have hb : ∀ {st k bh : Sl} {x : PyData} {d : Nat}, d ≤ 1 → Tq d x → (begB.ev (clF fns) 100 (E0 st (.fz (.d x)) k bh)).okW 137 (fun o => ∃ k bh, o = .nx (E0 st (.fz (.d x)) k bh)) nEx := beg1
  generalize clF fns = C at *
  unfold begB lw0_1 at hb
  simp only at hb
  unfold lw0_1
  rw [ev_forr]
  have i0 : idxE (.tuple (q :: ys)) (.int 0) = .ret q := by
    refine idx_T ?_
    simp [L2.atI, L2.ixN, PySem.seqIndex?]
  refine okW_exO (b := 0) (b2 := 274) (P := fun ds => ds = [.tuple (q :: ys), q]) (okW_eq (by simp [i0]) rfl) ?_
  rintro ds rfl
  refine okW_for (c := 137) (P := fun e => ∃ a b c d, e = E0 a b c d) ?_ ?_ ⟨_, _, _, _, rfl⟩
  · rintro d hd e ⟨a, b, c, f, rfl⟩
    have hd2 : ∃ n, n ≤ 1 ∧ Tq n d := by
      simp only [List.mem_cons, List.not_mem_nil, or_false] at hd
      rcases hd with rfl | rfl
      · exact ⟨1, Nat.le_refl _, hs⟩
      · exact ⟨0, by omega, hq⟩
    obtain ⟨n, n1, gz⟩ := hd2
    rw [bindT, sbind_ret]
    refine Comp.okW_mono (hb (st := a) (k := c) (bh := f) n1 gz) (Nat.le_refl _) ?_ fun _ z => z
    rintro o ⟨t, lap, rfl⟩
    exact ⟨_, .inl rfl, _, _, _, _, rfl⟩
  · rintro e ⟨a, b, c, f, rfl⟩
    exact ⟨_, _, _, _, rfl⟩
def goodE (e : En) : Prop := ∃ a b c d f g, e = [a, .fz .rng, b, c, d, f, g, .un, .un, .un]
def in90 : Sms := .cons lw0_0 (.cons lw0_1 .nil)
theorem turn0 : (in90.ev (clF fns) 100 (E0 .un .un .un .un)).okW 284 (fun o => ∃ e', (o = .nx e' ∨ o = .ct e') ∧ goodE e') nEx := by
  unfold in90
  refine okW_cons (b := 10) (b2 := 274) t0 ?_
  rintro o ⟨q, ys, h1, h2, rfl⟩
  rw [goOn_nx]
  refine okW_cons (b := 274) (b2 := 0) (t1 h1 h2) ?_
  rintro o ⟨a, b, c, d, rfl⟩
  rw [goOn_nx, ev_nil]
  exact Comp.okW_ret ⟨_, .inl rfl, _, _, _, _, _, _, rfl⟩
theorem turn {q : Pos} {d : PyData} {e : En} (he : goodE e) : ((bindT (.nm 2 "_law_turn" q) d e).bind fun e2 => (Sms.fgt [0, 2, 3, 4, 5, 6] in90).ev (clF fns) 100 e2).okW 284 (fun o => ∃ e', (o = .nx e' ∨ o = .ct e') ∧ goodE e') nEx := by
  obtain ⟨a, b, c, d', f, g, rfl⟩ := he
  rw [bindT, sbind_ret, ev_fgt]
  exact turn0
theorem lw0_eq : ∃ p1 p2 p3 p4 p5 p6 p7 p8 p9 p10 q1 q2, lw_0 = .forr (.nm 2 "_law_turn" q1) (Ei.rg1 p1 (.bin .add (.int 3 0 p2) (.f2 .min p3 (.lns 0 "_law_script" p4 p5 p6) (.int 6 0 p7) p8) p9) p10) (.fgt [0, 2, 3, 4, 5, 6] in90) q2 :=
  ⟨_, _, _, _, _, _, _, _, _, _, _, _, rfl⟩
theorem loop {n : Nat} (h : n ≤ 63) : (lw_0.ev (clF fns) 100 [.fz (.scr n), .fz .rng, .un, .un, .un, .un, .un, .un, .un, .un]).okW 2556 (fun o => ∃ e', o = .nx e' ∧ goodE e') nEx := by
  obtain ⟨p1, p2, p3, p4, p5, p6, p7, p8, p9, p10, q1, q2, e0⟩ := lw0_eq
  have rl := @rg_len (clF fns) n h
  obtain ⟨m, m0, m1, hd⟩ := rl (a := 3) (b := 6) (by decide) (by decide) (by decide) (by decide) (e := [.fz (.scr n), .fz .rng, .un, .un, .un, .un, .un, .un, .un, .un]) rfl (k1 := 0) (k2 := 0) (x := "_law_script") (p1 := p1) (p2 := p2) (p3 := p3) (p4 := p4) (p5 := p5) (p6 := p6) (p7 := p7) (p8 := p8) (p9 := p9) (p10 := p10)
  have hl : (rngP 0 (3 + m)).length ≤ 9 := by
    rw [rngP_len]
    omega
  rw [e0, ev_forr, hd, exO_ret]
  exact Comp.okW_mono (okW_for (c := 284) (P := goodE) (Q := fun o => ∃ e', o = .nx e' ∧ goodE e') (fun d hd e he => turn he) (fun e he => ⟨e, rfl, he⟩) ⟨_, _, _, _, _, _, rfl⟩) (by omega) (fun _ z => z) fun _ z => z
end Tk90

set_option Elab.async false
set_option linter.all false
set_option maxRecDepth 100000
set_option maxHeartbeats 4000000
namespace Tk90
open PySem TC
def gdL : List PyData := [.int 4, .int 8, .int 4, .int 2, .int 1]
def thL (o : PyData) : List PyData := [o, .int (-1), .none, .bool true]
abbrev E2g (G : List PyData) (th k oh hh : Sl) : En := [.un, .un, .un, .un, th, k, .un, .fz (.d (.tuple G)), hh, oh]
abbrev E2 (th k oh hh : Sl) : En := E2g gdL th k oh hh
def in2 : Sms := .cons lw2_0 .nil
def in3 : Sms := .cons lw3_0 .nil
theorem in2_ok {G : List PyData} {k : Int} {o : PyData} {ts us : List PyData} {th hh : Sl} (h1 : slcE (.tuple G) none (some k) = .ret (.tuple ts)) (h2 : binE .mul (.tuple [.none]) (.int (4 - k)) = .ret (.tuple us)) (h3 : ts.length + us.length ≤ 7) (h4 : ∀ x ∈ thL o, Gd 8 4 (.tuple (ts ++ [x] ++ us))) : (in2.ev (clF fns) 100 (E2g G th (.fz (.d (.int k))) (.fz (.d o)) hh)).okW 0 (fun out => ∃ th, out = .nx (E2g G th (.fz (.d (.int k))) (.fz (.d o)) hh)) nEx := by
  have hr : ∀ x ∈ thL o, clF fns 22 [.d (.tuple (ts ++ [x] ++ us))] = .ret (.fz (.d (.bool true))) := fun x hx => s22 (h4 x hx)
  have a1 : ∀ x : PyData, binE .add (.tuple ts) (.tuple [x]) = .ret (.tuple (ts ++ [x])) := fun x => addT (by unfold LIM; simp only [List.length_singleton]; omega)
  have a2 : ∀ x : PyData, binE .add (.tuple (ts ++ [x])) (.tuple us) = .ret (.tuple (ts ++ [x] ++ us)) := fun x => addT (by unfold LIM; rw [List.length_append, List.length_singleton]; omega)
  generalize clF fns = C at *
  unfold in2
  refine okW_cons (b := 0) (b2 := 0) (P := fun out => ∃ th, out = .nx [.un, .un, .un, .un, th, .fz (.d (.int k)), .un, .fz (.d (.tuple G)), hh, .fz (.d o)]) ?_ (by
    rintro out ⟨th, rfl⟩
    rw [goOn_nx, ev_nil]
    exact Comp.okW_ret ⟨_, rfl⟩)
  unfold lw2_0
  rw [ev_forr]
  refine okW_exO (b := 0) (b2 := 0) (P := fun ds => ds = thL o) (okW_eq (by simp [thL]) rfl) ?_
  rintro ds rfl
  refine okW_for0 (P := fun _ e => ∃ th, e = [.un, .un, .un, .un, th, .fz (.d (.int k)), .un, .fz (.d (.tuple G)), hh, .fz (.d o)]) ?_ ?_ ⟨_, rfl⟩
  · rintro j d hd e ⟨th, rfl⟩
    rw [bindT, sbind_ret]
    have hd := hr d (List.mem_of_getElem? hd)
    refine k_iff (by simp [h1, h2, a1, a2, hd, -List.append_assoc]) ?_
    rw [ev_nil]
    exact Comp.okW_ret ⟨_, .inl rfl, _, rfl⟩
  · rintro e ⟨th, rfl⟩
    exact ⟨_, rfl⟩
theorem in3_ok {G : List PyData} {k : Int} {o : PyData} {ts us : List PyData} {th hh : Sl} (h1 : slcE (.tuple [.int 3, .int 5, .int 4, .int 0, .int 1]) none (some k) = .ret (.tuple ts)) (h2 : binE .mul (.tuple [.none]) (.int (4 - k)) = .ret (.tuple us)) (h3 : ts.length + us.length ≤ 6) (h4 : ∀ x ∈ thL o, Gd 8 4 (.tuple ([PyData.tuple G] ++ ts ++ [x] ++ us))) : (in3.ev (clF fns) 100 (E2g G th (.fz (.d (.int k))) (.fz (.d o)) hh)).okW 0 (fun out => ∃ th, out = .nx (E2g G th (.fz (.d (.int k))) (.fz (.d o)) hh)) nEx := by
  have hr : ∀ x ∈ thL o, clF fns 22 [.d (.tuple ([PyData.tuple G] ++ ts ++ [x] ++ us))] = .ret (.fz (.d (.bool true))) := fun x hx => s22 (h4 x hx)
  have a0 : binE .add (.tuple [PyData.tuple G]) (.tuple ts) = .ret (.tuple ([PyData.tuple G] ++ ts)) := addT (by unfold LIM; simp only [List.length_singleton]; omega)
  have l0 : ([PyData.tuple G] ++ ts).length ≤ 7 := by rw [List.length_append, List.length_singleton]; omega
  generalize clF fns = C at *
  have l1 : us.length ≤ 6 := by omega
  generalize [PyData.tuple G] ++ ts = vs at *
  have a1 : ∀ x : PyData, binE .add (.tuple vs) (.tuple [x]) = .ret (.tuple (vs ++ [x])) := fun x => addT (by unfold LIM; simp only [List.length_singleton]; omega)
  have a2 : ∀ x : PyData, binE .add (.tuple (vs ++ [x])) (.tuple us) = .ret (.tuple (vs ++ [x] ++ us)) := fun x => addT (by unfold LIM; rw [List.length_append, List.length_singleton]; omega)
  unfold in3
  refine okW_cons (b := 0) (b2 := 0) (P := fun out => ∃ th, out = .nx [.un, .un, .un, .un, th, .fz (.d (.int k)), .un, .fz (.d (.tuple G)), hh, .fz (.d o)]) ?_ (by
    rintro out ⟨th, rfl⟩
    rw [goOn_nx, ev_nil]
    exact Comp.okW_ret ⟨_, rfl⟩)
  unfold lw3_0
  rw [ev_forr]
  refine okW_exO (b := 0) (b2 := 0) (P := fun ds => ds = thL o) (okW_eq (by simp [thL]) rfl) ?_
  rintro ds rfl
  refine okW_for0 (P := fun _ e => ∃ th, e = [.un, .un, .un, .un, th, .fz (.d (.int k)), .un, .fz (.d (.tuple G)), hh, .fz (.d o)]) ?_ ?_ ⟨_, rfl⟩
  · rintro j d hd e ⟨th, rfl⟩
    rw [bindT, sbind_ret]
    have hd := hr d (List.mem_of_getElem? hd)
    refine k_iff (by simp [h1, h2, a0, a1, a2, hd, -List.append_assoc]) ?_
    rw [ev_nil]
    exact Comp.okW_ret ⟨_, .inl rfl, _, rfl⟩
  · rintro e ⟨th, rfl⟩
    exact ⟨_, rfl⟩
def pr2 : List (Int × Int) := [(0, 65), (1, 201), (2, 65), (3, 5), (4, 4)]
def pr3 : List (Int × Int) := [(0, 31), (1, 31), (2, 5), (3, 2), (4, 2)]
def prD (p : Int × Int) : PyData := .tuple [.int p.1, .int p.2]
def tsK (l : List PyData) (k : Int) : List PyData := l.take k.toNat
def usK (k : Int) : List PyData := List.replicate (4 - k).toNat .none
theorem gd84 {x : PyData} (h : gdB 3 x = true) : Gd 8 4 x := (gdB_ok h).mono (by decide) (by decide)
theorem muls : ∀ k : Int, 0 ≤ k → k ≤ 4 → binE .mul (.tuple [.none]) (.int (4 - k)) = .ret (.tuple (usK k)) := fun k k0 k1 => by
  have : k = 0 ∨ k = 1 ∨ k = 2 ∨ k = 3 ∨ k = 4 := by omega
  rcases this with rfl | rfl | rfl | rfl | rfl <;> rfl
theorem kin {p : Int × Int} {l : List (Int × Int)} (hl : l = pr2 ∨ l = pr3) (hp : p ∈ l) : 0 ≤ p.1 ∧ p.1 ≤ 4 := by
  have z : ((pr2 ++ pr3).all fun p => decide (0 ≤ p.1) && decide (p.1 ≤ 4)) = true := by decide +kernel
  have y := List.all_eq_true.mp z p (by
    rcases hl with rfl | rfl
    · exact List.mem_append_left _ hp
    · exact List.mem_append_right _ hp)
  rw [Bool.and_eq_true] at y
  exact ⟨of_decide_eq_true y.1, of_decide_eq_true y.2⟩
theorem g2 {p : Int × Int} (hp : p ∈ pr2) : ∀ x ∈ thL (.int p.2), Gd 8 4 (.tuple (tsK gdL p.1 ++ [x] ++ usK p.1)) := fun x hx => by
  have z : (pr2.all fun p => (thL (.int p.2)).all fun x => gdB 3 (.tuple (tsK gdL p.1 ++ [x] ++ usK p.1))) = true := by decide +kernel
  exact gd84 (List.all_eq_true.mp (List.all_eq_true.mp z p hp) x hx)
theorem g3 {p : Int × Int} (hp : p ∈ pr3) : ∀ x ∈ thL (.int p.2), Gd 8 4 (.tuple ([PyData.tuple gdL] ++ tsK [.int 3, .int 5, .int 4, .int 0, .int 1] p.1 ++ [x] ++ usK p.1)) := fun x hx => by
  have z : (pr3.all fun p => (thL (.int p.2)).all fun x => gdB 3 (.tuple ([PyData.tuple gdL] ++ tsK [.int 3, .int 5, .int 4, .int 0, .int 1] p.1 ++ [x] ++ usK p.1))) = true := by decide +kernel
  exact gd84 (List.all_eq_true.mp (List.all_eq_true.mp z p hp) x hx)
theorem len2 {p : Int × Int} (hp : p ∈ pr2 ∨ p ∈ pr3) : (tsK gdL p.1).length + (usK p.1).length ≤ 6 ∧ (tsK [.int 3, .int 5, .int 4, .int 0, .int 1] p.1).length + (usK p.1).length ≤ 6 := by
  have z : ((pr2 ++ pr3).all fun p => decide ((tsK gdL p.1).length + (usK p.1).length ≤ 6) && decide ((tsK [.int 3, .int 5, .int 4, .int 0, .int 1] p.1).length + (usK p.1).length ≤ 6)) = true := by decide +kernel
  have y := List.all_eq_true.mp z p (List.mem_append.mpr hp)
  rw [Bool.and_eq_true] at y
  exact ⟨of_decide_eq_true y.1, of_decide_eq_true y.2⟩
def gE (e : En) : Prop := ∃ a b c d f g h i j, e = [a, b, c, d, f, g, h, .fz (.d (.tuple gdL)), i, j]
theorem u2 {e : En} (he : gE e) : (lw_2.ev (clF fns) 100 e).okW 0 (fun o => ∃ e', o = .nx e' ∧ gE e') nEx := by
  have hi : ∀ {p : Int × Int} {th hh : Sl}, p ∈ pr2 → (in2.ev (clF fns) 100 (E2 th (.fz (.d (.int p.1))) (.fz (.d (.int p.2))) hh)).okW 0 (fun out => ∃ th, out = .nx (E2 th (.fz (.d (.int p.1))) (.fz (.d (.int p.2))) hh)) nEx := fun {p th hh} hp =>
    in2_ok (cutT (kin (.inl rfl) hp).1) (muls _ (kin (.inl rfl) hp).1 (kin (.inl rfl) hp).2) (Nat.le_trans (len2 (.inl hp)).1 (by decide)) (g2 hp)
  generalize clF fns = C at *
  have e0 : lw_2 = .forr _ _ (.fgt [0, 1, 2, 3, 4, 6] in2) _ := rfl
  rw [e0, ev_forr]
  generalize in2 = B at *
  refine okW_exO (b := 0) (b2 := 0) (P := fun ds => ds = pr2.map prD) (okW_eq (by simp [enuE, enuP, pr2, prD, List.range, List.range.loop]) rfl) ?_
  rintro ds rfl
  refine okW_for0 (P := fun _ e => gE e) ?_ (fun e he => ⟨e, rfl, he⟩) he
  rintro j d hd e ⟨a, b, c, d2, f, g, h, i, l, rfl⟩
  obtain ⟨p, hp, rfl⟩ := List.mem_map.mp (List.mem_of_getElem? hd)
  have hi := hi (th := .un) (hh := i) hp
  obtain ⟨k, o⟩ := p
  refine Comp.okW_mono (P := fun out => ∃ th, out = .nx (E2 th (.fz (.d (.int k))) (.fz (.d (.int o))) i)) ?_ (Nat.le_refl _) ?_ fun _ z => z
  · exact hi
  · rintro out ⟨th, rfl⟩
    exact ⟨_, .inl rfl, _, _, _, _, _, _, _, _, _, rfl⟩
theorem u3 {e : En} (he : gE e) : (lw_3.ev (clF fns) 100 e).okW 0 (fun o => ∃ e', o = .nx e' ∧ gE e') nEx := by
  have hi : ∀ {p : Int × Int} {th hh : Sl}, p ∈ pr3 → (in3.ev (clF fns) 100 (E2 th (.fz (.d (.int p.1))) (.fz (.d (.int p.2))) hh)).okW 0 (fun out => ∃ th, out = .nx (E2 th (.fz (.d (.int p.1))) (.fz (.d (.int p.2))) hh)) nEx := fun {p th hh} hp =>
    in3_ok (cutT (kin (.inr rfl) hp).1) (muls _ (kin (.inr rfl) hp).1 (kin (.inr rfl) hp).2) (len2 (.inr hp)).2 (g3 hp)
  generalize clF fns = C at *
  have e0 : lw_3 = .forr _ _ (.fgt [0, 1, 2, 3, 4, 6] in3) _ := rfl
  rw [e0, ev_forr]
  generalize in3 = B at *
  refine okW_exO (b := 0) (b2 := 0) (P := fun ds => ds = pr3.map prD) (okW_eq (by simp [enuE, enuP, pr3, prD, List.range, List.range.loop]) rfl) ?_
  rintro ds rfl
  refine okW_for0 (P := fun _ e => gE e) ?_ (fun e he => ⟨e, rfl, he⟩) he
  rintro j d hd e ⟨a, b, c, d2, f, g, h, i, l, rfl⟩
  obtain ⟨p, hp, rfl⟩ := List.mem_map.mp (List.mem_of_getElem? hd)
  have hi := hi (th := .un) (hh := i) hp
  obtain ⟨k, o⟩ := p
  refine Comp.okW_mono (P := fun out => ∃ th, out = .nx (E2 th (.fz (.d (.int k))) (.fz (.d (.int o))) i)) ?_ (Nat.le_refl _) ?_ fun _ z => z
  · exact hi
  · rintro out ⟨th, rfl⟩
    exact ⟨_, .inl rfl, _, _, _, _, _, _, _, _, _, rfl⟩
/-! ### what is no string -/
theorem s25 {x : PyData} (h : isiE .str x = false) : clF fns 25 [.d x] = .raise ⟨2, .int 0⟩ := by
  rw [clF_at (f := f25) rfl (by decide)]
  unfold f25
  generalize tlC fns 25 = TL at *
  have f0 : flatP (.int 0) = true := rfl
  simp [Fd.run, h, f0]
theorem s26 {x : PyData} (h : isiE .str x = false) : clF fns 26 [.d x] = .raise ⟨2, .int 0⟩ := by
  rw [clF_at (f := f26) rfl (by decide)]
  unfold f26
  generalize tlC fns 26 = TL at *
  have f0 : flatP (.int 0) = true := rfl
  simp [Fd.run, h, f0]
def noS : List PyData := [.none, .int 5, .bool true, .tuple [], .tuple [.str "4"], .list [.str "4"], .dict [], .int 1000000000000000000000000000000]
def in4 : Sms := .cons lw4_0 (.cons lw4_1 .nil)
abbrev E4 (hh oh : Sl) : En := [.un, .un, .un, .un, .un, .un, .un, .un, hh, oh]
def txt0 : PyData := .list [.str "text", .int 0]
theorem rep2 : ∃ z : Str, f1E .repr (.list [txt0, txt0]) = .ret (.str z) := ⟨_, f1_repr (by decide +kernel)⟩
theorem in4_ok {x : PyData} (h : isiE .str x = false) : (in4.ev (clF fns) 100 (E4 .un (.fz (.d x)))).okW 0 (fun o => ∃ hh, o = .nx (E4 hh (.fz (.d x)))) nEx := by
  have h25 := s25 h
  have h26 := s26 h
  have h2 : clF fns 2 [.fn (.raise ⟨2, .int 0⟩)] = .ret (.fz (.d txt0)) := ht
  obtain ⟨z, hz⟩ := rep2
  generalize clF fns = C at *
  have m2 : repE (.list [txt0]) (.int 2) = .ret [txt0, txt0] := rfl
  have t0 : PyData.list [.str "text", .int 0] = txt0 := rfl
  unfold in4 lw4_0 lw4_1
  refine k_asg (w := .d (.list [txt0, txt0])) (by simp [h25, h26, h2]) ?_
  refine k_iff (by simp [t0, m2, hz]) ?_
  rw [ev_nil]
  exact Comp.okW_ret ⟨_, rfl⟩
theorem u4 {e : En} (he : ∃ a b c d f g h i j k, e = [a, b, c, d, f, g, h, i, j, k]) : (lw_4.ev (clF fns) 100 e).okW 0 (fun o => ∃ e', o = .nx e' ∧ ∃ a b c d f g h i j k, e' = [a, b, c, d, f, g, h, i, j, k]) nEx := by
  have hi : ∀ {x : PyData}, isiE .str x = false → (in4.ev (clF fns) 100 (E4 .un (.fz (.d x)))).okW 0 (fun o => ∃ hh, o = .nx (E4 hh (.fz (.d x)))) nEx := in4_ok
  generalize clF fns = C at *
  have e0 : lw_4 = .forr _ _ (.fgt [0, 1, 2, 3, 4, 5, 6, 7, 8] in4) _ := rfl
  rw [e0, ev_forr]
  generalize in4 = B at *
  refine okW_exO (b := 0) (b2 := 0) (P := fun ds => ds = noS) (okW_eq (by simp [pw30, noS]) rfl) ?_
  rintro ds rfl
  refine okW_for0 (P := fun _ e => ∃ a b c d f g h i j k, e = [a, b, c, d, f, g, h, i, j, k]) ?_ (fun e he => ⟨e, rfl, he⟩) he
  rintro j d hd e ⟨a, b, c, d2, f, g, h, i, l, m, rfl⟩
  have z : (noS.all fun x => !isiE .str x) = true := by decide +kernel
  have y := List.all_eq_true.mp z d (List.mem_of_getElem? hd)
  have y : isiE .str d = false := by simpa using y
  rw [bindT, sbind_ret, ev_fgt]
  refine Comp.okW_mono (hi y) (Nat.le_refl _) ?_ fun _ z => z
  rintro out ⟨hh, rfl⟩
  exact ⟨_, .inl rfl, _, _, _, _, _, _, _, _, _, _, rfl⟩
theorem law90 (n : Nat) (h : n ≤ 63) : (lawC 100 fns lw n).wp 2556 isT noE := by
  refine law_of (lawC_ok ?_)
  rw [← clF_def]
  have e1 : lw.body = .cons lw_0 (.fgt [0, 2, 3, 6] (.cons lw_1 (.cons lw_2 (.fgt [0, 2, 3, 6] (.cons lw_3 (.fgt [0, 2, 3, 4, 5, 6, 7] (.cons lw_4 (.fgt [0, 2, 3, 4, 5, 6, 7, 8, 9] (.cons lw_5 .nil))))))))) := rfl
  have e2 : (startE lw.N.length [.scr n]).set 1 (.fz .rng) = [.fz (.scr n), .fz .rng, .un, .un, .un, .un, .un, .un, .un, .un] := rfl
  rw [e1, e2]
  have k0 := loop h
  have k2 : ∀ {e : En}, gE e → (lw_2.ev (clF fns) 100 e).okW 0 (fun o => ∃ e', o = .nx e' ∧ gE e') nEx := u2
  have k3 : ∀ {e : En}, gE e → (lw_3.ev (clF fns) 100 e).okW 0 (fun o => ∃ e', o = .nx e' ∧ gE e') nEx := u3
  have k4 : ∀ {e : En}, (∃ a b c d f g h i j k, e = [a, b, c, d, f, g, h, i, j, k]) → (lw_4.ev (clF fns) 100 e).okW 0 (fun o => ∃ e', o = .nx e' ∧ ∃ a b c d f g h i j k, e' = [a, b, c, d, f, g, h, i, j, k]) nEx := u4
  generalize clF fns = C at *
  refine okW_cons (b := 2556) (b2 := 0) k0 ?_
  rintro o ⟨e', rfl, a, b, c, d, f, g, rfl⟩
  rw [goOn_nx, ev_fgt]
  have e3 : wipeE [a, .fz .rng, b, c, d, f, g, .un, .un, .un] [0, 2, 3, 6] = [.un, .fz .rng, .un, .un, d, f, .un, .un, .un, .un] := rfl
  rw [e3]
  refine okW_cons (b := 0) (b2 := 0) (P := fun o => o = .nx [.un, .fz .rng, .un, .un, d, f, .un, .fz (.d (.tuple gdL)), .un, .un]) (okW_eq (by
    unfold lw_1
    simp [gdL]) rfl) ?_
  rintro o rfl
  rw [goOn_nx]
  refine okW_cons (b := 0) (b2 := 0) (k2 ⟨_, _, _, _, _, _, _, _, _, rfl⟩) ?_
  rintro o ⟨e', rfl, a1, a2, a3, a4, a5, a6, a7, a8, a9, rfl⟩
  rw [goOn_nx, ev_fgt]
  refine okW_cons (b := 0) (b2 := 0) (k3 ⟨_, _, _, _, _, _, _, _, _, rfl⟩) ?_
  rintro o ⟨e', rfl, a1, a2, a3, a4, a5, a6, a7, a8, a9, rfl⟩
  rw [goOn_nx, ev_fgt]
  refine okW_cons (b := 0) (b2 := 0) (k4 ⟨_, _, _, _, _, _, _, _, _, _, rfl⟩) ?_
  rintro o ⟨e', rfl, _⟩
  rw [goOn_nx, ev_fgt]
  refine okW_eq (o := .rt (.fz (.d (.bool true)))) (by
    unfold lw_5
    simp) rfl
end Tk90

set_option Elab.async false
set_option linter.all false
set_option maxRecDepth 100000
set_option maxHeartbeats 4000000
namespace Tk90
open PySem L2 TC PySem.Spec PyProof.Rows
theorem fs0 : FnScope f0.N ["_law_m"] (defScope (top 36)) := ⟨rfl, rfl, rfl, by decide +kernel, rfl, by decide +kernel, by decide +kernel⟩
theorem fo0 : f0.body.ok { ckOf cons "_law_next" [] exN true with lam := f0.lams } f0.N (defScope (top 36)) = true := by decide +kernel
theorem fs1 : FnScope f1.N ["_law_m"] (defScope (top 37)) := ⟨rfl, rfl, rfl, by decide +kernel, rfl, by decide +kernel, by decide +kernel⟩
theorem fo1 : f1.body.ok { ckOf cons "_law_next" [f0] exN true with lam := f1.lams } f1.N (defScope (top 37)) = true := by decide +kernel
theorem fs2 : FnScope f2.N ["_law_call"] (defScope (top 41)) := ⟨rfl, rfl, rfl, by decide +kernel, rfl, by decide +kernel, by decide +kernel⟩
theorem fo2 : f2.body.ok { ckOf cons "_law_next" [f1, f0] exN true with lam := f2.lams } f2.N (defScope (top 41)) = true := by decide +kernel
theorem fs3 : FnScope f3.N ["_law_m", "_law_some"] (defScope (top 35)) := ⟨rfl, rfl, rfl, by decide +kernel, rfl, by decide +kernel, by decide +kernel⟩
theorem fo3 : f3.body.ok { ckOf cons "_law_next" [f2, f1, f0] exN true with lam := f3.lams } f3.N (defScope (top 35)) = true := by decide +kernel
theorem fs4 : FnScope f4.N ["_law_m"] (defScope (top 42)) := ⟨rfl, rfl, rfl, by decide +kernel, rfl, by decide +kernel, by decide +kernel⟩
theorem fo4 : f4.body.ok { ckOf cons "_law_next" [f3, f2, f1, f0] exN true with lam := f4.lams } f4.N (defScope (top 42)) = true := by decide +kernel
theorem fs5 : FnScope f5.N ["_law_m", "_law_thing"] (defScope (top 43)) := ⟨rfl, rfl, rfl, by decide +kernel, rfl, by decide +kernel, by decide +kernel⟩
theorem fo5 : f5.body.ok { ckOf cons "_law_next" [f4, f3, f2, f1, f0] exN true with lam := f5.lams } f5.N (defScope (top 43)) = true := by decide +kernel
theorem fs6 : FnScope f6.N ["_law_m", "_law_thing"] (defScope (top 43)) := ⟨rfl, rfl, rfl, by decide +kernel, rfl, by decide +kernel, by decide +kernel⟩
theorem fo6 : f6.body.ok { ckOf cons "_law_next" [f5, f4, f3, f2, f1, f0] exN true with lam := f6.lams } f6.N (defScope (top 43)) = true := by decide +kernel
theorem fs7 : FnScope f7.N ["_law_m", "_law_thing"] (defScope (top 43)) := ⟨rfl, rfl, rfl, by decide +kernel, rfl, by decide +kernel, by decide +kernel⟩
theorem fo7 : f7.body.ok { ckOf cons "_law_next" [f6, f5, f4, f3, f2, f1, f0] exN true with lam := f7.lams } f7.N (defScope (top 43)) = true := by decide +kernel
theorem fs8 : FnScope f8.N ["_law_m", "_law_thing"] (defScope (top 43)) := ⟨rfl, rfl, rfl, by decide +kernel, rfl, by decide +kernel, by decide +kernel⟩
theorem fo8 : f8.body.ok { ckOf cons "_law_next" [f7, f6, f5, f4, f3, f2, f1, f0] exN true with lam := f8.lams } f8.N (defScope (top 43)) = true := by decide +kernel
theorem fs9 : FnScope f9.N ["_law_m", "_law_thing"] (defScope (top 43)) := ⟨rfl, rfl, rfl, by decide +kernel, rfl, by decide +kernel, by decide +kernel⟩
theorem fo9 : f9.body.ok { ckOf cons "_law_next" [f8, f7, f6, f5, f4, f3, f2, f1, f0] exN true with lam := f9.lams } f9.N (defScope (top 43)) = true := by decide +kernel
theorem fs10 : FnScope f10.N ["_law_thing", "_law_low", "_law_high"] (defScope (top 38)) := ⟨rfl, rfl, rfl, by decide +kernel, rfl, by decide +kernel, by decide +kernel⟩
theorem fo10 : f10.body.ok { ckOf cons "_law_next" [f9, f8, f7, f6, f5, f4, f3, f2, f1, f0] exN true with lam := f10.lams } f10.N (defScope (top 38)) = true := by decide +kernel
theorem fs11 : FnScope f11.N ["_law_thing"] (defScope (top 39)) := ⟨rfl, rfl, rfl, by decide +kernel, rfl, by decide +kernel, by decide +kernel⟩
theorem fo11 : f11.body.ok { ckOf cons "_law_next" [f10, f9, f8, f7, f6, f5, f4, f3, f2, f1, f0] exN true with lam := f11.lams } f11.N (defScope (top 39)) = true := by decide +kernel
theorem fs12 : FnScope f12.N ["_law_thing"] (defScope (top 40)) := ⟨rfl, rfl, rfl, by decide +kernel, rfl, by decide +kernel, by decide +kernel⟩
theorem fo12 : f12.body.ok { ckOf cons "_law_next" [f11, f10, f9, f8, f7, f6, f5, f4, f3, f2, f1, f0] exN true with lam := f12.lams } f12.N (defScope (top 40)) = true := by decide +kernel
theorem fs13 : FnScope f13.N ["row"] (defScope (top 26)) := ⟨rfl, rfl, rfl, by decide +kernel, rfl, by decide +kernel, by decide +kernel⟩
theorem fo13 : f13.body.ok { ckOf cons "_law_next" [f12, f11, f10, f9, f8, f7, f6, f5, f4, f3, f2, f1, f0] exN true with lam := f13.lams } f13.N (defScope (top 26)) = true := by decide +kernel
theorem fs14 : FnScope f14.N ["thing", "least", "most"] (defScope (top 10)) := ⟨rfl, rfl, rfl, by decide +kernel, rfl, by decide +kernel, by decide +kernel⟩
theorem fo14 : f14.body.ok { ckOf cons "_law_next" [f13, f12, f11, f10, f9, f8, f7, f6, f5, f4, f3, f2, f1, f0] exN true with lam := f14.lams } f14.N (defScope (top 10)) = true := by decide +kernel
theorem fs15 : FnScope f15.N ["thing"] (defScope (top 11)) := ⟨rfl, rfl, rfl, by decide +kernel, rfl, by decide +kernel, by decide +kernel⟩
theorem fo15 : f15.body.ok { ckOf cons "_law_next" [f14, f13, f12, f11, f10, f9, f8, f7, f6, f5, f4, f3, f2, f1, f0] exN true with lam := f15.lams } f15.N (defScope (top 11)) = true := by decide +kernel
theorem fs16 : FnScope f16.N ["thing"] (defScope (top 14)) := ⟨rfl, rfl, rfl, by decide +kernel, rfl, by decide +kernel, by decide +kernel⟩
theorem fo16 : f16.body.ok { ckOf cons "_law_next" [f15, f14, f13, f12, f11, f10, f9, f8, f7, f6, f5, f4, f3, f2, f1, f0] exN true with lam := f16.lams } f16.N (defScope (top 14)) = true := by decide +kernel
theorem fs17 : FnScope f17.N ["queue"] (defScope (top 28)) := ⟨rfl, rfl, rfl, by decide +kernel, rfl, by decide +kernel, by decide +kernel⟩
theorem fo17 : f17.body.ok { ckOf cons "_law_next" [f16, f15, f14, f13, f12, f11, f10, f9, f8, f7, f6, f5, f4, f3, f2, f1, f0] exN true with lam := f17.lams } f17.N (defScope (top 28)) = true := by decide +kernel
theorem fs18 : FnScope f18.N ["thing"] (defScope (top 13)) := ⟨rfl, rfl, rfl, by decide +kernel, rfl, by decide +kernel, by decide +kernel⟩
theorem fo18 : f18.body.ok { ckOf cons "_law_next" [f17, f16, f15, f14, f13, f12, f11, f10, f9, f8, f7, f6, f5, f4, f3, f2, f1, f0] exN true with lam := f18.lams } f18.N (defScope (top 13)) = true := by decide +kernel
theorem fs19 : FnScope f19.N ["thing"] (defScope (top 17)) := ⟨rfl, rfl, rfl, by decide +kernel, rfl, by decide +kernel, by decide +kernel⟩
theorem fo19 : f19.body.ok { ckOf cons "_law_next" [f18, f17, f16, f15, f14, f13, f12, f11, f10, f9, f8, f7, f6, f5, f4, f3, f2, f1, f0] exN true with lam := f19.lams } f19.N (defScope (top 17)) = true := by decide +kernel
theorem fs20 : FnScope f20.N ["thing"] (defScope (top 19)) := ⟨rfl, rfl, rfl, by decide +kernel, rfl, by decide +kernel, by decide +kernel⟩
theorem fo20 : f20.body.ok { ckOf cons "_law_next" [f19, f18, f17, f16, f15, f14, f13, f12, f11, f10, f9, f8, f7, f6, f5, f4, f3, f2, f1, f0] exN true with lam := f20.lams } f20.N (defScope (top 19)) = true := by decide +kernel
theorem fs21 : FnScope f21.N ["stream"] (defScope (top 29)) := ⟨rfl, rfl, rfl, by decide +kernel, rfl, by decide +kernel, by decide +kernel⟩
theorem fo21 : f21.body.ok { ckOf cons "_law_next" [f20, f19, f18, f17, f16, f15, f14, f13, f12, f11, f10, f9, f8, f7, f6, f5, f4, f3, f2, f1, f0] exN true with lam := f21.lams } f21.N (defScope (top 29)) = true := by decide +kernel
theorem fs22 : FnScope f22.N ["_law_thing"] (defScope (top 44)) := ⟨rfl, rfl, rfl, by decide +kernel, rfl, by decide +kernel, by decide +kernel⟩
theorem fo22 : f22.body.ok { ckOf cons "_law_next" [f21, f20, f19, f18, f17, f16, f15, f14, f13, f12, f11, f10, f9, f8, f7, f6, f5, f4, f3, f2, f1, f0] exN true with lam := f22.lams } f22.N (defScope (top 44)) = true := by decide +kernel
theorem fs23 : FnScope f23.N ["word"] (defScope (top 25)) := ⟨rfl, rfl, rfl, by decide +kernel, rfl, by decide +kernel, by decide +kernel⟩
theorem fo23 : f23.body.ok { ckOf cons "_law_next" [f22, f21, f20, f19, f18, f17, f16, f15, f14, f13, f12, f11, f10, f9, f8, f7, f6, f5, f4, f3, f2, f1, f0] exN true with lam := f23.lams } f23.N (defScope (top 25)) = true := by decide +kernel
theorem fs24 : FnScope f24.N ["line"] (defScope (top 27)) := ⟨rfl, rfl, rfl, by decide +kernel, rfl, by decide +kernel, by decide +kernel⟩
theorem fo24 : f24.body.ok { ckOf cons "_law_next" [f23, f22, f21, f20, f19, f18, f17, f16, f15, f14, f13, f12, f11, f10, f9, f8, f7, f6, f5, f4, f3, f2, f1, f0] exN true with lam := f24.lams } f24.N (defScope (top 27)) = true := by decide +kernel
theorem fs25 : FnScope f25.N ["string"] (defScope (top 30)) := ⟨rfl, rfl, rfl, by decide +kernel, rfl, by decide +kernel, by decide +kernel⟩
theorem fo25 : f25.body.ok { ckOf cons "_law_next" [f24, f23, f22, f21, f20, f19, f18, f17, f16, f15, f14, f13, f12, f11, f10, f9, f8, f7, f6, f5, f4, f3, f2, f1, f0] exN true with lam := f25.lams } f25.N (defScope (top 30)) = true := by decide +kernel
theorem fs26 : FnScope f26.N ["string"] (defScope (top 31)) := ⟨rfl, rfl, rfl, by decide +kernel, rfl, by decide +kernel, by decide +kernel⟩
theorem fo26 : f26.body.ok { ckOf cons "_law_next" [f25, f24, f23, f22, f21, f20, f19, f18, f17, f16, f15, f14, f13, f12, f11, f10, f9, f8, f7, f6, f5, f4, f3, f2, f1, f0] exN true with lam := f26.lams } f26.N (defScope (top 31)) = true := by decide +kernel
theorem fsL : FnScope lw.N ["_law_script"] (defScope (top 45)) := ⟨rfl, rfl, rfl, by decide +kernel, rfl, by decide +kernel, by decide +kernel⟩
theorem foL : lw.body.ok { ckOf cons "_law_next" fns exN true with lam := lw.lams } lw.N (defScope (top 45)) = true := by decide +kernel
theorem all_mk {l : PySem.W.OpenLaw} {w : World} {K : PySem.W.Frag} {h : Heap} {mg : Str → Option Value} {fa : Addr} (X : K.In h) (G : h.Ns mainGlobals mg) (hfa : mg "law" = some (.ref fa))
    {a0 : Addr} {od0 an0 : Option Addr} {sl0 : Array (Option Value)} {oc0 kV0 dc0 pm0 cd0 ct0 : Value}
    {a1 : Addr} {od1 an1 : Option Addr} {sl1 : Array (Option Value)} {oc1 kV1 dc1 pm1 cd1 ct1 : Value}
    {a2 : Addr} {od2 an2 : Option Addr} {sl2 : Array (Option Value)} {oc2 kV2 dc2 pm2 cd2 ct2 : Value}
    {a3 : Addr} {od3 an3 : Option Addr} {sl3 : Array (Option Value)} {oc3 kV3 dc3 pm3 cd3 ct3 : Value}
    {a4 : Addr} {od4 an4 : Option Addr} {sl4 : Array (Option Value)} {oc4 kV4 dc4 pm4 cd4 ct4 : Value}
    {a5 : Addr} {od5 an5 : Option Addr} {sl5 : Array (Option Value)} {oc5 kV5 dc5 pm5 cd5 ct5 : Value}
    {a6 : Addr} {od6 an6 : Option Addr} {sl6 : Array (Option Value)} {oc6 kV6 dc6 pm6 cd6 ct6 : Value}
    {a7 : Addr} {od7 an7 : Option Addr} {sl7 : Array (Option Value)} {oc7 kV7 dc7 pm7 cd7 ct7 : Value}
    {a8 : Addr} {od8 an8 : Option Addr} {sl8 : Array (Option Value)} {oc8 kV8 dc8 pm8 cd8 ct8 : Value}
    {a9 : Addr} {od9 an9 : Option Addr} {sl9 : Array (Option Value)} {oc9 kV9 dc9 pm9 cd9 ct9 : Value}
    {a10 : Addr} {od10 an10 : Option Addr} {sl10 : Array (Option Value)} {oc10 kV10 dc10 pm10 cd10 ct10 : Value}
    {a11 : Addr} {od11 an11 : Option Addr} {sl11 : Array (Option Value)} {oc11 kV11 dc11 pm11 cd11 ct11 : Value}
    {a12 : Addr} {od12 an12 : Option Addr} {sl12 : Array (Option Value)} {oc12 kV12 dc12 pm12 cd12 ct12 : Value}
    {a13 : Addr} {od13 an13 : Option Addr} {sl13 : Array (Option Value)} {oc13 kV13 dc13 pm13 cd13 ct13 : Value}
    {a14 : Addr} {od14 an14 : Option Addr} {sl14 : Array (Option Value)} {oc14 kV14 dc14 pm14 cd14 ct14 : Value}
    {a15 : Addr} {od15 an15 : Option Addr} {sl15 : Array (Option Value)} {oc15 kV15 dc15 pm15 cd15 ct15 : Value}
    {a16 : Addr} {od16 an16 : Option Addr} {sl16 : Array (Option Value)} {oc16 kV16 dc16 pm16 cd16 ct16 : Value}
    {a17 : Addr} {od17 an17 : Option Addr} {sl17 : Array (Option Value)} {oc17 kV17 dc17 pm17 cd17 ct17 : Value}
    {a18 : Addr} {od18 an18 : Option Addr} {sl18 : Array (Option Value)} {oc18 kV18 dc18 pm18 cd18 ct18 : Value}
    {a19 : Addr} {od19 an19 : Option Addr} {sl19 : Array (Option Value)} {oc19 kV19 dc19 pm19 cd19 ct19 : Value}
    {a20 : Addr} {od20 an20 : Option Addr} {sl20 : Array (Option Value)} {oc20 kV20 dc20 pm20 cd20 ct20 : Value}
    {a21 : Addr} {od21 an21 : Option Addr} {sl21 : Array (Option Value)} {oc21 kV21 dc21 pm21 cd21 ct21 : Value}
    {a22 : Addr} {od22 an22 : Option Addr} {sl22 : Array (Option Value)} {oc22 kV22 dc22 pm22  ct22 : Value} {cc22 PP22 : Addr} {occ22 : Value} {odc22 : Option Addr} {vsc22 : Array Value} {osc22 : Array (Option Value)}
    {a23 : Addr} {od23 an23 : Option Addr} {sl23 : Array (Option Value)} {oc23 kV23 dc23 pm23 cd23 ct23 : Value}
    {a24 : Addr} {od24 an24 : Option Addr} {sl24 : Array (Option Value)} {oc24 kV24 dc24 pm24 cd24 ct24 : Value}
    {a25 : Addr} {od25 an25 : Option Addr} {sl25 : Array (Option Value)} {oc25 kV25 dc25 pm25 cd25 ct25 : Value}
    {a26 : Addr} {od26 an26 : Option Addr} {sl26 : Array (Option Value)} {oc26 kV26 dc26 pm26 cd26 ct26 : Value}
    {aB : Addr} {odB anB : Option Addr} {slB : Array (Option Value)} {ocB kVB dcB pmB cdB ctB : Value}
    {aD : Addr} {odD anD : Option Addr} {slD : Array (Option Value)} {ocD kVD dcD pmD cdD ctD : Value}
    {aL : Addr} {odL anL : Option Addr} {slL : Array (Option Value)} {ocL kVL dcL pmL  ctL : Value} {ccL PPL : Addr} {occL : Value} {odcL : Option Addr} {vscL : Array Value} {oscL : Array (Option Value)}
    {tBLANK : Tok}
    {tMOST_PLACES : Tok}
    {tMOST_PERIOD : Tok}
    {tMOST_STAGES : Tok}
    {tMOST_DELAY : Tok}
    {tMOST_CLOCK : Tok}
    {tLINE_END : Tok}
    {tMOST_FIGURES : Tok}
    {tDIGITS : Tok}
    {Cx0 fx0 hx0 wx0 : Addr} {nmx0 qx0 qnx0 fix0 : Str} {Nx0 : Addr} {bsx0 subx0 : List Value} {snx0 : List Str} {abx0 : Bool} {colx0 : Option Bool} {ddx0 odx0 anx0 cddx0 cldx0 : Option Addr} {k0x0 k1x0 k2x0 k3x0 k5x0 : Option Value} {ocx0 dcx0 pmx0 ctx0 cclx0 clx0 : Value} {oslx0 ccsx0 cslx0 : Array (Option Value)} {arx0 : Expr} {a1x0 a2x0 p0x0 p1x0 p2x0 p3x0 p4x0 q1x0 q2x0 q3x0 q4x0 : Pos} {vsx0 : Array Value} {tfx0 : Tok}
    {Cx1 fx1 hx1 wx1 : Addr} {nmx1 qx1 qnx1 fix1 : Str} {Nx1 : Addr} {bsx1 subx1 : List Value} {snx1 : List Str} {abx1 : Bool} {colx1 : Option Bool} {ddx1 odx1 anx1 cddx1 cldx1 : Option Addr} {k0x1 k1x1 k2x1 k3x1 k5x1 : Option Value} {ocx1 dcx1 pmx1 ctx1 cclx1 clx1 : Value} {oslx1 ccsx1 cslx1 : Array (Option Value)} {arx1 : Expr} {a1x1 a2x1 p0x1 p1x1 p2x1 p3x1 p4x1 q1x1 q2x1 q3x1 q4x1 : Pos} {vsx1 : Array Value} {tfx1 : Tok}
    {Cx2 fx2 hx2 wx2 : Addr} {nmx2 qx2 qnx2 fix2 : Str} {Nx2 : Addr} {bsx2 subx2 : List Value} {snx2 : List Str} {abx2 : Bool} {colx2 : Option Bool} {ddx2 odx2 anx2 cddx2 cldx2 : Option Addr} {k0x2 k1x2 k2x2 k3x2 k5x2 : Option Value} {ocx2 dcx2 pmx2 ctx2 cclx2 clx2 : Value} {oslx2 ccsx2 cslx2 : Array (Option Value)} {arx2 : Expr} {a1x2 a2x2 p0x2 p1x2 p2x2 p3x2 p4x2 q1x2 q2x2 q3x2 q4x2 : Pos} {vsx2 : Array Value} {tfx2 : Tok}
    {Cx3 fx3 hx3 wx3 : Addr} {nmx3 qx3 qnx3 fix3 : Str} {Nx3 : Addr} {bsx3 subx3 : List Value} {snx3 : List Str} {abx3 : Bool} {colx3 : Option Bool} {ddx3 odx3 anx3 cddx3 cldx3 : Option Addr} {k0x3 k1x3 k2x3 k3x3 k5x3 : Option Value} {ocx3 dcx3 pmx3 ctx3 cclx3 clx3 : Value} {oslx3 ccsx3 cslx3 : Array (Option Value)} {arx3 : Expr} {a1x3 a2x3 p0x3 p1x3 p2x3 p3x3 p4x3 : Pos} {vsx3 : Array Value} {tfx3 : Tok}
    (n0 : PySem.W.nsIn K mainGlobals "_law_queue" = some (some (.ref a0))) (l0 : K.lookup a0 = some ⟨oc0, od0, .func (PySem.W.fnOf "_law_queue" "_law_queue" (defArgs (top 36)) (defBody (top 36)) (defScope (top 36)) .none kV0 dc0 pm0 an0 cd0 ct0), sl0⟩) (c0 : PySem.W.codeIn K cd0 "_law_queue" = true) (k0 : PySem.W.keepIn K (.ref a0) = true)
    (n1 : PySem.W.nsIn K mainGlobals "_law_stream" = some (some (.ref a1))) (l1 : K.lookup a1 = some ⟨oc1, od1, .func (PySem.W.fnOf "_law_stream" "_law_stream" (defArgs (top 37)) (defBody (top 37)) (defScope (top 37)) .none kV1 dc1 pm1 an1 cd1 ct1), sl1⟩) (c1 : PySem.W.codeIn K cd1 "_law_stream" = true) (k1 : PySem.W.keepIn K (.ref a1) = true)
    (n2 : PySem.W.nsIn K mainGlobals "_law_heard" = some (some (.ref a2))) (l2 : K.lookup a2 = some ⟨oc2, od2, .func (PySem.W.fnOf "_law_heard" "_law_heard" (defArgs (top 41)) (defBody (top 41)) (defScope (top 41)) .none kV2 dc2 pm2 an2 cd2 ct2), sl2⟩) (c2 : PySem.W.codeIn K cd2 "_law_heard" = true) (k2 : PySem.W.keepIn K (.ref a2) = true)
    (n3 : PySem.W.nsIn K mainGlobals "_law_of" = some (some (.ref a3))) (l3 : K.lookup a3 = some ⟨oc3, od3, .func (PySem.W.fnOf "_law_of" "_law_of" (defArgs (top 35)) (defBody (top 35)) (defScope (top 35)) .none kV3 dc3 pm3 an3 cd3 ct3), sl3⟩) (c3 : PySem.W.codeIn K cd3 "_law_of" = true) (k3 : PySem.W.keepIn K (.ref a3) = true)
    (n4 : PySem.W.nsIn K mainGlobals "_law_odd" = some (some (.ref a4))) (l4 : K.lookup a4 = some ⟨oc4, od4, .func (PySem.W.fnOf "_law_odd" "_law_odd" (defArgs (top 42)) (defBody (top 42)) (defScope (top 42)) .none kV4 dc4 pm4 an4 cd4 ct4), sl4⟩) (c4 : PySem.W.codeIn K cd4 "_law_odd" = true) (k4 : PySem.W.keepIn K (.ref a4) = true)
    (n5 : PySem.W.nsIn K mainGlobals "_law_bent" = some (some (.ref a5))) (l5 : K.lookup a5 = some ⟨oc5, od5, .func (PySem.W.fnOf "_law_bent" "_law_bent" (defArgs (top 43)) (defBody (top 43)) (defScope (top 43)) .none kV5 dc5 pm5 an5 cd5 ct5), sl5⟩) (c5 : PySem.W.codeIn K cd5 "_law_bent" = true) (k5 : PySem.W.keepIn K (.ref a5) = true)
    (n6 : PySem.W.nsIn K mainGlobals "_law_bent" = some (some (.ref a6))) (l6 : K.lookup a6 = some ⟨oc6, od6, .func (PySem.W.fnOf "_law_bent" "_law_bent" (defArgs (top 43)) (defBody (top 43)) (defScope (top 43)) .none kV6 dc6 pm6 an6 cd6 ct6), sl6⟩) (c6 : PySem.W.codeIn K cd6 "_law_bent" = true) (k6 : PySem.W.keepIn K (.ref a6) = true)
    (n7 : PySem.W.nsIn K mainGlobals "_law_bent" = some (some (.ref a7))) (l7 : K.lookup a7 = some ⟨oc7, od7, .func (PySem.W.fnOf "_law_bent" "_law_bent" (defArgs (top 43)) (defBody (top 43)) (defScope (top 43)) .none kV7 dc7 pm7 an7 cd7 ct7), sl7⟩) (c7 : PySem.W.codeIn K cd7 "_law_bent" = true) (k7 : PySem.W.keepIn K (.ref a7) = true)
    (n8 : PySem.W.nsIn K mainGlobals "_law_bent" = some (some (.ref a8))) (l8 : K.lookup a8 = some ⟨oc8, od8, .func (PySem.W.fnOf "_law_bent" "_law_bent" (defArgs (top 43)) (defBody (top 43)) (defScope (top 43)) .none kV8 dc8 pm8 an8 cd8 ct8), sl8⟩) (c8 : PySem.W.codeIn K cd8 "_law_bent" = true) (k8 : PySem.W.keepIn K (.ref a8) = true)
    (n9 : PySem.W.nsIn K mainGlobals "_law_bent" = some (some (.ref a9))) (l9 : K.lookup a9 = some ⟨oc9, od9, .func (PySem.W.fnOf "_law_bent" "_law_bent" (defArgs (top 43)) (defBody (top 43)) (defScope (top 43)) .none kV9 dc9 pm9 an9 cd9 ct9), sl9⟩) (c9 : PySem.W.codeIn K cd9 "_law_bent" = true) (k9 : PySem.W.keepIn K (.ref a9) = true)
    (n10 : PySem.W.nsIn K mainGlobals "_law_is_whole" = some (some (.ref a10))) (l10 : K.lookup a10 = some ⟨oc10, od10, .func (PySem.W.fnOf "_law_is_whole" "_law_is_whole" (defArgs (top 38)) (defBody (top 38)) (defScope (top 38)) .none kV10 dc10 pm10 an10 cd10 ct10), sl10⟩) (c10 : PySem.W.codeIn K cd10 "_law_is_whole" = true) (k10 : PySem.W.keepIn K (.ref a10) = true)
    (n11 : PySem.W.nsIn K mainGlobals "_law_queue_due" = some (some (.ref a11))) (l11 : K.lookup a11 = some ⟨oc11, od11, .func (PySem.W.fnOf "_law_queue_due" "_law_queue_due" (defArgs (top 39)) (defBody (top 39)) (defScope (top 39)) .none kV11 dc11 pm11 an11 cd11 ct11), sl11⟩) (c11 : PySem.W.codeIn K cd11 "_law_queue_due" = true) (k11 : PySem.W.keepIn K (.ref a11) = true)
    (n12 : PySem.W.nsIn K mainGlobals "_law_stream_due" = some (some (.ref a12))) (l12 : K.lookup a12 = some ⟨oc12, od12, .func (PySem.W.fnOf "_law_stream_due" "_law_stream_due" (defArgs (top 40)) (defBody (top 40)) (defScope (top 40)) .none kV12 dc12 pm12 an12 cd12 ct12), sl12⟩) (c12 : PySem.W.codeIn K cd12 "_law_stream_due" = true) (k12 : PySem.W.keepIn K (.ref a12) = true)
    (n13 : PySem.W.nsIn K mainGlobals "row_text" = some (some (.ref a13))) (l13 : K.lookup a13 = some ⟨oc13, od13, .func (PySem.W.fnOf "row_text" "row_text" (defArgs (top 26)) (defBody (top 26)) (defScope (top 26)) .none kV13 dc13 pm13 an13 cd13 ct13), sl13⟩) (c13 : PySem.W.codeIn K cd13 "row_text" = true) (k13 : PySem.W.keepIn K (.ref a13) = true)
    (n14 : PySem.W.nsIn K mainGlobals "is_whole" = some (some (.ref a14))) (l14 : K.lookup a14 = some ⟨oc14, od14, .func (PySem.W.fnOf "is_whole" "is_whole" (defArgs (top 10)) (defBody (top 10)) (defScope (top 10)) .none kV14 dc14 pm14 an14 cd14 ct14), sl14⟩) (c14 : PySem.W.codeIn K cd14 "is_whole" = true) (k14 : PySem.W.keepIn K (.ref a14) = true)
    (n15 : PySem.W.nsIn K mainGlobals "wrong_part_queues" = some (some (.ref a15))) (l15 : K.lookup a15 = some ⟨oc15, od15, .func (PySem.W.fnOf "wrong_part" "wrong_part" (defArgs (top 11)) (defBody (top 11)) (defScope (top 11)) .none kV15 dc15 pm15 an15 cd15 ct15), sl15⟩) (c15 : PySem.W.codeIn K cd15 "wrong_part" = true) (k15 : PySem.W.keepIn K (.ref a15) = true)
    (n16 : PySem.W.nsIn K mainGlobals "need_queue" = some (some (.ref a16))) (l16 : K.lookup a16 = some ⟨oc16, od16, .func (PySem.W.fnOf "need_queue" "need_queue" (defArgs (top 14)) (defBody (top 14)) (defScope (top 14)) .none kV16 dc16 pm16 an16 cd16 ct16), sl16⟩) (c16 : PySem.W.codeIn K cd16 "need_queue" = true) (k16 : PySem.W.keepIn K (.ref a16) = true)
    (n17 : PySem.W.nsIn K mainGlobals "queue_text" = some (some (.ref a17))) (l17 : K.lookup a17 = some ⟨oc17, od17, .func (PySem.W.fnOf "queue_text" "queue_text" (defArgs (top 28)) (defBody (top 28)) (defScope (top 28)) .none kV17 dc17 pm17 an17 cd17 ct17), sl17⟩) (c17 : PySem.W.codeIn K cd17 "queue_text" = true) (k17 : PySem.W.keepIn K (.ref a17) = true)
    (n18 : PySem.W.nsIn K mainGlobals "is_queue" = some (some (.ref a18))) (l18 : K.lookup a18 = some ⟨oc18, od18, .func (PySem.W.fnOf "is_queue" "is_queue" (defArgs (top 13)) (defBody (top 13)) (defScope (top 13)) .none kV18 dc18 pm18 an18 cd18 ct18), sl18⟩) (c18 : PySem.W.codeIn K cd18 "is_queue" = true) (k18 : PySem.W.keepIn K (.ref a18) = true)
    (n19 : PySem.W.nsIn K mainGlobals "wrong_part_streams" = some (some (.ref a19))) (l19 : K.lookup a19 = some ⟨oc19, od19, .func (PySem.W.fnOf "wrong_part" "wrong_part" (defArgs (top 17)) (defBody (top 17)) (defScope (top 17)) .none kV19 dc19 pm19 an19 cd19 ct19), sl19⟩) (c19 : PySem.W.codeIn K cd19 "wrong_part" = true) (k19 : PySem.W.keepIn K (.ref a19) = true)
    (n20 : PySem.W.nsIn K mainGlobals "need_stream" = some (some (.ref a20))) (l20 : K.lookup a20 = some ⟨oc20, od20, .func (PySem.W.fnOf "need_stream" "need_stream" (defArgs (top 19)) (defBody (top 19)) (defScope (top 19)) .none kV20 dc20 pm20 an20 cd20 ct20), sl20⟩) (c20 : PySem.W.codeIn K cd20 "need_stream" = true) (k20 : PySem.W.keepIn K (.ref a20) = true)
    (n21 : PySem.W.nsIn K mainGlobals "stream_text" = some (some (.ref a21))) (l21 : K.lookup a21 = some ⟨oc21, od21, .func (PySem.W.fnOf "stream_text" "stream_text" (defArgs (top 29)) (defBody (top 29)) (defScope (top 29)) .none kV21 dc21 pm21 an21 cd21 ct21), sl21⟩) (c21 : PySem.W.codeIn K cd21 "stream_text" = true) (k21 : PySem.W.keepIn K (.ref a21) = true)
    (n22 : PySem.W.nsIn K mainGlobals "_law_right" = some (some (.ref a22))) (l22 : K.lookup a22 = some ⟨oc22, od22, .func (PySem.W.fnOf "_law_right" "_law_right" (defArgs (top 44)) (defBody (top 44)) (defScope (top 44)) .none kV22 dc22 pm22 an22 (.ref cc22) ct22), sl22⟩) (c22 : PySem.W.codeIn K (.ref cc22) "_law_right" = true) (k22 : PySem.W.keepIn K (.ref a22) = true)
    (lc22 : K.lookup cc22 = some ⟨occ22, odc22, .fields vsc22, osc22⟩) (vc22 : vsc22[11]? = some (.ref PP22))
    (n23 : PySem.W.nsIn K mainGlobals "integer_of" = some (some (.ref a23))) (l23 : K.lookup a23 = some ⟨oc23, od23, .func (PySem.W.fnOf "integer_of" "integer_of" (defArgs (top 25)) (defBody (top 25)) (defScope (top 25)) .none kV23 dc23 pm23 an23 cd23 ct23), sl23⟩) (c23 : PySem.W.codeIn K cd23 "integer_of" = true) (k23 : PySem.W.keepIn K (.ref a23) = true)
    (n24 : PySem.W.nsIn K mainGlobals "row_of" = some (some (.ref a24))) (l24 : K.lookup a24 = some ⟨oc24, od24, .func (PySem.W.fnOf "row_of" "row_of" (defArgs (top 27)) (defBody (top 27)) (defScope (top 27)) .none kV24 dc24 pm24 an24 cd24 ct24), sl24⟩) (c24 : PySem.W.codeIn K cd24 "row_of" = true) (k24 : PySem.W.keepIn K (.ref a24) = true)
    (n25 : PySem.W.nsIn K mainGlobals "read_queue" = some (some (.ref a25))) (l25 : K.lookup a25 = some ⟨oc25, od25, .func (PySem.W.fnOf "read_queue" "read_queue" (defArgs (top 30)) (defBody (top 30)) (defScope (top 30)) .none kV25 dc25 pm25 an25 cd25 ct25), sl25⟩) (c25 : PySem.W.codeIn K cd25 "read_queue" = true) (k25 : PySem.W.keepIn K (.ref a25) = true)
    (n26 : PySem.W.nsIn K mainGlobals "read_stream" = some (some (.ref a26))) (l26 : K.lookup a26 = some ⟨oc26, od26, .func (PySem.W.fnOf "read_stream" "read_stream" (defArgs (top 31)) (defBody (top 31)) (defScope (top 31)) .none kV26 dc26 pm26 an26 cd26 ct26), sl26⟩) (c26 : PySem.W.codeIn K cd26 "read_stream" = true) (k26 : PySem.W.keepIn K (.ref a26) = true)
    (nB : PySem.W.nsIn K mainGlobals "_law_start" = some (some (.ref aB))) (lB : K.lookup aB = some ⟨ocB, odB, .func (PySem.W.fnOf "_law_start" "_law_start" (defArgs (top 33)) (defBody (top 33)) (defScope (top 33)) .none kVB dcB pmB anB cdB ctB), slB⟩) (cB : PySem.W.codeIn K cdB "_law_start" = true) (kB : PySem.W.keepIn K (.ref aB) = true)
    (nD : PySem.W.nsIn K mainGlobals "_law_next" = some (some (.ref aD))) (lD : K.lookup aD = some ⟨ocD, odD, .func (PySem.W.fnOf "_law_next" "_law_next" (defArgs (top 34)) (defBody (top 34)) (defScope (top 34)) .none kVD dcD pmD anD cdD ctD), slD⟩) (cD : PySem.W.codeIn K cdD "_law_next" = true) (kD : PySem.W.keepIn K (.ref aD) = true)
    (nL : PySem.W.nsIn K mainGlobals "law" = some (some (.ref aL))) (lL : K.lookup aL = some ⟨ocL, odL, .func (PySem.W.fnOf "law" "law" (defArgs (top 45)) (defBody (top 45)) (defScope (top 45)) .none kVL dcL pmL anL (.ref ccL) ctL), slL⟩) (cL : PySem.W.codeIn K (.ref ccL) "law" = true) (kL : PySem.W.keepIn K (.ref aL) = true)
    (lcL : K.lookup ccL = some ⟨occL, odcL, .fields vscL, oscL⟩) (vcL : vscL[11]? = some (.ref PPL))
    (gBLANK : PySem.W.nsIn K mainGlobals "BLANK" = some (some (.str " " tBLANK)))
    (gMOST_PLACES : PySem.W.nsIn K mainGlobals "MOST_PLACES" = some (some (.int 64 tMOST_PLACES)))
    (gMOST_PERIOD : PySem.W.nsIn K mainGlobals "MOST_PERIOD" = some (some (.int 200 tMOST_PERIOD)))
    (gMOST_STAGES : PySem.W.nsIn K mainGlobals "MOST_STAGES" = some (some (.int 4 tMOST_STAGES)))
    (gMOST_DELAY : PySem.W.nsIn K mainGlobals "MOST_DELAY" = some (some (.int 3 tMOST_DELAY)))
    (gMOST_CLOCK : PySem.W.nsIn K mainGlobals "MOST_CLOCK" = some (some (.int 30 tMOST_CLOCK)))
    (gLINE_END : PySem.W.nsIn K mainGlobals "LINE_END" = some (some (.str "
" tLINE_END)))
    (gMOST_FIGURES : PySem.W.nsIn K mainGlobals "MOST_FIGURES" = some (some (.int 31 tMOST_FIGURES)))
    (gDIGITS : PySem.W.nsIn K mainGlobals "DIGITS" = some (some (.str "0123456789" tDIGITS)))
    (zsuper : PySem.W.nsIn K mainGlobals "super" = some none) (zop : PySem.W.nsIn K PySem.cStatics "thirdparty.any" = some none) (ztop : (l.prog.main.scope.names.lookup ("super" : Str)).isSome = false)
    (gCx0 : PySem.W.nsIn K mainGlobals "BadQueue" = some (some (.ref Cx0)))
    (xLx0 : K.lookup Cx0 = some (excClassObj nmx0 qx0 Cx0 Nx0 bsx0 [.type "ValueError", .type "Exception", .type "BaseException", .type "object"] true snx0 subx0 abx0 colx0 ddx0 k0x0 k1x0 k2x0 k3x0 k5x0 "ValueError.__new__"))
    (sax0 : PySem.W.findIn K (.ref Cx0) "__setattr__" = some (some (.builtin "object.__setattr__")))
    (gax0 : PySem.W.findIn K (.ref Cx0) "__getattribute__" = some (some (.builtin "BaseException.__getattribute__")))
    (ggx0 : PySem.W.findIn K (.ref Cx0) "__getattr__" = some none)
    (nox0 : PySem.W.findIn K (.ref Cx0) "part" = some none)
    (iCx0 : PySem.W.findIn K (.ref Cx0) "__init__" = some (some (.ref fx0)))
    (tIx0 : PySem.W.typeIn K (.ref fx0) = some (.type "function"))
    (lIx0 : K.lookup fx0 = some ⟨ocx0, odx0, .func (PySem.W.ksFn "__init__" qnx0 (TX.iniA "part" a1x0 a2x0) (TX.iniB arx0 (some "part") p0x0 p1x0 p2x0 p3x0 p4x0 q1x0 q2x0 q3x0 q4x0) (TX.iniS "part") .none .none dcx0 pmx0 anx0 (.ref hx0) ctx0 wx0), oslx0⟩)
    (okx0 : TX.ArgOk "part" arx0)
    (hlx0 : (p2x0.endLine == p3x0.line) = true)
    (cIx0 : PySem.W.codeIn K (.ref hx0) qnx0 = true)
    (hIx0 : K.lookup hx0 = some ⟨cclx0, cddx0, .fields vsx0, ccsx0⟩)
    (vIx0 : vsx0[2]? = some (.str fix0 tfx0))
    (pIx0 : ((l.prog.main.file : Str) == fix0) = true)
    (wIx0 : K.lookup wx0 = some ⟨clx0, cldx0, .cell (some (.ref Cx0)), cslx0⟩)
    (mCx0 : PySem.W.mroIn K Cx0 (.ref Cx0) = some true)
    (sBx0 : PySem.W.subIn K (.ref Cx0) (.type "ValueError") = some true)
    (kCx0 : PySem.W.keepIn K (.ref Cx0) = true)
    (eCx0 : PySem.W.subIn K (.ref Cx0) (.type "BaseException") = some true)
    (tCx0 : PySem.W.typeIn K (.ref Cx0) = some (.type "type"))
    (hCx0 : PySem.W.hasDictIn K Cx0 = true)
    (uCx0 : PySem.W.isClsIn K Cx0 = true)
    (gCx1 : PySem.W.nsIn K mainGlobals "BadStream" = some (some (.ref Cx1)))
    (xLx1 : K.lookup Cx1 = some (excClassObj nmx1 qx1 Cx1 Nx1 bsx1 [.type "ValueError", .type "Exception", .type "BaseException", .type "object"] true snx1 subx1 abx1 colx1 ddx1 k0x1 k1x1 k2x1 k3x1 k5x1 "ValueError.__new__"))
    (sax1 : PySem.W.findIn K (.ref Cx1) "__setattr__" = some (some (.builtin "object.__setattr__")))
    (gax1 : PySem.W.findIn K (.ref Cx1) "__getattribute__" = some (some (.builtin "BaseException.__getattribute__")))
    (ggx1 : PySem.W.findIn K (.ref Cx1) "__getattr__" = some none)
    (nox1 : PySem.W.findIn K (.ref Cx1) "part" = some none)
    (iCx1 : PySem.W.findIn K (.ref Cx1) "__init__" = some (some (.ref fx1)))
    (tIx1 : PySem.W.typeIn K (.ref fx1) = some (.type "function"))
    (lIx1 : K.lookup fx1 = some ⟨ocx1, odx1, .func (PySem.W.ksFn "__init__" qnx1 (TX.iniA "part" a1x1 a2x1) (TX.iniB arx1 (some "part") p0x1 p1x1 p2x1 p3x1 p4x1 q1x1 q2x1 q3x1 q4x1) (TX.iniS "part") .none .none dcx1 pmx1 anx1 (.ref hx1) ctx1 wx1), oslx1⟩)
    (okx1 : TX.ArgOk "part" arx1)
    (hlx1 : (p2x1.endLine == p3x1.line) = true)
    (cIx1 : PySem.W.codeIn K (.ref hx1) qnx1 = true)
    (hIx1 : K.lookup hx1 = some ⟨cclx1, cddx1, .fields vsx1, ccsx1⟩)
    (vIx1 : vsx1[2]? = some (.str fix1 tfx1))
    (pIx1 : ((l.prog.main.file : Str) == fix1) = true)
    (wIx1 : K.lookup wx1 = some ⟨clx1, cldx1, .cell (some (.ref Cx1)), cslx1⟩)
    (mCx1 : PySem.W.mroIn K Cx1 (.ref Cx1) = some true)
    (sBx1 : PySem.W.subIn K (.ref Cx1) (.type "ValueError") = some true)
    (kCx1 : PySem.W.keepIn K (.ref Cx1) = true)
    (eCx1 : PySem.W.subIn K (.ref Cx1) (.type "BaseException") = some true)
    (tCx1 : PySem.W.typeIn K (.ref Cx1) = some (.type "type"))
    (hCx1 : PySem.W.hasDictIn K Cx1 = true)
    (uCx1 : PySem.W.isClsIn K Cx1 = true)
    (gCx2 : PySem.W.nsIn K mainGlobals "BadText" = some (some (.ref Cx2)))
    (xLx2 : K.lookup Cx2 = some (excClassObj nmx2 qx2 Cx2 Nx2 bsx2 [.type "ValueError", .type "Exception", .type "BaseException", .type "object"] true snx2 subx2 abx2 colx2 ddx2 k0x2 k1x2 k2x2 k3x2 k5x2 "ValueError.__new__"))
    (sax2 : PySem.W.findIn K (.ref Cx2) "__setattr__" = some (some (.builtin "object.__setattr__")))
    (gax2 : PySem.W.findIn K (.ref Cx2) "__getattribute__" = some (some (.builtin "BaseException.__getattribute__")))
    (ggx2 : PySem.W.findIn K (.ref Cx2) "__getattr__" = some none)
    (nox2 : PySem.W.findIn K (.ref Cx2) "line" = some none)
    (iCx2 : PySem.W.findIn K (.ref Cx2) "__init__" = some (some (.ref fx2)))
    (tIx2 : PySem.W.typeIn K (.ref fx2) = some (.type "function"))
    (lIx2 : K.lookup fx2 = some ⟨ocx2, odx2, .func (PySem.W.ksFn "__init__" qnx2 (TX.iniA "line" a1x2 a2x2) (TX.iniB arx2 (some "line") p0x2 p1x2 p2x2 p3x2 p4x2 q1x2 q2x2 q3x2 q4x2) (TX.iniS "line") .none .none dcx2 pmx2 anx2 (.ref hx2) ctx2 wx2), oslx2⟩)
    (okx2 : TX.ArgOk "line" arx2)
    (hlx2 : (p2x2.endLine == p3x2.line) = true)
    (cIx2 : PySem.W.codeIn K (.ref hx2) qnx2 = true)
    (hIx2 : K.lookup hx2 = some ⟨cclx2, cddx2, .fields vsx2, ccsx2⟩)
    (vIx2 : vsx2[2]? = some (.str fix2 tfx2))
    (pIx2 : ((l.prog.main.file : Str) == fix2) = true)
    (wIx2 : K.lookup wx2 = some ⟨clx2, cldx2, .cell (some (.ref Cx2)), cslx2⟩)
    (mCx2 : PySem.W.mroIn K Cx2 (.ref Cx2) = some true)
    (sBx2 : PySem.W.subIn K (.ref Cx2) (.type "ValueError") = some true)
    (kCx2 : PySem.W.keepIn K (.ref Cx2) = true)
    (eCx2 : PySem.W.subIn K (.ref Cx2) (.type "BaseException") = some true)
    (tCx2 : PySem.W.typeIn K (.ref Cx2) = some (.type "type"))
    (hCx2 : PySem.W.hasDictIn K Cx2 = true)
    (uCx2 : PySem.W.isClsIn K Cx2 = true)
    (gCx3 : PySem.W.nsIn K mainGlobals "OutOfPlace" = some (some (.ref Cx3)))
    (xLx3 : K.lookup Cx3 = some (excClassObj nmx3 qx3 Cx3 Nx3 bsx3 [.type "ValueError", .type "Exception", .type "BaseException", .type "object"] true snx3 subx3 abx3 colx3 ddx3 k0x3 k1x3 k2x3 k3x3 k5x3 "ValueError.__new__"))
    (sax3 : PySem.W.findIn K (.ref Cx3) "__setattr__" = some (some (.builtin "object.__setattr__")))
    (gax3 : PySem.W.findIn K (.ref Cx3) "__getattribute__" = some (some (.builtin "BaseException.__getattribute__")))
    (ggx3 : PySem.W.findIn K (.ref Cx3) "__getattr__" = some none)
    (nox3 : PySem.W.findIn K (.ref Cx3) "text" = some none)
    (iCx3 : PySem.W.findIn K (.ref Cx3) "__init__" = some (some (.ref fx3)))
    (tIx3 : PySem.W.typeIn K (.ref fx3) = some (.type "function"))
    (lIx3 : K.lookup fx3 = some ⟨ocx3, odx3, .func (PySem.W.ksFn "__init__" qnx3 (TX.iniA "text" a1x3 a2x3) (TX.iniB arx3 none p0x3 p1x3 p2x3 p3x3 p4x3 ⟨0, 0, 0, 0⟩ ⟨0, 0, 0, 0⟩ ⟨0, 0, 0, 0⟩ ⟨0, 0, 0, 0⟩) (TX.iniS "text") .none .none dcx3 pmx3 anx3 (.ref hx3) ctx3 wx3), oslx3⟩)
    (okx3 : TX.ArgOk "text" arx3)
    (hlx3 : (p2x3.endLine == p3x3.line) = true)
    (cIx3 : PySem.W.codeIn K (.ref hx3) qnx3 = true)
    (hIx3 : K.lookup hx3 = some ⟨cclx3, cddx3, .fields vsx3, ccsx3⟩)
    (vIx3 : vsx3[2]? = some (.str fix3 tfx3))
    (pIx3 : ((l.prog.main.file : Str) == fix3) = true)
    (wIx3 : K.lookup wx3 = some ⟨clx3, cldx3, .cell (some (.ref Cx3)), cslx3⟩)
    (mCx3 : PySem.W.mroIn K Cx3 (.ref Cx3) = some true)
    (sBx3 : PySem.W.subIn K (.ref Cx3) (.type "ValueError") = some true)
    (kCx3 : PySem.W.keepIn K (.ref Cx3) = true)
    (eCx3 : PySem.W.subIn K (.ref Cx3) (.type "BaseException") = some true)
    (tCx3 : PySem.W.typeIn K (.ref Cx3) = some (.type "type"))
    (hCx3 : PySem.W.hasDictIn K Cx3 = true)
    (uCx3 : PySem.W.isClsIn K Cx3 = true)
    (s0_0 : PySem.W.subIn K (.ref Cx0) (.ref Cx0) = some true)
    (s0_1 : PySem.W.subIn K (.ref Cx0) (.ref Cx1) = some false)
    (s0_2 : PySem.W.subIn K (.ref Cx0) (.ref Cx2) = some false)
    (s0_3 : PySem.W.subIn K (.ref Cx0) (.ref Cx3) = some false)
    (s1_0 : PySem.W.subIn K (.ref Cx1) (.ref Cx0) = some false)
    (s1_1 : PySem.W.subIn K (.ref Cx1) (.ref Cx1) = some true)
    (s1_2 : PySem.W.subIn K (.ref Cx1) (.ref Cx2) = some false)
    (s1_3 : PySem.W.subIn K (.ref Cx1) (.ref Cx3) = some false)
    (s2_0 : PySem.W.subIn K (.ref Cx2) (.ref Cx0) = some false)
    (s2_1 : PySem.W.subIn K (.ref Cx2) (.ref Cx1) = some false)
    (s2_2 : PySem.W.subIn K (.ref Cx2) (.ref Cx2) = some true)
    (s2_3 : PySem.W.subIn K (.ref Cx2) (.ref Cx3) = some false)
    (s3_0 : PySem.W.subIn K (.ref Cx3) (.ref Cx0) = some false)
    (s3_1 : PySem.W.subIn K (.ref Cx3) (.ref Cx1) = some false)
    (s3_2 : PySem.W.subIn K (.ref Cx3) (.ref Cx2) = some false)
    (s3_3 : PySem.W.subIn K (.ref Cx3) (.ref Cx3) = some true)
    (znc : PySem.W.specialIn K (.builtin "object.__class__") "__get__" = some (some (.builtin "getset_descriptor.__get__"))) (ztc : PySem.W.takesIn K (.builtin "object.__class__") = some true)
    (hax0 : PySem.W.findIn K (.ref Cx0) "__class__" = some (some (.builtin "object.__class__"))) (hmx0 : PySem.W.mroIn K Cx0 (.type "object") = some true)
    (hax1 : PySem.W.findIn K (.ref Cx1) "__class__" = some (some (.builtin "object.__class__"))) (hmx1 : PySem.W.mroIn K Cx1 (.type "object") = some true)
    (hax2 : PySem.W.findIn K (.ref Cx2) "__class__" = some (some (.builtin "object.__class__"))) (hmx2 : PySem.W.mroIn K Cx2 (.type "object") = some true)
    (hax3 : PySem.W.findIn K (.ref Cx3) "__class__" = some (some (.builtin "object.__class__"))) (hmx3 : PySem.W.mroIn K Cx3 (.type "object") = some true)
    (dd22_L : PP22 ≠ PPL)
    (ddL_22 : PPL ≠ PP22)
    (zlen : PySem.W.nsIn K mainGlobals "len" = some none)
    (zint : PySem.W.nsIn K mainGlobals "int" = some none)
    (zstr : PySem.W.nsIn K mainGlobals "str" = some none)
    (zall : PySem.W.nsIn K mainGlobals "all" = some none)
    (zsum : PySem.W.nsIn K mainGlobals "sum" = some none)
    (ztuple : PySem.W.nsIn K mainGlobals "tuple" = some none)
    (zrepr : PySem.W.nsIn K mainGlobals "repr" = some none)
    (zmin : PySem.W.nsIn K mainGlobals "min" = some none)
    (zmax : PySem.W.nsIn K mainGlobals "max" = some none)
    (zisinstance : PySem.W.nsIn K mainGlobals "isinstance" = some none)
    (zbool : PySem.W.nsIn K mainGlobals "bool" = some none)
    (zlist : PySem.W.nsIn K mainGlobals "list" = some none)
    (zrange : PySem.W.nsIn K mainGlobals "range" = some none)
    (zenumerate : PySem.W.nsIn K mainGlobals "enumerate" = some none)
    (zzip : PySem.W.nsIn K mainGlobals "zip" = some none)
    (zsorted : PySem.W.nsIn K mainGlobals "sorted" = some none)
    (zset : PySem.W.nsIn K mainGlobals "set" = some none)
    : ∃ fd : FuncData, (∀ (s : Shared) (u : Value), BindsTo s fd ⟨[u], []⟩ [("_law_script", u)]) ∧ ∀ base : Heap, K.In base → base.Ns mainGlobals mg → (∃ o, base.get? sysModules = some o) → (∀ p ∈ ([(cc22, PP22), (ccL, PPL)] : List (Addr × Addr)), LamX.TabB base mg p.1 p.2) → FnG l.prog w K mg base 86 fa fd ["_law_script"] (spT K [PP22, PPL]) := by
  have e := hfa.symm.trans (PySem.W.mg_of X G nL)
  cases e
  have hb : ∀ x, bltB x = true → mg x = none := fun x hx => by
    have hm := of_decide_eq_true hx
    simp only [List.mem_cons, List.not_mem_nil, or_false] at hm
    rcases hm with rfl | rfl | rfl | rfl | rfl | rfl | rfl | rfl | rfl | rfl | rfl | rfl | rfl | rfl | rfl | rfl | rfl
    · exact PySem.W.mg_none_of X G zlen
    · exact PySem.W.mg_none_of X G zint
    · exact PySem.W.mg_none_of X G zstr
    · exact PySem.W.mg_none_of X G zall
    · exact PySem.W.mg_none_of X G zsum
    · exact PySem.W.mg_none_of X G ztuple
    · exact PySem.W.mg_none_of X G zrepr
    · exact PySem.W.mg_none_of X G zmin
    · exact PySem.W.mg_none_of X G zmax
    · exact PySem.W.mg_none_of X G zisinstance
    · exact PySem.W.mg_none_of X G zbool
    · exact PySem.W.mg_none_of X G zlist
    · exact PySem.W.mg_none_of X G zrange
    · exact PySem.W.mg_none_of X G zenumerate
    · exact PySem.W.mg_none_of X G zzip
    · exact PySem.W.mg_none_of X G zsorted
    · exact PySem.W.mg_none_of X G zset
  have hc : ∀ x v, cons.lookup x = some v → ∃ u vv, mg x = some vv ∧ RelV u vv ∧ Dq K (fun _ => none) u v.val := fun x v hx => by
    unfold cons at hx
    simp only [List.lookup_cons] at hx
    split at hx
    · rename_i hh
      rw [eq_of_beq hh]
      obtain rfl := Option.some.inj hx
      exact con_str X G gBLANK
    split at hx
    · rename_i hh
      rw [eq_of_beq hh]
      obtain rfl := Option.some.inj hx
      exact con_int X G gMOST_PLACES
    split at hx
    · rename_i hh
      rw [eq_of_beq hh]
      obtain rfl := Option.some.inj hx
      exact con_int X G gMOST_PERIOD
    split at hx
    · rename_i hh
      rw [eq_of_beq hh]
      obtain rfl := Option.some.inj hx
      exact con_int X G gMOST_STAGES
    split at hx
    · rename_i hh
      rw [eq_of_beq hh]
      obtain rfl := Option.some.inj hx
      exact con_int X G gMOST_DELAY
    split at hx
    · rename_i hh
      rw [eq_of_beq hh]
      obtain rfl := Option.some.inj hx
      exact con_int X G gMOST_CLOCK
    split at hx
    · rename_i hh
      rw [eq_of_beq hh]
      obtain rfl := Option.some.inj hx
      exact con_str X G gLINE_END
    split at hx
    · rename_i hh
      rw [eq_of_beq hh]
      obtain rfl := Option.some.inj hx
      exact con_int X G gMOST_FIGURES
    split at hx
    · rename_i hh
      rw [eq_of_beq hh]
      obtain rfl := Option.some.inj hx
      exact con_str X G gDIGITS
    cases hx
  have FB := fun_mk lB cB kB
  have FD := fun_mk lD cD kD
  have FL := fun_mk lL cL kL
  have bB := FB.binds (ps := ["_law_script"]) (fun _ _ _ _ _ _ us hl => match us, hl with | [_], _ => rfl)
  have bD := FD.binds (ps := ["_law_m", "_law_total"]) (fun _ _ _ _ _ _ us hl => match us, hl with | [_, _], _ => rfl)
  have at_ : FnsAt K mg cons "_law_next" exN true [(cc22, PP22), (ccL, PPL)] [(PP22, ("_law_right" : Str) ++ ".<locals>." ++ "<lambda>"), (PPL, ("law" : Str) ++ ".<locals>." ++ "<lambda>")] fns := ⟨⟨⟨⟨⟨⟨⟨⟨⟨⟨⟨⟨⟨⟨⟨⟨⟨⟨⟨⟨⟨⟨⟨⟨⟨⟨⟨trivial, fnAt_of (st := top 36) (ps := ["_law_m"]) X G fs0 rfl rfl fo0 (fun _ _ _ _ _ _ us hl => match us, hl with | [_], _ => rfl) n0 l0 c0 k0 (fun h => by cases (show false = true from h)) (fun h => by cases (show false = true from h)), (fun _ => rfl)⟩, fnAt_of (st := top 37) (ps := ["_law_m"]) X G fs1 rfl rfl fo1 (fun _ _ _ _ _ _ us hl => match us, hl with | [_], _ => rfl) n1 l1 c1 k1 (fun h => by cases (show false = true from h)) (fun h => by cases (show false = true from h)), (fun _ => rfl)⟩, fnAt_of (st := top 41) (ps := ["_law_call"]) X G fs2 rfl rfl fo2 (fun _ _ _ _ _ _ us hl => match us, hl with | [_], _ => rfl) n2 l2 c2 k2 (fun h => by cases (show false = true from h)) (fun _ => ⟨_, rfl⟩), (fun _ => rfl)⟩, fnAt_of (st := top 35) (ps := ["_law_m", "_law_some"]) X G fs3 rfl rfl fo3 (fun _ _ _ _ _ _ us hl => match us, hl with | [_, _], _ => rfl) n3 l3 c3 k3 (fun h => by cases (show false = true from h)) (fun h => by cases (show false = true from h)), (fun _ => rfl)⟩, fnAt_of (st := top 42) (ps := ["_law_m"]) X G fs4 rfl rfl fo4 (fun _ _ _ _ _ _ us hl => match us, hl with | [_], _ => rfl) n4 l4 c4 k4 (fun h => by cases (show false = true from h)) (fun h => by cases (show false = true from h)), (fun _ => rfl)⟩, fnAt_of (st := top 43) (ps := ["_law_m", "_law_thing"]) X G fs5 rfl rfl fo5 (fun _ _ _ _ _ _ us hl => match us, hl with | [_, _], _ => rfl) n5 l5 c5 k5 (fun h => by cases (show false = true from h)) (fun h => by cases (show false = true from h)), (fun _ => rfl)⟩, fnAt_of (st := top 43) (ps := ["_law_m", "_law_thing"]) X G fs6 rfl rfl fo6 (fun _ _ _ _ _ _ us hl => match us, hl with | [_, _], _ => rfl) n6 l6 c6 k6 (fun h => by cases (show false = true from h)) (fun h => by cases (show false = true from h)), (fun _ => rfl)⟩, fnAt_of (st := top 43) (ps := ["_law_m", "_law_thing"]) X G fs7 rfl rfl fo7 (fun _ _ _ _ _ _ us hl => match us, hl with | [_, _], _ => rfl) n7 l7 c7 k7 (fun h => by cases (show false = true from h)) (fun h => by cases (show false = true from h)), (fun _ => rfl)⟩, fnAt_of (st := top 43) (ps := ["_law_m", "_law_thing"]) X G fs8 rfl rfl fo8 (fun _ _ _ _ _ _ us hl => match us, hl with | [_, _], _ => rfl) n8 l8 c8 k8 (fun h => by cases (show false = true from h)) (fun h => by cases (show false = true from h)), (fun _ => rfl)⟩, fnAt_of (st := top 43) (ps := ["_law_m", "_law_thing"]) X G fs9 rfl rfl fo9 (fun _ _ _ _ _ _ us hl => match us, hl with | [_, _], _ => rfl) n9 l9 c9 k9 (fun h => by cases (show false = true from h)) (fun h => by cases (show false = true from h)), (fun _ => rfl)⟩, fnAt_of (st := top 38) (ps := ["_law_thing", "_law_low", "_law_high"]) X G fs10 rfl rfl fo10 (fun _ _ _ _ _ _ us hl => match us, hl with | [_, _, _], _ => rfl) n10 l10 c10 k10 (fun h => by cases (show false = true from h)) (fun h => by cases (show false = true from h)), (fun _ => rfl)⟩, fnAt_of (st := top 39) (ps := ["_law_thing"]) X G fs11 rfl rfl fo11 (fun _ _ _ _ _ _ us hl => match us, hl with | [_], _ => rfl) n11 l11 c11 k11 (fun h => by cases (show false = true from h)) (fun h => by cases (show false = true from h)), (fun _ => rfl)⟩, fnAt_of (st := top 40) (ps := ["_law_thing"]) X G fs12 rfl rfl fo12 (fun _ _ _ _ _ _ us hl => match us, hl with | [_], _ => rfl) n12 l12 c12 k12 (fun h => by cases (show false = true from h)) (fun h => by cases (show false = true from h)), (fun _ => rfl)⟩, fnAt_of (st := top 26) (ps := ["row"]) X G fs13 rfl rfl fo13 (fun _ _ _ _ _ _ us hl => match us, hl with | [_], _ => rfl) n13 l13 c13 k13 (fun h => by cases (show false = true from h)) (fun h => by cases (show false = true from h)), (fun _ => rfl)⟩, fnAt_of (st := top 10) (ps := ["thing", "least", "most"]) X G fs14 rfl rfl fo14 (fun _ _ _ _ _ _ us hl => match us, hl with | [_, _, _], _ => rfl) n14 l14 c14 k14 (fun h => by cases (show false = true from h)) (fun h => by cases (show false = true from h)), (fun _ => rfl)⟩, fnAt_of (st := top 11) (ps := ["thing"]) X G fs15 rfl rfl fo15 (fun _ _ _ _ _ _ us hl => match us, hl with | [_], _ => rfl) n15 l15 c15 k15 (fun h => by cases (show false = true from h)) (fun h => by cases (show false = true from h)), (fun _ => rfl)⟩, fnAt_of (st := top 14) (ps := ["thing"]) X G fs16 rfl rfl fo16 (fun _ _ _ _ _ _ us hl => match us, hl with | [_], _ => rfl) n16 l16 c16 k16 (fun h => by cases (show false = true from h)) (fun h => by cases (show false = true from h)), (fun _ => rfl)⟩, fnAt_of (st := top 28) (ps := ["queue"]) X G fs17 rfl rfl fo17 (fun _ _ _ _ _ _ us hl => match us, hl with | [_], _ => rfl) n17 l17 c17 k17 (fun h => by cases (show false = true from h)) (fun h => by cases (show false = true from h)), (fun _ => rfl)⟩, fnAt_of (st := top 13) (ps := ["thing"]) X G fs18 rfl rfl fo18 (fun _ _ _ _ _ _ us hl => match us, hl with | [_], _ => rfl) n18 l18 c18 k18 (fun h => by cases (show false = true from h)) (fun h => by cases (show false = true from h)), (fun _ => rfl)⟩, fnAt_of (st := top 17) (ps := ["thing"]) X G fs19 rfl rfl fo19 (fun _ _ _ _ _ _ us hl => match us, hl with | [_], _ => rfl) n19 l19 c19 k19 (fun h => by cases (show false = true from h)) (fun h => by cases (show false = true from h)), (fun _ => rfl)⟩, fnAt_of (st := top 19) (ps := ["thing"]) X G fs20 rfl rfl fo20 (fun _ _ _ _ _ _ us hl => match us, hl with | [_], _ => rfl) n20 l20 c20 k20 (fun h => by cases (show false = true from h)) (fun h => by cases (show false = true from h)), (fun _ => rfl)⟩, fnAt_of (st := top 29) (ps := ["stream"]) X G fs21 rfl rfl fo21 (fun _ _ _ _ _ _ us hl => match us, hl with | [_], _ => rfl) n21 l21 c21 k21 (fun h => by cases (show false = true from h)) (fun h => by cases (show false = true from h)), (fun _ => rfl)⟩, fnAt_of (st := top 44) (ps := ["_law_thing"]) X G fs22 rfl rfl fo22 (fun _ _ _ _ _ _ us hl => match us, hl with | [_], _ => rfl) n22 l22 c22 k22 (fun _ => ⟨_, _, rfl, (.head _), (.head _), (fun p hp e => by
      have hp : p ∈ ([(PP22, ("_law_right" : Str) ++ ".<locals>." ++ "<lambda>"), (PPL, ("law" : Str) ++ ".<locals>." ++ "<lambda>")] : List (Addr × Str)) := hp
      rcases List.mem_cons.mp hp with rfl | hp
      · exact rfl
      rcases List.mem_cons.mp hp with rfl | hp
      · exact absurd e ddL_22
      exact nomatch hp)⟩) (fun h => by cases (show false = true from h)), (fun h => by cases (show false = true from h))⟩, fnAt_of (st := top 25) (ps := ["word"]) X G fs23 rfl rfl fo23 (fun _ _ _ _ _ _ us hl => match us, hl with | [_], _ => rfl) n23 l23 c23 k23 (fun h => by cases (show false = true from h)) (fun h => by cases (show false = true from h)), (fun _ => rfl)⟩, fnAt_of (st := top 27) (ps := ["line"]) X G fs24 rfl rfl fo24 (fun _ _ _ _ _ _ us hl => match us, hl with | [_], _ => rfl) n24 l24 c24 k24 (fun h => by cases (show false = true from h)) (fun h => by cases (show false = true from h)), (fun _ => rfl)⟩, fnAt_of (st := top 30) (ps := ["string"]) X G fs25 rfl rfl fo25 (fun _ _ _ _ _ _ us hl => match us, hl with | [_], _ => rfl) n25 l25 c25 k25 (fun h => by cases (show false = true from h)) (fun h => by cases (show false = true from h)), (fun _ => rfl)⟩, fnAt_of (st := top 31) (ps := ["string"]) X G fs26 rfl rfl fo26 (fun _ _ _ _ _ _ us hl => match us, hl with | [_], _ => rfl) n26 l26 c26 k26 (fun h => by cases (show false = true from h)) (fun h => by cases (show false = true from h)), (fun _ => rfl)⟩
  let B : Base0 := ⟨K, 0, rgD 0, 2, cons, "_law_next", [⟨"BadQueue", Cx0, some "part"⟩, ⟨"BadStream", Cx1, some "part"⟩, ⟨"BadText", Cx2, some "line"⟩, ⟨"OutOfPlace", Cx3, none⟩], [(PP22, ("_law_right" : Str) ++ ".<locals>." ++ "<lambda>"), (PPL, ("law" : Str) ++ ".<locals>." ++ "<lambda>")], true⟩
  have hx : ExsOk l.prog K mg [⟨"BadQueue", Cx0, some "part"⟩, ⟨"BadStream", Cx1, some "part"⟩, ⟨"BadText", Cx2, some "line"⟩, ⟨"OutOfPlace", Cx3, none⟩] := by
    refine ⟨fun c q h => ?_, fun c c2 q q2 h h2 => ?_⟩
    · match c, h with
      | 0, h =>
        obtain rfl := Option.some.inj h
        exact TX.ex_of PySem.F.excBase_ValueError PySem.W.kxs_ValueError PySem.F.store_ValueError TX.al_V X G (.inl rfl) (.inr rfl) okx0 hlx0 ztop gCx0 zsuper xLx0 sax0 gax0 ggx0 nox0 iCx0 tIx0 lIx0 cIx0 hIx0 vIx0 pIx0 wIx0 zop mCx0 sBx0 kCx0 eCx0 tCx0 hCx0
      | 1, h =>
        obtain rfl := Option.some.inj h
        exact TX.ex_of PySem.F.excBase_ValueError PySem.W.kxs_ValueError PySem.F.store_ValueError TX.al_V X G (.inl rfl) (.inr rfl) okx1 hlx1 ztop gCx1 zsuper xLx1 sax1 gax1 ggx1 nox1 iCx1 tIx1 lIx1 cIx1 hIx1 vIx1 pIx1 wIx1 zop mCx1 sBx1 kCx1 eCx1 tCx1 hCx1
      | 2, h =>
        obtain rfl := Option.some.inj h
        exact TX.ex_of PySem.F.excBase_ValueError PySem.W.kxs_ValueError PySem.F.store_ValueError TX.al_V X G (.inr (.inl rfl)) (.inr rfl) okx2 hlx2 ztop gCx2 zsuper xLx2 sax2 gax2 ggx2 nox2 iCx2 tIx2 lIx2 cIx2 hIx2 vIx2 pIx2 wIx2 zop mCx2 sBx2 kCx2 eCx2 tCx2 hCx2
      | 3, h =>
        obtain rfl := Option.some.inj h
        exact TX.ex_of PySem.F.excBase_ValueError PySem.W.kxs_ValueError PySem.F.store_ValueError TX.al_V X G (.inr (.inr (.inr rfl))) (.inl rfl) okx3 hlx3 ztop gCx3 zsuper xLx3 sax3 gax3 ggx3 nox3 iCx3 tIx3 lIx3 cIx3 hIx3 vIx3 pIx3 wIx3 zop mCx3 sBx3 kCx3 eCx3 tCx3 hCx3
      | c + 4, h => simp at h
    · match c, c2, h, h2 with
      | 0, 0, h, h2 =>
        obtain rfl := Option.some.inj h
        obtain rfl := Option.some.inj h2
        exact TX.exm_of eCx0 uCx0 tCx0 s0_0
      | 0, 1, h, h2 =>
        obtain rfl := Option.some.inj h
        obtain rfl := Option.some.inj h2
        exact TX.exm_of eCx1 uCx1 tCx1 s0_1
      | 0, 2, h, h2 =>
        obtain rfl := Option.some.inj h
        obtain rfl := Option.some.inj h2
        exact TX.exm_of eCx2 uCx2 tCx2 s0_2
      | 0, 3, h, h2 =>
        obtain rfl := Option.some.inj h
        obtain rfl := Option.some.inj h2
        exact TX.exm_of eCx3 uCx3 tCx3 s0_3
      | 1, 0, h, h2 =>
        obtain rfl := Option.some.inj h
        obtain rfl := Option.some.inj h2
        exact TX.exm_of eCx0 uCx0 tCx0 s1_0
      | 1, 1, h, h2 =>
        obtain rfl := Option.some.inj h
        obtain rfl := Option.some.inj h2
        exact TX.exm_of eCx1 uCx1 tCx1 s1_1
      | 1, 2, h, h2 =>
        obtain rfl := Option.some.inj h
        obtain rfl := Option.some.inj h2
        exact TX.exm_of eCx2 uCx2 tCx2 s1_2
      | 1, 3, h, h2 =>
        obtain rfl := Option.some.inj h
        obtain rfl := Option.some.inj h2
        exact TX.exm_of eCx3 uCx3 tCx3 s1_3
      | 2, 0, h, h2 =>
        obtain rfl := Option.some.inj h
        obtain rfl := Option.some.inj h2
        exact TX.exm_of eCx0 uCx0 tCx0 s2_0
      | 2, 1, h, h2 =>
        obtain rfl := Option.some.inj h
        obtain rfl := Option.some.inj h2
        exact TX.exm_of eCx1 uCx1 tCx1 s2_1
      | 2, 2, h, h2 =>
        obtain rfl := Option.some.inj h
        obtain rfl := Option.some.inj h2
        exact TX.exm_of eCx2 uCx2 tCx2 s2_2
      | 2, 3, h, h2 =>
        obtain rfl := Option.some.inj h
        obtain rfl := Option.some.inj h2
        exact TX.exm_of eCx3 uCx3 tCx3 s2_3
      | 3, 0, h, h2 =>
        obtain rfl := Option.some.inj h
        obtain rfl := Option.some.inj h2
        exact TX.exm_of eCx0 uCx0 tCx0 s3_0
      | 3, 1, h, h2 =>
        obtain rfl := Option.some.inj h
        obtain rfl := Option.some.inj h2
        exact TX.exm_of eCx1 uCx1 tCx1 s3_1
      | 3, 2, h, h2 =>
        obtain rfl := Option.some.inj h
        obtain rfl := Option.some.inj h2
        exact TX.exm_of eCx2 uCx2 tCx2 s3_2
      | 3, 3, h, h2 =>
        obtain rfl := Option.some.inj h
        obtain rfl := Option.some.inj h2
        exact TX.exm_of eCx3 uCx3 tCx3 s3_3
      | 0, c2 + 4, h, h2 => simp at h2
      | 1, c2 + 4, h, h2 => simp at h2
      | 2, c2 + 4, h, h2 => simp at h2
      | 3, c2 + 4, h, h2 => simp at h2
      | c + 4, c2, h, h2 => simp at h
  have hi : B.isx = true → ∀ (c : Nat) q, B.exs[c]? = some q → L2.ExcC K q.C := fun _ c q h => by
    match c, h with
    | 0, h =>
      obtain rfl := Option.some.inj h
      exact ⟨gax0, ggx0, eCx0, hCx0, hax0, znc, ztc, hmx0⟩
    | 1, h =>
      obtain rfl := Option.some.inj h
      exact ⟨gax1, ggx1, eCx1, hCx1, hax1, znc, ztc, hmx1⟩
    | 2, h =>
      obtain rfl := Option.some.inj h
      exact ⟨gax2, ggx2, eCx2, hCx2, hax2, znc, ztc, hmx2⟩
    | 3, h =>
      obtain rfl := Option.some.inj h
      exact ⟨gax3, ggx3, eCx3, hCx3, hax3, znc, ztc, hmx3⟩
    | c + 4, h => exact nomatch (show (none : Option Xc) = some q from h)
  refine ⟨_, fun s v => .of_eq rfl, fun base _ _ hS hT => law_fn (B := B) (rgs := rgD) (wf := 100) (nb := 2556) (fs := fns) (lw := lw) (cs := [(cc22, PP22), (ccL, PPL)]) (fun am => fns_ok (B := B.at_ rgD am) (cs := [(cc22, PP22), (ccL, PPL)]) rfl hb hc ⟨_, _, _, PySem.W.mg_of X G nD, FD.kp, bD, (ok_next (C := ctxOf { B with am := am, rg := rgD am } 0 []) rfl FD hb).imp fun _ _ _ _ => spD_tab⟩ hx hi hT hS (fun _ => ⟨_, rfl⟩) 100 fns at_) hT
    (fun p hp => by
      have hp : p ∈ ([(PP22, ("_law_right" : Str) ++ ".<locals>." ++ "<lambda>"), (PPL, ("law" : Str) ++ ".<locals>." ++ "<lambda>")] : List (Addr × Str)) := hp
      rcases List.mem_cons.mp hp with rfl | hp
      · exact (.head _)
      rcases List.mem_cons.mp hp with rfl | hp
      · exact (.tail _ (.head _))
      exact nomatch hp)
    ⟨_, _, _, PySem.W.mg_of X G nB, FB.kp, bB, ok_begun (by decide) FB hb⟩ FL fsL rfl rfl rfl (by decide +kernel) (by decide +kernel) (by decide +kernel) foL (fun _ => ⟨_, _, rfl, (.tail _ (.head _)), (.tail _ (.head _)), (fun p hp e => by
      have hp : p ∈ ([(PP22, ("_law_right" : Str) ++ ".<locals>." ++ "<lambda>"), (PPL, ("law" : Str) ++ ".<locals>." ++ "<lambda>")] : List (Addr × Str)) := hp
      rcases List.mem_cons.mp hp with rfl | hp
      · exact absurd e dd22_L
      rcases List.mem_cons.mp hp with rfl | hp
      · exact rfl
      exact nomatch hp)⟩) (fun n hn => law90 n hn)⟩
end Tk90
open PySem PySem.W PyProof.Rows
set_option maxRecDepth 100000 in
set_option maxHeartbeats 0 in
theorem PySem.Challenge.cw_twoclocks_k90_texts_refused_holds : PySem.Challenge.rw_twoclocks_k90_texts_refused.Holds := by
  w_on; o_law; k_head; (case hw => w_witness2)
  k_fill
  refine' TC.walkT (l := PySem.Challenge.rw_twoclocks_k90_texts_refused) (k := 86) (x := "_law_script") [(_, _), (_, _)] rfl rfl ⟨rfl, by decide, by decide⟩ (by kernel_rfl) (fun w h Y => PySem.W.km_in_of Y) ?HC ?HT ?NT ?F
  case F =>
    intro w mg fa h KX G hmg
    refine' Tk90.all_mk KX G hmg ?n0 ?l0 ?c0 ?k0 ?n1 ?l1 ?c1 ?k1 ?n2 ?l2 ?c2 ?k2 ?n3 ?l3 ?c3 ?k3 ?n4 ?l4 ?c4 ?k4 ?n5 ?l5 ?c5 ?k5 ?n6 ?l6 ?c6 ?k6 ?n7 ?l7 ?c7 ?k7 ?n8 ?l8 ?c8 ?k8 ?n9 ?l9 ?c9 ?k9 ?n10 ?l10 ?c10 ?k10 ?n11 ?l11 ?c11 ?k11 ?n12 ?l12 ?c12 ?k12 ?n13 ?l13 ?c13 ?k13 ?n14 ?l14 ?c14 ?k14 ?n15 ?l15 ?c15 ?k15 ?n16 ?l16 ?c16 ?k16 ?n17 ?l17 ?c17 ?k17 ?n18 ?l18 ?c18 ?k18 ?n19 ?l19 ?c19 ?k19 ?n20 ?l20 ?c20 ?k20 ?n21 ?l21 ?c21 ?k21 ?n22 ?l22 ?c22 ?k22 ?lc22 ?vc22 ?n23 ?l23 ?c23 ?k23 ?n24 ?l24 ?c24 ?k24 ?n25 ?l25 ?c25 ?k25 ?n26 ?l26 ?c26 ?k26 ?nB ?lB ?cB ?kB ?nD ?lD ?cD ?kD ?nL ?lL ?cL ?kL ?lcL ?vcL ?gBLANK ?gMOST_PLACES ?gMOST_PERIOD ?gMOST_STAGES ?gMOST_DELAY ?gMOST_CLOCK ?gLINE_END ?gMOST_FIGURES ?gDIGITS ?zsuper ?zop ?ztop ?gCx0 ?xLx0 ?sax0 ?gax0 ?ggx0 ?nox0 ?iCx0 ?tIx0 ?lIx0 ?okx0 ?hlx0 ?cIx0 ?hIx0 ?vIx0 ?pIx0 ?wIx0 ?mCx0 ?sBx0 ?kCx0 ?eCx0 ?tCx0 ?hCx0 ?uCx0 ?gCx1 ?xLx1 ?sax1 ?gax1 ?ggx1 ?nox1 ?iCx1 ?tIx1 ?lIx1 ?okx1 ?hlx1 ?cIx1 ?hIx1 ?vIx1 ?pIx1 ?wIx1 ?mCx1 ?sBx1 ?kCx1 ?eCx1 ?tCx1 ?hCx1 ?uCx1 ?gCx2 ?xLx2 ?sax2 ?gax2 ?ggx2 ?nox2 ?iCx2 ?tIx2 ?lIx2 ?okx2 ?hlx2 ?cIx2 ?hIx2 ?vIx2 ?pIx2 ?wIx2 ?mCx2 ?sBx2 ?kCx2 ?eCx2 ?tCx2 ?hCx2 ?uCx2 ?gCx3 ?xLx3 ?sax3 ?gax3 ?ggx3 ?nox3 ?iCx3 ?tIx3 ?lIx3 ?okx3 ?hlx3 ?cIx3 ?hIx3 ?vIx3 ?pIx3 ?wIx3 ?mCx3 ?sBx3 ?kCx3 ?eCx3 ?tCx3 ?hCx3 ?uCx3 ?s0_0 ?s0_1 ?s0_2 ?s0_3 ?s1_0 ?s1_1 ?s1_2 ?s1_3 ?s2_0 ?s2_1 ?s2_2 ?s2_3 ?s3_0 ?s3_1 ?s3_2 ?s3_3 ?znc ?ztc ?hax0 ?hmx0 ?hax1 ?hmx1 ?hax2 ?hmx2 ?hax3 ?hmx3 ?dd22_L ?ddL_22 ?zlen ?zint ?zstr ?zall ?zsum ?ztuple ?zrepr ?zmin ?zmax ?zisinstance ?zbool ?zlist ?zrange ?zenumerate ?zzip ?zsorted ?zset
    (case n0 => k_is)
    (case l0 => k_is)
    (case c0 => k_is)
    (case k0 => k_is)
    (case n1 => k_is)
    (case l1 => k_is)
    (case c1 => k_is)
    (case k1 => k_is)
    (case n2 => k_is)
    (case l2 => k_is)
    (case c2 => k_is)
    (case k2 => k_is)
    (case n3 => k_is)
    (case l3 => k_is)
    (case c3 => k_is)
    (case k3 => k_is)
    (case n4 => k_is)
    (case l4 => k_is)
    (case c4 => k_is)
    (case k4 => k_is)
    (case n5 => k_is)
    (case l5 => k_is)
    (case c5 => k_is)
    (case k5 => k_is)
    (case n6 => k_is)
    (case l6 => k_is)
    (case c6 => k_is)
    (case k6 => k_is)
    (case n7 => k_is)
    (case l7 => k_is)
    (case c7 => k_is)
    (case k7 => k_is)
    (case n8 => k_is)
    (case l8 => k_is)
    (case c8 => k_is)
    (case k8 => k_is)
    (case n9 => k_is)
    (case l9 => k_is)
    (case c9 => k_is)
    (case k9 => k_is)
    (case n10 => k_is)
    (case l10 => k_is)
    (case c10 => k_is)
    (case k10 => k_is)
    (case n11 => k_is)
    (case l11 => k_is)
    (case c11 => k_is)
    (case k11 => k_is)
    (case n12 => k_is)
    (case l12 => k_is)
    (case c12 => k_is)
    (case k12 => k_is)
    (case n13 => k_is)
    (case l13 => k_is)
    (case c13 => k_is)
    (case k13 => k_is)
    (case n14 => k_is)
    (case l14 => k_is)
    (case c14 => k_is)
    (case k14 => k_is)
    (case n15 => k_is)
    (case l15 => k_is)
    (case c15 => k_is)
    (case k15 => k_is)
    (case n16 => k_is)
    (case l16 => k_is)
    (case c16 => k_is)
    (case k16 => k_is)
    (case n17 => k_is)
    (case l17 => k_is)
    (case c17 => k_is)
    (case k17 => k_is)
    (case n18 => k_is)
    (case l18 => k_is)
    (case c18 => k_is)
    (case k18 => k_is)
    (case n19 => k_is)
    (case l19 => k_is)
    (case c19 => k_is)
    (case k19 => k_is)
    (case n20 => k_is)
    (case l20 => k_is)
    (case c20 => k_is)
    (case k20 => k_is)
    (case n21 => k_is)
    (case l21 => k_is)
    (case c21 => k_is)
    (case k21 => k_is)
    (case n22 => k_is)
    (case l22 => k_is)
    (case c22 => k_is)
    (case k22 => k_is)
    (case lc22 => k_is)
    (case vc22 => first | rfl | k_is)
    (case n23 => k_is)
    (case l23 => k_is)
    (case c23 => k_is)
    (case k23 => k_is)
    (case n24 => k_is)
    (case l24 => k_is)
    (case c24 => k_is)
    (case k24 => k_is)
    (case n25 => k_is)
    (case l25 => k_is)
    (case c25 => k_is)
    (case k25 => k_is)
    (case n26 => k_is)
    (case l26 => k_is)
    (case c26 => k_is)
    (case k26 => k_is)
    (case nB => k_is)
    (case lB => k_is)
    (case cB => k_is)
    (case kB => k_is)
    (case nD => k_is)
    (case lD => k_is)
    (case cD => k_is)
    (case kD => k_is)
    (case nL => k_is)
    (case lL => k_is)
    (case cL => k_is)
    (case kL => k_is)
    (case lcL => k_is)
    (case vcL => first | rfl | k_is)
    (case gBLANK => k_is)
    (case gMOST_PLACES => k_is)
    (case gMOST_PERIOD => k_is)
    (case gMOST_STAGES => k_is)
    (case gMOST_DELAY => k_is)
    (case gMOST_CLOCK => k_is)
    (case gLINE_END => k_is)
    (case gMOST_FIGURES => k_is)
    (case gDIGITS => k_is)
    (case zsuper => k_is)
    (case zop => k_is)
    (case ztop => first | rfl | decide +kernel)
    (case gCx0 => k_is)
    (case xLx0 => k_is)
    (case sax0 => k_is)
    (case gax0 => k_is)
    (case ggx0 => k_is)
    (case nox0 => k_is)
    (case iCx0 => k_is)
    (case tIx0 => k_is)
    (case lIx0 => k_is)
    (case okx0 => first | exact .txt _ _ _ | exact .par _)
    (case hlx0 => first | rfl | decide +kernel)
    (case cIx0 => k_is)
    (case hIx0 => k_is)
    (case vIx0 => first | rfl | k_is)
    (case pIx0 => first | rfl | decide +kernel)
    (case wIx0 => k_is)
    (case mCx0 => k_is)
    (case sBx0 => k_is)
    (case kCx0 => k_is)
    (case eCx0 => k_is)
    (case tCx0 => k_is)
    (case hCx0 => k_is)
    (case uCx0 => k_is)
    (case gCx1 => k_is)
    (case xLx1 => k_is)
    (case sax1 => k_is)
    (case gax1 => k_is)
    (case ggx1 => k_is)
    (case nox1 => k_is)
    (case iCx1 => k_is)
    (case tIx1 => k_is)
    (case lIx1 => k_is)
    (case okx1 => first | exact .txt _ _ _ | exact .par _)
    (case hlx1 => first | rfl | decide +kernel)
    (case cIx1 => k_is)
    (case hIx1 => k_is)
    (case vIx1 => first | rfl | k_is)
    (case pIx1 => first | rfl | decide +kernel)
    (case wIx1 => k_is)
    (case mCx1 => k_is)
    (case sBx1 => k_is)
    (case kCx1 => k_is)
    (case eCx1 => k_is)
    (case tCx1 => k_is)
    (case hCx1 => k_is)
    (case uCx1 => k_is)
    (case gCx2 => k_is)
    (case xLx2 => k_is)
    (case sax2 => k_is)
    (case gax2 => k_is)
    (case ggx2 => k_is)
    (case nox2 => k_is)
    (case iCx2 => k_is)
    (case tIx2 => k_is)
    (case lIx2 => k_is)
    (case okx2 => first | exact .txt _ _ _ | exact .par _)
    (case hlx2 => first | rfl | decide +kernel)
    (case cIx2 => k_is)
    (case hIx2 => k_is)
    (case vIx2 => first | rfl | k_is)
    (case pIx2 => first | rfl | decide +kernel)
    (case wIx2 => k_is)
    (case mCx2 => k_is)
    (case sBx2 => k_is)
    (case kCx2 => k_is)
    (case eCx2 => k_is)
    (case tCx2 => k_is)
    (case hCx2 => k_is)
    (case uCx2 => k_is)
    (case gCx3 => k_is)
    (case xLx3 => k_is)
    (case sax3 => k_is)
    (case gax3 => k_is)
    (case ggx3 => k_is)
    (case nox3 => k_is)
    (case iCx3 => k_is)
    (case tIx3 => k_is)
    (case lIx3 => k_is)
    (case okx3 => first | exact .txt _ _ _ | exact .par _)
    (case hlx3 => first | rfl | decide +kernel)
    (case cIx3 => k_is)
    (case hIx3 => k_is)
    (case vIx3 => first | rfl | k_is)
    (case pIx3 => first | rfl | decide +kernel)
    (case wIx3 => k_is)
    (case mCx3 => k_is)
    (case sBx3 => k_is)
    (case kCx3 => k_is)
    (case eCx3 => k_is)
    (case tCx3 => k_is)
    (case hCx3 => k_is)
    (case uCx3 => k_is)
    (case s0_0 => first | rfl | k_is)
    (case s0_1 => first | rfl | k_is)
    (case s0_2 => first | rfl | k_is)
    (case s0_3 => first | rfl | k_is)
    (case s1_0 => first | rfl | k_is)
    (case s1_1 => first | rfl | k_is)
    (case s1_2 => first | rfl | k_is)
    (case s1_3 => first | rfl | k_is)
    (case s2_0 => first | rfl | k_is)
    (case s2_1 => first | rfl | k_is)
    (case s2_2 => first | rfl | k_is)
    (case s2_3 => first | rfl | k_is)
    (case s3_0 => first | rfl | k_is)
    (case s3_1 => first | rfl | k_is)
    (case s3_2 => first | rfl | k_is)
    (case s3_3 => first | rfl | k_is)
    (case znc => k_is)
    (case ztc => k_is)
    (case hax0 => k_is)
    (case hmx0 => k_is)
    (case hax1 => k_is)
    (case hmx1 => k_is)
    (case hax2 => k_is)
    (case hmx2 => k_is)
    (case hax3 => k_is)
    (case hmx3 => k_is)
    (case dd22_L => decide)
    (case ddL_22 => decide)
    (case zlen => k_is)
    (case zint => k_is)
    (case zstr => k_is)
    (case zall => k_is)
    (case zsum => k_is)
    (case ztuple => k_is)
    (case zrepr => k_is)
    (case zmin => k_is)
    (case zmax => k_is)
    (case zisinstance => k_is)
    (case zbool => k_is)
    (case zlist => k_is)
    (case zrange => k_is)
    (case zenumerate => k_is)
    (case zzip => k_is)
    (case zsorted => k_is)
    (case zset => k_is)
  case HC => exact fun w h X => (List.forall_mem_cons.mpr ⟨PySem.W.codeHd_of_K X (by kernel_rfl), (List.forall_mem_cons.mpr ⟨PySem.W.codeHd_of_K X (by kernel_rfl), (fun _ h => nomatch h)⟩)⟩)
  case HT => exact fun w h Y => (List.forall_mem_cons.mpr ⟨PySem.W.km_tabs_of Y _ (by k_mem), (List.forall_mem_cons.mpr ⟨PySem.W.km_tabs_of Y _ (by k_mem), (fun _ h => nomatch h)⟩)⟩)
  case NT => exact fun w => (List.forall_mem_cons.mpr ⟨(by kernel_rfl), (List.forall_mem_cons.mpr ⟨(by kernel_rfl), (fun _ h => nomatch h)⟩)⟩)

#print axioms PySem.Challenge.cw_twoclocks_k90_texts_refused_holds
