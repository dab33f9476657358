import PyProof.Rows.All
import Wide.All
import OpenK.AllK
import Wide.FinOn
import HandS.ForMost
import HandS.ForExc
import HandS.Wide
import HandS.TupAny
import HandS.CallSlots
import HandS.More
import HandS.Deep
import KE.KEqNest
import PyProof.NeKinds
import PyProof.NeData
import HandS.WordsDict
import HandS.IsInst
import HandS.Conv
import HandS.ExcField
import HandS.Iter
import HandS.ExcInit
import KE.KExcLine
import HandS.Defaults
import HandS.HeadHook4
import OpenK.KCell
import HandS.EndBits
import HandS.Head2
import HandS.HeadEnd
import PyProof.StrLawsIn
import PySem.Challenge.RW_dimmerlog_k03_valid_names
section
set_option Elab.async false
set_option linter.all false
set_option maxRecDepth 100000
/-! Core: plain data, a small language, its meaning (by value). -/
namespace DL
open PySem

/-- plain data; ins: an object of the class c; per: a standing object that may be changed -/
inductive D where
  | non | bl (b : Bool) | int (i : Int) | str (x : Str)
  | tup (xs : List D) | lst (xs : List D) | dic (kvs : List (D × D))
  | ins (c : Nat) (fs : List (Str × D))
  | exn (c : Nat) (fs : List (Str × D))
  | per (i : Nat)
  | scr (ns : List Int)
instance : Inhabited D := ⟨.non⟩

/-- an error that flies -/
structure Exc where
  c : Nat
  fs : List (Str × D)

inductive Slot where
  | own (d : D) | dat (d : D)
def Slot.d : Slot → D
  | .own d => d
  | .dat d => d

abbrev Env := List (Option Slot)
/-- an end: what comes out, the standing objects behind it -/
inductive Out (α : Type) where
  | ok (a : α) (p : List D) | exc (x : Exc) (p : List D) | bad
def P (α : Type) := List D → Out α
namespace P
def ret {α : Type} (a : α) : P α := fun p => .ok a p
def bind {α β : Type} (m : P α) (f : α → P β) : P β := fun p => match m p with
  | .ok a p' => f a p'
  | .exc x p' => .exc x p'
  | .bad => .bad
def bad {α : Type} : P α := fun _ => .bad
def opt {α : Type} : Option α → P α
  | some a => ret a
  | none => bad
end P

/-! ### data -/
def D.flat : D → Bool
  | .non | .bl _ | .int _ | .str _ | .per _ => true
  | _ => false
/-- a list, a dict -/
def D.box : D → Bool
  | .lst _ | .dic _ => true
  | _ => false
def flats (fs : List (Str × D)) : Bool := fs.all fun p => p.2.flat
mutual
/-- never changes: no list, no dict, no object within -/
def D.imm : D → Bool
  | .non | .bl _ | .int _ | .str _ | .per _ => true
  | .tup xs => D.imms xs
  | _ => false
def D.imms : List D → Bool
  | [] => true
  | d :: ds => d.imm && D.imms ds
end
mutual
/-- compared by value alone -/
def D.plain : D → Bool
  | .non | .bl _ | .int _ | .str _ => true
  | .tup xs => D.plains xs
  | .lst xs => D.plains xs
  | _ => false
def D.plains : List D → Bool
  | [] => true
  | d :: ds => d.plain && D.plains ds
end
mutual
def D.depth : D → Nat
  | .tup xs => D.depths xs + 1
  | .lst xs => D.depths xs + 1
  | _ => 0
def D.depths : List D → Nat
  | [] => 0
  | d :: ds => max d.depth (D.depths ds)
end
mutual
/-- == of plain data -/
def D.eqv : D → D → Bool
  | .non, .non => true
  | .bl a, .bl b => a == b
  | .bl a, .int j => (if a then 1 else 0) == j
  | .int i, .bl b => i == (if b then 1 else 0)
  | .int i, .int j => i == j
  | .str x, .str y => x == y
  | .lst xs, .lst ys => D.eqvs xs ys
  | .tup xs, .tup ys => D.eqvs xs ys
  | _, _ => false
def D.eqvs : List D → List D → Bool
  | [], [] => true
  | x :: xs, y :: ys => D.eqv x y && D.eqvs xs ys
  | _, _ => false
end
def chars (x : Str) : List D := x.cps.toList.map fun c => .str ⟨#[c]⟩
def D.items : D → Option (List D)
  | .tup xs => some xs
  | .lst xs => some xs
  | .str x => some (chars x)
  | _ => none
def cut {α : Type} (xs : List α) (lo hi : Option Int) : List α := (xs.drop (HT.sIx xs.length 0 lo)).take (HT.sIx xs.length xs.length hi - HT.sIx xs.length 0 lo)
/-- a key of a dict -/
def D.key : D → Option L2.Key
  | .int i => some (.inl i)
  | .str x => some (.inr x)
  | _ => none
def look (k : D) : List (D × D) → Option D
  | [] => none
  | (j, v) :: r => if D.eqv j k then some v else look k r
def store (k v : D) (kvs : List (D × D)) : List (D × D) :=
  if kvs.any fun p => D.eqv p.1 k then kvs.map fun p => if D.eqv p.1 k then (p.1, v) else p else kvs ++ [(k, v)]
def putF (f : Str) (v : D) : List (Str × D) → List (Str × D)
  | [] => [(f, v)]
  | (g, u) :: r => if g = f then (f, v) :: r else (g, u) :: putF f v r

/-! ### the language -/
inductive Bop where
  | add | sub | mul | fdiv | mod | pow
  deriving DecidableEq
inductive Cop where
  | eq | ne | lt | le | gt | ge | inn | notIn | isN | notN
  deriving DecidableEq
/-- built-in functions of one argument -/
inductive Fop where
  | len | abs | int | tuple | list | str
  deriving DecidableEq
/-- what isinstance asks for -/
inductive Ty where
  | bool | int | str | tuple | list | cls (c : Nat)
  deriving DecidableEq
mutual
inductive Ex where
  | var (i : Nat)
  | non | bl (b : Bool) | int (n : Int) | str (x : Str)
  | glo (x : Str) (d : D)
  | bin (op : Bop) (a b : Ex)
  | neg (a : Ex)
  | not (a : Ex)
  | cmp (op : Cop) (a b : Ex)
  | and (a b : Ex) | or (a b : Ex)
  | ite (c a b : Ex)
  | tup (es : Exs) | lst (es : Exs)
  | idx (a i : Ex)
  | slc (a : Ex) (lo hi : Oex)
  | att (a : Ex) (f : Str)
  | call (f : Nat) (es : Exs)
  | new (c : Nat) (es : Exs)
  | meth (a : Ex) (m : Str) (es : Exs)
  | fn1 (f : Fop) (a : Ex)
  | isi (a : Ex) (t : Ty)
  | xat (i : Nat) (f : Str)
  | lc (e : Ex) (v : Nat) (it : It) (c : Oex)
  | dct
inductive Exs where
  | nil | cons (e : Ex) (es : Exs)
inductive Oex where
  | none | some (e : Ex)
inductive It where
  | seq (e : Ex) | rng (e : Ex)
end
inductive Tg where
  | name (i : Nat) | tup (is : List Nat)
inductive St where
  | skip | seq (a b : St)
  | expr (e : Ex)
  | set (i : Nat) (e : Ex)
  | own (i : Nat) (e : Ex)
  | keep (i : Nat) (e : Ex)
  | app (i : Nat) (e : Ex)
  | put (i : Nat) (k e : Ex)
  | popAt (j i : Nat) (k : Ex)
  | fld (i : Nat) (f : Str) (e : Ex)
  | ret (e : Ex)
  | rkp (e : Ex)
  | ite (c : Ex) (a b : St)
  | for_ (t : Tg) (it : It) (b : St)
  | raise (c : Nat) (es : Exs)
  | try1 (b : St) (c : Nat) (i : Nat) (h : St)
inductive Ctl where
  | nx | brk | ct | ret (d : D)

/-! ### what may be a part of the result: slots -/
mutual
def esc : Ex → List Nat
  | .var i => [i]
  | .ite _ a b => esc a ++ esc b
  | .and _ b => esc b
  | .or _ b => esc b
  | .bin _ a b => escR a ++ escR b
  | .tup es => escs es
  | .lst es => escs es
  | .idx a _ => escR a
  | .slc a _ _ => escR a
  | .att a _ => escR a
  | .call _ es => escs es
  | .new _ es => escs es
  | .meth a _ es => esc a ++ escs es
  | .fn1 _ a => escR a
  | .lc e _ it _ => esc e ++ esci it
  | _ => []
/-- .. of a thing whose items alone are taken -/
def escR : Ex → List Nat
  | .var _ => []
  | .ite _ a b => esc a ++ esc b
  | .and _ b => esc b
  | .or _ b => esc b
  | .bin _ a b => escR a ++ escR b
  | .tup es => escs es
  | .lst es => escs es
  | .idx a _ => escR a
  | .slc a _ _ => escR a
  | .att a _ => escR a
  | .call _ es => escs es
  | .new _ es => escs es
  | .meth a _ es => esc a ++ escs es
  | .fn1 _ a => escR a
  | .lc e _ it _ => esc e ++ esci it
  | _ => []
def escs : Exs → List Nat
  | .nil => []
  | .cons e es => esc e ++ escs es
def esci : It → List Nat
  | .seq e => escR e
  | .rng _ => []
end
def It.slot : It → List Nat
  | .seq (.var i) => [i]
  | _ => []
/-- a new object, held by nobody else -/
def fresh : Ex → Bool
  | .lst _ => true
  | .lc .. => true
  | .bin .add _ _ => true
  | .slc .. => true
  | .fn1 .list _ => true
  | .dct => true
  | _ => false

/-! ### tables -/
structure Fn where
  np : Nat
  ns : Nat
  body : St
/-- a class: an error's or not; its __init__, its methods, its constants, the attributes of its objects (an error's: as its __init__ takes them), itself and what stands above it -/
structure Cl where
  name : Str
  exc : Bool
  init : Nat
  meths : List (Str × Nat)
  consts : List (Str × D)
  flds : List Str
  sups : List Nat
structure Tab where
  fns : List (Nat × Fn)
  cls : List (Nat × Cl)
def assoc {α : Type} : List (Nat × α) → Nat → Option α
  | [], _ => none
  | (j, a) :: r, k => if Nat.beq j k then some a else assoc r k
theorem assoc_mem {α : Type} {k : Nat} {a : α} : ∀ {l : List (Nat × α)}, assoc l k = some a → (k, a) ∈ l
  | [], h => by cases h
  | (j, b) :: r, h => by
    unfold assoc at h
    split at h
    · rename_i e
      cases h
      rw [Nat.eq_of_beq_eq_true e]
      exact List.mem_cons_self
    · exact List.mem_cons_of_mem _ (assoc_mem h)
def Tab.fn (T : Tab) (f : Nat) : Option Fn := assoc T.fns f
def Tab.cl (T : Tab) (c : Nat) : Option Cl := assoc T.cls c
/-- an error's class -/
def excAt (T : Tab) (c : Nat) : Bool := match (T.cl c) with
  | some ck => ck.exc
  | none => false
/-- the calls one level below -/
structure Rec where
  call : Nat → List D → P D
  make : Nat → List D → P D

/-! ### meaning -/
def D.isExn : D → Bool
  | .exn .. => true
  | _ => false
def slotD (env : Env) (i : Nat) : P D := match env[i]? with
  | some (some sl) => if sl.d.isExn then P.bad else P.ret sl.d
  | _ => P.bad
/-- a caught error's field -/
def exnF (T : Tab) (env : Env) (i : Nat) (f : Str) : P D := match env[i]? with
  | some (some (.dat (.exn c fs))) => P.opt ((T.cl c).bind fun cl => if cl.exc && cl.flds.contains f then fs.lookup f else none)
  | _ => P.bad
def deref (d : D) : P D := fun p => match d with
  | .per i => (match p[i]? with
    | some c => .ok c p
    | none => .bad)
  | d => .ok d p
def truth : D → Option Bool
  | .bl b => some b
  | .non => some false
  | .int i => some (i != 0)
  | .str x => if x.length ≤ sizeLine then some (x.length != 0) else none
  | .lst xs => some (!xs.isEmpty)
  | .tup xs => some (!xs.isEmpty)
  | _ => none
def bop : Bop → D → D → Option D
  | .add, .int i, .int j => some (.int (i + j))
  | .add, .str x, .str y => if x.length + y.length ≤ sizeLine then some (.str (x ++ y)) else none
  | .add, .lst x, .lst y => if x.length + y.length ≤ sizeLine then some (.lst (x ++ y)) else none
  | .add, .tup x, .tup y => if x.length + y.length ≤ sizeLine then some (.tup (x ++ y)) else none
  | .sub, .int i, .int j => some (.int (i - j))
  | .mul, .int i, .int j => if i.natAbs.log2 + j.natAbs.log2 < 1000000 then some (.int (i * j)) else none
  | .fdiv, .int i, .int j => if 0 < j ∧ j.natAbs.log2 < 9000 then some (.int (i / j)) else none
  | .mod, .int i, .int j => if 0 < j then some (.int (i % j)) else none
  | .pow, .int i, .int j => if 0 ≤ j ∧ j ≤ 1000 ∧ i.natAbs < 1000 then some (.int (i ^ j.toNat)) else none
  | _, _, _ => none
def isIn (a : D) : D → Option Bool
  | .tup xs => if a.plain && D.plains xs && decide (D.depths xs ≤ 60) then some (xs.any fun y => D.eqv y a) else none
  | .lst xs => if a.plain && D.plains xs && decide (D.depths xs ≤ 60) then some (xs.any fun y => D.eqv y a) else none
  | .str y => (match a with
    | .str x => some (!(Builtin.Str.occurrences y x 0 y.length 1).isEmpty)
    | _ => none)
  | .dic kvs => (match a.key with
    | some _ => some (look a kvs).isSome
    | none => none)
  | _ => none
def eqOk (a b : D) : Bool := a.plain && b.plain && decide (a.depth ≤ 60)
def cop : Cop → D → D → Option Bool
  | .eq, a, b => if eqOk a b then some (D.eqv a b) else none
  | .ne, a, b => if eqOk a b then some (!D.eqv a b) else none
  | .lt, .int i, .int j => some (decide (i < j))
  | .le, .int i, .int j => some (decide (i ≤ j))
  | .gt, .int i, .int j => some (decide (j < i))
  | .ge, .int i, .int j => some (decide (j ≤ i))
  | .inn, a, b => isIn a b
  | .notIn, a, b => (isIn a b).map (!·)
  | .isN, .non, .non => some true
  | .isN, _, .non => some false
  | .notN, .non, .non => some false
  | .notN, _, .non => some true
  | _, _, _ => none
def fop : Fop → D → Option D
  | .len, .str x => if x.length ≤ sizeLine then some (.int x.length) else none
  | .len, .tup xs => some (.int xs.length)
  | .len, .lst xs => some (.int xs.length)
  | .len, .dic kvs => some (.int kvs.length)
  | .abs, .int i => some (.int (if i < 0 then -i else i))
  | .int, .int i => some (.int i)
  | .int, .bl b => some (.int (if b then 1 else 0))
  | .tuple, .tup xs => some (.tup xs)
  | .tuple, .lst xs => some (.tup xs)
  | .list, .tup xs => some (.lst xs)
  | .list, .lst xs => some (.lst xs)
  | .list, .dic kvs => some (.lst (kvs.map (·.1)))
  | .str, .int i => if i.natAbs.log2 < 1920 then some (.str (toString i)) else none
  | _, _ => none
def isTy (T : Tab) : Ty → D → Option Bool
  | .bool, d => (match d with
    | .bl _ => some true
    | .non | .int _ | .str _ | .tup _ | .lst _ => some false
    | _ => none)
  | .int, d => (match d with
    | .bl _ | .int _ => some true
    | .non | .str _ | .tup _ | .lst _ => some false
    | _ => none)
  | .str, d => (match d with
    | .str _ => some true
    | .bl _ | .non | .int _ | .tup _ | .lst _ => some false
    | _ => none)
  | .tuple, d => (match d with
    | .tup _ => some true
    | .bl _ | .non | .int _ | .str _ | .lst _ => some false
    | _ => none)
  | .list, d => (match d with
    | .lst _ => some true
    | .bl _ | .non | .int _ | .str _ | .tup _ => some false
    | _ => none)
  | .cls c, d => (match d with
    | .ins k _ => (T.cl k).bind fun cl => if cl.exc then none else if (T.cl c).isSome then some (cl.sups.contains c) else none
    | .bl _ | .non | .int _ | .str _ | .lst _ | .tup _ => if (T.cl c).isSome then some false else none
    | _ => none)
def idxD : D → D → Option D
  | .tup xs, .int i => L2.atI xs i
  | .lst xs, .int i => L2.atI xs i
  | .str x, .int i => if x.length ≤ sizeLine then (L2.atI x.cps.toList i).map fun c => .str ⟨#[c]⟩ else none
  | .dic kvs, k => (match k.key with
    | some _ => look k kvs
    | none => none)
  | _, _ => none
def slcD (lo hi : Option Int) : D → Option D
  | .scr ns => some (.lst ((cut ns lo hi).map .int))
  | .tup xs => some (.tup (cut xs lo hi))
  | .lst xs => some (.lst (cut xs lo hi))
  | .str x => if x.length ≤ sizeLine then some (.str (L2.cutS x lo hi)) else none
  | _ => none
def attD (T : Tab) (f : Str) : D → Option D
  | .ins c fs => (T.cl c).bind fun cl => if cl.exc then none else if cl.flds.contains f then fs.lookup f else if (fs.lookup f).isNone then cl.consts.lookup f else none
  | _ => none
def methD (T : Tab) (c : Nat) (fs : List (Str × D)) (m : Str) : Option Nat := (T.cl c).bind fun cl => if cl.exc then none else if (fs.lookup m).isNone then cl.meths.lookup m else none
def rngD : D → Option (List D)
  | .int n => if n < 4611686018427387904 ∧ -4611686018427387904 ≤ n then some ((List.range n.toNat).map fun k => .int (k : Nat)) else none
  | _ => none

section
variable (T : Tab) (R : Rec)
/-- a comprehension's items; v: the slot of its own name -/
def lcL (v : Nat) (c : Env → P Bool) (e : Env → P D) (env : Env) : List D → P (List D)
  | [] => P.ret []
  | d :: ds => P.bind (c (env.set v (some (.dat d)))) fun b => if b then P.bind (e (env.set v (some (.dat d)))) fun x => P.bind (lcL v c e env ds) fun xs => P.ret (x :: xs) else lcL v c e env ds
/-- no error leaves -/
def calm {α : Type} (m : P α) : P α := fun s => match m s with
  | .ok a s' => .ok a s'
  | _ => .bad
/-- a meaning as a value, as a test -/
structure Mean where
  v : Env → P D
  t : Env → P Bool
def Mean.of (m : Env → P D) : Mean := ⟨m, fun env => P.bind (m env) fun x => P.bind (deref x) fun x => P.opt (truth x)⟩
mutual
def ev : Ex → Mean
  | .var i => .of fun env => slotD env i
  | .non => .of fun _ => P.ret .non
  | .bl b => .of fun _ => P.ret (.bl b)
  | .int n => .of fun _ => P.ret (.int n)
  | .str x => .of fun _ => P.ret (.str x)
  | .glo _ d => .of fun _ => P.ret d
  | .bin op a b => .of fun env => P.bind ((ev a).v env) fun x => P.bind ((ev b).v env) fun y => P.bind (deref x) fun x => P.bind (deref y) fun y => P.opt (bop op x y)
  | .neg a => .of fun env => P.bind ((ev a).v env) fun x => match x with
    | .int i => P.ret (.int (-i))
    | _ => P.bad
  | .not a => ⟨fun env => P.bind ((ev a).v env) fun x => match x with
    | .bl b => P.ret (.bl (!b))
    | _ => P.bad, fun env => P.bind ((ev a).t env) fun b => P.ret (!b)⟩
  | .cmp op a b => ⟨fun env => P.bind ((ev a).v env) fun x => P.bind ((ev b).v env) fun y => P.bind (deref x) fun x => P.bind (deref y) fun y => P.bind (P.opt (cop op x y)) fun k => P.ret (.bl k),
      fun env => P.bind ((ev a).v env) fun x => P.bind ((ev b).v env) fun y => P.bind (deref x) fun x => P.bind (deref y) fun y => P.opt (cop op x y)⟩
  | .and a b => ⟨fun env => P.bind ((ev a).v env) fun x => match x with
    | .bl true => (ev b).v env
    | .bl false => P.ret (.bl false)
    | _ => P.bad, fun env => P.bind ((ev a).t env) fun k => if k then (ev b).t env else P.ret false⟩
  | .or a b => ⟨fun env => P.bind ((ev a).v env) fun x => match x with
    | .bl true => P.ret (.bl true)
    | .bl false => (ev b).v env
    | _ => P.bad, fun env => P.bind ((ev a).t env) fun k => if k then P.ret true else (ev b).t env⟩
  | .ite c a b => ⟨fun env => P.bind ((ev c).t env) fun k => if k then (ev a).v env else (ev b).v env, fun _ => P.bad⟩
  | .tup es => .of fun env => P.bind (evs es env) fun xs => if xs.length ≤ sizeLine then P.ret (.tup xs) else P.bad
  | .lst es => .of fun env => P.bind (evs es env) fun xs => if xs.length ≤ sizeLine then P.ret (.lst xs) else P.bad
  | .idx a i => .of fun env => P.bind ((ev a).v env) fun x => P.bind ((ev i).v env) fun y => P.bind (deref x) fun x => P.opt (idxD x y)
  | .slc a lo hi => .of fun env => P.bind ((ev a).v env) fun x => P.bind (evo lo env) fun l => P.bind (evo hi env) fun h => P.bind (deref x) fun x => P.opt (slcD l h x)
  | .att a f => .of fun env => P.bind ((ev a).v env) fun x => P.bind (deref x) fun x => P.opt (attD T f x)
  | .call f es => .of fun env => P.bind (evs es env) fun xs => R.call f xs
  | .new c es => .of fun env => P.bind (evs es env) fun xs => R.make c xs
  | .meth a m es => .of fun env => P.bind ((ev a).v env) fun x => P.bind (deref x) fun y => match y with
    | .ins c fs => (match methD T c fs m with
      | some f => P.bind (evs es env) fun xs => R.call f (x :: xs)
      | none => P.bad)
    | _ => P.bad
  | .fn1 f a => .of fun env => P.bind ((ev a).v env) fun x => P.bind (deref x) fun x => P.opt (fop f x)
  | .isi a t => .of fun env => P.bind ((ev a).v env) fun x => P.bind (deref x) fun x => P.bind (P.opt (isTy T t x)) fun b => P.ret (.bl b)
  | .xat i f => .of fun env => exnF T env i f
  | .dct => .of fun _ => P.ret (.dic [])
  | .lc e v it c => .of fun env => P.bind (evi it env) fun ds => P.bind (calm (lcL v (evc c) (ev e).v env ds)) fun xs => if xs.length ≤ sizeLine then P.ret (.lst xs) else P.bad
def evs : Exs → Env → P (List D)
  | .nil, _ => P.ret []
  | .cons e es, env => P.bind ((ev e).v env) fun x => P.bind (evs es env) fun xs => P.ret (x :: xs)
def evo : Oex → Env → P (Option Int)
  | .none, _ => P.ret none
  | .some e, env => P.bind ((ev e).v env) fun x => match x with
    | .int i => P.ret (some i)
    | _ => P.bad
/-- a comprehension's test -/
def evc : Oex → Env → P Bool
  | .none, _ => P.ret true
  | .some e, env => (ev e).t env
def evi : It → Env → P (List D)
  | .seq e, env => P.bind ((ev e).v env) fun x => P.opt x.items
  | .rng e, env => P.bind ((ev e).v env) fun x => P.opt (rngD x)
end

/-! ### statements -/
structure S where
  env : Env
  per : List D
inductive So (α : Type) where
  | ok (a : α) (s : S) | exc (x : Exc) (s : S) | bad
def M (α : Type) := S → So α
namespace M
def ret {α : Type} (a : α) : M α := fun s => .ok a s
def bind {α β : Type} (m : M α) (f : α → M β) : M β := fun s => match m s with
  | .ok a s' => f a s'
  | .exc x s' => .exc x s'
  | .bad => .bad
def bad {α : Type} : M α := fun _ => .bad
end M
def Slot.frz : Option Slot → Option Slot
  | some (.own d) => some (.dat d)
  | x => x
def frzS : List Nat → Env → Env
  | [], env => env
  | i :: is, env => frzS is (env.modify i Slot.frz)
/-- an expression in a statement: what its value may hold is no longer changed -/
def frzX (x : Exc) (env : Env) : Env := if flats x.fs then env else env.map Slot.frz
def held (is : List Nat) (m : Env → P D) : M D := fun s => match m s.env s.per with
  | .ok d p => .ok d (if d.flat then ⟨s.env, p⟩ else ⟨frzS is s.env, p⟩)
  | .exc x p => .exc x ⟨frzX x s.env, p⟩
  | .bad => .bad
/-- .. whose value is of no more than ints, bools or the end -/
def asked {α : Type} (m : Env → P α) : M α := fun s => match m s.env s.per with
  | .ok d p => .ok d ⟨s.env, p⟩
  | .exc x p => .exc x ⟨frzX x s.env, p⟩
  | .bad => .bad
def setSlot (i : Nat) (sl : Slot) : M Unit := fun s => if i < s.env.length then .ok () { s with env := s.env.set i (some sl) } else .bad
def exnSl : Option Slot → Bool
  | some (.dat (.exn _ _)) => true
  | _ => false
def wipeSlot (i : Nat) : M Unit := fun s => if (s.env.set i none).any exnSl then .bad else .ok () { s with env := s.env.set i none }
def setAll : List Nat → List D → M Unit
  | [], [] => M.ret ()
  | i :: is, d :: ds => M.bind (setSlot i (.dat d)) fun _ => setAll is ds
  | _, _ => M.bad
def setTg : Tg → D → M Unit
  | .name i, d => setSlot i (.dat d)
  | .tup is, .tup xs => setAll is xs
  | .tup _, _ => M.bad
/-- over the items -/
def forL (f : D → M Ctl) : List D → M Ctl
  | [] => M.ret .nx
  | d :: ds => M.bind (f d) fun c => match c with
    | .nx | .ct => forL f ds
    | .brk => M.ret .nx
    | .ret v => M.ret (.ret v)
/-- the slot's object, that may be changed -/
def chg {α : Type} (i : Nat) (f : D → Option (α × D)) : M α := fun s => match s.env[i]? with
  | some (some (.own d)) => (match f d with
    | some (a, d') => .ok a { s with env := s.env.set i (some (.own d')) }
    | none => .bad)
  | some (some (.dat (.per k))) => (match s.per[k]? with
    | some d => (match f d with
      | some (a, d') => .ok a { s with per := s.per.set k d' }
      | none => .bad)
    | none => .bad)
  | _ => .bad
/-- what goes into a standing object never changes -/
def fitsIn (i : Nat) (v : D) : M Unit := fun s => match s.env[i]? with
  | some (some (.own _)) => .ok () s
  | _ => if v.imm then .ok () s else .bad
def appD (v : D) : D → Option (Unit × D)
  | .lst xs => if xs.length < sizeLine then some ((), .lst (xs ++ [v])) else none
  | _ => none
def putD (k v : D) : D → Option (Unit × D)
  | .lst xs => (match k with
    | .int i => (L2.ixN xs.length i).map fun j => ((), .lst (xs.set j v))
    | _ => none)
  | .dic kvs => (match k.key with
    | some _ => if kvs.length < sizeLine then some ((), .dic (store k v kvs)) else none
    | none => none)
  | _ => none
def popD (k : D) : D → Option (D × D)
  | .lst xs => (match k with
    | .int i => if 0 ≤ i ∧ i < xs.length ∧ i < 4611686018427387904 then (xs[i.toNat]?).map fun v => (v, .lst (xs.eraseIdx i.toNat)) else none
    | _ => none)
  | _ => none
def fldD (T : Tab) (f : Str) (v : D) : D → Option (Unit × D)
  | .ins c fs => (T.cl c).bind fun cl => if !cl.exc && cl.flds.contains f && decide (fs.length < 1000) then some ((), .ins c (putF f v fs)) else none
  | _ => none
/-- a list that may be changed stands there -/
def lstAt (i : Nat) : M Unit := fun s => match s.env[i]? with
  | some (some (.own (.lst _))) => .ok () s
  | some (some (.dat (.per k))) => if k < s.per.length then .ok () s else .bad
  | _ => .bad
def boxAt (i : Nat) : M Unit := fun s => match s.env[i]? with
  | some (some (.own _)) => .ok () s
  | some (some (.dat (.per _))) => .ok () s
  | _ => .bad
/-- a new standing object -/
def addPer (d : D) : M D := fun s => match d with
  | .lst xs => if D.imms xs then .ok (.per s.per.length) { s with per := s.per ++ [d] } else .bad
  | _ => .bad
/-- a suite from which no error leaves -/
def mild {α : Type} (m : M α) : M α := fun s => match m s with
  | .ok a s' => .ok a s'
  | _ => .bad
def evSt : St → M Ctl
  | .skip => M.ret .nx
  | .seq a b => M.bind (evSt a) fun c => match c with
    | .nx => evSt b
    | c => M.ret c
  | .expr e => M.bind (held (esc e) (ev T R e).v) fun _ => M.ret .nx
  | .set i e => M.bind (held (esc e) (ev T R e).v) fun d => M.bind (setSlot i (.dat d)) fun _ => M.ret .nx
  | .own i e => if fresh e then M.bind (held (esc e) (ev T R e).v) fun d => if d.box then M.bind (setSlot i (.own d)) fun _ => M.ret .nx else M.bad else M.bad
  | .keep i e => if fresh e then M.bind (held (esc e) (ev T R e).v) fun d => M.bind (addPer d) fun p => M.bind (setSlot i (.dat p)) fun _ => M.ret .nx else M.bad
  | .app i e => M.bind (lstAt i) fun _ => M.bind (held (esc e) (ev T R e).v) fun v => M.bind (fitsIn i v) fun _ => M.bind (chg i (appD v)) fun _ => M.ret .nx
  | .put i k e => M.bind (held (esc e) (ev T R e).v) fun v => M.bind (boxAt i) fun _ => M.bind (asked (ev T R k).v) fun k => if !k.flat then M.bad else M.bind (fitsIn i v) fun _ => M.bind (chg i (putD k v)) fun _ => M.ret .nx
  | .popAt j i k => M.bind (lstAt i) fun _ => M.bind (asked (ev T R k).v) fun k => if !k.flat then M.bad else M.bind (chg i (popD k)) fun v => M.bind (setSlot j (.dat v)) fun _ => M.ret .nx
  | .fld i f e => M.bind (held (esc e) (ev T R e).v) fun v => M.bind (fitsIn i v) fun _ => M.bind (chg i (fldD T f v)) fun _ => M.ret .nx
  | .ret e => M.bind (asked (ev T R e).v) fun d => M.ret (.ret d)
  | .rkp e => if fresh e then M.bind (held (esc e) (ev T R e).v) fun d => M.bind (addPer d) fun p => M.ret (.ret p) else M.bad
  | .ite c a b => M.bind (asked (ev T R c).t) fun k => if k then evSt a else evSt b
  | .for_ t it b => fun s => match evi T R it s.env s.per with
    | .ok ds p => forL (fun d => M.bind (setTg t d) fun _ => evSt b) ds ⟨frzS (it.slot ++ esci it) s.env, p⟩
    | .exc x p => .exc x ⟨frzX x s.env, p⟩
    | .bad => .bad
  | .raise c es => fun s => match evs T R es s.env s.per with
    | .ok xs p => (match (T.cl c) with
      | some cl => if xs.length = cl.flds.length then .exc ⟨c, cl.flds.zip xs⟩ ⟨frzX ⟨c, cl.flds.zip xs⟩ s.env, p⟩ else .bad
      | none => .bad)
    | .exc x p => .exc x ⟨frzX x s.env, p⟩
    | .bad => .bad
  | .try1 b c i h => fun s => match evSt b s with
    | .exc x s' => (match (T.cl x.c) with
      | some cl => if cl.exc && excAt T c then (if cl.sups.contains c then mild (M.bind (setSlot i (.dat (.exn x.c x.fs))) (fun _ => M.bind (evSt h) fun r => M.bind (wipeSlot i) fun _ => M.ret r)) s' else .exc x s') else .bad
      | none => .bad)
    | o => o
end
/-! ### calls -/
def entry (ns : Nat) (env : Env) : Env := env ++ List.replicate (ns - env.length) none
def callBy (run : St → M Ctl) (fn : Fn) (args : List D) : P D := fun p => if args.length = fn.np then
  (match run fn.body ⟨entry fn.ns (args.map fun d => some (.dat d)), p⟩ with
  | .ok .nx s' => .ok .non s'.per
  | .ok (.ret d) s' => .ok d s'.per
  | .ok _ _ => .bad
  | .exc x s' => .exc x s'.per
  | .bad => .bad) else .bad
def makeBy (run : St → M Ctl) (c : Nat) (fn : Fn) (args : List D) : P D := fun p => if args.length + 1 = fn.np then
  (match run fn.body ⟨entry fn.ns (some (.own (.ins c [])) :: args.map fun d => some (.dat d)), p⟩ with
  | .ok .nx s' => (match s'.env[0]? with
    | some (some sl) => if sl.d.isExn then .bad else .ok sl.d s'.per
    | _ => .bad)
  | .ok _ _ => .bad
  | .exc x s' => .exc x s'.per
  | .bad => .bad) else .bad
def lev (T : Tab) : Nat → Rec
  | 0 => ⟨fun _ _ => P.bad, fun _ _ => P.bad⟩
  | n + 1 => ⟨fun f args => match (T.fn f) with
      | some fn => callBy (evSt T (lev T n)) fn args
      | none => P.bad,
    fun c args => match (T.cl c).bind fun cl => (T.fn cl.init) with
      | some fn => makeBy (evSt T (lev T n)) c fn args
      | none => P.bad⟩
end DL
end
section
set_option Elab.async false
set_option linter.all false
set_option maxRecDepth 100000
/-! Rel: how plain data lies in the abstract heap. -/
namespace DL
open PySem L2
/-- the written part, the classes' places -/
structure Lk where
  K : PySem.W.Frag
  at_ : Nat → Addr
/-- a list of the written part -/
def KL (K : PySem.W.Frag) (a : Addr) (xs : List V) : Prop := ∃ (o : Obj) (its : Array Value) (n : Nat), K.lookup a = some o ∧ o.cls = .type "list" ∧ o.dict = none ∧ o.data = .seq its n ∧ its.size ≤ sizeLine ∧ Vals xs its.toList
section
variable (ca : Lk)
mutual
def RV (A : Addr → Prop) (mp : List Addr) (H : Hp) : D → V → Prop
  | .non, v => v = .non
  | .bl b, v => v = .bl b
  | .int i, v => v = .int i
  | .str x, v => v = .str x
  | .tup xs, v => ∃ a vs, v = .ref a ∧ H a = some (.tup vs) ∧ RVs A mp H xs vs
  | .lst xs, v => ∃ a vs, v = .ref a ∧ ¬ A a ∧ H a = some (.lst vs) ∧ RVs A mp H xs vs
  | .dic kvs, v => ∃ a ks, v = .ref a ∧ ¬ A a ∧ H a = some (.dK ks) ∧ RD A mp H kvs ks
  | .ins c fs, v => ∃ a dx gs, v = .ref a ∧ ¬ A a ∧ H a = some (.ins (ca.at_ c) dx gs) ∧ RF A mp H fs gs
  | .exn _ _, _ => False
  | .per i, v => ∃ a, v = .ref a ∧ mp[i]? = some a
  | .scr ns, v => ∃ a, v = .ref a ∧ ((¬ A a ∧ Rd H a (.lst (ns.map V.int))) ∨ KL ca.K a (ns.map V.int))
def RVs (A : Addr → Prop) (mp : List Addr) (H : Hp) : List D → List V → Prop
  | [], vs => vs = []
  | d :: ds, vs => ∃ v r, vs = v :: r ∧ RV A mp H d v ∧ RVs A mp H ds r
def RD (A : Addr → Prop) (mp : List Addr) (H : Hp) : List (D × D) → List (Key × V) → Prop
  | [], ks => ks = []
  | (k, d) :: r, ks => ∃ key v q, ks = (key, v) :: q ∧ k.key = some key ∧ RV A mp H d v ∧ RD A mp H r q
def RF (A : Addr → Prop) (mp : List Addr) (H : Hp) : List (Str × D) → List (Str × V) → Prop
  | [], gs => gs = []
  | (f, d) :: r, gs => ∃ v q, gs = (f, v) :: q ∧ RV A mp H d v ∧ RF A mp H r q
end
/-- the object at a holds this -/
def Top (A : Addr → Prop) (mp : List Addr) (H : Hp) (a : Addr) : D → Prop
  | .lst xs => ∃ vs, H a = some (.lst vs) ∧ RVs ca A mp H xs vs
  | .dic kvs => ∃ ks, H a = some (.dK ks) ∧ RD ca A mp H kvs ks
  | .ins c fs => ∃ dx gs, H a = some (.ins (ca.at_ c) dx gs) ∧ RF ca A mp H fs gs
  | _ => False
/-- what may be read: itself, or an object of our own -/
def RT (A : Addr → Prop) (mp : List Addr) (H : Hp) (d : D) (v : V) : Prop := RV ca A mp H d v ∨ ∃ a, v = .ref a ∧ a ∉ mp ∧ Top ca A mp H a d
/-- objects that stand are not changed -/
structure Fr (mp : List Addr) (H H' : Hp) : Prop where
  keep : ∀ a o, H a = some o → a ∉ mp → H' a = some o
  tup : ∀ a vs, H a = some (.tup vs) → H' a = some (.tup vs)
end
theorem Fr.refl {mp : List Addr} {H : Hp} : Fr mp H H := ⟨fun _ _ h _ => h, fun _ _ h => h⟩
theorem Fr.trans {mp : List Addr} {H H1 H2 : Hp} (a : Fr mp H H1) (b : Fr mp H1 H2) : Fr mp H H2 :=
  ⟨fun x o h n => b.keep x o (a.keep x o h n) n, fun x vs h => b.tup x vs (a.tup x vs h)⟩
theorem Fr.new {mp : List Addr} {H : Hp} {p : Addr} {o : HO} (hp : H p = none) : Fr mp H (upd H p o) :=
  ⟨fun a u h _ => by rw [upd_ne (ne_of_none h hp)]; exact h, fun a vs h => by rw [upd_ne (ne_of_none h hp)]; exact h⟩
theorem Fr.none {mp : List Addr} {H H' : Hp} {a : Addr} (f : Fr mp H H') (hm : a ∉ mp) (h : H' a = none) : H a = none := by
  cases q : H a with
  | none => rfl
  | some o => rw [f.keep a o q hm] at h; cases h
section
variable {ca : Lk} {A A' : Addr → Prop} {mp mp' : List Addr} {H H' : Hp}
mutual
theorem RV.mono (hk : ∀ a o, H a = some o → ¬ A a → H' a = some o) (ht : ∀ a vs, H a = some (.tup vs) → H' a = some (.tup vs)) (hA : ∀ a, A' a → A a ∨ H a = none) (hm : ∀ (i : Nat) (a : Addr), mp[i]? = some a → mp'[i]? = some a) :
    ∀ (d : D) (v : V), RV ca A mp H d v → RV ca A' mp' H' d v
  | .non, _, h => by simpa [RV] using h
  | .bl _, _, h => by simpa [RV] using h
  | .int _, _, h => by simpa [RV] using h
  | .str _, _, h => by simpa [RV] using h
  | .tup xs, v, h => by
    simp only [RV] at h ⊢
    obtain ⟨a, vs, e, ha, r⟩ := h
    exact ⟨a, vs, e, ht a vs ha, RVs.mono hk ht hA hm xs vs r⟩
  | .lst xs, v, h => by
    simp only [RV] at h ⊢
    obtain ⟨a, vs, e, n, ha, r⟩ := h
    refine ⟨a, vs, e, fun z => ?_, hk a _ ha n, RVs.mono hk ht hA hm xs vs r⟩
    rcases hA a z with z | z
    · exact n z
    · rw [ha] at z; cases z
  | .dic kvs, v, h => by
    simp only [RV] at h ⊢
    obtain ⟨a, ks, e, n, ha, r⟩ := h
    refine ⟨a, ks, e, fun z => ?_, hk a _ ha n, RD.mono hk ht hA hm kvs ks r⟩
    rcases hA a z with z | z
    · exact n z
    · rw [ha] at z; cases z
  | .ins c fs, v, h => by
    simp only [RV] at h ⊢
    obtain ⟨a, dx, gs, e, n, ha, r⟩ := h
    refine ⟨a, dx, gs, e, fun z => ?_, hk a _ ha n, RF.mono hk ht hA hm fs gs r⟩
    rcases hA a z with z | z
    · exact n z
    · rw [ha] at z; cases z
  | .exn _ _, _, h => by simp [RV] at h
  | .per i, v, h => by
    simp only [RV] at h ⊢
    obtain ⟨a, e, q⟩ := h
    exact ⟨a, e, hm i a q⟩
  | .scr ns, v, h => by
    simp only [RV] at h ⊢
    obtain ⟨a, e, ⟨n, q⟩ | q⟩ := h
    · refine ⟨a, e, .inl ⟨fun z => ?_, ?_⟩⟩
      · rcases hA a z with z | z
        · exact n z
        · rcases q with q | ⟨o, q⟩ <;> · rw [q] at z; cases z
      · rcases q with q | ⟨o, q⟩
        · exact .inl (hk a _ q n)
        · exact .inr ⟨o, hk a _ q n⟩
    · exact ⟨a, e, .inr q⟩
theorem RVs.mono (hk : ∀ a o, H a = some o → ¬ A a → H' a = some o) (ht : ∀ a vs, H a = some (.tup vs) → H' a = some (.tup vs)) (hA : ∀ a, A' a → A a ∨ H a = none) (hm : ∀ (i : Nat) (a : Addr), mp[i]? = some a → mp'[i]? = some a) :
    ∀ (ds : List D) (vs : List V), RVs ca A mp H ds vs → RVs ca A' mp' H' ds vs
  | [], _, h => by simpa [RVs] using h
  | d :: ds, vs, h => by
    simp only [RVs] at h ⊢
    obtain ⟨v, r, e, h1, h2⟩ := h
    exact ⟨v, r, e, RV.mono hk ht hA hm d v h1, RVs.mono hk ht hA hm ds r h2⟩
theorem RD.mono (hk : ∀ a o, H a = some o → ¬ A a → H' a = some o) (ht : ∀ a vs, H a = some (.tup vs) → H' a = some (.tup vs)) (hA : ∀ a, A' a → A a ∨ H a = none) (hm : ∀ (i : Nat) (a : Addr), mp[i]? = some a → mp'[i]? = some a) :
    ∀ (ds : List (D × D)) (vs : List (Key × V)), RD ca A mp H ds vs → RD ca A' mp' H' ds vs
  | [], _, h => by simpa [RD] using h
  | (k, d) :: ds, vs, h => by
    simp only [RD] at h ⊢
    obtain ⟨key, v, r, e, hk1, h1, h2⟩ := h
    exact ⟨key, v, r, e, hk1, RV.mono hk ht hA hm d v h1, RD.mono hk ht hA hm ds r h2⟩
theorem RF.mono (hk : ∀ a o, H a = some o → ¬ A a → H' a = some o) (ht : ∀ a vs, H a = some (.tup vs) → H' a = some (.tup vs)) (hA : ∀ a, A' a → A a ∨ H a = none) (hm : ∀ (i : Nat) (a : Addr), mp[i]? = some a → mp'[i]? = some a) :
    ∀ (ds : List (Str × D)) (vs : List (Str × V)), RF ca A mp H ds vs → RF ca A' mp' H' ds vs
  | [], _, h => by simpa [RF] using h
  | (f, d) :: ds, vs, h => by
    simp only [RF] at h ⊢
    obtain ⟨v, r, e, h1, h2⟩ := h
    exact ⟨v, r, e, RV.mono hk ht hA hm d v h1, RF.mono hk ht hA hm ds r h2⟩
end
mutual
theorem RV.imm : ∀ (d : D) (v : V), d.imm = true → RV ca A mp H d v → RV ca A' mp H d v
  | .non, _, _, h => by simpa [RV] using h
  | .bl _, _, _, h => by simpa [RV] using h
  | .int _, _, _, h => by simpa [RV] using h
  | .str _, _, _, h => by simpa [RV] using h
  | .tup xs, v, i, h => by
    simp only [RV] at h ⊢
    obtain ⟨a, vs, e, ha, r⟩ := h
    exact ⟨a, vs, e, ha, RVs.imm xs vs (by simpa [D.imm] using i) r⟩
  | .lst xs, v, i, h => by simp [D.imm] at i
  | .dic kvs, v, i, h => by simp [D.imm] at i
  | .ins c fs, v, i, h => by simp [D.imm] at i
  | .exn _ _, _, i, h => by simp [D.imm] at i
  | .per _, v, _, h => by simpa [RV] using h
  | .scr _, v, i, h => by simp [D.imm] at i
theorem RVs.imm : ∀ (ds : List D) (vs : List V), D.imms ds = true → RVs ca A mp H ds vs → RVs ca A' mp H ds vs
  | [], _, _, h => by simpa [RVs] using h
  | d :: ds, vs, i, h => by
    simp only [RVs] at h ⊢
    obtain ⟨v, r, e, h1, h2⟩ := h
    have i' : d.imm = true ∧ D.imms ds = true := by simpa [D.imms] using i
    exact ⟨v, r, e, RV.imm d v i'.1 h1, RVs.imm ds r i'.2 h2⟩
end
theorem RV.flat {d : D} {v : V} (i : d.flat = true) (h : RV ca A mp H d v) : RV ca A' mp H d v := by
  refine RV.imm d v ?_ h
  cases d <;> simp [D.flat] at i <;> simp [D.imm]
/-- behind an expression -/
theorem RV.fr {d : D} {v : V} (f : Fr mp H H') (hA : ∀ a ∈ mp, A a) (h : RV ca A mp H d v) : RV ca A mp H' d v :=
  RV.mono (fun a o q n => f.keep a o q fun z => n (hA a z)) f.tup (fun _ z => .inl z) (fun _ _ q => q) d v h
theorem RVs.fr {d : List D} {v : List V} (f : Fr mp H H') (hA : ∀ a ∈ mp, A a) (h : RVs ca A mp H d v) : RVs ca A mp H' d v :=
  RVs.mono (fun a o q n => f.keep a o q fun z => n (hA a z)) f.tup (fun _ z => .inl z) (fun _ _ q => q) d v h
theorem RD.fr {d : List (D × D)} {v : List (Key × V)} (f : Fr mp H H') (hA : ∀ a ∈ mp, A a) (h : RD ca A mp H d v) : RD ca A mp H' d v :=
  RD.mono (fun a o q n => f.keep a o q fun z => n (hA a z)) f.tup (fun _ z => .inl z) (fun _ _ q => q) d v h
theorem RF.fr {d : List (Str × D)} {v : List (Str × V)} (f : Fr mp H H') (hA : ∀ a ∈ mp, A a) (h : RF ca A mp H d v) : RF ca A mp H' d v :=
  RF.mono (fun a o q n => f.keep a o q fun z => n (hA a z)) f.tup (fun _ z => .inl z) (fun _ _ q => q) d v h
theorem Top.fr {d : D} {a : Addr} (f : Fr mp H H') (hA : ∀ a ∈ mp, A a) (hm : a ∉ mp) (h : Top ca A mp H a d) : Top ca A mp H' a d := by
  cases d with
  | lst xs => obtain ⟨vs, e, r⟩ := h; exact ⟨vs, f.keep _ _ e hm, r.fr f hA⟩
  | dic xs => obtain ⟨vs, e, r⟩ := h; exact ⟨vs, f.keep _ _ e hm, r.fr f hA⟩
  | ins c xs => obtain ⟨dx, vs, e, r⟩ := h; exact ⟨dx, vs, f.keep _ _ e hm, r.fr f hA⟩
  | _ => exact h.elim
theorem RT.fr {d : D} {v : V} (f : Fr mp H H') (hA : ∀ a ∈ mp, A a) (h : RT ca A mp H d v) : RT ca A mp H' d v := by
  rcases h with h | ⟨a, e, n, t⟩
  · exact .inl (h.fr f hA)
  · exact .inr ⟨a, e, n, t.fr f hA n⟩
theorem RVs.length : ∀ {ds : List D} {vs : List V}, RVs ca A mp H ds vs → vs.length = ds.length
  | [], _, h => by simp only [RVs] at h; rw [h]; rfl
  | d :: ds, vs, h => by
    simp only [RVs] at h
    obtain ⟨v, r, rfl, _, h2⟩ := h
    simp [RVs.length h2]
theorem RVs.get : ∀ {ds : List D} {vs : List V} {i : Nat} {d : D}, RVs ca A mp H ds vs → ds[i]? = some d → ∃ v, vs[i]? = some v ∧ RV ca A mp H d v
  | [], _, _, _, _, e => by simp at e
  | d :: ds, vs, 0, _, h, e => by
    simp only [RVs] at h
    obtain ⟨v, r, rfl, h1, _⟩ := h
    simp at e; subst e
    exact ⟨v, by simp, h1⟩
  | d :: ds, vs, i + 1, _, h, e => by
    simp only [RVs] at h
    obtain ⟨v, r, rfl, _, h2⟩ := h
    obtain ⟨w, q, z⟩ := RVs.get (i := i) h2 (by simpa using e)
    exact ⟨w, by simpa using q, z⟩
theorem RVs.of : ∀ {ds : List D} {vs : List V}, vs.length = ds.length → (∀ (i : Nat) (d : D) (v : V), ds[i]? = some d → vs[i]? = some v → RV ca A mp H d v) → RVs ca A mp H ds vs
  | [], vs, h, _ => by
    simp only [RVs]
    exact List.length_eq_zero_iff.mp h
  | d :: ds, [], h, _ => by simp at h
  | d :: ds, v :: vs, h, q => by
    simp only [RVs]
    exact ⟨v, vs, rfl, q 0 d v (by simp) (by simp), RVs.of (by simpa using h) fun i d' v' h1 h2 => q (i + 1) d' v' (by simpa using h1) (by simpa using h2)⟩
theorem RVs.app : ∀ {ds es : List D} {vs ws : List V}, RVs ca A mp H ds vs → RVs ca A mp H es ws → RVs ca A mp H (ds ++ es) (vs ++ ws)
  | [], _, _, _, h, q => by simp only [RVs] at h; subst h; simpa using q
  | d :: ds, es, vs, ws, h, q => by
    simp only [RVs] at h
    obtain ⟨v, r, rfl, h1, h2⟩ := h
    simp only [List.cons_append, RVs]
    exact ⟨v, r ++ ws, rfl, h1, RVs.app h2 q⟩
theorem RVs.take : ∀ {ds : List D} {vs : List V} (n : Nat), RVs ca A mp H ds vs → RVs ca A mp H (ds.take n) (vs.take n)
  | ds, vs, 0, _ => by simp [RVs]
  | [], _, n + 1, h => by simp only [RVs] at h; subst h; simp [RVs]
  | d :: ds, vs, n + 1, h => by
    simp only [RVs] at h
    obtain ⟨v, r, rfl, h1, h2⟩ := h
    simp only [List.take_succ_cons, RVs]
    exact ⟨v, _, rfl, h1, RVs.take n h2⟩
theorem RVs.drop : ∀ {ds : List D} {vs : List V} (n : Nat), RVs ca A mp H ds vs → RVs ca A mp H (ds.drop n) (vs.drop n)
  | ds, vs, 0, h => by simpa using h
  | [], _, n + 1, h => by simp only [RVs] at h; subst h; simp [RVs]
  | d :: ds, vs, n + 1, h => by
    simp only [RVs] at h
    obtain ⟨v, r, rfl, h1, h2⟩ := h
    simpa using RVs.drop n h2
theorem RVs.set : ∀ {ds : List D} {vs : List V} (n : Nat) {d : D} {v : V}, RVs ca A mp H ds vs → RV ca A mp H d v → RVs ca A mp H (ds.set n d) (vs.set n v)
  | [], _, n, _, _, h, _ => by simp only [RVs] at h; subst h; simp [RVs]
  | d :: ds, vs, 0, _, w, h, q => by
    simp only [RVs] at h
    obtain ⟨v, r, rfl, h1, h2⟩ := h
    simp only [List.set_cons_zero, RVs]
    exact ⟨w, _, rfl, q, h2⟩
  | d :: ds, vs, n + 1, _, w, h, q => by
    simp only [RVs] at h
    obtain ⟨v, r, rfl, h1, h2⟩ := h
    simp only [List.set_cons_succ, RVs]
    exact ⟨v, _, rfl, h1, RVs.set n h2 q⟩
theorem RVs.eraseIdx : ∀ {ds : List D} {vs : List V} (n : Nat), RVs ca A mp H ds vs → RVs ca A mp H (ds.eraseIdx n) (vs.eraseIdx n)
  | [], _, n, h => by simp only [RVs] at h; subst h; simp [RVs]
  | d :: ds, vs, 0, h => by
    simp only [RVs] at h
    obtain ⟨v, r, rfl, h1, h2⟩ := h
    simpa using h2
  | d :: ds, vs, n + 1, h => by
    simp only [RVs] at h
    obtain ⟨v, r, rfl, h1, h2⟩ := h
    simp only [List.eraseIdx_cons_succ, RVs]
    exact ⟨v, _, rfl, h1, RVs.eraseIdx n h2⟩
end
end DL
end
section
set_option Elab.async false
set_option linter.all false
set_option maxRecDepth 100000
/-! Snd: an expression's reading by its meaning. -/
namespace DL
open PySem L2
def AA (A : Addr → Prop) (mp : List Addr) : Addr → Prop := fun a => A a ∨ a ∈ mp
theorem AA.mem {A : Addr → Prop} {mp : List Addr} : ∀ a ∈ mp, AA A mp a := fun _ h => .inr h
/-- from one heap to a later one -/
structure Ext (mp : List Addr) (H : Hp) (mp' : List Addr) (H' : Hp) : Prop where
  fr : Fr mp H H'
  pre : ∀ (i : Nat) (a : Addr), mp[i]? = some a → mp'[i]? = some a
  new : ∀ a ∈ mp', a ∈ mp ∨ H a = none
theorem Ext.refl {mp : List Addr} {H : Hp} : Ext mp H mp H := ⟨Fr.refl, fun _ _ h => h, fun _ h => .inl h⟩
theorem Ext.alloc {mp : List Addr} {H : Hp} {p : Addr} {o : HO} (h : H p = none) : Ext mp H mp (upd H p o) := ⟨Fr.new h, fun _ _ h => h, fun _ h => .inl h⟩
theorem Ext.mem {mp mp' : List Addr} {H H' : Hp} (e : Ext mp H mp' H') {a : Addr} (h : a ∈ mp) : a ∈ mp' := by
  obtain ⟨i, hi⟩ := List.getElem?_of_mem h
  exact List.mem_of_getElem? (e.pre i a hi)
theorem Ext.trans {m m1 m2 : List Addr} {H H1 H2 : Hp} (a : Ext m H m1 H1) (b : Ext m1 H1 m2 H2) : Ext m H m2 H2 := by
  refine ⟨⟨fun x o h n => ?_, fun x vs h => b.fr.tup x vs (a.fr.tup x vs h)⟩, fun i x h => b.pre i x (a.pre i x h), fun x h => ?_⟩
  · refine b.fr.keep x o (a.fr.keep x o h n) fun z => ?_
    rcases a.new x z with z | z
    · exact n z
    · rw [h] at z; cases z
  · rcases b.new x h with z | z
    · exact a.new x z
    · by_cases q : x ∈ m
      · exact .inl q
      · exact .inr (a.fr.none q z)
section
variable {ca : Lk} {A B : Addr → Prop} {mp mp' : List Addr} {H H' : Hp}
theorem Ext.avoid (e : Ext mp H mp' H') {a : Addr} (h : AA A mp' a) : AA A mp a ∨ H a = none := by
  rcases h with h | h
  · exact .inl (.inl h)
  · rcases e.new a h with h | h
    · exact .inl (.inr h)
    · exact .inr h
theorem Ext.rv {d : D} {v : V} (e : Ext mp H mp' H') (h : RV ca (AA A mp) mp H d v) : RV ca (AA A mp') mp' H' d v :=
  RV.mono (fun a o q n => e.fr.keep a o q fun z => n (.inr z)) e.fr.tup (fun a z => e.avoid z) e.pre d v h
theorem Ext.rvs {d : List D} {v : List V} (e : Ext mp H mp' H') (h : RVs ca (AA A mp) mp H d v) : RVs ca (AA A mp') mp' H' d v :=
  RVs.mono (fun a o q n => e.fr.keep a o q fun z => n (.inr z)) e.fr.tup (fun a z => e.avoid z) e.pre d v h
theorem Ext.rd {d : List (D × D)} {v : List (Key × V)} (e : Ext mp H mp' H') (h : RD ca (AA A mp) mp H d v) : RD ca (AA A mp') mp' H' d v :=
  RD.mono (fun a o q n => e.fr.keep a o q fun z => n (.inr z)) e.fr.tup (fun a z => e.avoid z) e.pre d v h
theorem Ext.rf {d : List (Str × D)} {v : List (Str × V)} (e : Ext mp H mp' H') (h : RF ca (AA A mp) mp H d v) : RF ca (AA A mp') mp' H' d v :=
  RF.mono (fun a o q n => e.fr.keep a o q fun z => n (.inr z)) e.fr.tup (fun a z => e.avoid z) e.pre d v h
theorem Ext.top {d : D} {a : Addr} (e : Ext mp H mp' H') (hm : a ∉ mp) (h : Top ca (AA A mp) mp H a d) : Top ca (AA A mp') mp' H' a d := by
  cases d with
  | lst xs => obtain ⟨vs, q, r⟩ := h; exact ⟨vs, e.fr.keep _ _ q hm, e.rvs r⟩
  | dic xs => obtain ⟨vs, q, r⟩ := h; exact ⟨vs, e.fr.keep _ _ q hm, e.rd r⟩
  | ins c xs => obtain ⟨dx, vs, q, r⟩ := h; exact ⟨dx, vs, e.fr.keep _ _ q hm, e.rf r⟩
  | _ => exact h.elim
theorem Top.some {d : D} {a : Addr} (h : Top ca A mp H a d) : ∃ o, H a = some o := by
  cases d with
  | lst xs => obtain ⟨vs, q, r⟩ := h; exact ⟨_, q⟩
  | dic xs => obtain ⟨vs, q, r⟩ := h; exact ⟨_, q⟩
  | ins c xs => obtain ⟨dx, vs, q, r⟩ := h; exact ⟨_, q⟩
  | _ => exact h.elim
theorem Ext.rt {d : D} {v : V} (e : Ext mp H mp' H') (h : RT ca (AA A mp) mp H d v) : RT ca (AA A mp') mp' H' d v := by
  rcases h with h | ⟨a, q, n, t⟩
  · exact .inl (e.rv h)
  · refine .inr ⟨a, q, fun z => ?_, e.top n t⟩
    obtain ⟨o, ho⟩ := t.some
    rcases e.new a z with z | z
    · exact n z
    · rw [ho] at z; cases z
theorem RV.less {d : D} {v : V} (hB : ∀ a, B a → A a) (h : RV ca A mp H d v) : RV ca B mp H d v :=
  RV.mono (fun _ _ q _ => q) (fun _ _ q => q) (fun a z => .inl (hB a z)) (fun _ _ q => q) d v h
theorem RVs.less {d : List D} {v : List V} (hB : ∀ a, B a → A a) (h : RVs ca A mp H d v) : RVs ca B mp H d v :=
  RVs.mono (fun _ _ q _ => q) (fun _ _ q => q) (fun a z => .inl (hB a z)) (fun _ _ q => q) d v h
theorem RF.less {d : List (Str × D)} {v : List (Str × V)} (hB : ∀ a, B a → A a) (h : RF ca A mp H d v) : RF ca B mp H d v :=
  RF.mono (fun _ _ q _ => q) (fun _ _ q => q) (fun a z => .inl (hB a z)) (fun _ _ q => q) d v h
theorem AA.less (hB : ∀ a, B a → A a) : ∀ a, AA B mp a → AA A mp a := fun a h => h.imp (hB a) id
end

/-! ### standing objects -/
def PerOk (ca : Lk) (mp : List Addr) (H : Hp) (a : Addr) : D → Prop
  | .lst xs => D.imms xs = true ∧ ∃ vs, H a = some (.lst vs) ∧ RVs ca (fun _ => False) mp H xs vs
  | _ => False
structure PerRel (ca : Lk) (mp : List Addr) (H : Hp) (per : List D) : Prop where
  len : mp.length = per.length
  nd : mp.Nodup
  ok : ∀ (i : Nat) (a : Addr) (d : D), mp[i]? = some a → per[i]? = some d → PerOk ca mp H a d
theorem PerOk.some {ca : Lk} {mp : List Addr} {H : Hp} {a : Addr} {d : D} (h : PerOk ca mp H a d) : ∃ o, H a = some o := by
  cases d with
  | lst xs => obtain ⟨_, vs, q, _⟩ := h; exact ⟨_, q⟩
  | _ => exact h.elim
theorem PerRel.some {ca : Lk} {mp : List Addr} {H : Hp} {per : List D} (h : PerRel ca mp H per) {a : Addr} (hm : a ∈ mp) : ∃ o, H a = some o := by
  obtain ⟨i, hi⟩ := List.getElem?_of_mem hm
  have hl : i < per.length := by rw [← h.len]; exact (List.getElem?_eq_some_iff.mp hi).1
  exact (h.ok i a per[i] hi (by simp [hl])).some
theorem PerRel.notMem {ca : Lk} {mp : List Addr} {H : Hp} {per : List D} (h : PerRel ca mp H per) {a : Addr} (hn : H a = none) : a ∉ mp := fun hm => by
  obtain ⟨o, e⟩ := h.some hm
  rw [hn] at e; cases e
/-- nothing stood there: a new object is laid -/
theorem PerRel.alloc {ca : Lk} {mp : List Addr} {H : Hp} {per : List D} {p : Addr} {o : HO} (h : PerRel ca mp H per) (hp : H p = none) : PerRel ca mp (upd H p o) per := by
  refine ⟨h.len, h.nd, fun i a d h1 h2 => ?_⟩
  have q := h.ok i a d h1 h2
  cases d with
  | lst xs =>
    obtain ⟨im, vs, e, r⟩ := q
    refine ⟨im, vs, ?_, ?_⟩
    · rw [upd_ne (ne_of_none e hp)]; exact e
    · exact RVs.mono (fun a o q _ => by rw [upd_ne (ne_of_none q hp)]; exact q) (fun a vs q => by rw [upd_ne (ne_of_none q hp)]; exact q) (fun _ z => z.elim) (fun _ _ q => q) _ _ r
  | _ => exact q.elim

/-! ### an error, an expression's place -/
def RX (ca : Lk) (A : Addr → Prop) (mp : List Addr) (H : Hp) (x : Exc) (cls : Value) (dd : Addr) : Prop :=
  cls = .ref (ca.at_ x.c) ∧ dd ∉ mp ∧ ∃ gs, H dd = some (.xd gs) ∧ RF ca A mp H x.fs gs
/-- a caught error in its slot -/
def XR (ca : Lk) (A : Addr → Prop) (mp : List Addr) (pn : List (Addr × Obj)) (H : Hp) (c : Nat) (fs : List (Str × D)) (v : V) : Prop :=
  ∃ a oe dd gs, v = .ref a ∧ (a, oe) ∈ pn ∧ Zc (.ref (ca.at_ c)) (some dd) oe ∧ (∃ vs, oe.data = .fields vs) ∧ dd ∉ mp ∧ H dd = some (.xd gs) ∧ RF ca A mp H fs gs
/-- B: what nobody here may hold; A: what is held by one slot alone -/
structure ERel (ca : Lk) (B A : Addr → Prop) (mp : List Addr) (es : List Nat) (pn : List (Addr × Obj)) (env : Env) (σ : L2.St) (H : Hp) : Prop where
  len : env.length = σ.length
  sub : ∀ a, B a → A a
  dom : ∀ a, A a → ∃ o, H a = some o
  slot : ∀ (i : Nat) (sl : Slot), env[i]? = some (some sl) → sl.d.isExn = false → ∃ v, σ[i]? = some (some v) ∧ RT ca (AA A mp) mp H sl.d v ∧ RV ca (AA B mp) mp H sl.d v ∧ (i ∈ es → RV ca (AA A mp) mp H sl.d v)
  exn : ∀ (i : Nat) (c : Nat) (fs : List (Str × D)), env[i]? = some (some (.dat (.exn c fs))) → ∃ v, σ[i]? = some (some v) ∧ XR ca (AA A mp) mp pn H c fs v
section
variable {ca : Lk} {A B : Addr → Prop} {mp mp' : List Addr} {es es' : List Nat} {pn : List (Addr × Obj)} {env : Env} {σ : L2.St} {H H' : Hp} {per : List D}
theorem ERel.ext (r : ERel ca B A mp es pn env σ H) (p : PerRel ca mp' H' per) (e : Ext mp H mp' H') : ERel ca B A mp' es pn env σ H' := by
  refine ⟨r.len, r.sub, fun a h => ?_, fun i sl h1 h2 => ?_, fun i c fs h => ?_⟩
  · obtain ⟨o, ho⟩ := r.dom a h
    by_cases q : a ∈ mp
    · exact p.some (e.mem q)
    · exact ⟨o, e.fr.keep a o ho q⟩
  · obtain ⟨v, q, t, b, z⟩ := r.slot i sl h1 h2
    exact ⟨v, q, e.rt t, e.rv b, fun hi => e.rv (z hi)⟩
  · obtain ⟨v, q, a, oe, dd, gs, e1, e2, e3, e4, e5, e6, e7⟩ := r.exn i c fs h
    refine ⟨v, q, a, oe, dd, gs, e1, e2, e3, e4, fun z => ?_, e.fr.keep _ _ e6 e5, e.rf e7⟩
    rcases e.new dd z with z | z
    · exact e5 z
    · rw [e6] at z; cases z
theorem ERel.esc (r : ERel ca B A mp es pn env σ H) (h : ∀ i ∈ es', i ∈ es) : ERel ca B A mp es' pn env σ H :=
  ⟨r.len, r.sub, r.dom, fun i sl h1 h2 => by
    obtain ⟨v, q, t, b, z⟩ := r.slot i sl h1 h2
    exact ⟨v, q, t, b, fun hi => z (h i hi)⟩, r.exn⟩
/-- where the value is flat: nothing is held by one slot alone -/
theorem ERel.low (r : ERel ca B A mp es pn env σ H) : ERel ca B B mp es' pn env σ H :=
  ⟨r.len, fun _ h => h, fun a h => r.dom a (r.sub a h), fun i sl h1 h2 => by
    obtain ⟨v, q, t, b, z⟩ := r.slot i sl h1 h2
    exact ⟨v, q, .inl b, b, fun _ => b⟩, fun i c fs h => by
    obtain ⟨v, q, a, oe, dd, gs, e1, e2, e3, e4, e5, e6, e7⟩ := r.exn i c fs h
    exact ⟨v, q, a, oe, dd, gs, e1, e2, e3, e4, e5, e6, e7.less (AA.less r.sub)⟩⟩
/-- later, with one more place that nobody holds -/
theorem Ext.avoidQ (e : Ext mp H mp' H') {q a : Addr} (hq : H q = none) (h : AA (fun a => A a ∨ a = q) mp' a) : AA A mp a ∨ H a = none := by
  rcases h with (h | h) | h
  · exact .inl (.inl h)
  · rw [h]; exact .inr hq
  · rcases e.new a h with h | h
    · exact .inl (.inr h)
    · exact .inr h
theorem Ext.rvQ {d : D} {v : V} {q : Addr} (e : Ext mp H mp' H') (hq : H q = none) (h : RV ca (AA A mp) mp H d v) : RV ca (AA (fun a => A a ∨ a = q) mp') mp' H' d v :=
  RV.mono (fun a o z n => e.fr.keep a o z fun y => n (.inr y)) e.fr.tup (fun a z => e.avoidQ hq z) e.pre d v h
theorem Ext.rvsQ {d : List D} {v : List V} {q : Addr} (e : Ext mp H mp' H') (hq : H q = none) (h : RVs ca (AA A mp) mp H d v) : RVs ca (AA (fun a => A a ∨ a = q) mp') mp' H' d v :=
  RVs.mono (fun a o z n => e.fr.keep a o z fun y => n (.inr y)) e.fr.tup (fun a z => e.avoidQ hq z) e.pre d v h
theorem Ext.rdQ {d : List (D × D)} {v : List (Key × V)} {q : Addr} (e : Ext mp H mp' H') (hq : H q = none) (h : RD ca (AA A mp) mp H d v) : RD ca (AA (fun a => A a ∨ a = q) mp') mp' H' d v :=
  RD.mono (fun a o z n => e.fr.keep a o z fun y => n (.inr y)) e.fr.tup (fun a z => e.avoidQ hq z) e.pre d v h
theorem Ext.rfQ {d : List (Str × D)} {v : List (Str × V)} {q : Addr} (e : Ext mp H mp' H') (hq : H q = none) (h : RF ca (AA A mp) mp H d v) : RF ca (AA (fun a => A a ∨ a = q) mp') mp' H' d v :=
  RF.mono (fun a o z n => e.fr.keep a o z fun y => n (.inr y)) e.fr.tup (fun a z => e.avoidQ hq z) e.pre d v h
theorem ERel.extQ (r : ERel ca B A mp es pn env σ H) (p : PerRel ca mp' H' per) (e : Ext mp H mp' H') {q : Addr} {o : HO} (hq : H q = none) (hq' : H' q = some o) : ERel ca (fun a => B a ∨ a = q) (fun a => A a ∨ a = q) mp' es pn env σ H' := by
  refine ⟨r.len, fun a h => h.imp (r.sub a) id, fun a h => ?_, fun i sl h1 h2 => ?_, fun i c fs h => ?_⟩
  · rcases h with h | h
    · obtain ⟨u, hu⟩ := r.dom a h
      by_cases z : a ∈ mp
      · exact p.some (e.mem z)
      · exact ⟨u, e.fr.keep a u hu z⟩
    · rw [h]; exact ⟨o, hq'⟩
  · obtain ⟨v, e1, t, b, z⟩ := r.slot i sl h1 h2
    refine ⟨v, e1, ?_, e.rvQ hq b, fun hi => e.rvQ hq (z hi)⟩
    rcases t with t | ⟨a, e2, n, t⟩
    · exact .inl (e.rvQ hq t)
    · obtain ⟨o', ho'⟩ := t.some
      refine .inr ⟨a, e2, fun y => ?_, ?_⟩
      · rcases e.new a y with y | y
        · exact n y
        · rw [ho'] at y; cases y
      · revert t
        cases sl.d with
        | lst xs => exact fun ⟨vs, q1, q2⟩ => ⟨vs, e.fr.keep _ _ q1 n, e.rvsQ hq q2⟩
        | dic xs => exact fun ⟨vs, q1, q2⟩ => ⟨vs, e.fr.keep _ _ q1 n, e.rdQ hq q2⟩
        | ins c xs => exact fun ⟨dx, vs, q1, q2⟩ => ⟨dx, vs, e.fr.keep _ _ q1 n, e.rfQ hq q2⟩
        | _ => exact fun t => t.elim
  · obtain ⟨v, e1, a, oe, dd, gs, e2, e3, e4, e5, e6, e7, e8⟩ := r.exn i c fs h
    refine ⟨v, e1, a, oe, dd, gs, e2, e3, e4, e5, fun y => ?_, e.fr.keep _ _ e7 e6, e.rfQ hq e8⟩
    rcases e.new dd y with y | y
    · exact e6 y
    · rw [e7] at y; cases y
/-- a slot is set -/
theorem ERel.setDat (r : ERel ca B A mp es pn env σ H) (j : Nat) {d : D} {v : V} {σ' : L2.St} (hσ : σ'.length = σ.length) (hs : ∀ i, i ≠ j → σ'[i]? = σ[i]?) (hj : j < σ.length → σ'[j]? = some (some v)) (hx : d.isExn = false) (h : RV ca (AA A mp) mp H d v) :
    ERel ca B A mp es pn (env.set j (some (.dat d))) σ' H := by
  refine ⟨by rw [List.length_set, hσ]; exact r.len, r.sub, r.dom, fun i sl h1 h2 => ?_, fun i c fs h1 => ?_⟩
  · by_cases e : i = j
    · subst e
      have hl : i < env.length := by
        have := (List.getElem?_eq_some_iff.mp h1).1
        simpa using this
      rw [List.getElem?_set_self hl] at h1
      cases h1
      exact ⟨v, hj (by rw [← r.len]; exact hl), .inl h, h.less (AA.less r.sub), fun _ => h⟩
    · rw [List.getElem?_set_ne (Ne.symm e)] at h1
      rw [hs i e]
      exact r.slot i sl h1 h2
  · by_cases e : i = j
    · subst e
      have hl : i < env.length := by
        have := (List.getElem?_eq_some_iff.mp h1).1
        simpa using this
      rw [List.getElem?_set_self hl] at h1
      injection h1 with h1
      injection h1 with h1
      injection h1 with h1
      subst h1
      cases hx
    · rw [List.getElem?_set_ne (Ne.symm e)] at h1
      rw [hs i e]
      exact r.exn i c fs h1
theorem ERel.new (r : ERel ca B A mp es pn env σ H) (p : PerRel ca mp H per) {a : Addr} (h : H a = none) : ¬ AA A mp a := fun z => by
  rcases z with z | z
  · obtain ⟨o, ho⟩ := r.dom a z; rw [h] at ho; cases ho
  · exact p.notMem h z
end

/-! ### readings -/
section
variable (ca : Lk) (W : WX) (pn : List (Addr × Obj))
/-- what an end asks; Rt: how the value lies -/
def Res {α β : Type} (Rt : (Addr → Prop) → List Addr → Hp → α → β → Prop) (B A : Addr → Prop) (mp : List Addr) (σ : L2.St) (H : Hp) (Q : β → Hp → Prop) : Out α → Prop
  | .ok d per' => ∀ mp' H' v, Ext mp H mp' H' → PerRel ca mp' H' per' → Rt (AA A mp') mp' H' d v → Q v H'
  | .exc x per' => ∀ mp' H' cls dd, Ext mp H mp' H' → PerRel ca mp' H' per' → RX ca (AA B mp') mp' H' x cls dd → W cls (some dd) σ H'
  | .bad => False
def tG {α β : Type} (Rt : (Addr → Prop) → List Addr → Hp → α → β → Prop) (m : Env → P α) (es : List Nat) : L2.St → Hp → (β → Hp → Prop) → Prop := fun σ H Q =>
  ∃ B A env mp per, PerRel ca mp H per ∧ ERel ca B A mp es pn env σ H ∧ Res ca W Rt B A mp σ H Q (m env per)
/-- a value; what is only read; a test; several values -/
def tE (m : Env → P D) (es : List Nat) : TE := tG ca W pn (RV ca) m es
def tR (m : Env → P D) (es : List Nat) : TE := tG ca W pn (RT ca) m es
def tB (m : Env → P Bool) : TT := tG ca W pn (fun _ _ _ (b c : Bool) => c = b) m []
def tEs (m : Env → P (List D)) (es : List Nat) : TA := tG ca W pn (RVs ca) m es
end
theorem _root_.L2.PE.imp {X : Cx} {e : Expr} {t t' : TE} (h : PE X e t) (i : ∀ σ H Q, t' σ H Q → t σ H Q) : PE X e t' := ⟨fun pins s σ H Q I q => h.run pins s σ H Q I (i σ H Q q)⟩
theorem _root_.L2.PT.imp {X : Cx} {e : Expr} {t t' : TT} (h : PT X e t) (i : ∀ σ H Q, t' σ H Q → t σ H Q) : PT X e t' := ⟨fun pins s σ H Q I q => h.run pins s σ H Q I (i σ H Q q)⟩
theorem _root_.L2.PW.imp {X : Cx} {e : Expr} {t t' : TT} (h : PW X e t) (i : ∀ σ H Q, t' σ H Q → t σ H Q) : PW X e t' := ⟨fun wh pins s σ H Q I q => h.run wh pins s σ H Q I (i σ H Q q)⟩
theorem _root_.L2.PA.imp {X : Cx} {e : List Expr} {t t' : TA} (h : PA X e t) (i : ∀ σ H Q, t' σ H Q → t σ H Q) : PA X e t' := ⟨fun pos pins s σ H Q I q => h.run pos pins s σ H Q I (i σ H Q q)⟩
theorem _root_.L2.PS.imp {X : Cx} {e : Stmt} {t t' : TS} (h : PS X e t) (i : ∀ D σ H, t' D σ H → t D σ H) : PS X e t' := ⟨fun pins s σ H D I q => h.run pins s σ H D I (i D σ H q)⟩
theorem _root_.L2.PSs.imp {X : Cx} {e : List Stmt} {t t' : TS} (h : PSs X e t) (i : ∀ D σ H, t' D σ H → t D σ H) : PSs X e t' := ⟨fun pins s σ H D I q => h.run pins s σ H D I (i D σ H q)⟩

section
variable {ca : Lk} {W : WX} {pn : List (Addr × Obj)} {α β γ δ : Type} {Rt : (Addr → Prop) → List Addr → Hp → α → β → Prop} {Rt2 : (Addr → Prop) → List Addr → Hp → γ → δ → Prop}
variable {B A A1 : Addr → Prop} {mp : List Addr} {σ : L2.St} {H : Hp} {per : List D} {m : Env → P α} {f : α → Env → P γ} {es es1 : List Nat} {env : Env} {Q : δ → Hp → Prop}
/-- m first (with A1 in the place of A), then f -/
theorem tG.seq (p : PerRel ca mp H per) (r : ERel ca B A mp es pn env σ H) (r1 : ERel ca B A1 mp es1 pn env σ H) (h : Res ca W Rt2 B A mp σ H Q (P.bind (m env) (fun a => f a env) per)) {Q1 : β → Hp → Prop}
    (k : ∀ a v mp1 per1 H1, Ext mp H mp1 H1 → PerRel ca mp1 H1 per1 → ERel ca B A mp1 es pn env σ H1 → Rt (AA A1 mp1) mp1 H1 a v → Res ca W Rt2 B A mp1 σ H1 Q (f a env per1) → Q1 v H1) :
    tG ca W pn Rt m es1 σ H Q1 := by
  refine ⟨B, A1, env, mp, per, p, r1, ?_⟩
  unfold P.bind at h
  cases q : m env per with
  | ok a per1 =>
    rw [q] at h
    intro mp1 H1 v e p1 hv
    refine k a v mp1 per1 H1 e p1 (r.ext p1 e) hv ?_
    revert h
    show Res ca W Rt2 B A mp σ H Q (f a env per1) → Res ca W Rt2 B A mp1 σ H1 Q (f a env per1)
    cases f a env per1 with
    | ok c per2 => exact fun h mp2 H2 w e2 p2 hw => h mp2 H2 w (e.trans e2) p2 hw
    | exc x per2 => exact fun h mp2 H2 c dd e2 p2 hx => h mp2 H2 c dd (e.trans e2) p2 hx
    | bad => exact fun h => h
  | exc x per1 => rw [q] at h; exact h
  | bad => rw [q] at h; exact h
end
end DL
end
section
set_option Elab.async false
set_option linter.all false
set_option maxRecDepth 100000
/-! Ops: operators, by values. -/
namespace DL
open PySem L2 PyProof.Rows
structure Now (ca : Lk) (A : Addr → Prop) (mp : List Addr) (per : List D) (H : Hp) : Prop where
  per : PerRel ca mp H per
  dom : ∀ a, A a → ∃ o, H a = some o
/-- what is read now: itself, or what stands at its place -/
def RC (ca : Lk) (A : Addr → Prop) (mp : List Addr) (H : Hp) (d : D) (v : V) : Prop := RV ca (AA A mp) mp H d v ∨ ∃ a, v = .ref a ∧ Top ca (AA A mp) mp H a d
section
variable {ca : Lk} {A : Addr → Prop} {mp : List Addr} {per : List D} {H : Hp} {d : D} {v : V}
theorem Now.new (n : Now ca A mp per H) {p : Addr} (h : H p = none) : ¬ AA A mp p := fun z => by
  rcases z with z | z
  · obtain ⟨o, ho⟩ := n.dom p z; rw [h] at ho; cases ho
  · exact n.per.notMem h z
theorem RT.rc (h : RT ca (AA A mp) mp H d v) : RC ca A mp H d v := by
  rcases h with h | ⟨a, e, _, t⟩
  · exact .inl h
  · exact .inr ⟨a, e, t⟩
theorem RC.lst {xs : List D} (h : RC ca A mp H (.lst xs) v) : ∃ a vs, v = .ref a ∧ H a = some (.lst vs) ∧ RVs ca (AA A mp) mp H xs vs := by
  rcases h with h | ⟨a, e, vs, q, r⟩
  · simp only [RV] at h
    obtain ⟨a, vs, e, _, q, r⟩ := h
    exact ⟨a, vs, e, q, r⟩
  · exact ⟨a, vs, e, q, r⟩
theorem RC.dic {xs : List (D × D)} (h : RC ca A mp H (.dic xs) v) : ∃ a vs, v = .ref a ∧ H a = some (.dK vs) ∧ RD ca (AA A mp) mp H xs vs := by
  rcases h with h | ⟨a, e, vs, q, r⟩
  · simp only [RV] at h
    obtain ⟨a, vs, e, _, q, r⟩ := h
    exact ⟨a, vs, e, q, r⟩
  · exact ⟨a, vs, e, q, r⟩
theorem RC.ins {c : Nat} {xs : List (Str × D)} (h : RC ca A mp H (.ins c xs) v) : ∃ a dx vs, v = .ref a ∧ H a = some (.ins (ca.at_ c) dx vs) ∧ RF ca (AA A mp) mp H xs vs := by
  rcases h with h | ⟨a, e, dx, vs, q, r⟩
  · simp only [RV] at h
    obtain ⟨a, dx, vs, e, _, q, r⟩ := h
    exact ⟨a, dx, vs, e, q, r⟩
  · exact ⟨a, dx, vs, e, q, r⟩
theorem RC.tup {xs : List D} (h : RC ca A mp H (.tup xs) v) : ∃ a vs, v = .ref a ∧ H a = some (.tup vs) ∧ RVs ca (AA A mp) mp H xs vs := by
  rcases h with h | ⟨a, e, t⟩
  · simp only [RV] at h; exact h
  · exact t.elim
theorem RC.int {i : Int} (h : RC ca A mp H (.int i) v) : v = .int i := by
  rcases h with h | ⟨a, e, t⟩
  · simpa [RV] using h
  · exact t.elim
theorem RC.bl {i : Bool} (h : RC ca A mp H (.bl i) v) : v = .bl i := by
  rcases h with h | ⟨a, e, t⟩
  · simpa [RV] using h
  · exact t.elim
theorem RC.str {i : Str} (h : RC ca A mp H (.str i) v) : v = .str i := by
  rcases h with h | ⟨a, e, t⟩
  · simpa [RV] using h
  · exact t.elim
theorem RC.non (h : RC ca A mp H .non v) : v = .non := by
  rcases h with h | ⟨a, e, t⟩
  · simpa [RV] using h
  · exact t.elim
theorem RC.scr {ns : List Int} (h : RC ca A mp H (.scr ns) v) : ∃ a, v = .ref a ∧ SqL ca.K H a (ns.map V.int) := by
  rcases h with h | ⟨a, e, t⟩
  · simp only [RV] at h
    obtain ⟨a, e, ⟨_, q⟩ | q⟩ := h
    · exact ⟨a, e, .inl q⟩
    · exact ⟨a, e, .inr q⟩
  · exact t.elim
/-- a standing object is read -/
theorem deref_rc {d' : D} {per' : List D} (p : PerRel ca mp H per) (h : RT ca (AA A mp) mp H d v) (e : deref d per = .ok d' per') : per' = per ∧ RC ca A mp H d' v := by
  unfold deref at e
  cases d with
  | per i =>
    dsimp only at e
    cases q : per[i]? with
    | none => rw [q] at e; cases e
    | some c =>
      rw [q] at e
      cases e
      refine ⟨rfl, ?_⟩
      rcases h with h | ⟨a, _, _, t⟩
      · simp only [RV] at h
        obtain ⟨a, rfl, hm⟩ := h
        have ok := p.ok i a d' hm q
        refine .inr ⟨a, rfl, ?_⟩
        cases d' with
        | lst xs => obtain ⟨im, vs, e1, r⟩ := ok; exact ⟨vs, e1, RVs.imm xs vs im r⟩
        | _ => exact ok.elim
      · exact t.elim
  | _ => cases e; exact ⟨rfl, h.rc⟩
theorem deref_cases (d : D) (per : List D) : (∃ d', deref d per = .ok d' per) ∨ deref d per = .bad := by
  unfold deref
  cases d with
  | per i =>
    dsimp only
    cases q : per[i]? with
    | none => exact .inr rfl
    | some c => exact .inl ⟨c, rfl⟩
  | _ => exact .inl ⟨_, rfl⟩
/-- a value that lies now; a new one behind it -/
def KeptO (ca : Lk) (A : Addr → Prop) (mp : List Addr) (per : List D) (H : Hp) (d : D) (Q : VK) : Prop := ∀ H' v, Ext mp H mp H' → PerRel ca mp H' per → RV ca (AA A mp) mp H' d v → Q v H'
theorem KeptO.here {Q : VK} (n : Now ca A mp per H) (k : KeptO ca A mp per H d Q) (h : RV ca (AA A mp) mp H d v) : Q v H := k H v Ext.refl n.per h
/-- .. a list, a dict: a new object -/
def Kept (ca : Lk) (A : Addr → Prop) (mp : List Addr) (per : List D) (H : Hp) (d : D) (Q : VK) : Prop := ∀ H' v, Ext mp H mp H' → PerRel ca mp H' per → RV ca (AA A mp) mp H' d v → (d.box = true → ∃ a, v = .ref a ∧ H a = none ∧ Top ca (fun b => AA A mp b ∨ b = a) mp H' a d) → Q v H'
theorem KeptO.kept {Q : VK} (k : KeptO ca A mp per H d Q) : Kept ca A mp per H d Q := fun H' v e p h _ => k H' v e p h
theorem Kept.here {Q : VK} (n : Now ca A mp per H) (k : Kept ca A mp per H d Q) (h : RV ca (AA A mp) mp H d v) (hd : d.box = false := by rfl) : Q v H := k H v Ext.refl n.per h (fun z => by rw [hd] at z; cases z)
theorem Kept.lst {Q : VK} {xs : List D} {vs : List V} {p : Addr} (n : Now ca A mp per H) (k : Kept ca A mp per H (.lst xs) Q) (h : RVs ca (AA A mp) mp H xs vs) (hp : H p = none) : Q (.ref p) (upd H p (.lst vs)) := by
  refine k _ _ (Ext.alloc hp) (n.per.alloc hp) ?_ fun _ => ⟨p, rfl, hp, vs, upd_same, ((Ext.alloc (o := .lst vs) hp).rvsQ hp h).less fun b z => z.elim (fun z => z.imp .inl id) fun z => .inl (.inr z)⟩
  simp only [RV]
  exact ⟨p, vs, rfl, n.new hp, upd_same, (Ext.alloc (o := .lst vs) hp).rvs h⟩
theorem Kept.tup {Q : VK} {xs : List D} {vs : List V} {p : Addr} (n : Now ca A mp per H) (k : Kept ca A mp per H (.tup xs) Q) (h : RVs ca (AA A mp) mp H xs vs) (hp : H p = none) : Q (.ref p) (upd H p (.tup vs)) := by
  refine k _ _ (Ext.alloc hp) (n.per.alloc hp) ?_ fun z => nomatch z
  simp only [RV]
  exact ⟨p, vs, rfl, upd_same, (Ext.alloc (o := .tup vs) hp).rvs h⟩
end
/-- two operands, by data (an old thing) -/
def rOpO (ca : Lk) (g : D → D → Option D) : R2 := fun x y H Q => ∃ A mp per d1 d2 d, Now ca A mp per H ∧ RC ca A mp H d1 x ∧ RC ca A mp H d2 y ∧ g d1 d2 = some d ∧ KeptO ca A mp per H d Q
/-- two operands, by data -/
def rOp2 (ca : Lk) (g : D → D → Option D) : R2 := fun x y H Q => ∃ A mp per d1 d2 d, Now ca A mp per H ∧ RC ca A mp H d1 x ∧ RC ca A mp H d2 y ∧ g d1 d2 = some d ∧ Kept ca A mp per H d Q
section
variable {X : Cx} {ca : Lk}
theorem op_badd : OpR X (binaryOp .Add) (rOp2 ca (bop .add)) := by
  intro pins s σ H x y v u Q I rx ry h
  obtain ⟨A, mp, per, d1, d2, d, n, h1, h2, e, k⟩ := h
  cases d1 with
  | int i =>
    cases d2 with
    | int j =>
      simp only [bop, Option.some.injEq] at e; subst e
      exact op_add pins s σ H x y v u Q I rx ry ⟨i, j, h1.int, h2.int, k.here n (by simp [RV])⟩
    | _ => simp [bop] at e
  | str i =>
    cases d2 with
    | str j =>
      simp only [bop] at e
      split at e
      · rename_i hz
        simp only [Option.some.injEq] at e; subst e
        exact op_add_str pins s σ H x y v u Q I rx ry ⟨i, j, h1.str, h2.str, hz, k.here n (by simp [RV])⟩
      · cases e
    | _ => simp [bop] at e
  | lst xs =>
    cases d2 with
    | lst ys =>
      simp only [bop] at e
      split at e
      · rename_i hz
        simp only [Option.some.injEq] at e; subst e
        obtain ⟨a, vs, rfl, ha, ra⟩ := h1.lst
        obtain ⟨b, ws, rfl, hb, rb⟩ := h2.lst
        exact op_cat pins s σ H _ _ v u Q I rx ry ⟨a, b, vs, ws, rfl, rfl, ha, hb, by rw [ra.length, rb.length]; exact hz, fun p hp => k.lst n (ra.app rb) hp⟩
      · cases e
    | _ => simp [bop] at e
  | tup xs =>
    cases d2 with
    | tup ys =>
      simp only [bop] at e
      split at e
      · rename_i hz
        simp only [Option.some.injEq] at e; subst e
        obtain ⟨a, vs, rfl, ha, ra⟩ := h1.tup
        obtain ⟨b, ws, rfl, hb, rb⟩ := h2.tup
        refine op_catA pins s σ H _ _ v u Q I rx ry ⟨a, b, vs, ws, rfl, rfl, SqT.of ha, SqT.of hb, by rw [ra.length, rb.length]; exact hz, fun e => ?_, fun _ e => ?_, fun _ _ p hp => k.tup n (ra.app rb) hp⟩
        · subst e
          refine k.here n ?_
          have e0 : xs = [] := List.length_eq_zero_iff.mp (by rw [← ra.length]; rfl)
          subst e0
          simp only [List.nil_append, RV]
          exact ⟨b, ws, rfl, hb, rb⟩
        · subst e
          refine k.here n ?_
          have e0 : ys = [] := List.length_eq_zero_iff.mp (by rw [← rb.length]; rfl)
          subst e0
          simp only [List.append_nil, RV]
          exact ⟨a, vs, rfl, ha, ra⟩
      · cases e
    | _ => simp [bop] at e
  | _ => simp [bop] at e
theorem int2 {op : Bop} {f : Value → Value → Sem Value} {C : Int → Int → Prop} {g : Int → Int → Int} (hf : OpR X f (rI C fun i j => .int (g i j)))
    (hb : ∀ d1 d2 d, bop op d1 d2 = some d → ∃ i j, d1 = .int i ∧ d2 = .int j ∧ C i j ∧ d = .int (g i j)) : OpR X f (rOp2 ca (bop op)) := by
  intro pins s σ H x y v u Q I rx ry h
  obtain ⟨A, mp, per, d1, d2, d, n, h1, h2, e, k⟩ := h
  obtain ⟨i, j, rfl, rfl, c, rfl⟩ := hb d1 d2 d e
  exact hf pins s σ H x y v u Q I rx ry ⟨i, j, h1.int, h2.int, c, k.here n (by simp [RV])⟩
theorem op_bsub : OpR X (binaryOp .Sub) (rOp2 ca (bop .sub)) := by
  intro pins s σ H x y v u Q I rx ry h
  obtain ⟨A, mp, per, d1, d2, d, n, h1, h2, e, k⟩ := h
  cases d1 <;> cases d2 <;> simp [bop] at e
  subst e
  exact op_sub pins s σ H x y v u Q I rx ry ⟨_, _, h1.int, h2.int, k.here n (by simp [RV])⟩
theorem op_bmul : OpR X (binaryOp .Mult) (rOp2 ca (bop .mul)) := int2 (C := CMulW) op_mulW fun d1 d2 d e => by
  cases d1 <;> cases d2 <;> simp [bop] at e
  exact ⟨_, _, rfl, rfl, e.1, e.2.symm⟩
theorem op_bfdiv : OpR X (binaryOp .FloorDiv) (rOp2 ca (bop .fdiv)) := int2 (C := CDivW) op_fdivW fun d1 d2 d e => by
  cases d1 <;> cases d2 <;> simp [bop] at e
  exact ⟨_, _, rfl, rfl, e.1, e.2.symm⟩
theorem op_bmod : OpR X (binaryOp .Mod) (rOp2 ca (bop .mod)) := int2 (C := fun _ j => 0 < j) op_mod fun d1 d2 d e => by
  cases d1 <;> cases d2 <;> simp [bop] at e
  exact ⟨_, _, rfl, rfl, e.1, e.2.symm⟩
theorem op_bpow : OpR X (binaryOp .Pow) (rOp2 ca (bop .pow)) := int2 (C := CPow) op_pow fun d1 d2 d e => by
  cases d1 <;> cases d2 <;> simp [bop] at e
  exact ⟨_, _, rfl, rfl, ⟨e.1.1, by omega, Nat.lt_of_lt_of_le e.1.2.2 (by decide)⟩, e.2.symm⟩
def opP : Bop → Operator
  | .add => .Add | .sub => .Sub | .mul => .Mult | .fdiv => .FloorDiv | .mod => .Mod | .pow => .Pow
theorem op_b (op : Bop) : OpR X (binaryOp (opP op)) (rOp2 ca (bop op)) := by
  cases op
  · exact op_badd
  · exact op_bsub
  · exact op_bmul
  · exact op_bfdiv
  · exact op_bmod
  · exact op_bpow
end
end DL
end
section
set_option Elab.async false
set_option linter.all false
set_option maxRecDepth 100000
/-! Eq: == and in, of plain data. -/
namespace DL
open PySem L2 PyProof.Rows
/-! ### data as the machine's heap has it -/
mutual
def Vw (h : Heap) : D → Value → Prop
  | .non, v => v = .none
  | .bl b, v => v = .bool b
  | .int i, v => ∃ t, v = .int i t
  | .str x, v => ∃ t, v = .str x t
  | .lst xs, v => ∃ l its, v = .ref l ∧ h.IsList l (List.toArray its) ∧ Vws h xs its
  | .tup xs, v => ∃ l its, v = .ref l ∧ h.IsTuple l (List.toArray its) ∧ Vws h xs its
  | _, _ => False
def Vws (h : Heap) : List D → List Value → Prop
  | [], us => us = []
  | d :: ds, us => ∃ u r, us = u :: r ∧ Vw h d u ∧ Vws h ds r
end
theorem Vws.length {h : Heap} : ∀ {ds : List D} {us : List Value}, Vws h ds us → us.length = ds.length
  | [], _, e => by simp only [Vws] at e; rw [e]; rfl
  | d :: ds, us, e => by
    simp only [Vws] at e
    obtain ⟨u, r, rfl, _, q⟩ := e
    simp [Vws.length q]
theorem Vws.get {h : Heap} : ∀ {ds : List D} {us : List Value} {j : Nat} (h1 : j < us.length), Vws h ds us → ∃ d, ds[j]? = some d ∧ Vw h d us[j]
  | [], _, _, h1, e => by simp only [Vws] at e; subst e; simp at h1
  | d :: ds, us, 0, h1, e => by
    simp only [Vws] at e
    obtain ⟨u, r, rfl, q, _⟩ := e
    exact ⟨d, by simp, by simpa using q⟩
  | d :: ds, us, j + 1, h1, e => by
    simp only [Vws] at e
    obtain ⟨u, r, rfl, _, q⟩ := e
    obtain ⟨d', e1, e2⟩ := Vws.get (j := j) (by simpa using h1) q
    exact ⟨d', by simpa using e1, by simpa using e2⟩
section
variable {ca : Lk} {A : Addr → Prop} {mp : List Addr} {X : Cx} {pins : List (Addr × Obj)} {σ : L2.St} {H : Hp} {s : Shared}
mutual
theorem RC.vw (I : Inv X pins σ H s) : ∀ (d : D) (x : V) (v : Value), d.plain = true → RC ca A mp H d x → RelV x v → Vw s.heap d v
  | .non, x, v, _, h, r => by have e := h.non; subst e; cases r; simp [Vw]
  | .bl b, x, v, _, h, r => by have e := h.bl; subst e; cases r; simp [Vw]
  | .int i, x, v, _, h, r => by have e := h.int; subst e; simp only [Vw]; exact r
  | .str z, x, v, _, h, r => by have e := h.str; subst e; simp only [Vw]; exact r
  | .lst xs, x, v, p, h, r => by
    obtain ⟨a, vs, rfl, ha, ra⟩ := h.lst
    cases r
    obtain ⟨its, rv, pl, _⟩ := I.list (SqL.of ha)
    simp only [Vw]
    exact ⟨a, its, rfl, pl.isList, RVs.vw I xs vs its (by simpa [D.plain] using p) ra rv⟩
  | .tup xs, x, v, p, h, r => by
    obtain ⟨a, vs, rfl, ha, ra⟩ := h.tup
    cases r
    obtain ⟨its, rv, pl, _⟩ := I.tuple (SqT.of ha)
    simp only [Vw]
    exact ⟨a, its, rfl, pl, RVs.vw I xs vs its (by simpa [D.plain] using p) ra rv⟩
  | .dic _, _, _, p, _, _ => by simp [D.plain] at p
  | .ins _ _, _, _, p, _, _ => by simp [D.plain] at p
  | .exn _ _, _, _, p, _, _ => by simp [D.plain] at p
  | .per _, _, _, p, _, _ => by simp [D.plain] at p
  | .scr _, _, _, p, _, _ => by simp [D.plain] at p
theorem RVs.vw (I : Inv X pins σ H s) : ∀ (ds : List D) (vs : List V) (us : List Value), D.plains ds = true → RVs ca (AA A mp) mp H ds vs → Vals vs us → Vws s.heap ds us
  | [], vs, us, _, h, r => by
    simp only [RVs] at h
    subst h
    cases r
    simp [Vws]
  | d :: ds, vs, us, p, h, r => by
    simp only [RVs] at h
    obtain ⟨v, q, rfl, h1, h2⟩ := h
    have p' : d.plain = true ∧ D.plains ds = true := by simpa [D.plains] using p
    cases r with
    | cons r1 r2 =>
      simp only [Vws]
      exact ⟨_, _, rfl, RC.vw I d v _ p'.1 (.inl h1) r1, RVs.vw I ds q _ p'.2 h2 r2⟩
end
end
theorem list_inj {h : Heap} {l : Addr} {a b : Array Value} (x : h.IsList l a) (y : h.IsList l b) : a = b := by
  obtain ⟨o, e, c, n, d⟩ := x
  obtain ⟨o', e', c', n', d'⟩ := y
  rw [e] at e'; cases e'
  rw [d] at d'
  injection d'
theorem tuple_inj {h : Heap} {l : Addr} {a b : Array Value} (x : h.IsTuple l a) (y : h.IsTuple l b) : a = b := by
  obtain ⟨o, e, c, n, d⟩ := x
  obtain ⟨o', e', c', n', d'⟩ := y
  rw [e] at e'; cases e'
  rw [d] at d'
  injection d'
theorem list_tuple {h : Heap} {l : Addr} {a b : Array Value} (x : h.IsList l a) (y : h.IsTuple l b) : False := by
  obtain ⟨o, e, c, n, d⟩ := x
  obtain ⟨o', e', c', n', d'⟩ := y
  rw [e] at e'; cases e'
  rw [c] at c'
  injection c' with c'
  exact absurd c' (by decide)
mutual
theorem Vw.uniq {h : Heap} : ∀ (d e : D) (v : Value), Vw h d v → Vw h e v → d = e
  | .non, e, v, hd, he => by
    simp only [Vw] at hd; subst hd
    cases e <;> simp [Vw] at he <;> rfl
  | .bl b, e, v, hd, he => by
    simp only [Vw] at hd; subst hd
    cases e <;> simp [Vw] at he
    rw [he]
  | .int i, e, v, hd, he => by
    simp only [Vw] at hd; obtain ⟨t, rfl⟩ := hd
    cases e <;> simp [Vw] at he
    rw [he]
  | .str x, e, v, hd, he => by
    simp only [Vw] at hd; obtain ⟨t, rfl⟩ := hd
    cases e <;> simp [Vw] at he
    rw [he]
  | .lst xs, e, v, hd, he => by
    simp only [Vw] at hd; obtain ⟨l, its, rfl, h1, h2⟩ := hd
    cases e <;> simp only [Vw] at he
    case lst ys =>
      obtain ⟨l', its', e1, k1, k2⟩ := he
      cases e1
      have e2 := list_inj h1 k1
      have e3 : its = its' := by simpa using e2
      subst e3
      rw [Vws.uniq xs ys its h2 k2]
    case tup ys =>
      obtain ⟨l', its', e1, k1, k2⟩ := he
      cases e1
      exact (list_tuple h1 k1).elim
    all_goals simp at he
  | .tup xs, e, v, hd, he => by
    simp only [Vw] at hd; obtain ⟨l, its, rfl, h1, h2⟩ := hd
    cases e <;> simp only [Vw] at he
    case tup ys =>
      obtain ⟨l', its', e1, k1, k2⟩ := he
      cases e1
      have e2 := tuple_inj h1 k1
      have e3 : its = its' := by simpa using e2
      subst e3
      rw [Vws.uniq xs ys its h2 k2]
    case lst ys =>
      obtain ⟨l', its', e1, k1, k2⟩ := he
      cases e1
      exact (list_tuple k1 h1).elim
    all_goals simp at he
  | .dic _, _, _, h, _ => by simp [Vw] at h
  | .ins _ _, _, _, h, _ => by simp [Vw] at h
  | .exn _ _, _, _, h, _ => by simp [Vw] at h
  | .per _, _, _, h, _ => by simp [Vw] at h
  | .scr _, _, _, h, _ => by simp [Vw] at h
theorem Vws.uniq {h : Heap} : ∀ (ds es : List D) (us : List Value), Vws h ds us → Vws h es us → ds = es
  | [], es, us, hd, he => by
    simp only [Vws] at hd; subst hd
    cases es with
    | nil => rfl
    | cons e es => simp [Vws] at he
  | d :: ds, es, us, hd, he => by
    simp only [Vws] at hd
    obtain ⟨u, r, rfl, h1, h2⟩ := hd
    cases es with
    | nil => simp [Vws] at he
    | cons e es =>
      simp only [Vws] at he
      obtain ⟨u', r', e1, k1, k2⟩ := he
      cases e1
      rw [Vw.uniq d e u h1 k1, Vws.uniq ds es r h2 k2]
end
mutual
theorem D.eqv_refl : ∀ d : D, d.plain = true → D.eqv d d = true
  | .non, _ => rfl
  | .bl b, _ => by simp [D.eqv]
  | .int _, _ => by simp [D.eqv]
  | .str _, _ => by simp [D.eqv]
  | .lst xs, p => by simp only [D.eqv]; exact D.eqvs_refl xs (by simpa [D.plain] using p)
  | .tup xs, p => by simp only [D.eqv]; exact D.eqvs_refl xs (by simpa [D.plain] using p)
  | .dic _, p => by simp [D.plain] at p
  | .ins _ _, p => by simp [D.plain] at p
  | .exn _ _, p => by simp [D.plain] at p
  | .per _, p => by simp [D.plain] at p
  | .scr _, p => by simp [D.plain] at p
theorem D.eqvs_refl : ∀ ds : List D, D.plains ds = true → D.eqvs ds ds = true
  | [], _ => rfl
  | d :: ds, p => by
    have p' : d.plain = true ∧ D.plains ds = true := by simpa [D.plains] using p
    simp only [D.eqvs, D.eqv_refl d p'.1, D.eqvs_refl ds p'.2, Bool.and_self]
end
def pairQ (xs ys : List D) (j : Nat) : Bool := D.eqv (xs.getD j .non) (ys.getD j .non)
theorem pairQ_cons (x y : D) (xs ys : List D) (j : Nat) : pairQ (x :: xs) (y :: ys) (j + 1) = pairQ xs ys j := by simp [pairQ]
theorem all_succ (f : Nat → Bool) (n : Nat) : (List.range (n + 1)).all f = (f 0 && (List.range n).all fun j => f (j + 1)) := by
  rw [List.range_succ_eq_map, List.all_cons, List.all_map]; rfl
theorem eqvs_all : ∀ xs ys : List D, D.eqvs xs ys = ((List.range (min xs.length ys.length)).all (pairQ xs ys) && xs.length == ys.length)
  | [], [] => rfl
  | [], y :: ys => by simp [D.eqvs]
  | x :: xs, [] => by simp [D.eqvs]
  | x :: xs, y :: ys => by
    have ih := eqvs_all xs ys
    have e : min (x :: xs).length (y :: ys).length = min xs.length ys.length + 1 := by simp only [List.length_cons]; omega
    rw [e, all_succ]
    simp only [D.eqvs, ih, pairQ_cons, List.length_cons]
    have e2 : (xs.length + 1 == ys.length + 1) = (xs.length == ys.length) := by
      rw [Bool.eq_iff_iff, beq_iff_eq, beq_iff_eq]; omega
    rw [e2, Bool.and_assoc]
    rfl
theorem eqvs_same {xs ys : List D} (h : xs.length = ys.length) : D.eqvs xs ys = (List.range xs.length).all (pairQ xs ys) := by
  rw [eqvs_all, ← h]; simp
theorem eqvs_other {xs ys : List D} (h : xs.length ≠ ys.length) : D.eqvs xs ys = false := by
  rw [eqvs_all]
  have : (xs.length == ys.length) = false := by simpa using h
  rw [this, Bool.and_false]
section
open SeqAt
variable {s : Shared}
mutual
theorem Vw.eqAt : ∀ (d e : D) (v u : Value) (A : Around), Vw s.heap d v → Vw s.heap e u → d.plain = true → A.units + d.depth < cLine → EqAt A s v u (D.eqv d e)
  | .non, e, v, u, A, hd, he, p, hu => by
    have hu' : A.units < cLine := by omega
    simp only [Vw] at hd; subst hd
    cases e with
    | non => simp only [Vw] at he; subst he; exact EqAt.same _
    | bl b => simp only [Vw] at he; subst he; exact EqAt.none_bool b
    | int i => simp only [Vw] at he; obtain ⟨t, rfl⟩ := he; exact EqAt.none_int i t
    | str x => simp only [Vw] at he; obtain ⟨t, rfl⟩ := he; exact EqAt.none_str x t
    | lst ys => simp only [Vw] at he; obtain ⟨l, its, rfl, h1, h2⟩ := he; exact EqAt.none_list h1 hu'
    | tup ys => simp only [Vw] at he; obtain ⟨l, its, rfl, h1, h2⟩ := he; exact EqAt.none_tuple h1 hu'
    | _ => simp [Vw] at he
  | .bl b, e, v, u, A, hd, he, p, hu => by
    have hu' : A.units < cLine := by omega
    simp only [Vw] at hd; subst hd
    cases e with
    | non => simp only [Vw] at he; subst he; exact EqAt.bool_none b
    | bl c => simp only [Vw] at he; subst he; exact EqAt.bool_bool b c
    | int i => simp only [Vw] at he; obtain ⟨t, rfl⟩ := he; exact EqAt.bool_int b i t
    | str x => simp only [Vw] at he; obtain ⟨t, rfl⟩ := he; exact EqAt.bool_str b x t
    | lst ys => simp only [Vw] at he; obtain ⟨l, its, rfl, h1, h2⟩ := he; exact EqAt.bool_list b h1 hu'
    | tup ys => simp only [Vw] at he; obtain ⟨l, its, rfl, h1, h2⟩ := he; exact EqAt.bool_tuple b h1 hu'
    | _ => simp [Vw] at he
  | .int b, e, v, u, A, hd, he, p, hu => by
    have hu' : A.units < cLine := by omega
    simp only [Vw] at hd; obtain ⟨k, rfl⟩ := hd
    cases e with
    | non => simp only [Vw] at he; subst he; exact EqAt.int_none b k
    | bl c => simp only [Vw] at he; subst he; exact EqAt.int_bool b k c
    | int i => simp only [Vw] at he; obtain ⟨t, rfl⟩ := he; exact EqAt.int_int b k i t
    | str x => simp only [Vw] at he; obtain ⟨t, rfl⟩ := he; exact EqAt.int_str b k x t
    | lst ys => simp only [Vw] at he; obtain ⟨l, its, rfl, h1, h2⟩ := he; exact EqAt.int_list b k h1 hu'
    | tup ys => simp only [Vw] at he; obtain ⟨l, its, rfl, h1, h2⟩ := he; exact EqAt.int_tuple b k h1 hu'
    | _ => simp [Vw] at he
  | .str b, e, v, u, A, hd, he, p, hu => by
    have hu' : A.units < cLine := by omega
    simp only [Vw] at hd; obtain ⟨k, rfl⟩ := hd
    cases e with
    | non => simp only [Vw] at he; subst he; exact EqAt.str_none b k
    | bl c => simp only [Vw] at he; subst he; exact EqAt.str_bool b k c
    | int i => simp only [Vw] at he; obtain ⟨t, rfl⟩ := he; exact EqAt.str_int b k i t
    | str x => simp only [Vw] at he; obtain ⟨t, rfl⟩ := he; exact EqAt.str_str b k x t
    | lst ys => simp only [Vw] at he; obtain ⟨l, its, rfl, h1, h2⟩ := he; exact EqAt.str_list b k h1 hu'
    | tup ys => simp only [Vw] at he; obtain ⟨l, its, rfl, h1, h2⟩ := he; exact EqAt.str_tuple b k h1 hu'
    | _ => simp [Vw] at he
  | .lst xs, e, v, u, A, hd, he, p, hu => by
    have hu' : A.units < cLine := by omega
    have hd0 := hd
    simp only [Vw] at hd; obtain ⟨l, its, rfl, h1, h2⟩ := hd
    cases e with
    | non => simp only [Vw] at he; subst he; exact EqAt.list_none h1 hu'
    | bl c => simp only [Vw] at he; subst he; exact EqAt.list_bool c h1 hu'
    | int i => simp only [Vw] at he; obtain ⟨t, rfl⟩ := he; exact EqAt.list_int i t h1 hu'
    | str x => simp only [Vw] at he; obtain ⟨t, rfl⟩ := he; exact EqAt.list_str x t h1 hu'
    | tup ys => simp only [Vw] at he; obtain ⟨l', its', rfl, k1, k2⟩ := he; exact EqAt.list_tuple h1 k1 hu'
    | lst ys =>
      have he0 := he
      simp only [Vw] at he; obtain ⟨l', its', rfl, k1, k2⟩ := he
      by_cases hll : l = l'
      · subst hll
        have e := Vw.uniq _ _ _ hd0 he0
        rw [← e, D.eqv_refl _ p]
        exact EqAt.same _
      · have n1 := h2.length
        have n2 := k2.length
        simp only [D.eqv]
        by_cases hsz : its.length = its'.length
        · rw [eqvs_same (by omega), ← n1]
          refine EqAt.of_refs hll ?_
          have := RcAt.lists (e := pairQ xs ys) h1 k1 (by simpa using hsz) hu' (fun j j1 j2 => by
            have := Vws.eqAt xs ys its its' A.in1 h2 k2 (by simpa [D.plain] using p) (by simp only [D.depth] at hu; show A.units + 1 + _ < cLine; omega) j (by simpa using j1) (by simpa using j2)
            simpa using this)
          simpa using this
        · rw [eqvs_other (by omega)]
          exact EqAt.of_refs hll (RcAt.lists_lengths h1 k1 (by simpa using hsz) hu')
    | _ => simp [Vw] at he
  | .tup xs, e, v, u, A, hd, he, p, hu => by
    have hu' : A.units < cLine := by omega
    have hd0 := hd
    simp only [Vw] at hd; obtain ⟨l, its, rfl, h1, h2⟩ := hd
    cases e with
    | non => simp only [Vw] at he; subst he; exact EqAt.tuple_none h1 hu'
    | bl c => simp only [Vw] at he; subst he; exact EqAt.tuple_bool c h1 hu'
    | int i => simp only [Vw] at he; obtain ⟨t, rfl⟩ := he; exact EqAt.tuple_int i t h1 hu'
    | str x => simp only [Vw] at he; obtain ⟨t, rfl⟩ := he; exact EqAt.tuple_str x t h1 hu'
    | lst ys => simp only [Vw] at he; obtain ⟨l', its', rfl, k1, k2⟩ := he; exact EqAt.tuple_list h1 k1 hu'
    | tup ys =>
      have he0 := he
      simp only [Vw] at he; obtain ⟨l', its', rfl, k1, k2⟩ := he
      by_cases hll : l = l'
      · subst hll
        have e := Vw.uniq _ _ _ hd0 he0
        rw [← e, D.eqv_refl _ p]
        exact EqAt.same _
      · have n1 := h2.length
        have n2 := k2.length
        simp only [D.eqv]
        rw [eqvs_all, ← n1, ← n2]
        refine EqAt.of_refs hll ?_
        have := RcAt.tuples (e := pairQ xs ys) h1 k1 hu' (fun j j1 j2 => by
          have := Vws.eqAt xs ys its its' A.in1 h2 k2 (by simpa [D.plain] using p) (by simp only [D.depth] at hu; show A.units + 1 + _ < cLine; omega) j (by simpa using j1) (by simpa using j2)
          simpa using this)
        simpa using this
    | _ => simp [Vw] at he
  | .dic _, _, _, _, _, h, _, _, _ => by simp [Vw] at h
  | .ins _ _, _, _, _, _, h, _, _, _ => by simp [Vw] at h
  | .exn _ _, _, _, _, _, h, _, _, _ => by simp [Vw] at h
  | .per _, _, _, _, _, h, _, _, _ => by simp [Vw] at h
  | .scr _, _, _, _, _, h, _, _, _ => by simp [Vw] at h
theorem Vws.eqAt : ∀ (ds es : List D) (vs us : List Value) (A : Around), Vws s.heap ds vs → Vws s.heap es us → D.plains ds = true → A.units + D.depths ds < cLine → ∀ j (h1 : j < vs.length) (h2 : j < us.length), EqAt A s vs[j] us[j] (pairQ ds es j)
  | [], _, _, _, _, hd, _, _, _, j, h1, _ => by simp only [Vws] at hd; subst hd; simp at h1
  | _ :: _, [], _, _, _, _, he, _, _, j, _, h2 => by simp only [Vws] at he; subst he; simp at h2
  | d :: ds, e :: es, vs, us, A, hd, he, p, hu, j, h1, h2 => by
    simp only [Vws] at hd he
    obtain ⟨v, r, rfl, a1, a2⟩ := hd
    obtain ⟨u, q, rfl, b1, b2⟩ := he
    have p' : d.plain = true ∧ D.plains ds = true := by simpa [D.plains] using p
    simp only [D.depths] at hu
    cases j with
    | zero => simpa [pairQ] using Vw.eqAt d e v u A a1 b1 p'.1 (by omega)
    | succ j =>
      rw [pairQ_cons]
      simpa using Vws.eqAt ds es r q A a2 b2 p'.2 (by omega) j (by simpa using h1) (by simpa using h2)
end
theorem Vw.rcAt : ∀ (d e : D) (v u : Value) (A : Around), Vw s.heap d v → Vw s.heap e u → d.plain = true → A.units + d.depth < cLine → RcAt A s v u (D.eqv d e) ∧ RcNeAt A s v u (!D.eqv d e) := by
  intro d e v u A hd he p hu
  have hu' : A.units < cLine := by omega
  cases d with
  | non =>
    simp only [Vw] at hd; subst hd
    cases e with
    | non =>
      simp only [Vw] at he; subst he
      exact ⟨RcAt.none_none , RcNeAt.none_none ⟩
    | bl c =>
      simp only [Vw] at he; subst he
      exact ⟨RcAt.none_bool c, RcNeAt.none_bool c⟩
    | int c =>
      simp only [Vw] at he; obtain ⟨t2, rfl⟩ := he
      exact ⟨RcAt.none_int c t2, RcNeAt.none_int c t2⟩
    | str c =>
      simp only [Vw] at he; obtain ⟨t2, rfl⟩ := he
      exact ⟨RcAt.none_str c t2, RcNeAt.none_str c t2⟩
    | lst ys =>
      simp only [Vw] at he; obtain ⟨l2, its2, rfl, k1, k2⟩ := he
      exact ⟨RcAt.none_list  k1 hu', RcNeAt.none_list  k1 hu'⟩
    | tup ys =>
      simp only [Vw] at he; obtain ⟨l2, its2, rfl, k1, k2⟩ := he
      exact ⟨RcAt.none_tuple  k1 hu', RcNeAt.none_tuple  k1 hu'⟩
    | _ => simp [Vw] at he
  | bl b =>
    simp only [Vw] at hd; subst hd
    cases e with
    | non =>
      simp only [Vw] at he; subst he
      exact ⟨RcAt.bool_none b, RcNeAt.bool_none b⟩
    | bl c =>
      simp only [Vw] at he; subst he
      exact ⟨RcAt.bool_bool b c, RcNeAt.bool_bool b c⟩
    | int c =>
      simp only [Vw] at he; obtain ⟨t2, rfl⟩ := he
      exact ⟨RcAt.bool_int b c t2, RcNeAt.bool_int b c t2⟩
    | str c =>
      simp only [Vw] at he; obtain ⟨t2, rfl⟩ := he
      exact ⟨RcAt.bool_str b c t2, RcNeAt.bool_str b c t2⟩
    | lst ys =>
      simp only [Vw] at he; obtain ⟨l2, its2, rfl, k1, k2⟩ := he
      exact ⟨RcAt.bool_list b k1 hu', RcNeAt.bool_list b k1 hu'⟩
    | tup ys =>
      simp only [Vw] at he; obtain ⟨l2, its2, rfl, k1, k2⟩ := he
      exact ⟨RcAt.bool_tuple b k1 hu', RcNeAt.bool_tuple b k1 hu'⟩
    | _ => simp [Vw] at he
  | int b =>
    simp only [Vw] at hd; obtain ⟨t, rfl⟩ := hd
    cases e with
    | non =>
      simp only [Vw] at he; subst he
      exact ⟨RcAt.int_none b t, RcNeAt.int_none b t⟩
    | bl c =>
      simp only [Vw] at he; subst he
      exact ⟨RcAt.int_bool b t c, RcNeAt.int_bool b t c⟩
    | int c =>
      simp only [Vw] at he; obtain ⟨t2, rfl⟩ := he
      exact ⟨RcAt.int_int b t c t2, RcNeAt.int_int b t c t2⟩
    | str c =>
      simp only [Vw] at he; obtain ⟨t2, rfl⟩ := he
      exact ⟨RcAt.int_str b t c t2, RcNeAt.int_str b t c t2⟩
    | lst ys =>
      simp only [Vw] at he; obtain ⟨l2, its2, rfl, k1, k2⟩ := he
      exact ⟨RcAt.int_list b t k1 hu', RcNeAt.int_list b t k1 hu'⟩
    | tup ys =>
      simp only [Vw] at he; obtain ⟨l2, its2, rfl, k1, k2⟩ := he
      exact ⟨RcAt.int_tuple b t k1 hu', RcNeAt.int_tuple b t k1 hu'⟩
    | _ => simp [Vw] at he
  | str b =>
    simp only [Vw] at hd; obtain ⟨t, rfl⟩ := hd
    cases e with
    | non =>
      simp only [Vw] at he; subst he
      exact ⟨RcAt.str_none b t, RcNeAt.str_none b t⟩
    | bl c =>
      simp only [Vw] at he; subst he
      exact ⟨RcAt.str_bool b t c, RcNeAt.str_bool b t c⟩
    | int c =>
      simp only [Vw] at he; obtain ⟨t2, rfl⟩ := he
      exact ⟨RcAt.str_int b t c t2, RcNeAt.str_int b t c t2⟩
    | str c =>
      simp only [Vw] at he; obtain ⟨t2, rfl⟩ := he
      exact ⟨RcAt.str_str b t c t2, RcNeAt.str_str b t c t2⟩
    | lst ys =>
      simp only [Vw] at he; obtain ⟨l2, its2, rfl, k1, k2⟩ := he
      exact ⟨RcAt.str_list b t k1 hu', RcNeAt.str_list b t k1 hu'⟩
    | tup ys =>
      simp only [Vw] at he; obtain ⟨l2, its2, rfl, k1, k2⟩ := he
      exact ⟨RcAt.str_tuple b t k1 hu', RcNeAt.str_tuple b t k1 hu'⟩
    | _ => simp [Vw] at he
  | lst xs =>
    simp only [Vw] at hd; obtain ⟨l, its, rfl, h1, h2⟩ := hd
    cases e with
    | non =>
      simp only [Vw] at he; subst he
      exact ⟨RcAt.list_none  h1 hu', RcNeAt.list_none  h1 hu'⟩
    | bl c =>
      simp only [Vw] at he; subst he
      exact ⟨RcAt.list_bool c h1 hu', RcNeAt.list_bool c h1 hu'⟩
    | int c =>
      simp only [Vw] at he; obtain ⟨t2, rfl⟩ := he
      exact ⟨RcAt.list_int c t2 h1 hu', RcNeAt.list_int c t2 h1 hu'⟩
    | str c =>
      simp only [Vw] at he; obtain ⟨t2, rfl⟩ := he
      exact ⟨RcAt.list_str c t2 h1 hu', RcNeAt.list_str c t2 h1 hu'⟩
    | lst ys =>
      simp only [Vw] at he; obtain ⟨l2, its2, rfl, k1, k2⟩ := he
      have n1 := h2.length
      have n2 := k2.length
      have he : ∀ j (j1 : j < its.toArray.size) (j2 : j < its2.toArray.size), EqAt A.in1 s its.toArray[j] its2.toArray[j] (pairQ xs ys j) := fun j j1 j2 => by
        have := Vws.eqAt xs ys its its2 A.in1 h2 k2 (by simpa [D.plain] using p) (by simp only [D.depth] at hu; show A.units + 1 + _ < cLine; omega) j (by simpa using j1) (by simpa using j2)
        simpa using this
      simp only [D.eqv]
      by_cases hsz : its.length = its2.length
      · rw [eqvs_same (by omega), ← n1]
        have q1 := RcAt.lists (e := pairQ xs ys) h1 k1 (by simpa using hsz) hu' he
        have q2 := RcNeAt.lists (e := pairQ xs ys) h1 k1 (by simpa using hsz) hu' he
        exact ⟨by simpa using q1, by simpa using q2⟩
      · rw [eqvs_other (by omega)]
        exact ⟨RcAt.lists_lengths h1 k1 (by simpa using hsz) hu', RcNeAt.lists_lengths h1 k1 (by simpa using hsz) hu'⟩
    | tup ys =>
      simp only [Vw] at he; obtain ⟨l2, its2, rfl, k1, k2⟩ := he
      exact ⟨RcAt.list_tuple h1 k1 hu', RcNeAt.list_tuple h1 k1 hu'⟩
    | _ => simp [Vw] at he
  | tup xs =>
    simp only [Vw] at hd; obtain ⟨l, its, rfl, h1, h2⟩ := hd
    cases e with
    | non =>
      simp only [Vw] at he; subst he
      exact ⟨RcAt.tuple_none  h1 hu', RcNeAt.tuple_none  h1 hu'⟩
    | bl c =>
      simp only [Vw] at he; subst he
      exact ⟨RcAt.tuple_bool c h1 hu', RcNeAt.tuple_bool c h1 hu'⟩
    | int c =>
      simp only [Vw] at he; obtain ⟨t2, rfl⟩ := he
      exact ⟨RcAt.tuple_int c t2 h1 hu', RcNeAt.tuple_int c t2 h1 hu'⟩
    | str c =>
      simp only [Vw] at he; obtain ⟨t2, rfl⟩ := he
      exact ⟨RcAt.tuple_str c t2 h1 hu', RcNeAt.tuple_str c t2 h1 hu'⟩
    | lst ys =>
      simp only [Vw] at he; obtain ⟨l2, its2, rfl, k1, k2⟩ := he
      exact ⟨RcAt.tuple_list h1 k1 hu', RcNeAt.tuple_list h1 k1 hu'⟩
    | tup ys =>
      simp only [Vw] at he; obtain ⟨l2, its2, rfl, k1, k2⟩ := he
      have n1 := h2.length
      have n2 := k2.length
      have he : ∀ j (j1 : j < its.toArray.size) (j2 : j < its2.toArray.size), EqAt A.in1 s its.toArray[j] its2.toArray[j] (pairQ xs ys j) := fun j j1 j2 => by
        have := Vws.eqAt xs ys its its2 A.in1 h2 k2 (by simpa [D.plain] using p) (by simp only [D.depth] at hu; show A.units + 1 + _ < cLine; omega) j (by simpa using j1) (by simpa using j2)
        simpa using this
      simp only [D.eqv]
      rw [eqvs_all, ← n1, ← n2]
      have q1 := RcAt.tuples (e := pairQ xs ys) h1 k1 hu' he
      have q2 := RcNeAt.tuples (e := pairQ xs ys) h1 k1 hu' he
      exact ⟨by simpa using q1, by simpa using q2⟩
    | _ => simp [Vw] at he
  | _ => simp [Vw] at hd
end
end DL
end
section
set_option Elab.async false
set_option linter.all false
set_option maxRecDepth 100000
/-! Ops2: comparisons, subscripts, slices, built-in functions, truth. -/
namespace DL
open PySem L2 PyProof.Rows
/-! ### dicts -/
theorem key_eqv {j k : D} {a b : Key} (hj : j.key = some a) (hk : k.key = some b) : D.eqv j k = decide (a = b) := by
  cases j <;> simp [D.key] at hj <;> cases k <;> simp [D.key] at hk <;> subst hj <;> subst hk <;> simp [D.eqv]
  · rename_i a b; by_cases h : a = b <;> simp [h]
  · rename_i a b; by_cases h : a = b <;> simp [h]
theorem key_rv {ca : Lk} {A : Addr → Prop} {mp : List Addr} {H : Hp} {k : D} {a : Key} {v : V} (hk : k.key = some a) (h : RC ca A mp H k v) : v = kV a := by
  cases k <;> simp [D.key] at hk <;> subst hk
  · exact h.int
  · exact h.str
section
variable {ca : Lk} {A : Addr → Prop} {mp : List Addr} {H : Hp}
theorem look_rd {k : D} {a : Key} (hk : k.key = some a) : ∀ {kvs : List (D × D)} {ks : List (Key × V)}, RD ca A mp H kvs ks → (∀ d, look k kvs = some d → ∃ v, valV ks a = some v ∧ RV ca A mp H d v) ∧ (look k kvs = none → valV ks a = none)
  | [], ks, r => by
    simp only [RD] at r; subst r
    exact ⟨fun d e => by simp [look] at e, fun _ => valV_nil⟩
  | (j, d) :: kvs, ks, r => by
    simp only [RD] at r
    obtain ⟨key, v, q, rfl, hj, h1, h2⟩ := r
    have ih := look_rd hk h2
    have e := key_eqv hj hk
    by_cases h : key = a
    · have e' : D.eqv j k = true := by rw [e]; exact decide_eq_true h
      refine ⟨fun d' z => ?_, fun z => ?_⟩
      · simp only [look, e', if_true, Option.some.injEq] at z
        subst z
        exact ⟨v, valV_pos h, h1⟩
      · simp [look, e'] at z
    · have e' : D.eqv j k = false := by rw [e]; exact decide_eq_false h
      refine ⟨fun d' z => ?_, fun z => ?_⟩
      · simp only [look, e', Bool.false_eq_true, if_false] at z
        obtain ⟨w, z1, z2⟩ := ih.1 d' z
        exact ⟨w, by rw [valV_neg h]; exact z1, z2⟩
      · simp only [look, e', Bool.false_eq_true, if_false] at z
        rw [valV_neg h]; exact ih.2 z
theorem any_rd {k : D} {a : Key} (hk : k.key = some a) : ∀ {kvs : List (D × D)} {ks : List (Key × V)}, RD ca A mp H kvs ks → (kvs.any fun p => D.eqv p.1 k) = ks.any fun p => decide (p.1 = a)
  | [], ks, r => by simp only [RD] at r; subst r; rfl
  | (j, d) :: kvs, ks, r => by
    simp only [RD] at r
    obtain ⟨key, v, q, rfl, hj, h1, h2⟩ := r
    rw [List.any_cons, List.any_cons, any_rd hk h2, key_eqv hj hk]
theorem map_rd {k : D} {a : Key} {d : D} {v : V} (hk : k.key = some a) (hv : RV ca A mp H d v) : ∀ {kvs : List (D × D)} {ks : List (Key × V)}, RD ca A mp H kvs ks →
    RD ca A mp H (kvs.map fun p => if D.eqv p.1 k then (p.1, d) else p) (ks.map fun p => if p.1 = a then (p.1, v) else p)
  | [], ks, r => by simp only [RD] at r; subst r; simp [RD]
  | (j, e) :: kvs, ks, r => by
    simp only [RD] at r
    obtain ⟨key, u, q, rfl, hj, h1, h2⟩ := r
    have ih := map_rd hk hv h2
    have e := key_eqv hj hk
    simp only [List.map_cons]
    by_cases h : key = a
    · rw [e, decide_eq_true h, if_pos rfl, if_pos h]
      simp only [RD]
      exact ⟨key, v, _, rfl, hj, hv, ih⟩
    · rw [e, decide_eq_false h, if_neg Bool.false_ne_true, if_neg h]
      simp only [RD]
      exact ⟨key, u, _, rfl, hj, h1, ih⟩
theorem RD.app : ∀ {ds es : List (D × D)} {vs ws : List (Key × V)}, RD ca A mp H ds vs → RD ca A mp H es ws → RD ca A mp H (ds ++ es) (vs ++ ws)
  | [], _, _, _, h, q => by simp only [RD] at h; subst h; simpa using q
  | (k, d) :: ds, es, vs, ws, h, q => by
    simp only [RD] at h
    obtain ⟨key, v, r, rfl, hk, h1, h2⟩ := h
    simp only [List.cons_append, RD]
    exact ⟨key, v, r ++ ws, rfl, hk, h1, RD.app h2 q⟩
theorem store_rd {k : D} {a : Key} {d : D} {v : V} (hk : k.key = some a) (hv : RV ca A mp H d v) {kvs : List (D × D)} {ks : List (Key × V)} (r : RD ca A mp H kvs ks) : RD ca A mp H (store k d kvs) (putK ks a v) := by
  unfold store putK
  rw [any_rd hk r]
  split
  · exact map_rd hk hv r
  · refine RD.app r ?_
    simp only [RD]
    exact ⟨a, v, [], rfl, hk, hv, rfl⟩
theorem RD.length : ∀ {ds : List (D × D)} {vs : List (Key × V)}, RD ca A mp H ds vs → vs.length = ds.length
  | [], _, h => by simp only [RD] at h; rw [h]; rfl
  | (k, d) :: ds, vs, h => by
    simp only [RD] at h
    obtain ⟨key, v, r, rfl, _, _, h2⟩ := h
    simp [RD.length h2]
theorem RD.keys : ∀ {ds : List (D × D)} {vs : List (Key × V)}, RD ca A mp H ds vs → RVs ca A mp H (ds.map (·.1)) (vs.map fun kv => kV kv.1)
  | [], _, h => by simp only [RD] at h; subst h; simp [RVs]
  | (k, d) :: ds, vs, h => by
    simp only [RD] at h
    obtain ⟨key, v, r, rfl, hk, _, h2⟩ := h
    simp only [List.map_cons, RVs]
    refine ⟨_, _, rfl, ?_, RD.keys h2⟩
    cases k <;> simp [D.key] at hk <;> subst hk <;> simp [RV, kV]
theorem RF.look {f : Str} : ∀ {fs : List (Str × D)} {gs : List (Str × V)}, RF ca A mp H fs gs → (∀ d, fs.lookup f = some d → ∃ v, gs.lookup f = some v ∧ RV ca A mp H d v) ∧ (fs.lookup f = none → gs.lookup f = none)
  | [], gs, r => by
    simp only [RF] at r; subst r
    exact ⟨fun d e => by simp at e, fun _ => rfl⟩
  | (g, d) :: fs, gs, r => by
    simp only [RF] at r
    obtain ⟨v, q, rfl, h1, h2⟩ := r
    have ih := RF.look (f := f) h2
    by_cases h : f = g
    · subst h
      refine ⟨fun d' z => ?_, fun z => ?_⟩
      · simp only [List.lookup_cons, beq_self_eq_true, Option.some.injEq] at z ⊢
        subst z; exact ⟨v, rfl, h1⟩
      · simp [List.lookup_cons] at z
    · have hb : (f == g) = false := by simpa using h
      simp only [List.lookup_cons, hb]
      exact ih
theorem RF.length : ∀ {fs : List (Str × D)} {gs : List (Str × V)}, RF ca A mp H fs gs → gs.length = fs.length
  | [], _, h => by simp only [RF] at h; rw [h]; rfl
  | (k, d) :: ds, vs, h => by
    simp only [RF] at h
    obtain ⟨v, r, rfl, _, h2⟩ := h
    simp [RF.length h2]
end

/-! ### comparisons -/
def rCmp (ca : Lk) (g : D → D → Option Bool) : R2 := fun x y H Q => ∃ A mp per d1 d2 b, Now ca A mp per H ∧ RC ca A mp H d1 x ∧ RC ca A mp H d2 y ∧ g d1 d2 = some b ∧ Q (.bl b) H
section
variable {X : Cx} {ca : Lk}
theorem op_ceq (hu : X.A.units + 64 < cLine) : OpR X (compareOp .Eq) (rCmp ca (cop .eq)) := by
  intro pins s σ H x y v u Q I rx ry h
  obtain ⟨A, mp, per, d1, d2, b, n, h1, h2, e, k⟩ := h
  simp only [cop] at e
  split at e
  · rename_i ok
    simp only [eqOk, Bool.and_eq_true, decide_eq_true_eq] at ok
    simp only [Option.some.injEq] at e; subst e
    have w1 := RC.vw I d1 x v ok.1.1 h1 rx
    have w2 := RC.vw I d2 y u ok.1.2 h2 ry
    exact (Vw.rcAt d1 d2 v u X.A w1 w2 ok.1.1 (by omega)).1 X.prog X.w _ _ ⟨.bl _, H, I, rfl, k⟩
  · cases e
theorem op_cne (hu : X.A.units + 64 < cLine) : OpR X (compareOp .NotEq) (rCmp ca (cop .ne)) := by
  intro pins s σ H x y v u Q I rx ry h
  obtain ⟨A, mp, per, d1, d2, b, n, h1, h2, e, k⟩ := h
  simp only [cop] at e
  split at e
  · rename_i ok
    simp only [eqOk, Bool.and_eq_true, decide_eq_true_eq] at ok
    simp only [Option.some.injEq] at e; subst e
    have w1 := RC.vw I d1 x v ok.1.1 h1 rx
    have w2 := RC.vw I d2 y u ok.1.2 h2 ry
    exact (Vw.rcAt d1 d2 v u X.A w1 w2 ok.1.1 (by omega)).2 X.prog X.w _ _ ⟨.bl _, H, I, rfl, k⟩
  · cases e
theorem int2c {op : Cop} {f : Value → Value → Sem Value} {g : Int → Int → Bool} (hf : OpR X f (rI0 fun i j => .bl (g i j))) (hb : ∀ d1 d2 b, cop op d1 d2 = some b → ∃ i j, d1 = .int i ∧ d2 = .int j ∧ b = g i j) : OpR X f (rCmp ca (cop op)) := by
  intro pins s σ H x y v u Q I rx ry h
  obtain ⟨A, mp, per, d1, d2, b, n, h1, h2, e, k⟩ := h
  obtain ⟨i, j, rfl, rfl, rfl⟩ := hb d1 d2 b e
  exact hf pins s σ H x y v u Q I rx ry ⟨i, j, h1.int, h2.int, k⟩
theorem op_clt : OpR X (compareOp .Lt) (rCmp ca (cop .lt)) := int2c op_lt fun d1 d2 b e => by
  cases d1 <;> cases d2 <;> simp [cop] at e
  exact ⟨_, _, rfl, rfl, e.symm⟩
theorem op_cle : OpR X (compareOp .LtE) (rCmp ca (cop .le)) := int2c op_le fun d1 d2 b e => by
  cases d1 <;> cases d2 <;> simp [cop] at e
  exact ⟨_, _, rfl, rfl, e.symm⟩
theorem op_cgt : OpR X (compareOp .Gt) (rCmp ca (cop .gt)) := int2c op_gt fun d1 d2 b e => by
  cases d1 <;> cases d2 <;> simp [cop] at e
  exact ⟨_, _, rfl, rfl, e.symm⟩
theorem op_cge : OpR X (compareOp .GtE) (rCmp ca (cop .ge)) := int2c op_ge fun d1 d2 b e => by
  cases d1 <;> cases d2 <;> simp [cop] at e
  exact ⟨_, _, rfl, rfl, e.symm⟩
def D.isNon : D → Bool
  | .non => true
  | _ => false
theorem RC.isNon {A : Addr → Prop} {mp : List Addr} {H : Hp} {d : D} {v : V} (h : RC ca A mp H d v) : decide (v = .non) = d.isNon := by
  cases d with
  | non => rw [h.non]; rfl
  | bl b => rw [h.bl]; rfl
  | int b => rw [h.int]; rfl
  | str b => rw [h.str]; rfl
  | tup b => obtain ⟨a, vs, rfl, _⟩ := h.tup; rfl
  | lst b => obtain ⟨a, vs, rfl, _⟩ := h.lst; rfl
  | dic b => obtain ⟨a, vs, rfl, _⟩ := h.dic; rfl
  | ins c b => obtain ⟨a, dx, vs, rfl, _⟩ := h.ins; rfl
  | scr b => obtain ⟨a, rfl, _⟩ := h.scr; rfl
  | exn c fs =>
    rcases h with h | ⟨a, _, t⟩
    · simp [RV] at h
    · exact t.elim
  | per i =>
    rcases h with h | ⟨a, rfl, t⟩
    · simp only [RV] at h
      obtain ⟨a, rfl, _⟩ := h; rfl
    · rfl
theorem op_cis : OpR X (compareOp .Is) (rCmp ca (cop .isN)) := by
  intro pins s σ H x y v u Q I rx ry h
  obtain ⟨A, mp, per, d1, d2, b, n, h1, h2, e, k⟩ := h
  have e2 : d2 = .non := by cases d1 <;> cases d2 <;> simp [cop] at e <;> rfl
  subst e2
  refine op_isN pins s σ H x y v u Q I rx ry ⟨h2.non, ?_⟩
  rw [h1.isNon]
  have : b = d1.isNon := by cases d1 <;> simp [cop] at e <;> simp [← e, D.isNon]
  rw [← this]; exact k
theorem op_cisn : OpR X (compareOp .IsNot) (rCmp ca (cop .notN)) := by
  intro pins s σ H x y v u Q I rx ry h
  obtain ⟨A, mp, per, d1, d2, b, n, h1, h2, e, k⟩ := h
  have e2 : d2 = .non := by cases d1 <;> cases d2 <;> simp [cop] at e <;> rfl
  subst e2
  refine op_notN pins s σ H x y v u Q I rx ry ⟨h2.non, ?_⟩
  rw [h1.isNon]
  have : b = !d1.isNon := by cases d1 <;> simp [cop] at e <;> simp [← e, D.isNon]
  rw [← this]; exact k
open Classical in
/-- the answer for an item, by the item itself -/
noncomputable def eqU2 (h : Heap) (d : D) (u : Value) : Bool := if z : ∃ e, Vw h e u then D.eqv (choose z) d else false
theorem eqU2_of {h : Heap} {d e : D} {u : Value} (w : Vw h e u) : eqU2 h d u = D.eqv e d := by
  have z : ∃ e, Vw h e u := ⟨e, w⟩
  unfold eqU2
  rw [dif_pos z, Vw.uniq _ _ u (Classical.choose_spec z) w]
theorem any_vws {h : Heap} {d : D} : ∀ {xs : List D} {us : List Value}, Vws h xs us → us.any (eqU2 h d) = xs.any fun y => D.eqv y d
  | [], us, r => by simp only [Vws] at r; subst r; rfl
  | x :: xs, us, r => by
    simp only [Vws] at r
    obtain ⟨u, q, rfl, h1, h2⟩ := r
    rw [List.any_cons, List.any_cons, any_vws h2, eqU2_of h1]
theorem mem_vws {h : Heap} : ∀ {xs : List D} {us : List Value} {u : Value}, Vws h xs us → u ∈ us → ∃ x ∈ xs, Vw h x u
  | [], us, u, r, m => by simp only [Vws] at r; subst r; cases m
  | x :: xs, us, u, r, m => by
    simp only [Vws] at r
    obtain ⟨w, q, rfl, h1, h2⟩ := r
    rcases List.mem_cons.mp m with rfl | m
    · exact ⟨x, List.mem_cons_self, h1⟩
    · obtain ⟨y, hy, z⟩ := mem_vws h2 m
      exact ⟨y, List.mem_cons_of_mem _ hy, z⟩
theorem plain_mem : ∀ {xs : List D} {x : D}, D.plains xs = true → x ∈ xs → x.plain = true ∧ x.depth ≤ D.depths xs
  | [], _, _, m => by cases m
  | y :: xs, x, p, m => by
    have p' : y.plain = true ∧ D.plains xs = true := by simpa [D.plains] using p
    simp only [D.depths]
    rcases List.mem_cons.mp m with rfl | m
    · exact ⟨p'.1, by omega⟩
    · have := plain_mem p'.2 m
      exact ⟨this.1, by omega⟩
/-- in, not in: of a list, a tuple, a text, a dict -/
theorem in_both (hu : X.A.units + 64 < cLine) {pins : List (Addr × Obj)} {s : Shared} {σ : L2.St} {H : Hp} {x y : V} {v u : Value} {A : Addr → Prop} {mp : List Addr} {d1 d2 : D} {b : Bool} {Q1 Q2 : VK}
    (I : Inv X pins σ H s) (rx : L2.RelV x v) (ry : L2.RelV y u) (h1 : RC ca A mp H d1 x) (h2 : RC ca A mp H d2 y) (e : isIn d1 d2 = some b) (k1 : Q1 (.bl b) H) (k2 : Q2 (.bl (!b)) H) :
    wpAny (model X.prog X.w) X.A (compareOp .In v u) (EP X pins σ Q1) X.xe s ∧ wpAny (model X.prog X.w) X.A (compareOp .NotIn v u) (EP X pins σ Q2) X.xe s := by
  cases d2 with
  | lst xs =>
    simp only [isIn] at e
    split at e
    · rename_i ok
      simp only [Bool.and_eq_true, decide_eq_true_eq] at ok
      simp only [Option.some.injEq] at e; subst e
      have w1 := RC.vw I d1 x v ok.1.1 h1 rx
      obtain ⟨a, vs, rfl, ha, ra⟩ := h2.lst
      cases ry
      obtain ⟨its, rv, pl, _⟩ := I.list (SqL.of ha)
      have w2 := RVs.vw I xs vs its ok.1.2 ra rv
      have hq : ∀ z, z ∈ its.toArray → SeqAt.EqAt X.A.in1 s z v (eqU2 s.heap d1 z) := fun z hz => by
        obtain ⟨w, hw, hv⟩ := mem_vws w2 (by simpa using hz)
        rw [eqU2_of hv]
        have pw := plain_mem ok.1.2 hw
        exact Vw.eqAt w d1 z v X.A.in1 hv w1 pw.1 (by show X.A.units + 1 + _ < cLine; omega)
      have ea : its.toArray.any (eqU2 s.heap d1) = xs.any fun y => D.eqv y d1 := by rw [← any_vws w2]; simp
      exact ⟨SeqAt.in_listAt (eqU2 s.heap d1) pl.isList hq (by rw [ea]; exact ⟨.bl _, H, I, rfl, k1⟩), SeqAt.notIn_listAt (eqU2 s.heap d1) pl.isList hq (by rw [ea]; exact ⟨.bl _, H, I, rfl, k2⟩)⟩
    · cases e
  | tup xs =>
    simp only [isIn] at e
    split at e
    · rename_i ok
      simp only [Bool.and_eq_true, decide_eq_true_eq] at ok
      simp only [Option.some.injEq] at e; subst e
      have w1 := RC.vw I d1 x v ok.1.1 h1 rx
      obtain ⟨a, vs, rfl, ha, ra⟩ := h2.tup
      cases ry
      obtain ⟨its, rv, pl, _⟩ := I.tuple (SqT.of ha)
      have w2 := RVs.vw I xs vs its ok.1.2 ra rv
      have hq : ∀ z, z ∈ its.toArray → SeqAt.EqAt X.A.in1 s z v (eqU2 s.heap d1 z) := fun z hz => by
        obtain ⟨w, hw, hv⟩ := mem_vws w2 (by simpa using hz)
        rw [eqU2_of hv]
        have pw := plain_mem ok.1.2 hw
        exact Vw.eqAt w d1 z v X.A.in1 hv w1 pw.1 (by show X.A.units + 1 + _ < cLine; omega)
      have ea : its.toArray.any (eqU2 s.heap d1) = xs.any fun y => D.eqv y d1 := by rw [← any_vws w2]; simp
      exact ⟨SeqAt.in_tupleAt (eqU2 s.heap d1) pl hq (by rw [ea]; exact ⟨.bl _, H, I, rfl, k1⟩), SeqAt.notIn_tupleAt (eqU2 s.heap d1) pl hq (by rw [ea]; exact ⟨.bl _, H, I, rfl, k2⟩)⟩
    · cases e
  | str z =>
    cases d1 with
    | str w =>
      simp only [isIn, Option.some.injEq] at e; subst e
      exact ⟨op_in_str pins s σ H x y v u Q1 I rx ry ⟨w, z, h1.str, h2.str, k1⟩, op_notin_str pins s σ H x y v u Q2 I rx ry ⟨w, z, h1.str, h2.str, k2⟩⟩
    | _ => simp [isIn] at e
  | dic kvs =>
    simp only [isIn] at e
    cases hk : d1.key with
    | none => rw [hk] at e; cases e
    | some key =>
      rw [hk] at e
      simp only [Option.some.injEq] at e; subst e
      obtain ⟨a, ks, rfl, ha, ra⟩ := h2.dic
      have ex := key_rv hk h1
      subst ex
      cases ry
      have l := look_rd hk ra
      have eo : (look d1 kvs).isSome = (valV ks key).isSome := by
        cases q : look d1 kvs with
        | none => rw [l.2 q]; rfl
        | some d => obtain ⟨w, z, _⟩ := l.1 d q; rw [z]; rfl
      rw [eo] at k1 k2
      exact ⟨d_in (by omega) I (DGet.k ha) rx fun s' I' => ⟨.bl _, H, I', rfl, k1⟩, d_notIn (by omega) I (DGet.k ha) rx fun s' I' => ⟨.bl _, H, I', rfl, k2⟩⟩
  | _ => simp [isIn] at e
theorem op_cin (hu : X.A.units + 64 < cLine) : OpR X (compareOp .In) (rCmp ca (cop .inn)) := by
  intro pins s σ H x y v u Q I rx ry h
  obtain ⟨A, mp, per, d1, d2, b, n, h1, h2, e, k⟩ := h
  have e : isIn d1 d2 = some b := by cases d1 <;> simpa [cop] using e
  exact (in_both hu (Q2 := fun _ _ => True) I rx ry h1 h2 e k trivial).1
theorem op_cnin (hu : X.A.units + 64 < cLine) : OpR X (compareOp .NotIn) (rCmp ca (cop .notIn)) := by
  intro pins s σ H x y v u Q I rx ry h
  obtain ⟨A, mp, per, d1, d2, b, n, h1, h2, e, k⟩ := h
  have e : (isIn d1 d2).map (!·) = some b := by cases d1 <;> simpa [cop] using e
  obtain ⟨c, e1, e2⟩ := Option.map_eq_some_iff.mp e
  subst e2
  exact (in_both hu (Q1 := fun _ _ => True) I rx ry h1 h2 e1 trivial k).2
def copP : Cop → CmpOp
  | .eq => .Eq | .ne => .NotEq | .lt => .Lt | .le => .LtE | .gt => .Gt | .ge => .GtE | .inn => .In | .notIn => .NotIn | .isN => .Is | .notN => .IsNot
theorem op_c (hu : X.A.units + 64 < cLine) (op : Cop) : OpR X (compareOp (copP op)) (rCmp ca (cop op)) := by
  cases op
  · exact op_ceq hu
  · exact op_cne hu
  · exact op_clt
  · exact op_cle
  · exact op_cgt
  · exact op_cge
  · exact op_cin hu
  · exact op_cnin hu
  · exact op_cis
  · exact op_cisn
end
end DL
end
section
set_option Elab.async false
set_option linter.all false
set_option maxRecDepth 100000
/-! Ops3: subscripts, slices, built-in functions, truth, isinstance. -/
namespace DL
open PySem L2 PyProof.Rows
section
variable {ca : Lk} {A : Addr → Prop} {mp : List Addr} {H : Hp}
theorem atI_rv {ds : List D} {vs : List V} {i : Int} {d : D} (r : RVs ca A mp H ds vs) (h : atI ds i = some d) : ∃ v, atI vs i = some v ∧ RV ca A mp H d v := by
  unfold atI at h ⊢
  rw [r.length]
  cases q : ixN ds.length i with
  | none => rw [q] at h; cases h
  | some j =>
    rw [q] at h
    exact r.get h
theorem cut_rv {ds : List D} {vs : List V} {lo hi : Option Int} (r : RVs ca A mp H ds vs) : RVs ca A mp H (cut ds lo hi) (cutV vs lo hi) := by
  unfold cut cutV
  rw [r.length]
  exact (r.drop _).take _
theorem cut_len {α : Type} (xs : List α) (lo hi : Option Int) : (cut xs lo hi).length ≤ xs.length := by
  unfold cut
  rw [List.length_take, List.length_drop]
  omega
theorem cut_map {α β : Type} (f : α → β) (xs : List α) (lo hi : Option Int) : cut (xs.map f) lo hi = (cut xs lo hi).map f := by
  unfold cut
  rw [List.length_map, List.map_take, List.map_drop]
theorem ints_rv (ns : List Int) : RVs ca A mp H (ns.map .int) (ns.map V.int) := by
  induction ns with
  | nil => simp [RVs]
  | cons n ns ih => simp only [List.map_cons, RVs]; exact ⟨_, _, rfl, by simp [RV], ih⟩
end
theorem emp_of {α β : Type} {xs : List α} {ys : List β} (h : xs.length = ys.length) : xs.isEmpty = ys.isEmpty := by
  cases xs <;> cases ys <;> simp at h <;> rfl
/-- one operand, by data -/
def rOne (ca : Lk) (g : D → Option D) (x : V) (H : Hp) (Q : VK) : Prop := ∃ A mp per d1 d, Now ca A mp per H ∧ RC ca A mp H d1 x ∧ g d1 = some d ∧ Kept ca A mp per H d Q
section
variable {X : Cx} {ca : Lk}
theorem ix_D (hu : X.A.units + 64 < cLine) : IxR X (rOpO ca idxD) := by
  intro value slice pins s σ H x y v u Q I rx ry h hs
  obtain ⟨A, mp, per, d1, d2, d, n, h1, h2, e, k⟩ := h
  cases d1 with
  | tup xs =>
    cases d2 with
    | int i =>
      simp only [idxD] at e
      obtain ⟨a, vs, rfl, ha, ra⟩ := h1.tup
      obtain ⟨w, e1, e2⟩ := atI_rv ra e
      exact ix_tup value slice pins s σ H _ y v u Q I rx ry ⟨a, vs, i, w, rfl, h2.int, SqT.of ha, e1, k.here n e2⟩ hs
    | _ => simp [idxD] at e
  | lst xs =>
    cases d2 with
    | int i =>
      simp only [idxD] at e
      obtain ⟨a, vs, rfl, ha, ra⟩ := h1.lst
      obtain ⟨w, e1, e2⟩ := atI_rv ra e
      exact ix_list value slice pins s σ H _ y v u Q I rx ry ⟨a, vs, i, w, rfl, h2.int, SqL.of ha, e1, k.here n e2⟩ hs
    | _ => simp [idxD] at e
  | str z =>
    cases d2 with
    | int i =>
      simp only [idxD] at e
      split at e
      · rename_i hz
        obtain ⟨c, e1, e2⟩ := Option.map_eq_some_iff.mp e
        subst e2
        exact ix_str value slice pins s σ H x y v u Q I rx ry ⟨z, i, c, h1.str, h2.int, hz, e1, k.here n (by simp [RV])⟩ hs
      · cases e
    | _ => simp [idxD] at e
  | dic kvs =>
    simp only [idxD] at e
    cases hk : d2.key with
    | none => rw [hk] at e; cases e
    | some key =>
      rw [hk] at e
      obtain ⟨a, ks, rfl, ha, ra⟩ := h1.dic
      obtain ⟨w, e1, e2⟩ := (look_rd hk ra).1 d e
      have ey := key_rv hk h2
      subst ey
      cases rx
      have g : DGet H a (kV key) (some w) := by rw [← e1]; exact DGet.k ha
      exact tail_any (dict_typeIs I g) PySem.F.slot_dict_getitem.lookup (d_getItem (by omega) I g ry fun w' s' I' r' => ⟨w, H, I', r', k.here n e2⟩) hs
  | _ => simp [idxD] at e
def rSl (ca : Lk) : V → Option Int → Option Int → Hp → VK → Prop := fun x lo hi H Q => rOne ca (slcD lo hi) x H Q
theorem sl_D (hK : X.K = ca.K) : SlR X (rSl ca) := by
  intro pins s σ H x v vl vu lo hi sl Q I rx hs pl pu h
  obtain ⟨A, mp, per, d1, d, n, h1, e, k⟩ := h
  cases d1 with
  | tup xs =>
    simp only [slcD, Option.some.injEq] at e; subst e
    obtain ⟨a, vs, rfl, ha, ra⟩ := h1.tup
    refine sl_tupA pins s σ H _ v vl vu lo hi sl Q I rx hs pl pu ⟨a, vs, rfl, SqT.of ha, fun z => ?_, fun _ p hp => k.tup n (cut_rv ra) hp⟩
    refine k.here n ?_
    have e : cut xs lo hi = xs := by
      unfold cut
      rw [← ra.length, z.1, z.2, List.drop_zero, Nat.sub_zero, ra.length, List.take_length]
    rw [e]
    simp only [RV]
    exact ⟨a, vs, rfl, ha, ra⟩
  | lst xs =>
    simp only [slcD, Option.some.injEq] at e; subst e
    obtain ⟨a, vs, rfl, ha, ra⟩ := h1.lst
    exact sl_list pins s σ H _ v vl vu lo hi sl Q I rx hs pl pu ⟨a, vs, rfl, SqL.of ha, fun p hp => k.lst n (cut_rv ra) hp⟩
  | scr ns =>
    simp only [slcD, Option.some.injEq] at e; subst e
    obtain ⟨a, rfl, ha⟩ := h1.scr
    refine sl_list pins s σ H _ v vl vu lo hi sl Q I rx hs pl pu ⟨a, _, rfl, by rw [hK]; exact ha, fun p hp => k.lst n ?_ hp⟩
    rw [← cut_map]
    exact cut_rv (ints_rv ns)
  | str z =>
    simp only [slcD] at e
    split at e
    · rename_i hz
      simp only [Option.some.injEq] at e; subst e
      exact sl_str pins s σ H x v vl vu lo hi sl Q I rx hs pl pu ⟨z, h1.str, hz, k.here n (by simp [RV])⟩
    · cases e
  | _ => simp [slcD] at e
/-! ### built-in functions -/
def rF1 (ca : Lk) (g : D → Option D) : List V → Hp → VK → Prop := fun xs H Q => ∃ x, xs = [x] ∧ rOne ca g x H Q
theorem call_flen : CallR X (.builtin "len") (rF1 ca (fop .len)) := by
  intro pins s σ H xs us Q I r h
  obtain ⟨x, rfl, A, mp, per, d1, d, n, h1, e, k⟩ := h
  cases d1 with
  | str z =>
    simp only [fop] at e
    split at e
    · rename_i hz
      simp only [Option.some.injEq] at e; subst e
      have e1 := h1.str
      subst e1
      exact call_len pins s σ H _ us Q I r ⟨_, z.length, rfl, ⟨hz, rfl⟩, k.here n (by simp [RV])⟩
    · cases e
  | tup xs =>
    simp only [fop, Option.some.injEq] at e; subst e
    obtain ⟨a, vs, rfl, ha, ra⟩ := h1.tup
    exact call_len_seq pins s σ H _ us Q I r ⟨a, vs, rfl, .inr (SqT.of ha), by rw [ra.length]; exact k.here n (by simp [RV])⟩
  | lst xs =>
    simp only [fop, Option.some.injEq] at e; subst e
    obtain ⟨a, vs, rfl, ha, ra⟩ := h1.lst
    exact call_len_seq pins s σ H _ us Q I r ⟨a, vs, rfl, .inl (SqL.of ha), by rw [ra.length]; exact k.here n (by simp [RV])⟩
  | dic kvs =>
    simp only [fop, Option.some.injEq] at e; subst e
    obtain ⟨a, ks, rfl, ha, ra⟩ := h1.dic
    exact call_lenD pins s σ H _ us Q I r ⟨a, ks, rfl, ha, by rw [ra.length]; exact k.here n (by simp [RV])⟩
  | _ => simp [fop] at e
theorem call_fabs : CallR X (.builtin "abs") (rF1 ca (fop .abs)) := by
  intro pins s σ H xs us Q I r h
  obtain ⟨x, rfl, A, mp, per, d1, d, n, h1, e, k⟩ := h
  cases d1 <;> simp [fop] at e
  subst e
  exact call_abs pins s σ H _ us Q I r ⟨_, by rw [h1.int], k.here n (by simp [RV])⟩
theorem call_fint : CallR X (.type "int") (rF1 ca (fop .int)) := by
  intro pins s σ H xs us Q I r h
  obtain ⟨x, rfl, A, mp, per, d1, d, n, h1, e, k⟩ := h
  cases d1 <;> simp [fop] at e
  · subst e
    exact call_int1 pins s σ H _ us Q I r (.inr ⟨_, by rw [h1.bl], k.here n (by simp [RV])⟩)
  · subst e
    exact call_int1 pins s σ H _ us Q I r (.inl ⟨_, by rw [h1.int], k.here n (by simp [RV])⟩)
theorem call_fstr : CallR X (.type "str") (rF1 ca (fop .str)) := by
  intro pins s σ H xs us Q I r h
  obtain ⟨x, rfl, A, mp, per, d1, d, n, h1, e, k⟩ := h
  cases d1 <;> simp [fop] at e
  obtain ⟨e1, e2⟩ := e
  subst e2
  exact call_str_int pins s σ H _ us Q I r ⟨_, by rw [h1.int], e1, k.here n (by simp [RV])⟩
theorem call_ftuple : CallR X (.type "tuple") (rF1 ca (fop .tuple)) := by
  intro pins s σ H xs us Q I r h
  obtain ⟨x, rfl, A, mp, per, d1, d, n, h1, e, k⟩ := h
  cases d1 with
  | tup xs =>
    simp only [fop, Option.some.injEq] at e; subst e
    obtain ⟨a, vs, rfl, ha, ra⟩ := h1.tup
    refine call_tuple_of pins s σ H _ us Q I r ⟨a, vs, rfl, .inr ⟨SqT.of ha, k.here n ?_⟩⟩
    simp only [RV]
    exact ⟨a, vs, rfl, ha, ra⟩
  | lst xs =>
    simp only [fop, Option.some.injEq] at e; subst e
    obtain ⟨a, vs, rfl, ha, ra⟩ := h1.lst
    exact call_tuple_of pins s σ H _ us Q I r ⟨a, vs, rfl, .inl ⟨SqL.of ha, fun p hp => k.tup n ra hp⟩⟩
  | _ => simp [fop] at e
theorem call_flist (hc : X.calm = true) : CallR X (.type "list") (rF1 ca (fop .list)) := by
  intro pins s σ H xs us Q I r h
  obtain ⟨x, rfl, A, mp, per, d1, d, n, h1, e, k⟩ := h
  cases d1 with
  | tup xs =>
    simp only [fop, Option.some.injEq] at e; subst e
    obtain ⟨a, vs, rfl, ha, ra⟩ := h1.tup
    exact call_list_of pins s σ H _ us Q I r ⟨a, vs, rfl, .inr (SqT.of ha), fun p hp => k.lst n ra hp⟩
  | lst xs =>
    simp only [fop, Option.some.injEq] at e; subst e
    obtain ⟨a, vs, rfl, ha, ra⟩ := h1.lst
    exact call_list_of pins s σ H _ us Q I r ⟨a, vs, rfl, .inl (SqL.of ha), fun p hp => k.lst n ra hp⟩
  | dic kvs =>
    simp only [fop, Option.some.injEq] at e; subst e
    obtain ⟨a, ks, rfl, ha, ra⟩ := h1.dic
    exact call_listD hc pins s σ H _ us Q I r ⟨a, ks, rfl, .inl ha, fun p hp => k.lst n ra.keys hp⟩
  | _ => simp [fop] at e
/-! ### truth -/
theorem tru_D {H : Hp} {A : Addr → Prop} {mp : List Addr} {d : D} {x : V} {b : Bool} (h : RC ca A mp H d x) (e : truth d = some b) : TruV X.K x H b := by
  cases d with
  | non => rw [h.non]; simp only [truth, Option.some.injEq] at e; exact e.symm
  | bl c => rw [h.bl]; simp only [truth, Option.some.injEq] at e; exact e.symm
  | int i => rw [h.int]; simp only [truth, Option.some.injEq] at e; exact e.symm
  | str z =>
    rw [h.str]
    simp only [truth] at e
    split at e
    · rename_i hz
      simp only [Option.some.injEq] at e
      refine ⟨hz, ?_⟩
      rw [← e]
      cases hh : z.length with
      | zero => rfl
      | succ n => simp; omega
    · cases e
  | lst xs =>
    obtain ⟨a, vs, rfl, ha, ra⟩ := h.lst
    simp only [truth, Option.some.injEq] at e
    refine .inl ⟨vs, SqL.of ha, ?_⟩
    rw [← e, emp_of ra.length.symm]
  | tup xs =>
    obtain ⟨a, vs, rfl, ha, ra⟩ := h.tup
    simp only [truth, Option.some.injEq] at e
    refine .inr (.inl ⟨vs, SqT.of ha, ?_⟩)
    rw [← e, emp_of ra.length.symm]
  | _ => simp [truth] at e
end
end DL
end
section
set_option Elab.async false
set_option linter.all false
set_option maxRecDepth 100000
/-! Exp: one lemma an expression. -/
namespace DL
open PySem L2 PyProof.Rows
section
variable {X : Cx} {ca : Lk} {W : WX} {xn : List (Addr × Obj)} {e a b c : Expr} {pos : Pos} {m ma mb : Env → P D} {es ea eb : List Nat}
theorem se_read (h : PE X e (tE ca W xn m es)) : PE X e (tR ca W xn m es) := h.imp fun σ H Q ⟨B, A, env, mp, per, p, r, res⟩ => by
  refine ⟨B, A, env, mp, per, p, r, ?_⟩
  revert res
  cases m env per with
  | ok d per' => exact fun res mp' H' v e q hv => res mp' H' v e q (.inl hv)
  | exc x per' => exact fun res => res
  | bad => exact fun res => res
theorem se_more (h : PE X e (tE ca W xn m ea)) (hs : ∀ i ∈ ea, i ∈ es) : PE X e (tE ca W xn m es) := h.imp fun σ H Q ⟨B, A, env, mp, per, p, r, res⟩ => ⟨B, A, env, mp, per, p, r.esc hs, res⟩
theorem se_var {i : Nat} {x : Str} (hN : X.N[i]? = some x) (hv : Vis X.env.scope x) (hd : (x == ("__debug__" : Str)) = false) (hcd : (x == ("__classdict__" : Str)) = false) :
    PE X (.Name x pos) (tE ca W xn (fun env => slotD env i) [i]) ∧ PE X (.Name x pos) (tR ca W xn (fun env => slotD env i) []) := by
  refine ⟨(pe_var hN hv hd hcd).imp fun σ H Q h => ?_, (pe_var hN hv hd hcd).imp fun σ H Q h => ?_⟩
  all_goals
    obtain ⟨B, A, env, mp, per, p, r, res⟩ := h
    dsimp only at res
    unfold slotD at res
    cases q : env[i]? with
    | none => rw [q] at res; exact res.elim
    | some o =>
      rw [q] at res
      cases o with
      | none => exact res.elim
      | some sl =>
        dsimp only at res
        cases hx : sl.d.isExn with
        | true => rw [hx] at res; exact res.elim
        | false =>
          rw [hx] at res
          obtain ⟨v, e1, t, bb, z⟩ := r.slot i sl q hx
          first
            | exact ⟨v, e1, res mp H v Ext.refl p (z (by simp))⟩
            | exact ⟨v, e1, res mp H v Ext.refl p t⟩
theorem se_con {d : D} {v : V} (h : PE X e (tC v)) (hf : ∀ A mp H, RV ca A mp H d v) : PE X e (tE ca W xn (fun _ => P.ret d) []) := h.imp fun σ H Q ⟨B, A, env, mp, per, p, r, res⟩ => res mp H v Ext.refl p (hf _ _ _)
theorem fin2 {α β γ : Type} {Rt : (Addr → Prop) → List Addr → Hp → γ → β → Prop} {B A : Addr → Prop} {mp : List Addr} {σ : L2.St} {H : Hp} {Q : β → Hp → Prop} {per : List D} {d1 d2 : D} {g : D → D → Option γ}
    (res : Res ca W Rt B A mp σ H Q (P.bind (deref d1) (fun x => P.bind (deref d2) fun y => P.opt (g x y)) per)) :
    ∃ d1' d2' d, deref d1 per = .ok d1' per ∧ deref d2 per = .ok d2' per ∧ g d1' d2' = some d ∧ Res ca W Rt B A mp σ H Q (.ok d per) := by
  unfold P.bind at res
  rcases deref_cases d1 per with ⟨d1', e1⟩ | e1
  · rw [e1] at res
    dsimp only at res
    rcases deref_cases d2 per with ⟨d2', e2⟩ | e2
    · rw [e2] at res
      dsimp only at res
      cases q : g d1' d2' with
      | none => rw [q] at res; exact res.elim
      | some d => rw [q] at res; exact ⟨d1', d2', d, e1, e2, q, res⟩
    · rw [e2] at res; exact res.elim
  · rw [e1] at res; exact res.elim
theorem fin1 {β γ : Type} {Rt : (Addr → Prop) → List Addr → Hp → γ → β → Prop} {B A : Addr → Prop} {mp : List Addr} {σ : L2.St} {H : Hp} {Q : β → Hp → Prop} {per : List D} {d1 : D} {g : D → Option γ}
    (res : Res ca W Rt B A mp σ H Q (P.bind (deref d1) (fun x => P.opt (g x)) per)) :
    ∃ d1' d, deref d1 per = .ok d1' per ∧ g d1' = some d ∧ Res ca W Rt B A mp σ H Q (.ok d per) := by
  unfold P.bind at res
  rcases deref_cases d1 per with ⟨d1', e1⟩ | e1
  · rw [e1] at res
    dsimp only at res
    cases q : g d1' with
    | none => rw [q] at res; exact res.elim
    | some d => rw [q] at res; exact ⟨d1', d, e1, q, res⟩
  · rw [e1] at res; exact res.elim
theorem ERel.now {B A : Addr → Prop} {mp : List Addr} {env : Env} {σ : L2.St} {H : Hp} {per : List D} {pn : List (Addr × Obj)} (r : ERel ca B A mp es pn env σ H) (p : PerRel ca mp H per) : Now ca A mp per H := ⟨p, r.dom⟩
theorem Res.keptO {B A : Addr → Prop} {mp : List Addr} {σ : L2.St} {H : Hp} {Q : VK} {per : List D} {d : D} (res : Res ca W (RV ca) B A mp σ H Q (.ok d per)) : KeptO ca A mp per H d Q := fun H' v e q hv => res mp H' v e q hv
theorem Res.kept {B A : Addr → Prop} {mp : List Addr} {σ : L2.St} {H : Hp} {Q : VK} {per : List D} {d : D} (res : Res ca W (RV ca) B A mp σ H Q (.ok d per)) : Kept ca A mp per H d Q := res.keptO.kept
/-- .. a list, a dict: a new object -/
def tN (ca : Lk) (W : WX) (pn : List (Addr × Obj)) (m : Env → P D) (es : List Nat) : TE := fun σ H Q => tG ca W pn (fun A mp H' d v => RV ca A mp H' d v ∧ (d.box = true → ∃ a, v = .ref a ∧ H a = none ∧ Top ca (fun b => A b ∨ b = a) mp H' a d)) m es σ H Q
theorem tN.of (σ : L2.St) (H : Hp) (Q : VK) (h : tE ca W xn m es σ H Q) : tN ca W xn m es σ H Q := by
  obtain ⟨B, A, env, mp, per, p, r, res⟩ := h
  refine ⟨B, A, env, mp, per, p, r, ?_⟩
  revert res
  cases m env per with
  | ok d per' => exact fun res mp' H' v e q hv => res mp' H' v e q hv.1
  | exc x per' => exact fun res => res
  | bad => exact fun res => res
theorem Res.keptN {B A : Addr → Prop} {mp mp0 : List Addr} {σ : L2.St} {H H0 : Hp} {Q : VK} {per : List D} {d : D} (res : Res ca W (fun A mp H' d v => RV ca A mp H' d v ∧ (d.box = true → ∃ a, v = .ref a ∧ H0 a = none ∧ Top ca (fun b => A b ∨ b = a) mp H' a d)) B A mp σ H Q (.ok d per)) (e : Ext mp0 H0 mp H) (p : PerRel ca mp H per) : Kept ca A mp per H d Q := fun H' v e' q hv hn => res mp H' v e' q ⟨hv, fun hb => by
  obtain ⟨a, ea, ha, ht⟩ := hn hb
  exact ⟨a, ea, e.fr.none (fun z => p.notMem ha (e.mem z)) ha, ht⟩⟩
theorem sn_bin (op : Bop) (ha : PE X a (tR ca W xn ma ea)) (hb : PE X b (tR ca W xn mb eb)) :
    PE X (.BinOp a (opP op) b pos) (tN ca W xn (fun env => P.bind (ma env) fun x => P.bind (mb env) fun y => P.bind (deref x) fun x => P.bind (deref y) fun y => P.opt (bop op x y)) (ea ++ eb)) :=
  (pe_op (op_b (ca := ca) op) ha hb).imp fun σ H Q ⟨B, A, env, mp, per, p, r, res⟩ =>
    tG.seq (f := fun x env => P.bind (mb env) fun y => P.bind (deref x) fun x => P.bind (deref y) fun y => P.opt (bop op x y)) p r (r.esc fun i h => List.mem_append_left _ h) res fun d1 v1 mp1 per1 H1 e1 p1 r1 hv1 res1 =>
    tG.seq (f := fun y env => P.bind (deref d1) fun x => P.bind (deref y) fun y => P.opt (bop op x y)) p1 r1 (r1.esc fun i h => List.mem_append_right _ h) res1 fun d2 v2 mp2 per2 H2 e2 p2 r2 hv2 res2 => by
      obtain ⟨c1, c2, d, q1, q2, q3, k⟩ := fin2 (α := D) res2
      exact ⟨A, mp2, per2, c1, c2, d, r2.now p2, (deref_rc p2 (e2.rt hv1) q1).2, (deref_rc p2 hv2 q2).2, q3, Res.keptN k (e1.trans e2) p2⟩
theorem se_bin (op : Bop) (ha : PE X a (tR ca W xn ma ea)) (hb : PE X b (tR ca W xn mb eb)) :
    PE X (.BinOp a (opP op) b pos) (tE ca W xn (fun env => P.bind (ma env) fun x => P.bind (mb env) fun y => P.bind (deref x) fun x => P.bind (deref y) fun y => P.opt (bop op x y)) (ea ++ eb)) := (sn_bin op ha hb).imp tN.of
theorem se_cmp (hu : X.A.units + 64 < cLine) (op : Cop) (ha : PE X a (tR ca W xn ma ea)) (hb : PE X b (tR ca W xn mb eb)) (hm : behindInMarks (copP op) b = false) :
    PE X (.Compare a [copP op] [b] pos) (tE ca W xn (fun env => P.bind (ma env) fun x => P.bind (mb env) fun y => P.bind (deref x) fun x => P.bind (deref y) fun y => P.bind (P.opt (cop op x y)) fun k => P.ret (D.bl k)) []) ∧
    PT X (.Compare a [copP op] [b] pos) (tB ca W xn (fun env => P.bind (ma env) fun x => P.bind (mb env) fun y => P.bind (deref x) fun x => P.bind (deref y) fun y => P.opt (cop op x y))) := by
  refine ⟨(pe_cmpR (op_c (ca := ca) hu op) ha hb hm).imp fun σ H Q ⟨B, A, env, mp, per, p, r, res⟩ => ?_, (pt_cmpR (op_c (ca := ca) hu op) ha hb hm).imp fun σ H Q ⟨B, A, env, mp, per, p, r, res⟩ => ?_⟩
  · refine tG.seq (f := fun x env => P.bind (mb env) fun y => P.bind (deref x) fun x => P.bind (deref y) fun y => P.bind (P.opt (cop op x y)) fun k => P.ret (D.bl k)) p r r.low res fun d1 v1 mp1 per1 H1 e1 p1 r1 hv1 res1 => ?_
    refine tG.seq (f := fun y env => P.bind (deref d1) fun x => P.bind (deref y) fun y => P.bind (P.opt (cop op x y)) fun k => P.ret (D.bl k)) p1 r1 r1.low res1 fun d2 v2 mp2 per2 H2 e2 p2 r2 hv2 res2 => ?_
    have res3 : Res ca W (RV ca) B A mp2 σ H2 Q (P.bind (deref d1) (fun x => P.bind (deref d2) fun y => P.opt ((cop op x y).map D.bl)) per2) := by
      refine cast (congrArg _ ?_) res2
      unfold P.bind
      cases deref d1 per2 with
      | ok x q =>
        dsimp only
        cases deref d2 q with
        | ok y q' => dsimp only; cases cop op x y <;> rfl
        | _ => rfl
      | _ => rfl
    obtain ⟨c1, c2, d, q1, q2, q3, k⟩ := fin2 (α := D) res3
    obtain ⟨k0, q4, q5⟩ := Option.map_eq_some_iff.mp q3
    subst q5
    exact ⟨B, mp2, per2, c1, c2, k0, (r2.low (es' := [])).now p2, (deref_rc p2 (e2.rt hv1) q1).2, (deref_rc p2 hv2 q2).2, q4, (Res.kept k).here (r2.now p2) (by simp [RV])⟩
  · refine tG.seq (f := fun x env => P.bind (mb env) fun y => P.bind (deref x) fun x => P.bind (deref y) fun y => P.opt (cop op x y)) p r r.low res fun d1 v1 mp1 per1 H1 e1 p1 r1 hv1 res1 => ?_
    refine tG.seq (f := fun y env => P.bind (deref d1) fun x => P.bind (deref y) fun y => P.opt (cop op x y)) p1 r1 r1.low res1 fun d2 v2 mp2 per2 H2 e2 p2 r2 hv2 res2 => ?_
    obtain ⟨c1, c2, d, q1, q2, q3, k⟩ := fin2 (α := D) res2
    exact ⟨B, mp2, per2, c1, c2, d, (r2.low (es' := [])).now p2, (deref_rc p2 (e2.rt hv1) q1).2, (deref_rc p2 hv2 q2).2, q3, d, rfl, k mp2 H2 d Ext.refl p2 rfl⟩
/-- any other expression as a test -/
theorem st_of (h : PE X e (tR ca W xn m es)) (he : ∀ whole, isTrue e X.env whole = (do let v ← whole; standAt e.pos; holding [v] (truthy v))) :
    PT X e (tB ca W xn (fun env => P.bind (m env) fun x => P.bind (deref x) fun x => P.opt (truth x))) :=
  (pt_truth h he).imp fun σ H Q ⟨B, A, env, mp, per, p, r, res⟩ =>
    tG.seq (f := fun x env => P.bind (deref x) fun x => P.opt (truth x)) p r r.low res fun d1 v1 mp1 per1 H1 e1 p1 r1 hv1 res1 => by
      obtain ⟨c1, d, q1, q2, k⟩ := fin1 res1
      exact ⟨d, tru_D (deref_rc p1 hv1 q1).2 q2, k mp1 H1 d Ext.refl p1 rfl⟩
theorem st_not {ma : Env → P Bool} (ha : PT X a (tB ca W xn ma)) : PT X (.UnaryOp .Not a pos) (tB ca W xn (fun env => P.bind (ma env) fun b => P.ret (!b))) :=
  (pt_not ha).imp fun σ H Q ⟨B, A, env, mp, per, p, r, res⟩ =>
    tG.seq (f := fun b env => P.ret (!b)) p r r res fun d1 v1 mp1 per1 H1 e1 p1 r1 hv1 res1 => res1 mp1 H1 (!v1) Ext.refl p1 (by rw [hv1])
theorem se_not (ha : PE X a (tE ca W xn ma ea)) : PE X (.UnaryOp .Not a pos) (tE ca W xn (fun env => P.bind (ma env) fun x => match x with
    | .bl b => P.ret (D.bl (!b))
    | _ => P.bad) []) :=
  (pe_not ha).imp fun σ H Q ⟨B, A, env, mp, per, p, r, res⟩ =>
    tG.seq (f := fun (x : D) env => match x with
      | .bl b => P.ret (D.bl (!b))
      | _ => P.bad) p r r.low res fun d1 v1 mp1 per1 H1 e1 p1 r1 hv1 res1 => by
      cases d1 with
      | bl k => exact ⟨k, by simpa [RV] using hv1, res1 mp1 H1 _ Ext.refl p1 (by simp [RV])⟩
      | _ => exact res1.elim
theorem se_neg (ha : PE X a (tE ca W xn ma ea)) : PE X (.UnaryOp .USub a pos) (tE ca W xn (fun env => P.bind (ma env) fun x => match x with
    | .int i => P.ret (D.int (-i))
    | _ => P.bad) []) :=
  (pe_un un_neg ha).imp fun σ H Q ⟨B, A, env, mp, per, p, r, res⟩ =>
    tG.seq (f := fun (x : D) env => match x with
      | .int i => P.ret (D.int (-i))
      | _ => P.bad) p r r.low res fun d1 v1 mp1 per1 H1 e1 p1 r1 hv1 res1 => by
      cases d1 with
      | int k => exact ⟨k, by simpa [RV] using hv1, res1 mp1 H1 _ Ext.refl p1 (by simp [RV])⟩
      | _ => exact res1.elim
theorem sw_and {ma mb : Env → P Bool} {rest : List Expr} (ha : PT X a (tB ca W xn ma)) (hb : PW X (.BoolOp .And (b :: rest) pos) (tB ca W xn mb)) :
    PW X (.BoolOp .And (a :: b :: rest) pos) (tB ca W xn (fun env => P.bind (ma env) fun k => if k then mb env else P.ret false)) :=
  (pw_and ha hb).imp fun σ H Q ⟨B, A, env, mp, per, p, r, res⟩ =>
    tG.seq (f := fun k env => if k then mb env else P.ret false) p r r res fun d1 v1 mp1 per1 H1 e1 p1 r1 hv1 res1 => by
      subst hv1
      cases v1 with
      | true => exact iteT ⟨B, A, env, mp1, per1, p1, r1, res1⟩
      | false => exact iteF (res1 mp1 H1 false Ext.refl p1 rfl)
theorem sw_or {ma mb : Env → P Bool} {rest : List Expr} (ha : PT X a (tB ca W xn ma)) (hb : PW X (.BoolOp .Or (b :: rest) pos) (tB ca W xn mb)) :
    PW X (.BoolOp .Or (a :: b :: rest) pos) (tB ca W xn (fun env => P.bind (ma env) fun k => if k then P.ret true else mb env)) :=
  (pw_or ha hb).imp fun σ H Q ⟨B, A, env, mp, per, p, r, res⟩ =>
    tG.seq (f := fun k env => if k then P.ret true else mb env) p r r res fun d1 v1 mp1 per1 H1 e1 p1 r1 hv1 res1 => by
      subst hv1
      cases v1 with
      | false => exact iteF ⟨B, A, env, mp1, per1, p1, r1, res1⟩
      | true => exact iteT (res1 mp1 H1 true Ext.refl p1 rfl)
theorem se_and {rest : List Expr} (ha : PE X a (tE ca W xn ma ea)) (hb : PE X (.BoolOp .And (b :: rest) pos) (tE ca W xn mb eb)) :
    PE X (.BoolOp .And (a :: b :: rest) pos) (tE ca W xn (fun env => P.bind (ma env) fun x => match x with
    | .bl true => mb env
    | .bl false => P.ret (D.bl false)
    | _ => P.bad) eb) :=
  (pe_and ha hb).imp fun σ H Q ⟨B, A, env, mp, per, p, r, res⟩ =>
    tG.seq (f := fun (x : D) env => match x with
      | .bl true => mb env
      | .bl false => P.ret (D.bl false)
      | _ => P.bad) p r r.low res fun d1 v1 mp1 per1 H1 e1 p1 r1 hv1 res1 => by
      cases d1 with
      | bl k =>
        refine ⟨k, by simpa [RV] using hv1, ?_⟩
        cases k with
        | true => exact iteT ⟨B, A, env, mp1, per1, p1, r1, res1⟩
        | false => exact iteF (res1 mp1 H1 _ Ext.refl p1 (by simp [RV]))
      | _ => exact res1.elim
theorem se_or {rest : List Expr} (ha : PE X a (tE ca W xn ma ea)) (hb : PE X (.BoolOp .Or (b :: rest) pos) (tE ca W xn mb eb)) :
    PE X (.BoolOp .Or (a :: b :: rest) pos) (tE ca W xn (fun env => P.bind (ma env) fun x => match x with
    | .bl true => P.ret (D.bl true)
    | .bl false => mb env
    | _ => P.bad) eb) :=
  (pe_or ha hb).imp fun σ H Q ⟨B, A, env, mp, per, p, r, res⟩ =>
    tG.seq (f := fun (x : D) env => match x with
      | .bl true => P.ret (D.bl true)
      | .bl false => mb env
      | _ => P.bad) p r r.low res fun d1 v1 mp1 per1 H1 e1 p1 r1 hv1 res1 => by
      cases d1 with
      | bl k =>
        refine ⟨k, by simpa [RV] using hv1, ?_⟩
        cases k with
        | false => exact iteF ⟨B, A, env, mp1, per1, p1, r1, res1⟩
        | true => exact iteT (res1 mp1 H1 _ Ext.refl p1 (by simp [RV]))
      | _ => exact res1.elim
theorem se_ite {mc : Env → P Bool} (hc : PT X c (tB ca W xn mc)) (ha : PE X a (tE ca W xn ma ea)) (hb : PE X b (tE ca W xn mb eb)) :
    PE X (.IfExp c a b pos) (tE ca W xn (fun env => P.bind (mc env) fun k => if k then ma env else mb env) (ea ++ eb)) :=
  (pe_ifExp hc ha hb).imp fun σ H Q ⟨B, A, env, mp, per, p, r, res⟩ =>
    tG.seq (f := fun k env => if k then ma env else mb env) p r (r.esc (es' := []) (by simp)) res fun d1 v1 mp1 per1 H1 e1 p1 r1 hv1 res1 => by
      subst hv1
      cases v1 with
      | true => exact iteT ⟨B, A, env, mp1, per1, p1, r1.esc fun i h => List.mem_append_left _ h, res1⟩
      | false => exact iteF ⟨B, A, env, mp1, per1, p1, r1.esc fun i h => List.mem_append_right _ h, res1⟩
/-! ### several -/
theorem sa_nil : PA X [] (tEs ca W xn (fun _ => P.ret []) []) := pa_nil.imp fun σ H Q ⟨B, A, env, mp, per, p, r, res⟩ => res mp H [] Ext.refl p (by simp [RVs])
theorem sa_cons {l : List Expr} {ml : Env → P (List D)} (ha : PE X a (tE ca W xn ma ea)) (hl : PA X l (tEs ca W xn ml eb)) (hs : starEach (a :: l) X.env = (false, eval a X.env) :: starEach l X.env) :
    PA X (a :: l) (tEs ca W xn (fun env => P.bind (ma env) fun x => P.bind (ml env) fun xs => P.ret (x :: xs)) (ea ++ eb)) :=
  (pa_cons ha hl hs).imp fun σ H Q ⟨B, A, env, mp, per, p, r, res⟩ =>
    tG.seq (f := fun x env => P.bind (ml env) fun xs => P.ret (x :: xs)) p r (r.esc fun i h => List.mem_append_left _ h) res fun d1 v1 mp1 per1 H1 e1 p1 r1 hv1 res1 =>
    tG.seq (f := fun xs env => P.ret (d1 :: xs)) p1 r1 (r1.esc fun i h => List.mem_append_right _ h) res1 fun d2 v2 mp2 per2 H2 e2 p2 r2 hv2 res2 => by
      refine res2 mp2 H2 (v1 :: v2) Ext.refl p2 ?_
      simp only [RVs]
      exact ⟨v1, v2, rfl, e2.rv hv1, hv2⟩
theorem se_tup {l : List Expr} {x1} {ml : Env → P (List D)} (hl : PA X l (tEs ca W xn ml es)) : PE X (.Tuple l x1 pos) (tE ca W xn (fun env => P.bind (ml env) fun xs => if xs.length ≤ sizeLine then P.ret (D.tup xs) else P.bad) es) :=
  (pe_tup hl).imp fun σ H Q ⟨B, A, env, mp, per, p, r, res⟩ =>
    tG.seq (f := fun xs env => if xs.length ≤ sizeLine then P.ret (D.tup xs) else P.bad) p r r res fun d1 v1 mp1 per1 H1 e1 p1 r1 hv1 res1 => by
      by_cases hz : d1.length ≤ sizeLine
      · rw [if_pos hz] at res1
        exact ⟨by rw [hv1.length]; exact hz, fun q hq => Kept.tup (r1.now p1) (Res.kept res1) hv1 hq⟩
      · rw [if_neg hz] at res1; exact res1.elim
theorem sn_lst {l : List Expr} {ml : Env → P (List D)} (hl : PA X l (tEs ca W xn ml es)) : PE X (.List l pos) (tN ca W xn (fun env => P.bind (ml env) fun xs => if xs.length ≤ sizeLine then P.ret (D.lst xs) else P.bad) es) :=
  (pe_lst hl).imp fun σ H Q ⟨B, A, env, mp, per, p, r, res⟩ =>
    tG.seq (f := fun xs env => if xs.length ≤ sizeLine then P.ret (D.lst xs) else P.bad) p r r res fun d1 v1 mp1 per1 H1 e1 p1 r1 hv1 res1 => by
      by_cases hz : d1.length ≤ sizeLine
      · rw [if_pos hz] at res1
        exact ⟨by rw [hv1.length]; exact hz, fun q hq => Kept.lst (r1.now p1) (Res.keptN res1 e1 p1) hv1 hq⟩
      · rw [if_neg hz] at res1; exact res1.elim
theorem se_lst {l : List Expr} {ml : Env → P (List D)} (hl : PA X l (tEs ca W xn ml es)) : PE X (.List l pos) (tE ca W xn (fun env => P.bind (ml env) fun xs => if xs.length ≤ sizeLine then P.ret (D.lst xs) else P.bad) es) := (sn_lst hl).imp tN.of
theorem sn_dct : PE X (.Dict [] [] pos) (tN ca W xn (fun _ => P.ret (.dic [])) []) := pe_dnewK.imp fun σ H Q ⟨B, A, env, mp, per, p, r, res⟩ => by
  intro q hq
  refine res mp (upd H q (.dK [])) (.ref q) (Ext.alloc hq) (p.alloc hq) ⟨?_, fun _ => ⟨q, rfl, hq, [], upd_same, by simp [RD]⟩⟩
  simp only [RV]
  exact ⟨q, [], rfl, r.new p hq, upd_same, by simp [RD]⟩
/-! ### subscripts, slices -/
theorem se_idx (hu : X.A.units + 64 < cLine) (ha : PE X a (tR ca W xn ma ea)) (hb : PE X b (tE ca W xn mb eb)) (hp : PlainIx b) :
    PE X (.Subscript a b pos) (tE ca W xn (fun env => P.bind (ma env) fun x => P.bind (mb env) fun y => P.bind (deref x) fun x => P.opt (idxD x y)) ea) :=
  (pe_ix (ix_D (ca := ca) hu) ha hb hp).imp fun σ H Q ⟨B, A, env, mp, per, p, r, res⟩ =>
    tG.seq (f := fun x env => P.bind (mb env) fun y => P.bind (deref x) fun x => P.opt (idxD x y)) p r r res fun d1 v1 mp1 per1 H1 e1 p1 r1 hv1 res1 =>
    tG.seq (f := fun y env => P.bind (deref d1) fun x => P.opt (idxD x y)) p1 r1 r1.low res1 fun d2 v2 mp2 per2 H2 e2 p2 r2 hv2 res2 => by
      obtain ⟨c1, d, q1, q3, k⟩ := fin1 (g := fun x => idxD x d2) res2
      have hf : d2.flat = true := by
        cases d2 <;> first
          | rfl
          | (cases c1 <;> simp [idxD, D.key] at q3)
      exact ⟨A, mp2, per2, c1, d2, d, r2.now p2, (deref_rc p2 (e2.rt hv1) q1).2, .inl (hv2.flat hf), q3, Res.keptO k⟩
def tOi (W : WX) (pn : List (Addr × Obj)) (m : Env → P (Option Int)) : L2.St → Hp → (Option Int → Hp → Prop) → Prop := tG ca W pn (fun _ _ _ (o o' : Option Int) => o' = o) m []
theorem so_none : PO X none (tOi (ca := ca) W xn (fun _ => P.ret none)) := ⟨fun pins s σ H Q I h => (po_none (X := X)).run pins s σ H Q I (by
  obtain ⟨B, A, env, mp, per, p, r, res⟩ := h
  exact res mp H none Ext.refl p rfl)⟩
theorem so_some (ha : PE X a (tE ca W xn ma ea)) : PO X (some a) (tOi (ca := ca) W xn (fun env => P.bind (ma env) fun x => match x with
    | .int i => P.ret (some i)
    | _ => P.bad)) := ⟨fun pins s σ H Q I h => (po_some ha).run pins s σ H Q I (by
  obtain ⟨B, A, env, mp, per, p, r, res⟩ := h
  exact tG.seq (f := fun (x : D) env => match x with
    | .int i => P.ret (some i)
    | _ => P.bad) p r r.low res fun d1 v1 mp1 per1 H1 e1 p1 r1 hv1 res1 => by
      cases d1 with
      | int k => exact ⟨k, by simpa [RV] using hv1, res1 mp1 H1 _ Ext.refl p1 rfl⟩
      | _ => exact res1.elim)⟩
theorem sn_slc {lo hi : Option Expr} {p2 : Pos} {ml mh : Env → P (Option Int)} (hK : X.K = ca.K) (ha : PE X a (tR ca W xn ma ea)) (hl : PO X lo (tOi (ca := ca) W xn ml)) (hh : PO X hi (tOi (ca := ca) W xn mh)) :
    PE X (.Subscript a (.Slice lo hi none p2) pos) (tN ca W xn (fun env => P.bind (ma env) fun x => P.bind (ml env) fun l => P.bind (mh env) fun h => P.bind (deref x) fun x => P.opt (slcD l h x)) ea) :=
  (pe_slice (sl_D hK) ha hl hh).imp fun σ H Q ⟨B, A, env, mp, per, p, r, res⟩ =>
    tG.seq (f := fun x env => P.bind (ml env) fun l => P.bind (mh env) fun h => P.bind (deref x) fun x => P.opt (slcD l h x)) p r r res fun d1 v1 mp1 per1 H1 e1 p1 r1 hv1 res1 =>
    tG.seq (f := fun l env => P.bind (mh env) fun h => P.bind (deref d1) fun x => P.opt (slcD l h x)) p1 r1 (r1.esc (by simp)) res1 fun d2 v2 mp2 per2 H2 e2 p2 r2 hv2 res2 =>
    tG.seq (f := fun h env => P.bind (deref d1) fun x => P.opt (slcD d2 h x)) p2 r2 (r2.esc (by simp)) res2 fun d3 v3 mp3 per3 H3 e3 p3 r3 hv3 res3 => by
      obtain ⟨c1, d, q1, q3, k⟩ := fin1 (g := fun x => slcD d2 d3 x) res3
      subst hv2 hv3
      exact ⟨A, mp3, per3, c1, d, r3.now p3, (deref_rc p3 (e3.rt (e2.rt hv1)) q1).2, q3, Res.keptN k ((e1.trans e2).trans e3) p3⟩
theorem se_slc {lo hi : Option Expr} {p2 : Pos} {ml mh : Env → P (Option Int)} (hK : X.K = ca.K) (ha : PE X a (tR ca W xn ma ea)) (hl : PO X lo (tOi (ca := ca) W xn ml)) (hh : PO X hi (tOi (ca := ca) W xn mh)) :
    PE X (.Subscript a (.Slice lo hi none p2) pos) (tE ca W xn (fun env => P.bind (ma env) fun x => P.bind (ml env) fun l => P.bind (mh env) fun h => P.bind (deref x) fun x => P.opt (slcD l h x)) ea) := (sn_slc hK ha hl hh).imp tN.of
end
end DL
end
section
set_option Elab.async false
set_option linter.all false
set_option maxRecDepth 100000
/-! Exp2: attributes, calls, isinstance. -/
namespace DL
open PySem L2 PyProof.Rows
/-- a class of the text, as the written part has it -/
structure COk (K : PySem.W.Frag) (C : Addr) : Prop where
  cls : Cls K C
  ha : PySem.W.findIn K (.ref C) "__class__" = some (some (.builtin "object.__class__"))
  hn : PySem.W.specialIn K (.builtin "object.__class__") "__get__" = some (some (.builtin "getset_descriptor.__get__"))
  htk : PySem.W.takesIn K (.builtin "object.__class__") = some true
  hm : PySem.W.mroIn K C (.type "object") = some true
def tyNames : List String := ["NoneType", "bool", "int", "str", "list", "tuple"]
structure TOk (T : Tab) (ca : Lk) : Prop where
  cls : ∀ c cl, (T.cl c) = some cl → cl.exc = false → COk ca.K (ca.at_ c)
  noat : ∀ c cl f, (T.cl c) = some cl → cl.exc = false → f ∈ cl.flds → NoAttr ca.K (ca.at_ c) f
  con : ∀ c cl f d, (T.cl c) = some cl → cl.exc = false → cl.consts.lookup f = some d → ∃ v u, Con ca.K (ca.at_ c) f v u ∧ ∀ A mp H, RV ca A mp H d v
  xf : ∀ c cl, (T.cl c) = some cl → cl.exc = true → XfC ca.K (ca.at_ c) ∧ ∀ f ∈ cl.flds, PySem.W.findIn ca.K (.ref (ca.at_ c)) f = some none
  exm : ∀ (k : Nat) (cl : Cl) (c : Nat), (T.cl k) = some cl → cl.exc = true → excAt T c = true → PySem.W.exmOne ca.K (.ref (ca.at_ k)) (.ref (ca.at_ c)) = some (cl.sups.contains c)
  kitCC : ∀ (c : Nat) (cl : Cl) (k : Nat), (T.cl c) = some cl → cl.exc = false → (T.cl k).isSome = true → PySem.W.kitOne ca.K (.ref (ca.at_ c)) (.ref (ca.at_ k)) = some (cl.sups.contains k)
  kitTC : ∀ (k : Nat) (n : String), (T.cl k).isSome = true → n ∈ tyNames → PySem.W.kitOne ca.K (.type n) (.ref (ca.at_ k)) = some false
  kitTT : ∀ n ∈ tyNames, ∀ k ∈ ["bool", "int", "str", "list", "tuple"], PySem.W.kitOne ca.K (.type n) (.type k) = some (n == k || (n == "bool" && k == "int"))
section
variable {X : Cx} {ca : Lk} {W : WX} {xn : List (Addr × Obj)} {e a b c : Expr} {pos p : Pos} {m ma mb : Env → P D} {es ea eb : List Nat} {T : Tab}
/-! ### o.f -/
theorem se_att {f : Str} (hK : X.K = ca.K) (tok : TOk T ca) (ha : PE X a (tR ca W xn ma ea)) (hb : attributeBase a f X.env (eval a X.env) = eval a X.env) :
    PE X (.Attribute a f pos) (tE ca W xn (fun env => P.bind (ma env) fun x => P.bind (deref x) fun x => P.opt (attD T f x)) ea) := by
  refine ⟨fun pins s σ H Q I h => ?_⟩
  obtain ⟨B, A, env, mp, per, pp, r, res⟩ := h
  have h1 : tR ca W xn ma ea σ H fun x H1 => ∃ q d u C dx fs, x = .ref q ∧ H1 q = some (.ins C dx fs) ∧ Cls X.K C ∧ ((NoAttr X.K C f ∧ fs.lookup f = some d) ∨ (Con X.K C f d u ∧ fs.lookup f = none)) ∧ Q d H1 :=
    tG.seq (f := fun x env => P.bind (deref x) fun x => P.opt (attD T f x)) pp r r res fun d1 v1 mp1 per1 H1 e1 p1 r1 hv1 res1 => by
      obtain ⟨c1, d, q1, q2, k⟩ := fin1 res1
      have rc := (deref_rc p1 hv1 q1).2
      cases c1 with
      | ins c fs =>
        obtain ⟨q, dx, gs, rfl, hq, rf⟩ := rc.ins
        simp only [attD] at q2
        cases hc : (T.cl c) with
        | none => rw [hc] at q2; cases q2
        | some cl =>
          rw [hc] at q2
          simp only [Option.bind_some] at q2
          cases hx : cl.exc with
          | true => rw [hx] at q2; simp at q2
          | false =>
            rw [hx] at q2
            simp only [Bool.false_eq_true, if_false] at q2
            have co := tok.cls c cl hc hx
            rw [← hK] at co
            by_cases hf : cl.flds.contains f = true
            · rw [if_pos hf] at q2
              obtain ⟨w, l1, l2⟩ := rf.look.1 d q2
              have na := tok.noat c cl f hc hx (by simpa using hf)
              rw [← hK] at na
              exact ⟨q, w, .none, _, dx, gs, rfl, hq, co.cls, .inl ⟨na, l1⟩, (Res.keptO k).here (r1.now p1) l2⟩
            · rw [if_neg hf] at q2
              by_cases hl : (fs.lookup f).isNone = true
              · rw [if_pos hl] at q2
                obtain ⟨w, u, hw, rw'⟩ := tok.con c cl f d hc hx q2
                rw [← hK] at hw
                exact ⟨q, w, u, _, dx, gs, rfl, hq, co.cls, .inr ⟨hw, rf.look.2 (by simpa using hl)⟩, (Res.keptO k).here (r1.now p1) (rw' _ _ _)⟩
              · rw [if_neg hl] at q2; cases q2
      | _ => simp [attD] at q2
  refine attr_of hb (thn (ha.run pins s σ H _ I h1) fun u s1 ⟨x, H1, I1, rx, hh⟩ => ?_)
  obtain ⟨q, d, w, C, dx, fs, rfl, hq, cl, hor, hQ⟩ := hh
  obtain rfl : u = Value.ref q := rx
  rcases hor with ⟨na, l⟩ | ⟨co, l⟩
  · exact getattr_ok I1 hq cl na l fun w s2 I2 r2 => ⟨d, H1, I2, r2, hQ⟩
  · exact getcon_ok I1 hq cl co l fun s2 I2 => ⟨d, H1, I2, co.rel, hQ⟩
end
/-! ### promises -/
def xw (E : XK) : WX := fun cls d _ H => E cls d H
/-- a def: what it hands back is what run says -/
def spF (ca : Lk) (np : Nat) (run : List D → P D) : Sp := fun vs H Q E => vs.length = np ∧ ∃ A mp per args, Now ca A mp per H ∧ RVs ca (AA A mp) mp H args vs ∧ Res ca (xw E) (RV ca) A A mp [] H Q (run args per)
/-- an __init__: the new object lies at x -/
def spI (ca : Lk) (np : Nat) (c : Nat) (run : List D → P D) : Sp := fun vs H Q E => vs.length = np ∧ ∃ A mp per args x dx rest H1, vs = .ref x :: rest ∧ H1 x = none ∧ H1 dx = none ∧ dx ≠ x ∧ H = upd (upd H1 dx (.own x)) x (.ins (ca.at_ c) dx []) ∧
  Now ca A mp per H1 ∧ RVs ca (AA A mp) mp H1 args rest ∧ Res ca (xw E) (RV ca) A A mp [] H1 (fun v H' => v = .ref x → Q .non H') (run args per)
theorem Res.call {ca : Lk} {W : WX} {B A : Addr → Prop} {mp : List Addr} {σ : L2.St} {H : Hp} {Q : VK} {o : Out D} (hB : ∀ a, B a → A a) (h : Res ca W (RV ca) B A mp σ H Q o) : Res ca (xw (WE W σ)) (RV ca) A A mp [] H Q o := by
  cases o with
  | ok d p => exact h
  | exc x p => exact fun mp' H' cls dd e q ⟨r1, r2, gs, r3, r4⟩ => h mp' H' cls dd e q ⟨r1, r2, gs, r3, r4.less (AA.less hB)⟩
  | bad => exact h
/-- where a def stands, and its promise -/
structure FAt (X : Cx) (x : Str) (np : Nat) (sp : Sp) : Prop where
  ex : ∃ (f : Addr) (fd : FuncData) (ps : List Str) (k : Nat), FnOk X.prog X.w X.K X.mg X.base (L2.CX X.prog X.w) k f fd ps sp ∧ Room k X.A ∧ X.mg x = some (.ref f) ∧ PySem.W.keepIn X.K (.ref f) = true ∧ Binds X.K fd ps []
section
variable {X : Cx} {ca : Lk} {W : WX} {xn : List (Addr × Obj)} {e a b c : Expr} {pos p apos : Pos} {m ma mb : Env → P D} {es ea eb : List Nat} {T : Tab} {l : List Expr} {ml : Env → P (List D)} {x : Str}
/-- no star among the arguments -/
structure NoStar (env : PySem.Env) (l : List Expr) : Prop where
  each : ∀ e r, l = e :: r → starEach (e :: r) env = (false, eval e env) :: starEach r env
  all : ∀ pos, (backTo pos (starEach l env)).any (·.1) = false
/-- run takes just np arguments -/
def Takes0 (np : Nat) (run : List D → P D) : Prop := ∀ args per, run args per ≠ .bad → args.length = np
theorem Res.notBad {α β : Type} {Rt : (Addr → Prop) → List Addr → Hp → α → β → Prop} {B A : Addr → Prop} {mp : List Addr} {σ : L2.St} {H : Hp} {Q : β → Hp → Prop} {o : Out α} (h : Res ca W Rt B A mp σ H Q o) : o ≠ .bad := by
  rintro rfl
  exact h
theorem call_go {np : Nat} {run : List D → P D} (hnp : Takes0 np run) {B A : Addr → Prop} {mp : List Addr} {env : Env} {σ : L2.St} {H : Hp} {Q : VK} {per : List D} {args : List D} {vs : List V} (r : ERel ca B A mp es xn env σ H) (q : PerRel ca mp H per) (hv : RVs ca (AA A mp) mp H args vs)
    (res : Res ca W (RV ca) B A mp σ H Q (run args per)) : spF ca np run vs H Q (WE W σ) :=
  ⟨by rw [hv.length]; exact hnp _ _ res.notBad, A, mp, per, args, r.now q, hv, res.call r.sub⟩
theorem se_call {np : Nat} {run : List D → P D} (hnp : Takes0 np run) (tk : Takes X W) (F : FAt X x np (spF ca np run)) (hg : Gl X x) (hd : (x == ("__debug__" : Str)) = false) (hl : PA X l (tEs ca W xn ml es)) (hs : NoStar X.env l)
    (hnil : l = [] → ∀ env, ml env = P.ret []) : PE X (.Call (.Name x p) l [] pos) (tE ca W xn (fun env => P.bind (ml env) fun xs => run xs) es) := by
  obtain ⟨f, fd, ps, k, F, hr, hm, hk, hb⟩ := F.ex
  have hx : ∀ σ, PassesAt (L2.CX X.prog X.w) X σ (WE W σ) := fun σ => passAt tk σ
  refine ⟨fun pins s σ H Q I h => ?_⟩
  obtain ⟨B, A, env, mp, per, pp, r, res⟩ := h
  refine wpAny_Call_Name_kw (ld_glob I hg hm ?_ hd)
  cases l with
  | nil =>
    refine PySem.W.callWith_K0 I.kIn hk ?_
    have res : Res ca W (RV ca) B A mp σ H Q (run [] per) := by
      have res0 : Res ca W (RV ca) B A mp σ H Q (P.bind (ml env) (fun xs => run xs) per) := res
      rw [hnil rfl env] at res0
      exact res0
    exact run_fnSD (us := []) (vs := []) (E := fun σ => WE W σ) F hr hb .nil (hx σ) I .nil (call_go hnp r pp (args := []) (vs := []) (by simp [RVs]) res)
  | cons e r' =>
    have h1 : tEs ca W xn ml es σ H fun vs H1 => spF ca np run (vs ++ []) H1 Q (WE W σ) :=
      tG.seq (f := fun xs env => run xs) pp r r res fun xs vs mp1 per1 H1 e1 p1 r1 hv res1 => by
        rw [List.append_nil]
        exact call_go hnp r1 p1 hv res1
    refine PySem.W.callWith_K (h₀ := X.base) I.ok.mod.kin hk (thn (hl.run pos pins s σ H _ I h1) fun us s1 ⟨vs, H1, I1, rr, q⟩ => ⟨I1.kIn, ?_⟩) (hs.each e r' rfl) ?_
    · exact run_fnSD (E := fun σ => WE W σ) F hr hb .nil (hx σ) I1 rr q
    · have := hs.all pos
      rw [hs.each e r' rfl] at this
      simpa [backTo] using this
/-! ### C(..) -/
/-- where a class stands, its __init__'s promise -/
structure MAt (X : Cx) (x : Str) (C : Addr) (sp : Sp) : Prop where
  ex : ∃ (f : Addr) (fd : FuncData) (ps : List Str) (k : Nat), Mk X.K C f ∧ FnOk X.prog X.w X.K X.mg X.base (L2.CX X.prog X.w) k f fd ps sp ∧ Room (k + 1) X.A ∧ X.mg x = some (.ref C) ∧ Binds X.K fd ps []
theorem run_makeS {CX : CXT} {k : Nat} {f C : Addr} {fd : FuncData} {ps : List Str} {sp : Sp} {E : XK} {pins : List (Addr × Obj)} {σ : L2.St} {H : Hp} {s : Shared} {Q : VK} {us : List Value} {vs : List V} (Mm : Mk X.K C f) (F : FnOk X.prog X.w X.K X.mg X.base CX k f fd ps sp) (hr : Room (k + 1) X.A) (hb : Binds X.K fd ps [])
    (hx : PassesAt CX X σ E) (I : Inv X pins σ H s) (r : Vals vs us)
    (h : ∀ x dx, H x = none → H dx = none → dx ≠ x → sp (.ref x :: vs) (upd (upd H dx (.own x)) x (.ins C dx [])) (fun v H2 => v = .non ∧ Q (.ref x) H2) E) :
    wpAny (model X.prog X.w) X.A (call (.ref C) us) (EP X pins σ Q) X.xe s := by
  have hq := h (s.heap.objs.size + 1) s.heap.objs.size (I.hok.fresh (Nat.le_succ _)) (I.hok.fresh (Nat.le_refl _)) (Nat.ne_of_lt (Nat.lt_succ_self _))
  have I2 := Inv.made (C := C) I
  have r2 : Vals (V.ref (s.heap.objs.size + 1) :: vs) (Value.ref (s.heap.objs.size + 1) :: us) := .cons rfl r
  have hl : (Value.ref (s.heap.objs.size + 1) :: us).length = ps.length := by rw [← r2.length]; exact F.len _ _ _ _ hq
  have hb' := hb _ (Value.ref (s.heap.objs.size + 1) :: us) I2.kIn (by rw [List.append_nil]; exact hl)
  rw [List.append_nil] at hb'
  refine wpAny_call (make_map (f := f) I.kIn Mm.makes Mm.init (beq_iff_eq.mp Mm.fn) (codeAny_mono (F.run _ X.stack _ _ ⟨Value.ref (s.heap.objs.size + 1) :: us, []⟩ (Value.ref (s.heap.objs.size + 1) :: us) _ _ E (hr.make C us [])
    (I2.env0.make C us []) hb' r2 hq) fun r s' hq' => ?_))
  cases r with
  | error e => exact hx pins _ _ e s' I2 hq'
  | ok fl =>
    cases fl with
    | ret u =>
      obtain ⟨v, H', I3, rv, ev, q3⟩ := I2.after hq'
      subst ev
      exact ⟨rv, ⟨V.ref (s.heap.objs.size + 1), H', I3, rfl, q3⟩⟩
    | next => exact False.elim hq'
    | brk => exact False.elim hq'
    | cont => exact False.elim hq'
theorem make_go {np k : Nat} {run : List D → P D} (hnp : Takes0 np run) {B A : Addr → Prop} {mp : List Addr} {env : Env} {σ : L2.St} {H : Hp} {Q : VK} {per : List D} {args : List D} {vs : List V} (r : ERel ca B A mp es xn env σ H) (q : PerRel ca mp H per) (hv : RVs ca (AA A mp) mp H args vs)
    (res : Res ca W (RV ca) B A mp σ H Q (run args per)) : ∀ x dx, H x = none → H dx = none → dx ≠ x → spI ca (np + 1) k run (.ref x :: vs) (upd (upd H dx (.own x)) x (.ins (ca.at_ k) dx [])) (fun v H2 => v = .non ∧ Q (.ref x) H2) (WE W σ) := by
  intro x dx h1 h2 h3
  refine ⟨by rw [List.length_cons, hv.length, hnp _ _ res.notBad], A, mp, per, args, x, dx, vs, H, rfl, h1, h2, h3, rfl, r.now q, hv, ?_⟩
  have res2 := res.call r.sub
  revert res2
  cases run args per with
  | ok d p => exact fun h mp' H' v e p1 hv e2 => ⟨rfl, by rw [← e2]; exact h mp' H' v e p1 hv⟩
  | exc y p => exact fun h => h
  | bad => exact fun h => h
theorem se_new {np k : Nat} {run : List D → P D} (hnp : Takes0 np run) (tk : Takes X W) (F : MAt X x (ca.at_ k) (spI ca (np + 1) k run)) (hg : Gl X x) (hd : (x == ("__debug__" : Str)) = false) (hl : PA X l (tEs ca W xn ml es)) (hs : NoStar X.env l)
    (hnil : l = [] → ∀ env, ml env = P.ret []) : PE X (.Call (.Name x p) l [] pos) (tE ca W xn (fun env => P.bind (ml env) fun xs => run xs) es) := by
  obtain ⟨f, fd, ps, kk, Mm, F, hr, hm, hb⟩ := F.ex
  have hx : ∀ σ, PassesAt (L2.CX X.prog X.w) X σ (WE W σ) := fun σ => passAt tk σ
  refine ⟨fun pins s σ H Q I h => ?_⟩
  obtain ⟨B, A, env, mp, per, pp, r, res⟩ := h
  refine wpAny_Call_Name_kw (ld_glob I hg hm ?_ hd)
  cases l with
  | nil =>
    refine PySem.W.callWith_K0 I.kIn Mm.kp ?_
    have res : Res ca W (RV ca) B A mp σ H Q (run [] per) := by
      have res0 : Res ca W (RV ca) B A mp σ H Q (P.bind (ml env) (fun xs => run xs) per) := res
      rw [hnil rfl env] at res0
      exact res0
    exact run_makeS (us := []) (vs := []) Mm F hr hb (hx σ) I .nil (make_go hnp r pp (args := []) (vs := []) (by simp [RVs]) res)
  | cons e r' =>
    have h1 : tEs ca W xn ml es σ H fun vs H1 => ∀ x dx, H1 x = none → H1 dx = none → dx ≠ x → spI ca (np + 1) k run (.ref x :: vs) (upd (upd H1 dx (.own x)) x (.ins (ca.at_ k) dx [])) (fun v H2 => v = .non ∧ Q (.ref x) H2) (WE W σ) :=
      tG.seq (f := fun xs env => run xs) pp r r res fun xs vs mp1 per1 H1 e1 p1 r1 hv res1 => make_go hnp r1 p1 hv res1
    refine PySem.W.callWith_K (h₀ := X.base) I.ok.mod.kin Mm.kp (thn (hl.run pos pins s σ H _ I h1) fun us s1 ⟨vs, H1, I1, rr, q⟩ => ⟨I1.kIn, ?_⟩) (hs.each e r' rfl) ?_
    · exact run_makeS Mm F hr hb (hx σ) I1 rr q
    · have := hs.all pos
      rw [hs.each e r' rfl] at this
      simpa [backTo] using this
/-! ### o.m(..) -/
/-- the methods of all classes -/
def MeAt (X : Cx) (T : Tab) (ca : Lk) (R : Rec) : Prop := ∀ (c : Nat) (cl : Cl) (mm : Str) (f : Nat), (T.cl c) = some cl → cl.exc = false → cl.meths.lookup mm = some f →
  ∃ (g : Addr) (fd : FuncData) (ps : List Str) (k np : Nat), Meth X.K (ca.at_ c) mm g ∧ FnOk X.prog X.w X.K X.mg X.base (L2.CX X.prog X.w) k g fd ps (spF ca np (R.call f)) ∧ Takes0 np (R.call f) ∧ Room k X.A ∧ Binds X.K fd ps []
theorem se_meth {R : Rec} {mm : Str} (hK : X.K = ca.K) (tok : TOk T ca) (hR : MeAt X T ca R) (tk : Takes X W) (ha : PE X a (tE ca W xn ma ea)) (hl : PA X l (tEs ca W xn ml eb)) (hs : NoStar X.env l) (hnil : l = [] → ∀ env, ml env = P.ret []) {pl : Sem Bool}
    (ht : eval (.Call (.Attribute a mm apos) l [] pos) X.env = (do
      let ov ← eval a X.env
      standAt apos.atName
      let (f, first) ← holding [ov] (getMethod ov mm pl)
      callWith pos f first (backTo pos (starEach l X.env)) (backToKw pos (keywordEach [] X.env)))) :
    PE X (.Call (.Attribute a mm apos) l [] pos) (tE ca W xn (fun env => P.bind (ma env) fun x => P.bind (deref x) fun y => match y with
      | .ins c fs => (match methD T c fs mm with
        | some f => P.bind (ml env) fun xs => R.call f (x :: xs)
        | none => P.bad)
      | _ => P.bad) (ea ++ eb)) := by
  have hx : ∀ σ, PassesAt (L2.CX X.prog X.w) X σ (WE W σ) := fun σ => passAt tk σ
  refine ⟨fun pins s σ H Q I h => ?_⟩
  obtain ⟨B, A, env, mp, per, pp, r, res⟩ := h
  -- the receiver, then the rest
  have h1 : tE ca W xn ma ea σ H fun x H1 => ∃ q C dx fs g fd ps k np run, x = .ref q ∧ H1 q = some (.ins C dx fs) ∧ Cls X.K C ∧ Meth X.K C mm g ∧ fs.lookup mm = none ∧ FnOk X.prog X.w X.K X.mg X.base (L2.CX X.prog X.w) k g fd ps (spF ca np run) ∧ Room k X.A ∧ Binds X.K fd ps [] ∧
      ((l = [] → spF ca np run [x] H1 Q (WE W σ)) ∧ tEs ca W xn ml eb σ H1 fun vs H2 => spF ca np run (x :: vs) H2 Q (WE W σ)) :=
    tG.seq (f := fun x env => P.bind (deref x) fun y => match y with
      | .ins c fs => (match methD T c fs mm with
        | some f => P.bind (ml env) fun xs => R.call f (x :: xs)
        | none => P.bad)
      | _ => P.bad) pp r (r.esc fun i h => List.mem_append_left _ h) res fun d1 v1 mp1 per1 H1 e1 p1 r1 hv1 res1 => by
      unfold P.bind at res1
      rcases deref_cases d1 per1 with ⟨c1, q1⟩ | q1
      · rw [q1] at res1
        dsimp only at res1
        have rc := (deref_rc p1 (.inl hv1) q1).2
        cases c1 with
        | ins c fs =>
          dsimp only at res1
          obtain ⟨q, dx, gs, rfl, hq, rf⟩ := rc.ins
          cases hmd : methD T c fs mm with
          | none => rw [hmd] at res1; exact res1.elim
          | some f =>
            rw [hmd] at res1
            dsimp only at res1
            unfold methD at hmd
            cases hc : (T.cl c) with
            | none => rw [hc] at hmd; cases hmd
            | some cl =>
              rw [hc] at hmd
              simp only [Option.bind_some] at hmd
              cases hxc : cl.exc with
              | true => rw [hxc] at hmd; simp at hmd
              | false =>
                rw [hxc] at hmd
                simp only [Bool.false_eq_true, if_false] at hmd
                by_cases hlk : (fs.lookup mm).isNone = true
                · rw [if_pos hlk] at hmd
                  obtain ⟨g, fd, ps, k, np, hM, hF, hnp, hr, hb⟩ := hR c cl mm f hc hxc hmd
                  have co := tok.cls c cl hc hxc
                  rw [← hK] at co
                  have res2 : Res ca W (RV ca) B A mp1 σ H1 Q (P.bind (ml env) (fun xs => R.call f (d1 :: xs)) per1) := res1
                  refine ⟨q, _, dx, gs, g, fd, ps, k, np, R.call f, rfl, hq, co.cls, hM, rf.look.2 (by simpa using hlk), hF, hr, hb, fun hl0 => ?_, ?_⟩
                  · rw [hnil hl0 env] at res2
                    exact call_go (args := [d1]) hnp r1 p1 (by simp only [RVs]; exact ⟨_, _, rfl, hv1, rfl⟩) res2
                  · refine tG.seq (f := fun xs env => R.call f (d1 :: xs)) p1 r1 (r1.esc fun i h => List.mem_append_right _ h) res2 fun xs vs mp2 per2 H2 e2 p2 r2 hv2 res3 => ?_
                    exact call_go (args := d1 :: xs) hnp r2 p2 (by simp only [RVs]; exact ⟨_, _, rfl, e2.rv hv1, hv2⟩) res3
                · rw [if_neg hlk] at hmd; cases hmd
        | _ => exact res1.elim
      · rw [q1] at res1; exact res1.elim
  refine PySem.W.methodCall_KW (pl := pl) (thn (ha.run pins s σ H _ I h1) fun u s1 ⟨x, H1, I1, rx, hh⟩ => ?_) ht
  obtain ⟨q, C, dx, fs, g, fd, ps, k, np, run, rfl, hq, cl, hM, lk, hF, hr, hb, hz, hz2⟩ := hh
  obtain rfl : u = Value.ref q := rx
  refine getmeth_ok I1 hq cl hM lk ?_
  cases l with
  | nil => exact PySem.W.callWith_K0 (first := [.ref q]) I1.kIn hM.kp (run_fnSD (us := [.ref q]) (vs := [.ref q]) (dvs := []) (E := fun σ => WE W σ) hF hr hb .nil (hx σ) I1 (.cons rfl .nil) (hz rfl))
  | cons e r' =>
    refine PySem.W.callWith_K (first := [.ref q]) (h₀ := X.base) I.ok.mod.kin hM.kp (thn (hl.run pos pins s1 σ H1 _ I1 hz2) fun us s2 ⟨vs, H2, I2, rr, q2⟩ => ⟨I2.kIn, ?_⟩) (hs.each e r' rfl) ?_
    · exact run_fnSD (us := .ref q :: us) (vs := .ref q :: vs) (dvs := []) (E := fun σ => WE W σ) hF hr hb .nil (hx σ) I2 (.cons rfl rr) (by rw [List.append_nil]; exact q2)
    · have := hs.all pos
      rw [hs.each e r' rfl] at this
      simpa [backTo] using this
end
end DL
end
section
set_option Elab.async false
set_option linter.all false
set_option maxRecDepth 100000
/-! Exp3: built-in functions, isinstance, an error's field, comprehensions. -/
namespace DL
open PySem L2 PyProof.Rows
section
variable {X : Cx} {ca : Lk} {W : WX} {xn : List (Addr × Obj)} {e a b c : Expr} {pos p apos : Pos} {m ma mb : Env → P D} {es ea eb : List Nat} {T : Tab} {x : Str}
theorem f1_go {g : D → Option D} (ha : PE X a (tR ca W xn ma ea)) : ∀ σ H Q, tN ca W xn (fun env => P.bind (ma env) fun x => P.bind (deref x) fun x => P.opt (g x)) ea σ H Q → tCB (rF1 ca g) (tCons (tR ca W xn ma ea) tNil) σ H Q := by
  rintro σ H Q ⟨B, A, env, mp, per, pp, r, res⟩
  refine tG.seq (f := fun x env => P.bind (deref x) fun x => P.opt (g x)) pp r r res fun d1 v1 mp1 per1 H1 e1 p1 r1 hv1 res1 => ?_
  obtain ⟨c1, d, q1, q2, k⟩ := fin1 res1
  exact ⟨v1, rfl, A, mp1, per1, c1, d, r1.now p1, (deref_rc p1 hv1 q1).2, q2, Res.keptN k e1 p1⟩
def fopName : Fop → Str
  | .len => "len" | .abs => "abs" | .int => "int" | .tuple => "tuple" | .list => "list" | .str => "str"
theorem sn_fn1 (f : Fop) (hc : X.calm = true) (hg : Gl X (fopName f)) (hm : X.mg (fopName f) = none) (ha : PE X a (tR ca W xn ma ea)) (hs : NoStar X.env [a]) :
    PE X (.Call (.Name (fopName f) p) [a] [] pos) (tN ca W xn (fun env => P.bind (ma env) fun x => P.bind (deref x) fun x => P.opt (fop f x)) ea) := by
  have hp : PA X [a] (tCons (tR ca W xn ma ea) tNil) := pa_cons ha pa_nil (hs.each a [] rfl)
  have h0 : (backTo pos (starEach [] X.env)).any (·.1) = false := rfl
  cases f with
  | len => exact (pe_callB (call_flen (ca := ca)) hg hm (by decide +kernel) hp (by decide) (by decide) (hs.each a [] rfl) h0).imp (f1_go ha)
  | abs => exact (pe_callB (call_fabs (ca := ca)) hg hm (by decide +kernel) hp (by decide) (by decide) (hs.each a [] rfl) h0).imp (f1_go ha)
  | int => exact (pe_callTy (call_fint (ca := ca)) hg hm (by decide +kernel) hp (by decide) (by decide) (hs.each a [] rfl) h0).imp (f1_go ha)
  | tuple => exact (pe_callTy (call_ftuple (ca := ca)) hg hm (by decide +kernel) hp (by decide) (by decide) (hs.each a [] rfl) h0).imp (f1_go ha)
  | list => exact (pe_callTy (call_flist (ca := ca) hc) hg hm (by decide +kernel) hp (by decide) (by decide) (hs.each a [] rfl) h0).imp (f1_go ha)
  | str => exact (pe_callTy (call_fstr (ca := ca)) hg hm (by decide +kernel) hp (by decide) (by decide) (hs.each a [] rfl) h0).imp (f1_go ha)
theorem se_fn1 (f : Fop) (hc : X.calm = true) (hg : Gl X (fopName f)) (hm : X.mg (fopName f) = none) (ha : PE X a (tR ca W xn ma ea)) (hs : NoStar X.env [a]) :
    PE X (.Call (.Name (fopName f) p) [a] [] pos) (tE ca W xn (fun env => P.bind (ma env) fun x => P.bind (deref x) fun x => P.opt (fop f x)) ea) := (sn_fn1 f hc hg hm ha hs).imp tN.of
/-! ### isinstance -/
def Ty.nm : Ty → Option String
  | .bool => some "bool" | .int => some "int" | .str => some "str" | .tuple => some "tuple" | .list => some "list" | .cls _ => none
def Ty.val (ca : Lk) (t : Ty) : V := match t with
  | .cls c => .ref (ca.at_ c)
  | t => .ty (t.nm.getD "")
def Ty.value (ca : Lk) (t : Ty) : Value := match t with
  | .cls c => .ref (ca.at_ c)
  | t => .type (t.nm.getD "")
theorem Ty.clsV (t : Ty) : ClsV (t.val ca) (t.value ca) := by
  cases t <;> first
    | exact .ty _
    | exact .own _
theorem isTy_ok (hK : X.K = ca.K) (tok : TOk T ca) {t : Ty} {d : D} {v : V} {b : Bool} {A : Addr → Prop} {mp : List Addr} {H : Hp} (h : RC ca A mp H d v) (e : isTy T t d = some b) : ∃ u, TyX X.K H v u ∧ PySem.W.kitOne X.K u (t.value ca) = some b := by
  have base : ∀ n : String, TyX X.K H v (.type n) → n ∈ tyNames → (∀ k, t.nm = some k → k ∈ ["bool", "int", "str", "list", "tuple"] ∧ b = (n == k || (n == "bool" && k == "int"))) → (∀ c, t = .cls c → (T.cl c).isSome = true ∧ b = false) → ∃ u, TyX X.K H v u ∧ PySem.W.kitOne X.K u (t.value ca) = some b := by
    intro n ht hn h1 h2
    refine ⟨_, ht, ?_⟩
    rw [hK]
    cases t with
    | cls c => obtain ⟨z1, rfl⟩ := h2 c rfl; exact tok.kitTC c n z1 hn
    | _ => obtain ⟨z1, rfl⟩ := h1 _ rfl; exact tok.kitTT n hn _ z1
  cases d with
  | non =>
    rw [h.non] at base ⊢
    refine base "NoneType" (.base .non) (by decide) (fun k hk => ?_) fun c hc => ?_
    · cases t <;> simp [Ty.nm] at hk <;> subst hk <;> simp [isTy] at e <;> subst e <;> decide
    · subst hc; simp only [isTy] at e; split at e <;> simp at e <;> exact ⟨by assumption, e⟩
  | bl k0 =>
    rw [h.bl] at base ⊢
    refine base "bool" (.base (.bl _)) (by decide) (fun k hk => ?_) fun c hc => ?_
    · cases t <;> simp [Ty.nm] at hk <;> subst hk <;> simp [isTy] at e <;> subst e <;> decide
    · subst hc; simp only [isTy] at e; split at e <;> simp at e <;> exact ⟨by assumption, e⟩
  | int k0 =>
    rw [h.int] at base ⊢
    refine base "int" (.base (.int _)) (by decide) (fun k hk => ?_) fun c hc => ?_
    · cases t <;> simp [Ty.nm] at hk <;> subst hk <;> simp [isTy] at e <;> subst e <;> decide
    · subst hc; simp only [isTy] at e; split at e <;> simp at e <;> exact ⟨by assumption, e⟩
  | str k0 =>
    rw [h.str] at base ⊢
    refine base "str" (.base (.str _)) (by decide) (fun k hk => ?_) fun c hc => ?_
    · cases t <;> simp [Ty.nm] at hk <;> subst hk <;> simp [isTy] at e <;> subst e <;> decide
    · subst hc; simp only [isTy] at e; split at e <;> simp at e <;> exact ⟨by assumption, e⟩
  | tup xs =>
    obtain ⟨q, vs, rfl, hq, _⟩ := h.tup
    refine base "tuple" (.base (.tup hq)) (by decide) (fun k hk => ?_) fun c hc => ?_
    · cases t <;> simp [Ty.nm] at hk <;> subst hk <;> simp [isTy] at e <;> subst e <;> decide
    · subst hc; simp only [isTy] at e; split at e <;> simp at e <;> exact ⟨by assumption, e⟩
  | lst xs =>
    obtain ⟨q, vs, rfl, hq, _⟩ := h.lst
    refine base "list" (.base (.lst hq)) (by decide) (fun k hk => ?_) fun c hc => ?_
    · cases t <;> simp [Ty.nm] at hk <;> subst hk <;> simp [isTy] at e <;> subst e <;> decide
    · subst hc; simp only [isTy] at e; split at e <;> simp at e <;> exact ⟨by assumption, e⟩
  | ins k fs =>
    obtain ⟨q, dx, gs, rfl, hq, _⟩ := h.ins
    cases t with
    | cls c =>
      simp only [isTy] at e
      cases hc : (T.cl k) with
      | none => rw [hc] at e; cases e
      | some cl =>
        rw [hc] at e
        simp only [Option.bind_some] at e
        cases hx : cl.exc with
        | true => rw [hx] at e; simp at e
        | false =>
          rw [hx] at e
          simp only [Bool.false_eq_true, if_false] at e
          split at e
          · rename_i hs
            simp only [Option.some.injEq] at e
            have co := tok.cls k cl hc hx
            rw [← hK] at co
            refine ⟨_, .base (.ins hq co.cls co.ha co.hn co.htk co.hm), ?_⟩
            rw [hK, ← e]
            exact tok.kitCC k cl c hc hx hs
          · cases e
    | _ => simp [isTy] at e
  | _ => cases t <;> simp [isTy] at e
theorem se_isi (hK : X.K = ca.K) (tok : TOk T ca) (t : Ty) (hg : Gl X "isinstance") (hm : X.mg "isinstance" = none) (ha : PE X a (tR ca W xn ma ea)) (hb : PE X b (tC (t.val ca))) (hs : NoStar X.env [a, b]) :
    PE X (.Call (.Name "isinstance" p) [a, b] [] pos) (tE ca W xn (fun env => P.bind (ma env) fun x => P.bind (deref x) fun x => P.bind (P.opt (isTy T t x)) fun b => P.ret (.bl b)) []) := by
  have h1 := hs.each a [b] rfl
  have hs2 : starEach [b] X.env = (false, eval b X.env) :: starEach [] X.env := by
    have h2 := hs.all pos
    rw [h1] at h2
    cases b <;> first
      | rfl
      | (simp [starEach, backTo] at h2)
  have hp : PA X [a, b] (tCons (tR ca W xn ma ea) (tCons (tC (t.val ca)) tNil)) := pa_cons ha (pa_cons hb pa_nil hs2) h1
  have h0 : (backTo pos (starEach [b] X.env)).any (·.1) = false := by
    have h2 := hs.all pos
    rw [h1] at h2
    simpa [backTo] using h2
  refine (pe_callB call_isi hg hm (by decide +kernel) hp (by decide) (by decide) h1 h0).imp fun σ H Q ⟨B, A, env, mp, per, pp, r, res⟩ => ?_
  refine tG.seq (f := fun x env => P.bind (deref x) fun x => P.bind (P.opt (isTy T t x)) fun b => P.ret (D.bl b)) pp r r.low res fun d1 v1 mp1 per1 H1 e1 p1 r1 hv1 res1 => ?_
  have res2 : Res ca W (RV ca) B A mp1 σ H1 Q (P.bind (deref d1) (fun x => P.opt ((isTy T t x).map D.bl)) per1) := by
    refine cast (congrArg _ ?_) res1
    unfold P.bind
    cases deref d1 per1 with
    | ok x q => dsimp only; cases isTy T t x <;> rfl
    | _ => rfl
  obtain ⟨c1, d, q1, q2, k⟩ := fin1 res2
  obtain ⟨k0, q3, q4⟩ := Option.map_eq_some_iff.mp q2
  subst q4
  obtain ⟨u, ty, ki⟩ := isTy_ok hK tok (deref_rc p1 hv1 q1).2 q3
  exact ⟨v1, t.val ca, u, t.value ca, k0, rfl, t.clsV, ty, ki, (Res.kept k).here (r1.now p1) (by simp [RV])⟩
end
end DL
end
section
set_option Elab.async false
set_option linter.all false
set_option maxRecDepth 100000
/-! Itr: what is walked; comprehensions. -/
namespace DL
open PySem L2 PyProof.Rows
/-- J walks the values vs while S holds -/
structure SrcOf (J : L2.It) (vs : List V) (S : Hp → Prop) : Prop where
  go : ∀ i H, S H → i < vs.length → J.go i H
  stop : ∀ i H, S H → vs.length ≤ i → J.stop i H
  yld : ∀ i H x H', S H → i < vs.length → J.yld i H x H' → H' = H ∧ vs[i]? = some x
theorem src_list (K : PySem.W.Frag) (a : Addr) (vs : List V) : SrcOf (Itl K a) vs (fun H => H a = some (.lst vs)) :=
  ⟨fun i H h hi => ⟨vs, vs[i], SqL.of h, by simp [hi]⟩, fun i H h hi => ⟨vs, SqL.of h, hi⟩, fun i H x H' h hi y => ⟨y.1, y.2 vs (SqL.of h)⟩⟩
theorem src_tup (K : PySem.W.Frag) (a : Addr) (vs : List V) : SrcOf (Itt K a) vs (fun H => H a = some (.tup vs)) :=
  ⟨fun i H h hi => ⟨vs, vs[i], SqT.of h, by simp [hi]⟩, fun i H h hi => ⟨vs, SqT.of h, hi⟩, fun i H x H' h hi y => ⟨y.1, y.2 vs (SqT.of h)⟩⟩
theorem src_rng (n : Nat) : SrcOf (Itr 0 n) ((List.range n).map fun k => .int (k : Nat)) (fun _ => True) :=
  ⟨fun i H _ hi => by simpa [Itr] using hi, fun i H _ hi => by simpa [Itr] using hi, fun i H x H' _ hi y => by
    obtain ⟨e, rfl⟩ := y
    refine ⟨e, ?_⟩
    have hi : i < n := by simpa using hi
    simp [hi]⟩
theorem src_str (z : Str) : SrcOf (Its z) (z.cps.toList.map fun c => .str ⟨#[c]⟩) (fun _ => True) :=
  ⟨fun i H _ hi => by simpa [Its] using hi, fun i H _ hi => by simpa [Its] using hi, fun i H x H' _ hi y => by
    obtain ⟨e, c, h1, rfl⟩ := y
    refine ⟨e, ?_⟩
    simp only [List.getElem?_map, Array.getElem?_toList, h1, Option.map_some]⟩
/-- by data: what is walked, where its place is; strict: nobody changes it -/
def RI (strict : Bool) (ca : Lk) (A : Addr → Prop) (mp : List Addr) (H : Hp) (ds : List D) (J : L2.It) : Prop :=
  ∃ vs S, SrcOf J vs S ∧ S H ∧ RVs ca A mp H ds vs ∧ (S = (fun _ => True) ∨ (∃ a us, a ∉ mp ∧ (strict = true → ¬ A a) ∧ S = fun H => H a = some (.lst us)) ∨ ∃ a us, S = fun H => H a = some (.tup us))
def tI (strict : Bool) (ca : Lk) (W : WX) (xn : List (Addr × Obj)) (m : Env → P (List D)) (es : List Nat) : TI := tG ca W xn (RI strict ca) m es
section
variable {X : Cx} {ca : Lk} {W : WX} {xn : List (Addr × Obj)} {tg e a b c : Expr} {pos p : Pos} {m ma mb : Env → P D} {es ea eb : List Nat}
theorem chars_rv {A : Addr → Prop} {mp : List Addr} {H : Hp} (z : Str) : RVs ca A mp H (chars z) (z.cps.toList.map fun c => .str ⟨#[c]⟩) := by
  unfold chars
  induction z.cps.toList with
  | nil => simp [RVs]
  | cons c cs ih => simp only [List.map_cons, RVs]; exact ⟨_, _, rfl, by simp [RV], ih⟩
theorem nats_rv {A : Addr → Prop} {mp : List Addr} {H : Hp} : ∀ l : List Nat, RVs ca A mp H (l.map fun k => .int (k : Nat)) (l.map fun k => .int (k : Nat))
  | [] => by simp [RVs]
  | k :: l => by simp only [List.map_cons, RVs]; exact ⟨_, _, rfl, by simp [RV], nats_rv l⟩
/-- the value is a list, a tuple, a text -/
def iAny (K : PySem.W.Frag) (te : TE) : TI := fun σ H R => te σ H fun x H1 => (∃ a xs, x = .ref a ∧ SqL K H1 a xs ∧ R (Itl K a) H1) ∨ (∃ a xs, x = .ref a ∧ SqT K H1 a xs ∧ R (Itt K a) H1) ∨ ∃ z, x = .str z ∧ R (Its z) H1
theorem pi_any {te : TE} (he : PE X e te) : PI X tg e (iAny X.K te) := by
  refine ⟨fun pins s σ H R I h => ?_⟩
  refine thn (he.run pins s σ H _ I h) fun v s1 ⟨x, H1, I1, r1, q1⟩ => ?_
  rcases q1 with ⟨a, xs, rfl, hq, q⟩ | ⟨a, xs, rfl, hq, q⟩ | ⟨z, rfl, q⟩
  · cases r1
    obtain ⟨its, rv, pl, hz⟩ := I1.list hq
    refine wpAny_pyIter_list pl.isList ?_
    exact pi_one (tk := s1.toks) I1 _ (turn_list a _) ⟨_, Heap.get?_push_size _ rfl, rfl, rfl⟩ q
  · cases r1
    obtain ⟨its, rv, pl, hz⟩ := I1.tuple hq
    refine wpAny_pyIter_tuple (show s1.heap.IsTuple a its.toArray from pl) ?_
    exact pi_one (tk := s1.toks) I1 _ (turn_tuple a _) ⟨_, Heap.get?_push_size _ rfl, rfl, rfl⟩ q
  · obtain ⟨t, rfl⟩ := r1
    cases ha : z.cps.all (· < 128)
    · exact wpAny_pyIter_wide ha (pi_one (tk := s1.toks) I1 _ (turn_str _ z t "str_iterator" (.inr rfl)) ⟨_, Heap.get?_push_size _ rfl, rfl, rfl⟩ q)
    · exact wpAny_pyIter_ascii ha (pi_one (tk := s1.toks) I1 _ (turn_str _ z t "str_ascii_iterator" (.inl rfl)) ⟨_, Heap.get?_push_size _ rfl, rfl, rfl⟩ q)
theorem RVs.noExn {A : Addr → Prop} {mp : List Addr} {H : Hp} {d : D} {v : V} (h : RV ca A mp H d v) : d.isExn = false := by
  cases d <;> first
    | rfl
    | (simp [RV] at h)
theorem _root_.L2.PI.imp {wi wi' : TI} (h : PI X tg e wi) (i : ∀ σ H R, wi' σ H R → wi σ H R) : PI X tg e wi' := ⟨fun pins s σ H R I q => h.run pins s σ H R I (i σ H R q)⟩
theorem items_any {K : PySem.W.Frag} {st : Bool} {B A : Addr → Prop} {mp : List Addr} {σ : L2.St} {H : Hp} {per : List D} {R : L2.It → Hp → Prop} {d : D} {v : V} (p1 : PerRel ca mp H per) (hv : RV ca (AA A mp) mp H d v ∨ (st = false ∧ RT ca (AA A mp) mp H d v)) (res : Res ca W (RI st ca) B A mp σ H R (P.opt d.items per)) :
    (∃ a xs, v = .ref a ∧ SqL K H a xs ∧ R (Itl K a) H) ∨ (∃ a xs, v = .ref a ∧ SqT K H a xs ∧ R (Itt K a) H) ∨ ∃ z, v = .str z ∧ R (Its z) H := by
  cases d with
  | lst xs =>
    have res : Res ca W (RI st ca) B A mp σ H R (.ok xs per) := res
    have h : ∃ a vs, v = .ref a ∧ a ∉ mp ∧ (st = true → ¬ AA A mp a) ∧ H a = some (.lst vs) ∧ RVs ca (AA A mp) mp H xs vs := by
      rcases hv with hv | ⟨hst, hv | ⟨a, e, n, vs, q, r⟩⟩
      · simp only [RV] at hv
        obtain ⟨a, vs, e, n, q, r⟩ := hv
        exact ⟨a, vs, e, fun z => n (.inr z), fun _ => n, q, r⟩
      · simp only [RV] at hv
        obtain ⟨a, vs, e, n, q, r⟩ := hv
        exact ⟨a, vs, e, fun z => n (.inr z), fun _ => n, q, r⟩
      · exact ⟨a, vs, e, n, (fun z => by rw [hst] at z; cases z), q, r⟩
    obtain ⟨a, vs, e, n, n2, q, r⟩ := h
    exact .inl ⟨a, vs, e, SqL.of q, res mp H _ Ext.refl p1 ⟨vs, _, src_list K a vs, q, r, .inr (.inl ⟨a, vs, n, n2, rfl⟩)⟩⟩
  | tup xs =>
    have res : Res ca W (RI st ca) B A mp σ H R (.ok xs per) := res
    have hv : RV ca (AA A mp) mp H (.tup xs) v := by
      rcases hv with hv | ⟨hst, hv | ⟨a, e, n, t⟩⟩
      · exact hv
      · exact hv
      · exact t.elim
    simp only [RV] at hv
    obtain ⟨a, vs, e, q, r⟩ := hv
    exact .inr (.inl ⟨a, vs, e, SqT.of q, res mp H _ Ext.refl p1 ⟨vs, _, src_tup K a vs, q, r, .inr (.inr ⟨a, vs, rfl⟩)⟩⟩)
  | str z =>
    have res : Res ca W (RI st ca) B A mp σ H R (.ok (chars z) per) := res
    have hv : RV ca (AA A mp) mp H (.str z) v := by
      rcases hv with hv | ⟨hst, hv | ⟨a, e, n, t⟩⟩
      · exact hv
      · exact hv
      · exact t.elim
    have e : v = .str z := by simpa [RV] using hv
    exact .inr (.inr ⟨z, e, res mp H _ Ext.refl p1 ⟨_, _, src_str z, trivial, chars_rv z, .inl rfl⟩⟩)
  | _ => exact res.elim
/-- for an item of it: read (a comprehension), or for good (a loop) -/
theorem si_read (ha : PE X a (tR ca W xn ma ea)) : PI X tg a (tI false ca W xn (fun env => P.bind (ma env) fun x => P.opt x.items) ea) :=
  (pi_any ha).imp fun σ H R ⟨B, A, env, mp, per, pp, r, res⟩ =>
    tG.seq (f := fun x env => P.opt x.items) pp r r res fun d1 v1 mp1 per1 H1 e1 p1 r1 hv1 res1 => items_any p1 (.inr ⟨rfl, hv1⟩) res1
theorem si_held (ha : PE X a (tE ca W xn ma ea)) : PI X tg a (tI true ca W xn (fun env => P.bind (ma env) fun x => P.opt x.items) ea) :=
  (pi_any ha).imp fun σ H R ⟨B, A, env, mp, per, pp, r, res⟩ =>
    tG.seq (f := fun x env => P.opt x.items) pp r r res fun d1 v1 mp1 per1 H1 e1 p1 r1 hv1 res1 => items_any p1 (.inl hv1) res1
theorem si_rng {st : Bool} (hg : Gl X "range") (hm : X.mg "range" = none) (ha : PE X a (tE ca W xn ma ea)) (hs : NoStar X.env [a]) : PI X tg (.Call (.Name "range" p) [a] [] pos) (tI st ca W xn (fun env => P.bind (ma env) fun x => P.opt (rngD x)) []) :=
  (pi_range1 hg hm (pa_cons ha pa_nil (hs.each a [] rfl)) (hs.each a [] rfl)).imp fun σ H R ⟨B, A, env, mp, per, pp, r, res⟩ =>
    tG.seq (f := fun x env => P.opt (rngD x)) pp r r.low res fun d1 v1 mp1 per1 H1 e1 p1 r1 hv1 res1 => by
      cases d1 with
      | int n =>
        simp only [rngD] at res1
        split at res1
        · rename_i hn
          have res2 : Res ca W (RI st ca) B A mp1 σ H1 R (.ok ((List.range n.toNat).map fun k => D.int (k : Nat)) per1) := res1
          refine ⟨n, by rw [show v1 = .int n by simpa [RV] using hv1], by omega, by omega, res2 mp1 H1 _ Ext.refl p1 ⟨_, _, src_rng n.toNat, trivial, nats_rv _, .inl rfl⟩⟩
        · exact res1.elim
      | _ => exact res1.elim
end
/-! ### a comprehension -/
def noW : WX := fun _ _ _ _ => False
section
variable {X : Cx} {ca : Lk} {W : WX} {xn : List (Addr × Obj)} {tg e a b c elt iter : Expr} {pos p tp : Pos} {me : Env → P D} {mc : Env → P Bool} {mi : Env → P (List D)} {ei ee : List Nat} {y : Str} {v : Nat} {ifs : List Expr} {scope : Scope}
theorem calm_ok {α : Type} {m : P α} {per : List D} {xs : α} {per' : List D} (h : calm m per = .ok xs per') : m per = .ok xs per' := by
  unfold calm at h
  cases q : m per with
  | ok x r => rw [q] at h; exact h
  | exc x r => rw [q] at h; cases h
  | bad => rw [q] at h; cases h
theorem lc_go (hv : v < 100000) : ∀ σ H Q, tN ca W [] (fun env => P.bind (mi env) fun ds => P.bind (calm (lcL v mc me env ds)) fun xs => if xs.length ≤ sizeLine then P.ret (.lst xs) else P.bad) (ee ++ ei) σ H Q →
    tLc (tI false ca W [] mi ei) (gName v) (tB ca noW [] mc) (tE ca noW [] me ee) [v] σ H Q := by
  rintro σ H Q ⟨B, A, env, mp, per, pp, r, res⟩
  refine tG.seq (f := fun ds env => P.bind (calm (lcL v mc me env ds)) fun xs => if xs.length ≤ sizeLine then P.ret (D.lst xs) else P.bad) pp r (r.esc fun i h => List.mem_append_right _ h) res fun ds J mp1 per1 H1 e1 p1 r1 hJ res1 => ?_
  obtain ⟨vs, S, src, hS, rvs, hst⟩ := hJ
  intro q hq
  -- the end of it all
  unfold P.bind at res1
  cases hc : calm (lcL v mc me env ds) per1 with
  | exc x pe => unfold calm at hc; cases hm : lcL v mc me env ds per1 <;> rw [hm] at hc <;> cases hc
  | bad => rw [hc] at res1; exact res1.elim
  | ok xsF perF =>
    rw [hc] at res1
    dsimp only at res1
    have hrun := calm_ok hc
    by_cases hz : xsF.length ≤ sizeLine
    · rw [if_pos hz] at res1
      have res1 : Res ca W (fun A mp H' d v => RV ca A mp H' d v ∧ (d.box = true → ∃ a, v = .ref a ∧ H a = none ∧ Top ca (fun b => A b ∨ b = a) mp H' a d)) B A mp1 σ H1 Q (.ok (.lst xsF) perF) := res1
      have nq : ¬ AA A mp1 q := r1.new p1 hq
      have hlen : vs.length = ds.length := rvs.length
      have hSx : ∀ mp2 H2, Ext mp1 H1 mp2 H2 → S H2 := fun mp2 H2 e => by
        rcases hst with rfl | ⟨a, us, n1, _, rfl⟩ | ⟨a, us, rfl⟩
        · trivial
        · exact e.fr.keep a _ hS n1
        · exact e.fr.tup a _ hS
      -- the word
      refine ⟨fun i m H2 => m = vs.length - i ∧ i ≤ vs.length ∧ ∃ mp2 per2 acc accV rest, Ext mp1 H1 mp2 H2 ∧ PerRel ca mp2 H2 per2 ∧ q ∉ mp2 ∧ H2 q = some (.lst accV) ∧ RVs ca (AA (fun a => A a ∨ a = q) mp2) mp2 H2 acc accV ∧
          lcL v mc me env (ds.drop i) per2 = .ok rest perF ∧ acc ++ rest = xsF, ⟨vs.length, by simp, Nat.zero_le _, mp1, per1, [], [], xsF, Ext.alloc hq, p1.alloc hq, p1.notMem hq, upd_same, by simp [RVs], by simpa using hrun, by simp⟩, ?_⟩
      · rintro i m H2 ⟨rfl, hi, mp2, per2, acc, accV, rest, e2, p2, nq2, h2q, racc, hl2, hacc⟩
        have hS2 := hSx mp2 H2 e2
        have rE := r1.extQ p2 e2 hq h2q
        have rds := e2.rvsQ hq rvs
        by_cases hlt : i < vs.length
        · refine .inr ⟨src.go i H2 hS2 hlt, fun H' => vs.length - (i + 1) = vs.length - (i + 1) ∧ i + 1 ≤ vs.length ∧ ∃ mp2 per2 acc accV rest, Ext mp1 H1 mp2 H' ∧ PerRel ca mp2 H' per2 ∧ q ∉ mp2 ∧ H' q = some (.lst accV) ∧ RVs ca (AA (fun a => A a ∨ a = q) mp2) mp2 H' acc accV ∧
            lcL v mc me env (ds.drop (i + 1)) per2 = .ok rest perF ∧ acc ++ rest = xsF, fun H' hh => ⟨vs.length - (i + 1), by omega, hh⟩, fun x H' hy => ?_⟩
          obtain ⟨rfl, hx⟩ := src.yld i H2 x H' hS2 hlt hy
          have hd : ds[i]? = some (ds[i]'(by omega)) := by simp [show i < ds.length by omega]
          have hdrop : ds.drop i = ds[i]'(by omega) :: ds.drop (i + 1) := List.drop_eq_getElem_cons (by omega)
          rw [hdrop] at hl2
          generalize hdd : ds[i]'(by omega) = d at hl2 hd
          obtain ⟨x', hx', rvx⟩ := rds.get hd
          rw [hx] at hx'
          cases hx'
          have lw : wipe σ [v] = σ.set v none := rfl
          refine ⟨?_, ?_⟩
          · show wipe (((wipe σ [v])).set v (some x)) [v] = wipe σ [v]
            show (((σ.set v none)).set v (some x)).set v none = σ.set v none
            simp
          -- the slot is set
          have rS : ERel ca (fun a => B a ∨ a = q) (fun a => A a ∨ a = q) mp2 (ee ++ ei) [] (env.set v (some (.dat d))) ((wipe σ [v]).set v (some x)) H' := by
            refine rE.setDat v (by simp [lw]) (fun j hj => ?_) (fun hj => ?_) (RVs.noExn rvx) rvx
            · rw [lw, List.set_set, List.getElem?_set_ne (Ne.symm hj)]
            · rw [lw, List.set_set, List.getElem?_set_self hj]
          -- the test
          simp only [lcL] at hl2
          unfold P.bind at hl2
          cases hcm : mc (env.set v (some (.dat d))) per2 with
          | exc z pe => rw [hcm] at hl2; cases hl2
          | bad => rw [hcm] at hl2; cases hl2
          | ok k per3 =>
            rw [hcm] at hl2
            dsimp only at hl2
            refine ⟨_, _, _, mp2, per2, p2, rS.esc (es' := []) (by simp), ?_⟩
            rw [hcm]
            intro mp3 H3 k' e3 p3 hk
            subst hk
            have nq3 : q ∉ mp3 := fun z => by
              rcases e3.new q z with z | z
              · exact nq2 z
              · rw [h2q] at z; cases z
            have h3q : H3 q = some (.lst accV) := e3.fr.keep q _ h2q nq2
            cases k' with
            | false =>
              refine iteF ⟨rfl, hlt, mp3, per3, acc, accV, rest, e2.trans e3, p3, nq3, h3q, e3.rvs racc, ?_, hacc⟩
              exact hl2
            | true =>
              refine iteT ?_
              have hl2 : P.bind (me (env.set v (some (.dat d)))) (fun x => P.bind (lcL v mc me env (ds.drop (i + 1))) fun xs => P.ret (x :: xs)) per3 = .ok rest perF := hl2
              unfold P.bind at hl2
              cases hem : me (env.set v (some (.dat d))) per3 with
              | exc z pe => rw [hem] at hl2; cases hl2
              | bad => rw [hem] at hl2; cases hl2
              | ok xv per4 =>
                rw [hem] at hl2
                dsimp only at hl2
                refine ⟨_, _, _, mp3, per3, p3, (rS.ext p3 e3).esc fun i h => List.mem_append_left _ h, ?_⟩
                rw [hem]
                intro mp4 H4 xw e4 p4 hxw
                have nq4 : q ∉ mp4 := fun z => by
                  rcases e4.new q z with z | z
                  · exact nq3 z
                  · rw [h3q] at z; cases z
                have h4q : H4 q = some (.lst accV) := e4.fr.keep q _ h3q nq3
                cases hrm : lcL v mc me env (ds.drop (i + 1)) per4 with
                | exc z pe => rw [hrm] at hl2; cases hl2
                | bad => rw [hrm] at hl2; cases hl2
                | ok rest' perE =>
                  rw [hrm] at hl2
                  dsimp only at hl2
                  cases hl2
                  have racc4 := e4.rvs (e3.rvs racc)
                  -- the list grows
                  have hk : ∀ a o, H4 a = some o → ¬ AA (fun a => A a ∨ a = q) mp4 a → upd H4 q (.lst (accV ++ [xw])) a = some o := fun a o h n => by
                    rw [upd_ne (fun z => n (.inl (.inr z)))]; exact h
                  have ht : ∀ a us, H4 a = some (.tup us) → upd H4 q (.lst (accV ++ [xw])) a = some (.tup us) := fun a us h => by
                    rw [upd_ne (fun z => by rw [z, h4q] at h; cases h)]; exact h
                  refine ⟨accV, h4q, ?_, rfl, hlt, mp4, per4, acc ++ [xv], accV ++ [xw], rest', ?_, ?_, nq4, upd_same, ?_, hrm, by rw [← hacc]; simp⟩
                  · have := racc4.length
                    have hl3 : acc.length + 1 ≤ xsF.length := by rw [← hacc]; simp
                    omega
                  · have e14 := (e2.trans e3).trans e4
                    refine ⟨⟨fun a o h n => ?_, fun a us h => ht a us (e14.fr.tup a us h)⟩, e14.pre, e14.new⟩
                    rw [upd_ne (fun z => by rw [z, hq] at h; cases h)]
                    exact e14.fr.keep a o h n
                  · refine ⟨p4.len, p4.nd, fun j a d' h1 h2 => ?_⟩
                    have ok := p4.ok j a d' h1 h2
                    have hne : a ≠ q := fun z => nq4 (by rw [← z]; exact List.mem_of_getElem? h1)
                    cases d' with
                    | lst xs =>
                      obtain ⟨im, us, q1, q2⟩ := ok
                      refine ⟨im, us, by rw [upd_ne hne]; exact q1, ?_⟩
                      exact RVs.imm (A := AA (fun a => A a ∨ a = q) mp4) xs us im (RVs.mono hk ht (fun a z => .inl z) (fun _ _ z => z) xs us (RVs.imm xs us im q2))
                    | _ => exact ok.elim
                  · refine RVs.mono hk ht (fun a z => .inl z) (fun _ _ z => z) _ _ (racc4.app ?_)
                    simp only [RVs]
                    exact ⟨xw, [], rfl, hxw, rfl⟩
        · have e : i = vs.length := by omega
          subst e
          refine .inl ⟨src.stop _ H2 hS2 (Nat.le_refl _), ?_⟩
          rw [hlen, List.drop_length] at hl2
          simp only [lcL] at hl2
          cases hl2
          simp only [List.append_nil] at hacc
          subst hacc
          refine res1 mp2 H2 (.ref q) e2 p2 ⟨?_, fun _ => ⟨q, rfl, e1.fr.none (fun z => p1.notMem hq (e1.mem z)) hq, accV, h2q, racc.less fun b z => z.elim (fun z => z.imp .inl id) fun z => .inl (.inr z)⟩⟩
          simp only [RV]
          refine ⟨q, accV, rfl, fun z => ?_, h2q, racc.less fun a h => h.imp (fun z => .inl z) id⟩
          rcases z with z | z
          · exact nq (.inl z)
          · exact nq2 z
    · rw [if_neg hz] at res1; exact res1.elim
end
end DL
end
section
set_option Elab.async false
set_option linter.all false
set_option maxRecDepth 100000
/-! Mat: the small syntax and the text; every expression is read by its meaning. -/
namespace DL
open PySem L2 PyProof.Rows
structure Nms where
  fns : List (Nat × Str)
  glos : List (Str × D)
def Nms.fn (L : Nms) (f : Nat) : Option Str := assoc L.fns f
def D.same : D → D → Bool
  | .non, .non => true
  | .bl a, .bl b => decide (a = b)
  | .int i, .int j => decide (i = j)
  | .str x, .str y => decide (x = y)
  | _, _ => false
theorem D.same_eq {a b : D} (h : a.same b = true) : a = b := by
  cases a <;> cases b <;> simp [D.same] at h <;> first
    | rfl
    | (rw [h])
def bopIs : Bop → Operator → Bool
  | .add, .Add | .sub, .Sub | .mul, .Mult | .fdiv, .FloorDiv | .mod, .Mod | .pow, .Pow => true
  | _, _ => false
theorem bopIs_eq {a : Bop} {o : Operator} (h : bopIs a o = true) : o = opP a := by
  cases a <;> cases o <;> simp [bopIs] at h <;> rfl
def copIs : Cop → CmpOp → Bool
  | .eq, .Eq | .ne, .NotEq | .lt, .Lt | .le, .LtE | .gt, .Gt | .ge, .GtE | .inn, .In | .notIn, .NotIn | .isN, .Is | .notN, .IsNot => true
  | _, _ => false
theorem copIs_eq {a : Cop} {o : CmpOp} (h : copIs a o = true) : o = copP a := by
  cases a <;> cases o <;> simp [copIs] at h <;> rfl
def isSet : Expr → Bool
  | .Set .. => true
  | _ => false
theorem noSet {e : Expr} {op : CmpOp} (h : isSet e = false) : behindInMarks op e = false := by
  cases e <;> first
    | rfl
    | (simp [isSet] at h)
def isSlice : Expr → Bool
  | .Slice .. => true
  | _ => false
theorem noSlice {e : Expr} (h : isSlice e = false) : PlainIx e := by
  intro o i
  cases e <;> first
    | rfl
    | (simp [isSlice] at h)
def isCall : Expr → Bool
  | .Call (.Name _ _) [] [] _ => true
  | _ => false
theorem noCall {e : Expr} {f : Str} {env : PySem.Env} (h : isCall e = false) : attributeBase e f env (eval e env) = eval e env := by
  unfold attributeBase
  split
  · simp [isCall] at h
  · rfl
def isStar : Expr → Bool
  | .Starred .. => true
  | _ => false
theorem noStarE {e : Expr} {r : List Expr} {env : PySem.Env} (h : isStar e = false) : starEach (e :: r) env = (false, eval e env) :: starEach r env := by
  cases e <;> first
    | rfl
    | (simp [isStar] at h)
theorem noStars {env : PySem.Env} : ∀ {l : List Expr}, l.all (fun e => !isStar e) = true → NoStar env l
  | [], _ => ⟨(fun e r h => by cases h), fun pos => rfl⟩
  | e :: l, h => by
    have h' : isStar e = false ∧ l.all (fun e => !isStar e) = true := by simpa using h
    refine ⟨fun e' r q => ?_, fun pos => ?_⟩
    · cases q; exact noStarE h'.1
    · rw [noStarE h'.1]
      simpa [backTo] using (noStars h'.2).all pos
/-- an expression whose test is its value's truth -/
def plainTest : Expr → Bool
  | .UnaryOp .Not _ _ | .BoolOp .. | .IfExp .. | .Compare .. => false
  | _ => true
theorem plainTest_ok {e : Expr} {env : PySem.Env} (h : plainTest e = true) : ∀ whole, isTrue e env whole = (do let v ← whole; standAt e.pos; holding [v] (truthy v)) := by
  intro whole
  cases e <;> first
    | rfl
    | (simp [plainTest] at h; done)
    | (rename_i op _ _; cases op <;> first | rfl | (simp [plainTest] at h))
def visB (sc : Scope) (x : Str) : Bool := match sc.names.lookup x with
  | some .local | some .cell | some .free => true
  | _ => false
theorem visB_ok {sc : Scope} {x : Str} (h : visB sc x = true) : Vis sc x := by
  unfold visB at h
  unfold Vis
  split at h <;> first
    | (rename_i q; rw [q]; simp; done)
    | cases h
def gloB (sc : Scope) (x : Str) : Bool := match sc.names.lookup x with
  | some .globalImplicit => true
  | _ => false
theorem gloB_ok {sc : Scope} {x : Str} (h : gloB sc x = true) : sc.names.lookup x = some .globalImplicit := by
  unfold gloB at h
  split at h
  · assumption
  · cases h
def okName (x : Str) : Bool := !(x == ("__debug__" : Str)) && !(x == ("__classdict__" : Str))
def tyIs (T : Tab) : Ty → Str → Bool
  | .cls c, x => (match (T.cl c) with
    | some cl => decide (cl.name = x)
    | none => false)
  | t, x => decide (x = Str.ofString (t.nm.getD ""))
section
variable (T : Tab) (L : Nms) (N : List Str) (hot : Bool)
mutual
def mE (sc : Scope) : Ex → Expr → Bool
  | .var i, e => (match e with
    | .Name x _ => decide (N[i]? = some x) && visB sc x && okName x
    | _ => false)
  | .non, e => (match e with
    | .Constant .none _ _ => true
    | _ => false)
  | .bl b, e => (match e with
    | .Constant (.bool c) _ _ => decide (b = c)
    | _ => false)
  | .int n, e => (match e with
    | .Constant (.int c) _ _ => decide (n = c)
    | _ => false)
  | .str n, e => (match e with
    | .Constant (.str c) _ _ => decide (n = c)
    | _ => false)
  | .glo x d, e => (match e with
    | .Name y _ => decide (x = y) && gloB sc x && okName x && L.glos.any fun p => decide (p.1 = x) && p.2.same d
    | _ => false)
  | .bin op a b, e => (match e with
    | .BinOp a' o b' _ => bopIs op o && mE sc a a' && mE sc b b'
    | _ => false)
  | .neg a, e => (match e with
    | .UnaryOp .USub a' _ => mE sc a a'
    | _ => false)
  | .not a, e => (match e with
    | .UnaryOp .Not a' _ => mE sc a a'
    | _ => false)
  | .cmp op a b, e => (match e with
    | .Compare a' [o] [b'] _ => copIs op o && mE sc a a' && mE sc b b' && !isSet b'
    | _ => false)
  | .and a b, e => (match e with
    | .BoolOp .And (a' :: b' :: r) _ => mE sc a a' && (match r with
      | [] => mE sc b b'
      | _ => mB sc true b (b' :: r))
    | _ => false)
  | .or a b, e => (match e with
    | .BoolOp .Or (a' :: b' :: r) _ => mE sc a a' && (match r with
      | [] => mE sc b b'
      | _ => mB sc false b (b' :: r))
    | _ => false)
  | .ite c a b, e => (match e with
    | .IfExp c' a' b' _ => mE sc c c' && mE sc a a' && mE sc b b'
    | _ => false)
  | .tup es, e => (match e with
    | .Tuple l _ _ => mEs sc es l
    | _ => false)
  | .lst es, e => (match e with
    | .List l _ => mEs sc es l
    | _ => false)
  | .idx a i, e => (match e with
    | .Subscript a' i' _ => mE sc a a' && mE sc i i' && !isSlice i'
    | _ => false)
  | .slc a lo hi, e => (match e with
    | .Subscript a' (.Slice l h none _) _ => mE sc a a' && mO sc lo l && mO sc hi h
    | _ => false)
  | .att a f, e => (match e with
    | .Attribute a' g _ => decide (f = g) && !isCall a' && mE sc a a'
    | _ => false)
  | .call f es, e => (match e with
    | .Call (.Name x _) l [] _ => !hot && decide (L.fn f = some x) && (T.fn f).isSome && gloB sc x && okName x && mEs sc es l
    | _ => false)
  | .new c es, e => (match e with
    | .Call (.Name x _) l [] _ => !hot && (match (T.cl c) with
      | some cl => decide (cl.name = x) && !cl.exc && (match (T.fn cl.init) with
        | some fn => decide (0 < fn.np)
        | none => false)
      | none => false) && gloB sc x && okName x && mEs sc es l
    | _ => false)
  | .meth a m es, e => (match e with
    | .Call (.Attribute a' n ap) l [] p => !hot && decide (m = n) && !isCall a' && mE sc a a' && mEs sc es l && (ap.endLine == p.line) && decide (l.length < 30)
    | _ => false)
  | .fn1 f a, e => (match e with
    | .Call (.Name x _) [a'] [] _ => !hot && decide (x = fopName f) && gloB sc x && !isStar a' && mE sc a a'
    | _ => false)
  | .isi a t, e => (match e with
    | .Call (.Name x _) [a', .Name y _] [] _ => decide (x = "isinstance") && gloB sc x && !isStar a' && mE sc a a' && tyIs T t y && gloB sc y && okName y
    | _ => false)
  | .xat i f, e => (match e with
    | .Attribute (.Name x _) g _ => decide (f = g) && decide (N[i]? = some x) && visB sc x && okName x
    | _ => false)
  | .lc el v it c, e => (match e with
    | .ListComp el' [⟨.Name y _, it', ifs, 0⟩] s _ => !hot && decide (v < 100000) && decide (N[v]? = some y) && blkC N sc s [(y, v)] && (match s.names.lookup y with
        | some .local | some .cell => true
        | _ => false) && !isSet it' && mI sc it it' && mE (relS s sc) el el' && mC (relS s sc) c ifs
    | _ => false)
  | .dct, e => (match e with
    | .Dict [] [] _ => true
    | _ => false)
def mB (sc : Scope) (isAnd : Bool) : Ex → List Expr → Bool
  | .and a b, l => (match l with
    | a' :: b' :: r => isAnd && mE sc a a' && (match r with
      | [] => mE sc b b'
      | _ => mB sc true b (b' :: r))
    | _ => false)
  | .or a b, l => (match l with
    | a' :: b' :: r => !isAnd && mE sc a a' && (match r with
      | [] => mE sc b b'
      | _ => mB sc false b (b' :: r))
    | _ => false)
  | _, _ => false
def mEs (sc : Scope) : Exs → List Expr → Bool
  | .nil, l => l.isEmpty
  | .cons e es, l => (match l with
    | a :: r => !isStar a && mE sc e a && mEs sc es r
    | [] => false)
def mO (sc : Scope) : Oex → Option Expr → Bool
  | .none, o => o.isNone
  | .some e, o => (match o with
    | some a => mE sc e a
    | none => false)
def mC (sc : Scope) : Oex → List Expr → Bool
  | .none, l => l.isEmpty
  | .some e, l => (match l with
    | [a] => mE sc e a
    | _ => false)
def mI (sc : Scope) : It → Expr → Bool
  | .seq e, a => mE sc e a
  | .rng e, a => (match a with
    | .Call (.Name x _) [a'] [] _ => decide (x = "range") && gloB sc x && !isStar a' && mE sc e a'
    | _ => false)
end
end
end DL
end
section
set_option Elab.async false
set_option linter.all false
set_option maxRecDepth 100000
/-! Sound: every expression that fits its text is read by its meaning. -/
namespace DL
open PySem L2 PyProof.Rows
/-- the calls of the level below -/
structure CallsOk (X : Cx) (ca : Lk) (T : Tab) (R : Rec) (L : Nms) : Prop where
  fn : ∀ (f : Nat) (fn : Fn) (x : Str), (T.fn f) = some fn → L.fn f = some x → FAt X x fn.np (spF ca fn.np (R.call f))
  t0 : ∀ (f : Nat) (fn : Fn), (T.fn f) = some fn → Takes0 fn.np (R.call f)
  new : ∀ (c : Nat) (cl : Cl) (fn : Fn), (T.cl c) = some cl → cl.exc = false → (T.fn cl.init) = some fn → MAt X cl.name (ca.at_ c) (spI ca fn.np c (R.make c))
  n0 : ∀ (c : Nat) (cl : Cl) (fn : Fn), (T.cl c) = some cl → cl.exc = false → (T.fn cl.init) = some fn → ∀ np, np + 1 = fn.np → Takes0 np (R.make c)
  me : MeAt X T ca R
def bltNames : List Str := ["len", "abs", "int", "tuple", "list", "str", "isinstance", "range", "bool"]
/-- the module's names -/
structure GlOk (mg : Str → Option Value) (ca : Lk) (T : Tab) (L : Nms) : Prop where
  glo : ∀ (x : Str) (d : D), (x, d) ∈ L.glos → ∃ v u, mg x = some u ∧ RelV v u ∧ ∀ A mp H, RV ca A mp H d v
  blt : ∀ x ∈ bltNames, mg x = none
  cls : ∀ (c : Nat) (cl : Cl), (T.cl c) = some cl → mg cl.name = some (.ref (ca.at_ c))
structure Cn (X : Cx) (ca : Lk) (T : Tab) (R : Rec) (L : Nms) (N : List Str) (hot : Bool) (sc : Scope) (W : WX) (xn : List (Addr × Obj)) : Prop where
  hK : X.K = ca.K
  tok : TOk T ca
  hN : X.N = N
  hsc : X.env.scope = sc
  nd : N.Nodup
  units : X.A.units + 64 < cLine
  pnx : ∀ p ∈ xn, p ∈ X.pn
  gl : GlOk X.mg ca T L
  cold : hot = false → xn = [] ∧ X.calm = true ∧ Takes X W ∧ CallsOk X ca T R L
section
variable {X : Cx} {ca : Lk} {T : Tab} {R : Rec} {L : Nms} {N : List Str} {hot : Bool} {sc : Scope} {W : WX} {xn : List (Addr × Obj)}
theorem Cn.blk (c : Cn X ca T R L N false sc W xn) (s : Shared) (H : Hp) (scope : Scope) (C : Addr) (cl : List (Str × Addr)) (fp : List Addr) : Cn (X.blk s H scope (compEnvC scope cl C X.env) fp) ca T R L N false (relS scope sc) noW [] := by
  obtain ⟨h1, h2, h3, h4⟩ := c.cold rfl
  refine ⟨c.hK, c.tok, c.hN, ?_, c.nd, c.units, by simp, c.gl, fun _ => ⟨rfl, h2, ?_, ?_⟩⟩
  · show (compEnvC scope cl C X.env).scope = _
    rw [← c.hsc]; rfl
  · rintro u s' ⟨a, B, sI, pins, σ, H, cls, d, _, _, _, _, _, _, _, _, w⟩
    exact w.elim
  · exact ⟨fun f fn x e1 e2 => ⟨(h4.fn f fn x e1 e2).ex⟩, h4.t0, fun c cl fn e1 e2 e3 => ⟨(h4.new c cl fn e1 e2 e3).ex⟩, h4.n0, h4.me⟩
theorem Cn.glb (c : Cn X ca T R L N hot sc W xn) {x : Str} (h : gloB sc x = true) : Gl X x := by
  show X.env.scope.names.lookup x = _
  rw [c.hsc]; exact gloB_ok h
theorem Cn.vis (c : Cn X ca T R L N hot sc W xn) {x : Str} (h : visB sc x = true) : Vis X.env.scope x := by
  rw [c.hsc]; exact visB_ok h
theorem okName_1 {x : Str} (h : okName x = true) : (x == ("__debug__" : Str)) = false := by
  unfold okName at h
  simp only [Bool.and_eq_true, Bool.not_eq_true'] at h
  exact h.1
theorem okName_2 {x : Str} (h : okName x = true) : (x == ("__classdict__" : Str)) = false := by
  unfold okName at h
  simp only [Bool.and_eq_true, Bool.not_eq_true'] at h
  exact h.2
/-- what an expression's reading is -/
structure SE (X : Cx) (ca : Lk) (T : Tab) (R : Rec) (W : WX) (xn : List (Addr × Obj)) (e : Ex) (a : Expr) : Prop where
  v : PE X a (tE ca W xn (ev T R e).v (esc e))
  r : PE X a (tR ca W xn (ev T R e).v (escR e))
  t : PT X a (tB ca W xn (ev T R e).t)
theorem SE.of {e : Ex} {a : Expr} {m : Env → P D} (he : ev T R e = .of m) (hs : escR e = esc e) (hp : plainTest a = true) (h : PE X a (tE ca W xn m (esc e))) : SE X ca T R W xn e a := by
  have h1 : PE X a (tR ca W xn m (escR e)) := by rw [hs]; exact se_read h
  refine ⟨by rw [he]; exact h, by rw [he]; exact h1, ?_⟩
  rw [he]
  exact st_of h1 (plainTest_ok hp)
theorem meth_tree {a : Expr} {m : Str} {ap p : Pos} {l : List Expr} {env : PySem.Env} (hb : attributeBase a m env (eval a env) = eval a env) (hs : NoStar env l) (hl : (ap.endLine == p.line) = true) (hn : l.length < 30) :
    eval (.Call (.Attribute a m ap) l [] p) env = (do
      let ov ← eval a env
      standAt ap.atName
      let (f, first) ← holding [ov] (getMethod ov m (do return (← importBound a env).getD true))
      callWith p f first (backTo p (starEach l env)) (backToKw p (keywordEach [] env))) := by
  have hf : methodCallForm (l.length + ([] : List Keyword).length) (backTo p (starEach l env)) (backToKw p (keywordEach [] env)) = true := by
    unfold methodCallForm
    have h1 := hs.all p
    simp only [Bool.and_eq_true, decide_eq_true_eq]
    refine ⟨⟨?_, rfl⟩, by show l.length + 0 + 0 < 30; omega⟩
    rw [List.any_eq_false] at h1
    rw [List.all_eq_true]
    intro x hx
    simpa using h1 x hx
  have hp : methodCallPos true a env ap p = pure p := by unfold methodCallPos; simp [hl]
  rw [arm_eval_Call, hb]
  unfold methodCall calleeOf
  rw [hf]
  simp only [if_true, hp, pure_bind]
end
end DL
end
section
set_option Elab.async false
set_option linter.all false
set_option maxRecDepth 100000
namespace DL
open PySem L2 PyProof.Rows
section
variable {X : Cx} {ca : Lk} {T : Tab} {R : Rec} {L : Nms} {N : List Str} {hot : Bool} {sc : Scope} {W : WX} {xn : List (Addr × Obj)}
theorem se_glo (c : Cn X ca T R L N hot sc W xn) {x : Str} {d : D} {p : Pos} (hg : gloB sc x = true) (ho : okName x = true) (h : (L.glos.any fun p => decide (p.1 = x) && p.2.same d) = true) : PE X (.Name x p) (tE ca W xn (fun _ => P.ret d) []) := by
  obtain ⟨⟨y, d'⟩, h1, h2⟩ := List.any_eq_true.mp h
  simp only [Bool.and_eq_true, decide_eq_true_eq] at h2
  obtain ⟨rfl, h3⟩ := h2
  have := D.same_eq h3
  subst this
  obtain ⟨v, u, m1, r1, r2⟩ := c.gl.glo y _ h1
  exact se_con (pe_glob (c.glb hg) m1 r1 (okName_1 ho)) r2
theorem ty_read (c : Cn X ca T R L N hot sc W xn) {t : Ty} {y : Str} {p : Pos} (h : tyIs T t y = true) (hg : gloB sc y = true) (ho : okName y = true) : PE X (.Name y p) (tC (t.val ca)) := by
  have hg := c.glb hg
  cases t with
  | cls k =>
    unfold tyIs at h
    cases q : (T.cl k) with
    | none => simp [q] at h
    | some cl =>
      simp only [q, decide_eq_true_eq] at h
      subst h
      exact pe_glob hg (c.gl.cls k cl q) rfl (okName_1 ho)
  | bool => obtain rfl : y = "bool" := of_decide_eq_true h
            exact pe_bltn hg (c.gl.blt _ (by decide)) (by decide +kernel) rfl
  | int => obtain rfl : y = "int" := of_decide_eq_true h
           exact pe_bltn hg (c.gl.blt _ (by decide)) (by decide +kernel) rfl
  | str => obtain rfl : y = "str" := of_decide_eq_true h
           exact pe_bltn hg (c.gl.blt _ (by decide)) (by decide +kernel) rfl
  | tuple => obtain rfl : y = "tuple" := of_decide_eq_true h
             exact pe_bltn hg (c.gl.blt _ (by decide)) (by decide +kernel) rfl
  | list => obtain rfl : y = "list" := of_decide_eq_true h
            exact pe_bltn hg (c.gl.blt _ (by decide)) (by decide +kernel) rfl
theorem fop_blt (f : Fop) : fopName f ∈ bltNames := by cases f <;> decide
/-- err.f -/
theorem se_xat (c : Cn X ca T R L N hot sc W xn) {i : Nat} {x f : Str} {p q : Pos} (hN : N[i]? = some x) (hv : visB sc x = true) (ho : okName x = true) : PE X (.Attribute (.Name x p) f q) (tE ca W xn (fun env => exnF T env i f) []) := by
  refine ⟨fun pins s σ H Q I h => ?_⟩
  obtain ⟨B, A, env, mp, per, pp, r, res⟩ := h
  dsimp only at res
  have key : ∃ k fs, env[i]? = some (some (.dat (.exn k fs))) ∧ Res ca W (RV ca) B A mp σ H Q (P.opt ((T.cl k).bind fun cl => if cl.exc && cl.flds.contains f then fs.lookup f else none) per) := by
    unfold exnF at res
    cases q : env[i]? with
    | none => rw [q] at res; exact res.elim
    | some o =>
      rw [q] at res
      cases o with
      | none => exact res.elim
      | some sl =>
        cases sl with
        | own d => exact res.elim
        | dat d =>
          cases d with
          | exn k fs => exact ⟨k, fs, rfl, res⟩
          | _ => exact res.elim
  clear res
  obtain ⟨k, fs, henv, res⟩ := key
  · 
    obtain ⟨v, hs, a, oe, dd, gs, rfl, hm, hz, hf, hdm, hdd, rf⟩ := r.exn i k fs henv
    cases hc : (T.cl k) with
    | none => rw [hc] at res; exact res.elim
    | some cl =>
      rw [hc] at res
      simp only [Option.bind_some] at res
      by_cases hx : (cl.exc && cl.flds.contains f) = true
      · rw [if_pos hx] at res
        simp only [Bool.and_eq_true] at hx
        cases hl : fs.lookup f with
        | none => rw [hl] at res; exact res.elim
        | some d =>
          rw [hl] at res
          obtain ⟨w, l1, l2⟩ := rf.look.1 d hl
          obtain ⟨xf, hno⟩ := c.tok.xf k cl hc hx.1
          have hno := hno f (by simpa using hx.2)
          rw [← c.hK] at xf hno
          have hq : Q w H := res mp H w Ext.refl pp (l2)
          refine attr_of rfl (thn ((pe_var (X := X) (pos := p) (by rw [c.hN]; exact hN) (c.vis hv) (okName_1 ho) (okName_2 ho)).run pins s σ H (fun x H1 => x = .ref a ∧ H1 = H) I ⟨_, hs, rfl, rfl⟩) fun u s1 hh => ?_)
          obtain ⟨x', H1, I1, rx, rfl, rfl⟩ := hh
          obtain rfl : u = Value.ref a := rx
          obtain ⟨ha, _⟩ := I1.pin (a, oe) (List.mem_append_left _ (c.pnx _ hm))
          obtain ⟨vs, hd⟩ := hf
          have hx2 : ObjOk X.prog X.w H1 s1.heap dd (.xd gs) := I1.hok dd _ hdd
          obtain ⟨mA, hns, hr⟩ := hx2
          obtain ⟨od, ho2, hl2⟩ := lookIn_ns hns
          obtain ⟨u, hu, ru⟩ := RelO.some_of (v := w) (o := mA f) (by rw [← l1]; exact hr f)
          have J : PySem.W.InstAt s1.heap a oe (ca.at_ k) (some od) := ⟨ha, hz.1, by unfold PySem.W.notCls; rw [hd] <;> rfl, by rw [hz.2]; exact ho2⟩
          exact HandSPX.exc_get I1.kIn J xf.ga xf.gg xf.exC (PySem.W.findObj_own xf.hdC hno rfl (by rw [hl2, hu])) (handed_of ru) ⟨w, H1, I1.tok _, ru, hq⟩
      · rw [if_neg hx] at res; exact res.elim
theorem tB_true : PTs X [] (tB ca W xn (fun _ => P.ret true)) := ⟨fun pins s σ H Q I h => (pts_nil (X := X)).run pins s σ H Q I (by
  obtain ⟨B, A, env, mp, per, p, r, res⟩ := h
  exact res mp H true Ext.refl p rfl)⟩
theorem sn_lc (c : Cn X ca T R L N hot sc W xn) (h0 : hot = false) {el it : Expr} {ifs : List Expr} {s : Scope} {y : Str} {v : Nat} {tp pos : Pos} {mi : Env → P (List D)} {ei ee : List Nat} {me : Env → P D} {mc : Env → P Bool} (hv : v < 100000) (hb : blkC N sc s [(y, v)] = true) (hy : N[v]? = some y)
    (hyl : s.names.lookup y = some .local ∨ s.names.lookup y = some .cell) (hset : isSet it = false) (hi : PI X (.Name y tp) it (tI false ca W xn mi ei))
    (ht : ∀ X', Cn X' ca T R L N hot (relS s sc) noW [] → PTs X' ifs (tB ca noW [] mc)) (he : ∀ X', Cn X' ca T R L N hot (relS s sc) noW [] → PE X' el (tE ca noW [] me ee)) :
    PE X (.ListComp el [⟨.Name y tp, it, ifs, 0⟩] s pos) (tN ca W xn (fun env => P.bind (mi env) fun ds => P.bind (calm (lcL v mc me env ds)) fun xs => if xs.length ≤ sizeLine then P.ret (.lst xs) else P.bad) (ee ++ ei)) := by
  subst h0
  obtain ⟨rfl, h2, h3, h4⟩ := c.cold rfl
  refine (pe_lc (own := [(y, v)]) h2 (by rw [c.hN]; exact c.nd) hi (by rw [c.hN, c.hsc]; exact blkOk_by hb) (fun s' H C cl fp => ?_) (fun s' H C cl fp => ht _ (c.blk s' H s C cl fp)) (fun s' H C cl fp => he _ (c.blk s' H s C cl fp)) ?_).imp (lc_go hv)
  · have hl : (relS s X.env.scope).names.lookup y = some .local ∨ (relS s X.env.scope).names.lookup y = some .cell := by
      rcases hyl with h | h
      · exact .inl (lookup_relS_keep (by simp) h)
      · exact .inr (lookup_relS_keep (by simp) h)
    refine pg_name (by show X.N.Nodup; rw [c.hN]; exact c.nd) (by show X.N[v]? = _; rw [c.hN]; exact hy) hl ?_
    rcases hyl with h | h
    · exact .inr (lookup_relS_keep (by simp) h)
    · exact .inl (by show (s.names.lookup y == some .cell) = true; rw [h]; rfl)
  · intro x
    cases it <;> first
      | rfl
      | (simp [isSet] at hset)
theorem se_lc (c : Cn X ca T R L N hot sc W xn) (h0 : hot = false) {el it : Expr} {ifs : List Expr} {s : Scope} {y : Str} {v : Nat} {tp pos : Pos} {mi : Env → P (List D)} {ei ee : List Nat} {me : Env → P D} {mc : Env → P Bool} (hv : v < 100000) (hb : blkC N sc s [(y, v)] = true) (hy : N[v]? = some y)
    (hyl : s.names.lookup y = some .local ∨ s.names.lookup y = some .cell) (hset : isSet it = false) (hi : PI X (.Name y tp) it (tI false ca W xn mi ei))
    (ht : ∀ X', Cn X' ca T R L N hot (relS s sc) noW [] → PTs X' ifs (tB ca noW [] mc)) (he : ∀ X', Cn X' ca T R L N hot (relS s sc) noW [] → PE X' el (tE ca noW [] me ee)) :
    PE X (.ListComp el [⟨.Name y tp, it, ifs, 0⟩] s pos) (tE ca W xn (fun env => P.bind (mi env) fun ds => P.bind (calm (lcL v mc me env ds)) fun xs => if xs.length ≤ sizeLine then P.ret (.lst xs) else P.bad) (ee ++ ei)) := (sn_lc c h0 hv hb hy hyl hset hi ht he).imp tN.of
end
end DL
end
section
set_option Elab.async false
set_option linter.all false
set_option maxRecDepth 100000
namespace DL
open PySem L2 PyProof.Rows
def boolOp (b : Bool) : BoolOp := if b then .And else .Or
section
variable {ca : Lk} {T : Tab} {R : Rec} {L : Nms} {N : List Str} {hot : Bool}
/-- a star does not fit -/
theorem mE_star {sc : Scope} {e : Ex} {a : Expr} (h : mE T L N hot sc e a = true) : isStar a = false := by
  cases a with
  | Starred x p => cases e <;> simp [mE] at h
  | _ => rfl
theorem mEs_nostar {sc : Scope} : ∀ {es : Exs} {l : List Expr}, mEs T L N hot sc es l = true → l.all (fun e => !isStar e) = true
  | .nil, l, h => by
    cases l with
    | nil => rfl
    | cons a r => simp [mEs] at h
  | .cons e es, l, h => by
    cases l with
    | nil => simp [mEs] at h
    | cons a r =>
      simp only [mEs, Bool.and_eq_true] at h
      simp only [List.all_cons, Bool.and_eq_true]
      exact ⟨h.1.1, mEs_nostar h.2⟩
theorem mEs_nil {sc : Scope} {es : Exs} (h : mEs T L N hot sc es [] = true) : ∀ env, evs T R es env = P.ret [] := by
  cases es with
  | nil => intro env; simp [evs]
  | cons e es => simp [mEs] at h
mutual
theorem soundE {X : Cx} {sc : Scope} {W : WX} {xn : List (Addr × Obj)} (c : Cn X ca T R L N hot sc W xn) : ∀ (e : Ex) (a : Expr), mE T L N hot sc e a = true → SE X ca T R W xn e a
  | .var i, a, h => by
    cases a with
    | Name x p =>
      simp only [mE, Bool.and_eq_true, decide_eq_true_eq] at h
      obtain ⟨h1, h2⟩ := se_var (X := X) (ca := ca) (W := W) (xn := xn) (pos := p) (by rw [c.hN]; exact h.1.1) (c.vis h.1.2) (okName_1 h.2) (okName_2 h.2)
      exact ⟨by simpa only [ev, esc, Mean.of] using h1, by simpa only [ev, escR, Mean.of] using h2, by simpa only [ev, Mean.of] using st_of h2 (plainTest_ok rfl)⟩
    | _ => simp [mE] at h
  | .non, a, h => by
    cases a with
    | Constant k j p =>
      cases k <;> first
        | (simp [mE] at h; done)
        | exact SE.of (by rw [ev]) (by simp [escR, esc]) rfl (by simp only [esc]; exact se_con pe_non (by intros; simp [RV]))
    | _ => simp [mE] at h
  | .bl b, a, h => by
    cases a with
    | Constant k j p =>
      cases k <;> first
        | (simp [mE] at h; done)
        | (simp only [mE, decide_eq_true_eq] at h
           subst h
           exact SE.of (by rw [ev]) (by simp [escR, esc]) rfl (by simp only [esc]; exact se_con pe_bl (by intros; simp [RV])))
    | _ => simp [mE] at h
  | .int b, a, h => by
    cases a with
    | Constant k j p =>
      cases k <;> first
        | (simp [mE] at h; done)
        | (simp only [mE, decide_eq_true_eq] at h
           subst h
           exact SE.of (by rw [ev]) (by simp [escR, esc]) rfl (by simp only [esc]; exact se_con pe_int (by intros; simp [RV])))
    | _ => simp [mE] at h
  | .str b, a, h => by
    cases a with
    | Constant k j p =>
      cases k <;> first
        | (simp [mE] at h; done)
        | (simp only [mE, decide_eq_true_eq] at h
           subst h
           exact SE.of (by rw [ev]) (by simp [escR, esc]) rfl (by simp only [esc]; exact se_con pe_str (by intros; simp [RV])))
    | _ => simp [mE] at h
  | .glo x d, a, h => by
    cases a with
    | Name y p =>
      simp only [mE, Bool.and_eq_true, decide_eq_true_eq] at h
      obtain ⟨⟨⟨rfl, h1⟩, h2⟩, h3⟩ := h
      exact SE.of (by rw [ev]) (by simp [escR, esc]) rfl (by simp only [esc]; exact se_glo c h1 h2 h3)
    | _ => simp [mE] at h
  | .bin op a b, e, h => by
    cases e with
    | BinOp a' o b' p =>
      simp only [mE, Bool.and_eq_true] at h
      obtain rfl := bopIs_eq h.1.1
      exact SE.of (by rw [ev]) (by simp [escR, esc]) rfl (by simp only [esc]; exact se_bin op (soundE c a a' h.1.2).r (soundE c b b' h.2).r)
    | _ => simp [mE] at h
  | .neg a, e, h => by
    cases e with
    | UnaryOp o a' p =>
      cases o <;> first
        | (simp [mE] at h; done)
        | (simp only [mE] at h
           exact SE.of (by rw [ev]) (by simp [escR, esc]) rfl (by simp only [esc]; exact se_neg (soundE c a a' h).v))
    | _ => simp [mE] at h
  | .not a, e, h => by
    cases e with
    | UnaryOp o a' p =>
      cases o <;> first
        | (simp [mE] at h; done)
        | (simp only [mE] at h
           have s := soundE c a a' h
           have h1 := se_not (pos := p) s.v
           exact ⟨by simp only [ev, esc]; exact h1, by simp only [ev, escR]; exact se_read h1, by simp only [ev]; exact st_not s.t⟩)
    | _ => simp [mE] at h
  | .cmp op a b, e, h => by
    cases e with
    | Compare a' os bs p =>
      match os, bs, h with
      | [o], [b'], h =>
        simp only [mE, Bool.and_eq_true, Bool.not_eq_true'] at h
        obtain ⟨⟨⟨h1, h2⟩, h3⟩, h4⟩ := h
        obtain rfl := copIs_eq h1
        have h := se_cmp (pos := p) c.units op (soundE c a a' h2).r (soundE c b b' h3).r (noSet h4)
        exact ⟨by simp only [ev, esc]; exact h.1, by simp only [ev, escR]; exact se_read h.1, by simp only [ev]; exact h.2⟩
      | [], _, h => simp [mE] at h
      | _ :: _ :: _, _, h => simp [mE] at h
      | [_], [], h => simp [mE] at h
      | [_], _ :: _ :: _, h => simp [mE] at h
    | _ => simp [mE] at h
  | .and a b, e, h => by
    cases e with
    | BoolOp o l p =>
      cases o with
      | Or => simp [mE] at h
      | And =>
        match l, h with
        | [], h => simp [mE] at h
        | [_], h => simp [mE] at h
        | [a', b'], h =>
          simp only [mE, Bool.and_eq_true] at h
          have s1 := soundE c a a' h.1
          have s2 := soundE c b b' h.2
          have h1 := se_and (pos := p) s1.v (pe_one (op := .And) (pos := p) s2.v)
          exact ⟨by simp only [ev, esc]; exact h1, by simp only [ev, escR]; exact se_read h1, by simpa only [ev] using (sw_and s1.t (pw_and1 (pos := p) s2.t)).pt⟩
        | a' :: b' :: c' :: r, h =>
          simp only [mE, Bool.and_eq_true] at h
          have s1 := soundE c a a' h.1
          have s2 := soundB c true b (b' :: c' :: r) p h.2
          have h1 := se_and (pos := p) s1.v s2.1
          exact ⟨by simp only [ev, esc]; exact h1, by simp only [ev, escR]; exact se_read h1, by simp only [ev]; exact (sw_and s1.t s2.2).pt⟩
    | _ => simp [mE] at h
  | .or a b, e, h => by
    cases e with
    | BoolOp o l p =>
      cases o with
      | And => simp [mE] at h
      | Or =>
        match l, h with
        | [], h => simp [mE] at h
        | [_], h => simp [mE] at h
        | [a', b'], h =>
          simp only [mE, Bool.and_eq_true] at h
          have s1 := soundE c a a' h.1
          have s2 := soundE c b b' h.2
          have h1 := se_or (pos := p) s1.v (pe_one (op := .Or) (pos := p) s2.v)
          exact ⟨by simp only [ev, esc]; exact h1, by simp only [ev, escR]; exact se_read h1, by simpa only [ev] using (sw_or s1.t (pw_or1 (pos := p) s2.t)).pt⟩
        | a' :: b' :: c' :: r, h =>
          simp only [mE, Bool.and_eq_true] at h
          have s1 := soundE c a a' h.1
          have s2 := soundB c false b (b' :: c' :: r) p h.2
          have h1 := se_or (pos := p) s1.v s2.1
          exact ⟨by simp only [ev, esc]; exact h1, by simp only [ev, escR]; exact se_read h1, by simp only [ev]; exact (sw_or s1.t s2.2).pt⟩
    | _ => simp [mE] at h
  | .ite q a b, e, h => by
    cases e with
    | IfExp q' a' b' p =>
      simp only [mE, Bool.and_eq_true] at h
      have h1 := se_ite (pos := p) (soundE c q q' h.1.1).t (soundE c a a' h.1.2).v (soundE c b b' h.2).v
      exact ⟨by simp only [ev, esc]; exact h1, by simp only [ev, escR]; exact se_read h1, ⟨fun pins s σ H Q I hh => by
        obtain ⟨B, A, env, mp, per, pp, r, res⟩ := hh
        simp only [ev] at res
        exact res.elim⟩⟩
    | _ => simp [mE] at h
  | .tup es, e, h => by
    cases e with
    | Tuple l k p =>
      simp only [mE] at h
      exact SE.of (by rw [ev]) (by simp [escR, esc]) rfl (by simp only [esc]; exact se_tup (soundEs c es l h))
    | _ => simp [mE] at h
  | .lst es, e, h => by
    cases e with
    | List l p =>
      simp only [mE] at h
      exact SE.of (by rw [ev]) (by simp [escR, esc]) rfl (by simp only [esc]; exact se_lst (soundEs c es l h))
    | _ => simp [mE] at h
  | .idx a i, e, h => by
    cases e with
    | Subscript a' i' p =>
      simp only [mE, Bool.and_eq_true, Bool.not_eq_true'] at h
      exact SE.of (by rw [ev]) (by simp [escR, esc]) rfl (by simp only [esc]; exact se_idx c.units (soundE c a a' h.1.1).r (soundE c i i' h.1.2).v (noSlice h.2))
    | _ => simp [mE] at h
  | .slc a lo hi, e, h => by
    cases e with
    | Subscript a' i' p =>
      cases i' with
      | Slice l u st p2 =>
        cases st with
        | some s => simp [mE] at h
        | none =>
          simp only [mE, Bool.and_eq_true] at h
          exact SE.of (by rw [ev]) (by simp [escR, esc]) rfl (by simp only [esc]; exact se_slc c.hK (soundE c a a' h.1.1).r (soundO c lo l h.1.2) (soundO c hi u h.2))
      | _ => simp [mE] at h
    | _ => simp [mE] at h
  | .att a f, e, h => by
    cases e with
    | Attribute a' g p =>
      simp only [mE, Bool.and_eq_true, Bool.not_eq_true', decide_eq_true_eq] at h
      obtain ⟨⟨rfl, h1⟩, h2⟩ := h
      exact SE.of (by rw [ev]) (by simp [escR, esc]) rfl (by simp only [esc]; exact se_att c.hK c.tok (soundE c a a' h2).r (noCall h1))
    | _ => simp [mE] at h
  | .call f es, e, h => by
    cases e with
    | Call fn l kw p =>
      cases fn with
      | Name x p2 =>
        cases kw with
        | cons _ _ => simp [mE] at h
        | nil =>
          simp only [mE, Bool.and_eq_true, Bool.not_eq_true', decide_eq_true_eq, Option.isSome_iff_exists] at h
          obtain ⟨⟨⟨⟨⟨h0, h1⟩, fn, h2⟩, h3⟩, h4⟩, h5⟩ := h
          obtain ⟨hxn, hc, tk, co⟩ := c.cold h0
          exact SE.of (by rw [ev]) (by simp [escR, esc]) rfl (by
            simp only [esc]
            exact se_call (co.t0 f fn h2) tk (co.fn f fn x h2 h1) (c.glb h3) (okName_1 h4) (soundEs c es l h5) (noStars (mEs_nostar h5)) (by rintro rfl; exact mEs_nil h5))
      | _ => simp [mE] at h
    | _ => simp [mE] at h
  | .new k es, e, h => by
    cases e with
    | Call fn l kw p =>
      cases fn with
      | Name x p2 =>
        cases kw with
        | cons _ _ => simp [mE] at h
        | nil =>
          simp only [mE, Bool.and_eq_true, Bool.not_eq_true'] at h
          obtain ⟨⟨⟨⟨h0, h1⟩, h3⟩, h4⟩, h5⟩ := h
          obtain ⟨hxn, hc, tk, co⟩ := c.cold h0
          cases hk : (T.cl k) with
          | none => simp [hk] at h1
          | some cl =>
            simp only [hk, Bool.and_eq_true, decide_eq_true_eq, Bool.not_eq_true'] at h1
            obtain ⟨⟨rfl, h6⟩, h7⟩ := h1
            cases hi : (T.fn cl.init) with
            | none => simp [hi] at h7
            | some fn =>
              simp only [hi, decide_eq_true_eq] at h7
              have hnp : (fn.np - 1) + 1 = fn.np := by omega
              have hF := co.new k cl fn hk h6 hi
              rw [← hnp] at hF
              exact SE.of (by rw [ev]) (by simp [escR, esc]) rfl (by
                simp only [esc]
                exact se_new (co.n0 k cl fn hk h6 hi _ hnp) tk hF (c.glb h3) (okName_1 h4) (soundEs c es l h5) (noStars (mEs_nostar h5)) (by rintro rfl; exact mEs_nil h5))
      | _ => simp [mE] at h
    | _ => simp [mE] at h
  | .meth a m es, e, h => by
    cases e with
    | Call fn l kw p =>
      cases fn with
      | Attribute a' n ap =>
        cases kw with
        | cons _ _ => simp [mE] at h
        | nil =>
          simp only [mE, Bool.and_eq_true, Bool.not_eq_true', decide_eq_true_eq] at h
          obtain ⟨⟨⟨⟨⟨⟨h0, rfl⟩, h1⟩, h2⟩, h3⟩, h4⟩, h5⟩ := h
          obtain ⟨hxn, hc, tk, co⟩ := c.cold h0
          have ns := noStars (env := X.env) (mEs_nostar h3)
          exact SE.of (by rw [ev]) (by simp [escR, esc]) rfl (by
            simp only [esc]
            exact se_meth c.hK c.tok co.me tk (soundE c a a' h2).v (soundEs c es l h3) ns (by rintro rfl; exact mEs_nil h3) (meth_tree (noCall h1) ns h4 h5))
      | _ => simp [mE] at h
    | _ => simp [mE] at h
  | .fn1 f a, e, h => by
    cases e with
    | Call fn l kw p =>
      cases fn with
      | Name x p2 =>
        match l, kw, h with
        | [a'], [], h =>
          simp only [mE, Bool.and_eq_true, Bool.not_eq_true', decide_eq_true_eq] at h
          obtain ⟨⟨⟨⟨h0, rfl⟩, h1⟩, h2⟩, h3⟩ := h
          obtain ⟨hxn, hc, tk, co⟩ := c.cold h0
          exact SE.of (by rw [ev]) (by simp [escR, esc]) rfl (by
            simp only [esc]
            exact se_fn1 f hc (c.glb h1) (c.gl.blt _ (fop_blt f)) (soundE c a a' h3).r (noStars (by simp [h2])))
        | [], _, h => simp [mE] at h
        | _ :: _ :: _, _, h => simp [mE] at h
        | [_], _ :: _, h => simp [mE] at h
      | _ => simp [mE] at h
    | _ => simp [mE] at h
  | .isi a t, e, h => by
    cases e with
    | Call fn l kw p =>
      cases fn with
      | Name x p2 =>
        match l, kw, h with
        | [a', b'], [], h =>
          cases b' with
          | Name y p3 =>
            simp only [mE, Bool.and_eq_true, Bool.not_eq_true', decide_eq_true_eq] at h
            obtain ⟨⟨⟨⟨⟨⟨rfl, h1⟩, h2⟩, h3⟩, h4⟩, h5⟩, h6⟩ := h
            exact SE.of (by rw [ev]) (by simp [escR, esc]) rfl (by
              simp only [esc]
              exact se_isi c.hK c.tok t (c.glb h1) (c.gl.blt _ (by decide)) (soundE c a a' h3).r (ty_read c h4 h5 h6) (noStars (by simp only [List.all_cons, h2]; rfl)))
          | _ => simp [mE] at h
        | [], _, h => simp [mE] at h
        | [_], _, h => simp [mE] at h
        | _ :: _ :: _ :: _, _, h => simp [mE] at h
        | [_, _], _ :: _, h => simp [mE] at h
      | _ => simp [mE] at h
    | _ => simp [mE] at h
  | .xat i f, e, h => by
    cases e with
    | Attribute a' g p =>
      cases a' with
      | Name x p2 =>
        simp only [mE, Bool.and_eq_true, decide_eq_true_eq] at h
        obtain ⟨⟨⟨rfl, h1⟩, h2⟩, h3⟩ := h
        exact SE.of (by rw [ev]) (by simp [escR, esc]) rfl (by simp only [esc]; exact se_xat c h1 h2 h3)
      | _ => simp [mE] at h
    | _ => simp [mE] at h
  | .lc el v it q, e, h => by
    cases e with
    | ListComp el' gs s p =>
      match gs, h with
      | [⟨tg, it', ifs, k⟩], h =>
        cases tg with
        | Name y tp =>
          by_cases hk : k = 0
          · subst hk
            simp only [mE, Bool.and_eq_true, Bool.not_eq_true', decide_eq_true_eq] at h
            obtain ⟨⟨⟨⟨⟨⟨⟨⟨h0, h1⟩, h2⟩, h3⟩, h4⟩, h5⟩, h6⟩, h7⟩, h8⟩ := h
            have hyl : s.names.lookup y = some .local ∨ s.names.lookup y = some .cell := by
              split at h4 <;> first
                | exact .inl (by assumption)
                | exact .inr (by assumption)
                | cases h4
            exact SE.of (by rw [ev]) (by simp [escR, esc]) rfl (by
              simp only [esc]
              exact se_lc c h0 h1 h3 h2 hyl h5 (soundI c it it' h6) (fun X' c' => soundC c' q ifs h8) (fun X' c' => (soundE c' el el' h7).v))
          · simp [mE, hk] at h
        | _ => simp [mE] at h
      | [], h => simp [mE] at h
      | _ :: _ :: _, h => simp [mE] at h
    | _ => simp [mE] at h
  | .dct, e, h => by
    cases e with
    | Dict ks vs p =>
      cases ks <;> cases vs <;> first
        | (simp [mE] at h; done)
        | exact SE.of (by rw [ev]) (by simp [escR, esc]) rfl (by simp only [esc]; exact sn_dct.imp tN.of)
    | _ => simp [mE] at h
theorem soundB {X : Cx} {sc : Scope} {W : WX} {xn : List (Addr × Obj)} (c : Cn X ca T R L N hot sc W xn) (k : Bool) : ∀ (e : Ex) (l : List Expr) (p : Pos), mB T L N hot sc k e l = true →
    PE X (.BoolOp (boolOp k) l p) (tE ca W xn (ev T R e).v (esc e)) ∧ PW X (.BoolOp (boolOp k) l p) (tB ca W xn (ev T R e).t)
  | .and a b, l, p, h => by
    match l, h with
    | [], h => simp [mB] at h
    | [_], h => simp [mB] at h
    | [a', b'], h =>
      simp only [mB, Bool.and_eq_true] at h
      obtain ⟨⟨rfl, h1⟩, h2⟩ := h
      have s1 := soundE c a a' h1
      have s2 := soundE c b b' h2
      exact ⟨by simp only [ev, esc]; exact se_and (pos := p) s1.v (pe_one (op := .And) (pos := p) s2.v), by simp only [ev]; exact sw_and s1.t (pw_and1 (pos := p) s2.t)⟩
    | a' :: b' :: c' :: r, h =>
      simp only [mB, Bool.and_eq_true] at h
      obtain ⟨⟨rfl, h1⟩, h2⟩ := h
      have s1 := soundE c a a' h1
      have s2 := soundB c true b (b' :: c' :: r) p h2
      exact ⟨by simp only [ev, esc]; exact se_and (pos := p) s1.v s2.1, by simp only [ev]; exact sw_and s1.t s2.2⟩
  | .or a b, l, p, h => by
    match l, h with
    | [], h => simp [mB] at h
    | [_], h => simp [mB] at h
    | [a', b'], h =>
      simp only [mB, Bool.and_eq_true, Bool.not_eq_true'] at h
      obtain ⟨⟨rfl, h1⟩, h2⟩ := h
      have s1 := soundE c a a' h1
      have s2 := soundE c b b' h2
      exact ⟨by simp only [ev, esc]; exact se_or (pos := p) s1.v (pe_one (op := .Or) (pos := p) s2.v), by simp only [ev]; exact sw_or s1.t (pw_or1 (pos := p) s2.t)⟩
    | a' :: b' :: c' :: r, h =>
      simp only [mB, Bool.and_eq_true, Bool.not_eq_true'] at h
      obtain ⟨⟨rfl, h1⟩, h2⟩ := h
      have s1 := soundE c a a' h1
      have s2 := soundB c false b (b' :: c' :: r) p h2
      exact ⟨by simp only [ev, esc]; exact se_or (pos := p) s1.v s2.1, by simp only [ev]; exact sw_or s1.t s2.2⟩
  | .var _, _, _, h => by simp [mB] at h
  | .non, _, _, h => by simp [mB] at h
  | .bl _, _, _, h => by simp [mB] at h
  | .int _, _, _, h => by simp [mB] at h
  | .str _, _, _, h => by simp [mB] at h
  | .glo _ _, _, _, h => by simp [mB] at h
  | .bin _ _ _, _, _, h => by simp [mB] at h
  | .neg _, _, _, h => by simp [mB] at h
  | .not _, _, _, h => by simp [mB] at h
  | .cmp _ _ _, _, _, h => by simp [mB] at h
  | .ite _ _ _, _, _, h => by simp [mB] at h
  | .tup _, _, _, h => by simp [mB] at h
  | .lst _, _, _, h => by simp [mB] at h
  | .idx _ _, _, _, h => by simp [mB] at h
  | .slc _ _ _, _, _, h => by simp [mB] at h
  | .att _ _, _, _, h => by simp [mB] at h
  | .call _ _, _, _, h => by simp [mB] at h
  | .new _ _, _, _, h => by simp [mB] at h
  | .meth _ _ _, _, _, h => by simp [mB] at h
  | .fn1 _ _, _, _, h => by simp [mB] at h
  | .isi _ _, _, _, h => by simp [mB] at h
  | .xat _ _, _, _, h => by simp [mB] at h
  | .lc _ _ _ _, _, _, h => by simp [mB] at h
  | .dct, _, _, h => by simp [mB] at h
theorem soundEs {X : Cx} {sc : Scope} {W : WX} {xn : List (Addr × Obj)} (c : Cn X ca T R L N hot sc W xn) : ∀ (es : Exs) (l : List Expr), mEs T L N hot sc es l = true → PA X l (tEs ca W xn (evs T R es) (escs es))
  | .nil, l, h => by
    cases l with
    | cons _ _ => simp [mEs] at h
    | nil =>
      have e : evs T R .nil = fun _ => P.ret [] := by funext env; simp [evs]
      rw [e]
      simp only [escs]
      exact sa_nil
  | .cons e es, l, h => by
    cases l with
    | nil => simp [mEs] at h
    | cons a r =>
      simp only [mEs, Bool.and_eq_true, Bool.not_eq_true'] at h
      have e' : evs T R (.cons e es) = fun env => P.bind ((ev T R e).v env) fun x => P.bind (evs T R es env) fun xs => P.ret (x :: xs) := by funext env; simp [evs]
      rw [e']
      simp only [escs]
      exact sa_cons (soundE c e a h.1.2).v (soundEs c es r h.2) (noStarE h.1.1)
theorem soundO {X : Cx} {sc : Scope} {W : WX} {xn : List (Addr × Obj)} (c : Cn X ca T R L N hot sc W xn) : ∀ (o : Oex) (l : Option Expr), mO T L N hot sc o l = true → PO X l (tOi (ca := ca) W xn (evo T R o))
  | .none, l, h => by
    cases l with
    | some _ => simp [mO] at h
    | none =>
      have e : evo T R .none = fun _ => P.ret none := by funext env; simp [evo]
      rw [e]
      exact so_none
  | .some e, l, h => by
    cases l with
    | none => simp [mO] at h
    | some a =>
      simp only [mO] at h
      have e' : evo T R (.some e) = fun env => P.bind ((ev T R e).v env) fun x => match x with
        | .int i => P.ret (some i)
        | _ => P.bad := by funext env; simp only [evo] <;> rfl
      rw [e']
      exact so_some (soundE c e a h).v
theorem soundC {X : Cx} {sc : Scope} {W : WX} {xn : List (Addr × Obj)} (c : Cn X ca T R L N hot sc W xn) : ∀ (o : Oex) (l : List Expr), mC T L N hot sc o l = true → PTs X l (tB ca W xn (evc T R o))
  | .none, l, h => by
    cases l with
    | cons _ _ => simp [mC] at h
    | nil =>
      have e : evc T R .none = fun _ => P.ret true := by funext env; simp [evc]
      rw [e]
      exact tB_true
  | .some e, l, h => by
    match l, h with
    | [], h => simp [mC] at h
    | _ :: _ :: _, h => simp [mC] at h
    | [a], h =>
      simp only [mC] at h
      have e' : evc T R (.some e) = (ev T R e).t := by funext env; simp [evc]
      rw [e']
      exact pts_one (soundE c e a h).t
theorem soundI {X : Cx} {sc : Scope} {W : WX} {xn : List (Addr × Obj)} (c : Cn X ca T R L N hot sc W xn) {tg : Expr} : ∀ (it : DL.It) (a : Expr), mI T L N hot sc it a = true → PI X tg a (tI false ca W xn (evi T R it) (esci it))
  | .seq e, a, h => by
    simp only [mI] at h
    have e' : evi T R (.seq e) = fun env => P.bind ((ev T R e).v env) fun x => P.opt x.items := by funext env; simp [evi]
    rw [e']
    simp only [esci]
    exact si_read (soundE c e a h).r
  | .rng e, a, h => by
    cases a with
    | Call fn l kw p =>
      cases fn with
      | Name x p2 =>
        match l, kw, h with
        | [a'], [], h =>
          simp only [mI, Bool.and_eq_true, Bool.not_eq_true', decide_eq_true_eq] at h
          obtain ⟨⟨⟨rfl, h1⟩, h2⟩, h3⟩ := h
          have e' : evi T R (.rng e) = fun env => P.bind ((ev T R e).v env) fun x => P.opt (rngD x) := by funext env; simp [evi]
          rw [e']
          simp only [esci]
          exact si_rng (c.glb h1) (c.gl.blt _ (by decide)) (soundE c e a' h3).v (noStars (by simp [h2]))
        | [], _, h => simp [mI] at h
        | _ :: _ :: _, _, h => simp [mI] at h
        | [_], _ :: _, h => simp [mI] at h
      | _ => simp [mI] at h
    | _ => simp [mI] at h
end
end
end DL
end
section
set_option Elab.async false
set_option linter.all false
set_option maxRecDepth 100000
/-! Stm: statements; how a frame's slots lie. -/
namespace DL
open PySem L2 PyProof.Rows
section
variable {ca : Lk} {A A' B : Addr → Prop} {mp mp' : List Addr} {H H' : Hp}
theorem Ext.avoid' (e : Ext mp H mp' H') (hN : ∀ a, A' a → A a ∨ H a = none) : ∀ a, AA A' mp' a → AA A mp a ∨ H a = none := fun a h => by
  rcases h with h | h
  · rcases hN a h with h | h
    · exact .inl (.inl h)
    · exact .inr h
  · rcases e.new a h with h | h
    · exact .inl (.inr h)
    · exact .inr h
theorem Ext.rv' {d : D} {v : V} (e : Ext mp H mp' H') (hN : ∀ a, A' a → A a ∨ H a = none) (h : RV ca (AA A mp) mp H d v) : RV ca (AA A' mp') mp' H' d v :=
  RV.mono (fun a o z n => e.fr.keep a o z fun y => n (.inr y)) e.fr.tup (e.avoid' hN) e.pre d v h
theorem Ext.rvs' {d : List D} {v : List V} (e : Ext mp H mp' H') (hN : ∀ a, A' a → A a ∨ H a = none) (h : RVs ca (AA A mp) mp H d v) : RVs ca (AA A' mp') mp' H' d v :=
  RVs.mono (fun a o z n => e.fr.keep a o z fun y => n (.inr y)) e.fr.tup (e.avoid' hN) e.pre d v h
theorem Ext.rd' {d : List (D × D)} {v : List (Key × V)} (e : Ext mp H mp' H') (hN : ∀ a, A' a → A a ∨ H a = none) (h : RD ca (AA A mp) mp H d v) : RD ca (AA A' mp') mp' H' d v :=
  RD.mono (fun a o z n => e.fr.keep a o z fun y => n (.inr y)) e.fr.tup (e.avoid' hN) e.pre d v h
theorem Ext.rf' {d : List (Str × D)} {v : List (Str × V)} (e : Ext mp H mp' H') (hN : ∀ a, A' a → A a ∨ H a = none) (h : RF ca (AA A mp) mp H d v) : RF ca (AA A' mp') mp' H' d v :=
  RF.mono (fun a o z n => e.fr.keep a o z fun y => n (.inr y)) e.fr.tup (e.avoid' hN) e.pre d v h
theorem Ext.top' {d : D} {a : Addr} (e : Ext mp H mp' H') (hN : ∀ a, A' a → A a ∨ H a = none) (hm : a ∉ mp) (h : Top ca (AA A mp) mp H a d) : Top ca (AA A' mp') mp' H' a d := by
  cases d with
  | lst xs => obtain ⟨vs, q, r⟩ := h; exact ⟨vs, e.fr.keep _ _ q hm, e.rvs' hN r⟩
  | dic xs => obtain ⟨vs, q, r⟩ := h; exact ⟨vs, e.fr.keep _ _ q hm, e.rd' hN r⟩
  | ins c xs => obtain ⟨dx, vs, q, r⟩ := h; exact ⟨dx, vs, e.fr.keep _ _ q hm, e.rf' hN r⟩
  | _ => exact h.elim
theorem Top.rv {d : D} {a : Addr} (h : Top ca A mp H a d) (n : ¬ A a) : RV ca A mp H d (.ref a) := by
  cases d with
  | lst xs => obtain ⟨vs, q, r⟩ := h; simp only [RV]; exact ⟨a, vs, rfl, n, q, r⟩
  | dic xs => obtain ⟨vs, q, r⟩ := h; simp only [RV]; exact ⟨a, vs, rfl, n, q, r⟩
  | ins c xs => obtain ⟨dx, vs, q, r⟩ := h; simp only [RV]; exact ⟨a, dx, vs, rfl, n, q, r⟩
  | _ => exact h.elim
theorem RD.less {d : List (D × D)} {v : List (Key × V)} (hB : ∀ a, B a → A a) (h : RD ca A mp H d v) : RD ca B mp H d v :=
  RD.mono (fun _ _ q _ => q) (fun _ _ q => q) (fun a z => .inl (hB a z)) (fun _ _ q => q) d v h
theorem Top.less {d : D} {a : Addr} (hB : ∀ a, B a → A a) (h : Top ca A mp H a d) : Top ca B mp H a d := by
  cases d with
  | lst xs => obtain ⟨vs, q, r⟩ := h; exact ⟨vs, q, r.less hB⟩
  | dic xs => obtain ⟨vs, q, r⟩ := h; exact ⟨vs, q, r.less hB⟩
  | ins c xs => obtain ⟨dx, vs, q, r⟩ := h; exact ⟨dx, vs, q, r.less hB⟩
  | _ => exact h.elim
theorem Top.noExn {d : D} {a : Addr} (h : Top ca A mp H a d) : d.isExn = false := by
  cases d <;> first
    | rfl
    | exact h.elim
theorem Top.noTup {d : D} {a : Addr} {vs : List V} (h : Top ca A mp H a d) : H a ≠ Option.some (.tup vs) := fun z => by
  cases d with
  | lst xs => obtain ⟨vs, q, r⟩ := h; rw [q] at z; cases z
  | dic xs => obtain ⟨vs, q, r⟩ := h; rw [q] at z; cases z
  | ins c xs => obtain ⟨dx, vs, q, r⟩ := h; rw [q] at z; cases z
  | _ => exact h.elim
theorem Top.noXd {d : D} {a : Addr} {gs : List (Str × V)} (h : Top ca A mp H a d) : H a ≠ Option.some (.xd gs) := fun z => by
  cases d with
  | lst xs => obtain ⟨vs, q, r⟩ := h; rw [q] at z; cases z
  | dic xs => obtain ⟨vs, q, r⟩ := h; rw [q] at z; cases z
  | ins c xs => obtain ⟨dx, vs, q, r⟩ := h; rw [q] at z; cases z
  | _ => exact h.elim
theorem RF.flat : ∀ {fs : List (Str × D)} {gs : List (Str × V)}, flats fs = true → RF ca A mp H fs gs → RF ca A' mp H fs gs
  | [], _, _, h => by simpa [RF] using h
  | (f, d) :: r, gs, i, h => by
    have i' : d.flat = true ∧ flats r = true := by simpa [flats] using i
    simp only [RF] at h ⊢
    obtain ⟨v, q, e, h1, h2⟩ := h
    exact ⟨v, q, e, h1.flat i'.1, RF.flat i'.2 h2⟩
end
/-! ### frozen slots -/
theorem frz_frz (o : Option Slot) : Slot.frz (Slot.frz o) = Slot.frz o := by
  cases o with
  | none => rfl
  | some sl => cases sl <;> rfl
theorem frzS_get : ∀ (is : List Nat) (env : Env) (i : Nat), (frzS is env)[i]? = if i ∈ is then (env[i]?).map Slot.frz else env[i]?
  | [], env, i => by simp [frzS]
  | k :: is, env, i => by
    rw [frzS, frzS_get is]
    by_cases h : k = i
    · subst h
      by_cases h2 : k ∈ is
      · simp only [h2, if_true, List.mem_cons, true_or]
        rw [List.getElem?_modify]
        simp only [if_true]
        cases env[k]? with
        | none => rfl
        | some o => simp [frz_frz]
      · simp only [h2, if_false, List.mem_cons, true_or, if_true]
        rw [List.getElem?_modify]
        simp only [if_true]
        rfl
    · have e : (List.modify env k Slot.frz)[i]? = env[i]? := by
        rw [List.getElem?_modify]
        simp [h]
      have e2 : (i ∈ k :: is) = (i ∈ is) := by
        simp only [List.mem_cons, eq_iff_iff]
        exact ⟨fun z => z.resolve_left fun y => h y.symm, .inr⟩
      simp only [e, e2]
theorem frzS_len : ∀ (is : List Nat) (env : Env), (frzS is env).length = env.length
  | [], env => rfl
  | k :: is, env => by rw [frzS, frzS_len is, List.length_modify]
theorem frz_own {o : Option Slot} {d : D} (h : Slot.frz o = some (.own d)) : False := by
  cases o with
  | none => cases h
  | some sl => cases sl <;> cases h
theorem frz_dat {o : Option Slot} {d : D} (h : Slot.frz o = some (.dat d)) : o = some (.dat d) ∨ o = some (.own d) := by
  cases o with
  | none => cases h
  | some sl =>
    cases sl with
    | own e => cases h; exact .inr rfl
    | dat e => cases h; exact .inl rfl
theorem frzS_own {is : List Nat} {env : Env} {i : Nat} {d : D} (h : (frzS is env)[i]? = some (some (.own d))) : i ∉ is ∧ env[i]? = some (some (.own d)) := by
  rw [frzS_get] at h
  by_cases hi : i ∈ is
  · rw [if_pos hi] at h
    obtain ⟨o, _, e⟩ := Option.map_eq_some_iff.mp h
    exact (frz_own e).elim
  · rw [if_neg hi] at h
    exact ⟨hi, h⟩
theorem frzS_dat {is : List Nat} {env : Env} {i : Nat} {d : D} (h : (frzS is env)[i]? = some (some (.dat d))) : env[i]? = some (some (.dat d)) ∨ (i ∈ is ∧ env[i]? = some (some (.own d))) := by
  rw [frzS_get] at h
  by_cases hi : i ∈ is
  · rw [if_pos hi] at h
    obtain ⟨o, e1, e⟩ := Option.map_eq_some_iff.mp h
    rcases frz_dat e with rfl | rfl
    · exact .inl e1
    · exact .inr ⟨hi, e1⟩
  · rw [if_neg hi] at h
    exact .inl h
/-! ### a frame -/
/-- what else must stay as it lies -/
inductive G where
  | rv (d : D) (v : V) | raw (a : Addr) (o : HO)
def GOk (ca : Lk) (A : Addr → Prop) (mp : List Addr) (H : Hp) : G → Prop
  | .rv d v => RV ca A mp H d v
  | .raw a o => H a = some o ∧ ((∃ vs, o = .tup vs) ∨ ¬ A a)
theorem GOk.mono {ca : Lk} {A A' : Addr → Prop} {mp mp' : List Addr} {H H' : Hp} (hk : ∀ a o, H a = some o → ¬ A a → H' a = some o) (ht : ∀ a vs, H a = some (.tup vs) → H' a = some (.tup vs)) (hA : ∀ a, A' a → A a ∨ H a = none) (hm : ∀ (i : Nat) (a : Addr), mp[i]? = some a → mp'[i]? = some a) :
    ∀ (g : G), GOk ca A mp H g → GOk ca A' mp' H' g
  | .rv d v, h => RV.mono hk ht hA hm d v h
  | .raw a o, ⟨h, q⟩ => by
    rcases q with ⟨vs, rfl⟩ | q
    · exact ⟨ht a vs h, .inl ⟨vs, rfl⟩⟩
    · refine ⟨hk a o h q, .inr fun z => ?_⟩
      rcases hA a z with z | z
      · exact q z
      · rw [h] at z; cases z
theorem GOk.less {ca : Lk} {A B : Addr → Prop} {mp : List Addr} {H : Hp} {g : G} (hB : ∀ a, B a → A a) (h : GOk ca A mp H g) : GOk ca B mp H g :=
  GOk.mono (fun _ _ q _ => q) (fun _ _ q => q) (fun a z => .inl (hB a z)) (fun _ _ q => q) g h
structure Fm where
  ca : Lk
  B : Addr → Prop
  mp0 : List Addr
  H0 : Hp
  xn : List (Addr × Obj)
  fx : Option Addr
  gh : List G
structure SEnv (F : Fm) (A : Addr → Prop) (mp : List Addr) (env : Env) (σ : L2.St) (H : Hp) : Prop where
  len : env.length = σ.length
  sub : ∀ a, F.B a → A a
  dom : ∀ a, A a → ∃ o, H a = some o
  own : ∀ (i : Nat) (d : D), env[i]? = some (some (.own d)) → ∃ a, σ[i]? = some (some (.ref a)) ∧ A a ∧ ¬ F.B a ∧ a ∉ mp ∧ F.H0 a = none ∧ Top F.ca (AA A mp) mp H a d
  uniq : ∀ (i j : Nat) (d d' : D) (a : Addr), env[i]? = some (some (.own d)) → env[j]? = some (some (.own d')) → σ[i]? = some (some (.ref a)) → σ[j]? = some (some (.ref a)) → i = j
  dat : ∀ (i : Nat) (d : D), env[i]? = some (some (.dat d)) → d.isExn = false → ∃ v, σ[i]? = some (some v) ∧ RV F.ca (AA A mp) mp H d v
  exn : ∀ (i : Nat) (c : Nat) (fs : List (Str × D)), env[i]? = some (some (.dat (.exn c fs))) → ∃ v, σ[i]? = some (some v) ∧ XR F.ca (AA A mp) mp F.xn H c fs v
  gh : ∀ g ∈ F.gh, GOk F.ca (AA A mp) mp H g
structure SR (F : Fm) (A : Addr → Prop) (mp : List Addr) (s : S) (σ : L2.St) (H : Hp) : Prop where
  per : PerRel F.ca mp H s.per
  ext : Ext F.mp0 F.H0 mp H
  env : SEnv F A mp s.env σ H
  fix : ∀ x, F.fx = some x → σ[0]? = some (some (.ref x))
def cutA (A : Addr → Prop) (env : Env) (σ : L2.St) (es : List Nat) : Addr → Prop := fun a => A a ∧ ¬ ∃ i ∈ es, ∃ d, env[i]? = some (some (.own d)) ∧ σ[i]? = some (some (.ref a))
section
variable {F : Fm} {A A' : Addr → Prop} {mp mp' : List Addr} {env : Env} {σ : L2.St} {H H' : Hp} {s : S} {per' : List D} {es : List Nat}
theorem XR.less {pn : List (Addr × Obj)} {c : Nat} {fs : List (Str × D)} {v : V} {ca : Lk} (hB : ∀ a, A' a → A a) (h : XR ca A mp pn H c fs v) : XR ca A' mp pn H c fs v := by
  obtain ⟨a, oe, dd, gs, e1, e2, e3, e4, e5, e6, e7⟩ := h
  exact ⟨a, oe, dd, gs, e1, e2, e3, e4, e5, e6, e7.less hB⟩
theorem SEnv.erel (r : SEnv F A mp env σ H) (es : List Nat) : ERel F.ca F.B (cutA A env σ es) mp es F.xn env σ H := by
  have less : ∀ a, cutA A env σ es a → A a := fun a h => h.1
  refine ⟨r.len, fun a h => ⟨r.sub a h, ?_⟩, fun a h => r.dom a h.1, fun i sl h1 h2 => ?_, fun i c fs h => ?_⟩
  · rintro ⟨i, _, d, e1, e2⟩
    obtain ⟨b, q1, _, q3, _⟩ := r.own i d e1
    rw [e2] at q1; cases q1
    exact q3 h
  · cases sl with
    | dat d =>
      obtain ⟨v, q, h⟩ := r.dat i d h1 h2
      exact ⟨v, q, .inl (h.less (AA.less less)), h.less (AA.less r.sub), fun _ => h.less (AA.less less)⟩
    | own d =>
      obtain ⟨a, q, hA, hB, hm, h0, t⟩ := r.own i d h1
      refine ⟨_, q, .inr ⟨a, rfl, hm, t.less (AA.less less)⟩, (t.less (AA.less r.sub)).rv ?_, fun hi => (t.less (AA.less less)).rv ?_⟩
      · rintro (z | z)
        · exact hB z
        · exact hm z
      · rintro (z | z)
        · exact z.2 ⟨i, hi, d, h1, q⟩
        · exact hm z
  · obtain ⟨v, q, h⟩ := r.exn i c fs h
    exact ⟨v, q, h.less (AA.less less)⟩
/-- later -/
theorem SR.ext' (r : SR F A mp s σ H) (e : Ext mp H mp' H') (p : PerRel F.ca mp' H' per') (hA : ∀ a, A a → A' a) (hN : ∀ a, A' a → A a ∨ (H a = none ∧ ∃ o, H' a = some o)) : SR F A' mp' ⟨s.env, per'⟩ σ H' := by
  have hN' : ∀ a, A' a → A a ∨ H a = none := fun a h => (hN a h).imp id (·.1)
  have nm : ∀ a, (∃ o, H a = some o) → a ∉ mp → a ∉ mp' := fun a ⟨o, ho⟩ n z => by
    rcases e.new a z with z | z
    · exact n z
    · rw [ho] at z; cases z
  refine ⟨p, r.ext.trans e, ⟨r.env.len, fun a h => hA a (r.env.sub a h), fun a h => ?_, fun i d h => ?_, r.env.uniq, fun i d h hx => ?_, fun i c fs h => ?_, fun g hg => GOk.mono (fun a o z n => e.fr.keep a o z fun y => n (.inr y)) e.fr.tup (e.avoid' hN') e.pre g (r.env.gh g hg)⟩, r.fix⟩
  · rcases hN a h with h | ⟨_, h⟩
    · obtain ⟨o, ho⟩ := r.env.dom a h
      by_cases q : a ∈ mp
      · exact p.some (e.mem q)
      · exact ⟨o, e.fr.keep a o ho q⟩
    · exact h
  · obtain ⟨a, q, h1, h2, h3, h4, t⟩ := r.env.own i d h
    exact ⟨a, q, hA a h1, h2, nm a t.some h3, h4, e.top' hN' h3 t⟩
  · obtain ⟨v, q, h⟩ := r.env.dat i d h hx
    exact ⟨v, q, e.rv' hN' h⟩
  · obtain ⟨v, q, a, oe, dd, gs, e1, e2, e3, e4, e5, e6, e7⟩ := r.env.exn i c fs h
    exact ⟨v, q, a, oe, dd, gs, e1, e2, e3, e4, nm dd ⟨_, e6⟩ e5, e.fr.keep _ _ e6 e5, e.rf' hN' e7⟩
theorem SR.later (r : SR F A mp s σ H) (e : Ext mp H mp' H') (p : PerRel F.ca mp' H' per') : SR F A mp' ⟨s.env, per'⟩ σ H' := r.ext' e p (fun _ h => h) fun _ h => .inl h
/-- slots frozen -/
theorem SR.frz (r : SR F A mp s σ H) (es : List Nat) : SR F (cutA A s.env σ es) mp ⟨frzS es s.env, s.per⟩ σ H := by
  have less : ∀ a, cutA A s.env σ es a → A a := fun a h => h.1
  have rr := r.env.erel es
  refine ⟨r.per, r.ext, ⟨by rw [frzS_len]; exact r.env.len, rr.sub, rr.dom, fun i d h => ?_, fun i j d d' a h1 h2 => ?_, fun i d h hx => ?_, fun i c fs h => ?_, fun g hg => (r.env.gh g hg).less (AA.less less)⟩, r.fix⟩
  · obtain ⟨hi, h⟩ := frzS_own h
    obtain ⟨a, q, h1, h2, h3, h4, t⟩ := r.env.own i d h
    refine ⟨a, q, ⟨h1, ?_⟩, h2, h3, h4, t.less (AA.less less)⟩
    rintro ⟨j, hj, d', e1, e2⟩
    exact hi (r.env.uniq j i d' d a e1 h e2 q ▸ hj)
  · exact r.env.uniq i j d d' a (frzS_own h1).2 (frzS_own h2).2
  · rcases frzS_dat h with h | ⟨hi, h⟩
    · obtain ⟨v, q, h⟩ := r.env.dat i d h hx
      exact ⟨v, q, h.less (AA.less less)⟩
    · obtain ⟨v, q, _, _, h⟩ := rr.slot i _ h hx
      exact ⟨v, q, h hi⟩
  · rcases frzS_dat h with h | ⟨hi, h⟩
    · exact rr.exn i c fs h
    · obtain ⟨a, q, h1, h2, h3, h4, t⟩ := r.env.own i _ h
      exact t.elim
theorem SR.frzAll (r : SR F A mp s σ H) : SR F F.B mp ⟨s.env.map Slot.frz, s.per⟩ σ H := by
  have rr := (r.env.erel []).low (es' := [])
  have own : ∀ {i : Nat} {d : D}, (s.env.map Slot.frz)[i]? = some (some (.own d)) → False := fun {i d} h => by
    rw [List.getElem?_map] at h
    obtain ⟨o, _, e⟩ := Option.map_eq_some_iff.mp h
    exact frz_own e
  have dat : ∀ {i : Nat} {d : D}, (s.env.map Slot.frz)[i]? = some (some (.dat d)) → s.env[i]? = some (some (.dat d)) ∨ s.env[i]? = some (some (.own d)) := fun {i d} h => by
    rw [List.getElem?_map] at h
    obtain ⟨o, e1, e⟩ := Option.map_eq_some_iff.mp h
    rcases frz_dat e with rfl | rfl
    · exact .inl e1
    · exact .inr e1
  refine ⟨r.per, r.ext, ⟨by rw [List.length_map]; exact r.env.len, fun _ h => h, rr.dom, fun i d h => (own h).elim, fun i j d d' a h1 h2 => (own h1).elim, fun i d h hx => ?_, fun i c fs h => ?_, fun g hg => (r.env.gh g hg).less (AA.less r.env.sub)⟩, r.fix⟩
  · rcases dat h with h | h
    · obtain ⟨v, q, _, h, _⟩ := rr.slot i _ h hx
      exact ⟨v, q, h⟩
    · obtain ⟨v, q, _, h, _⟩ := rr.slot i _ h hx
      exact ⟨v, q, h⟩
  · rcases dat h with h | h
    · exact rr.exn i c fs h
    · obtain ⟨a, q, h1, h2, h3, h4, t⟩ := r.env.own i _ h
      exact t.elim
end
/-! ### ends -/
section
variable (F : Fm) (W : WX)
def SRes (D : Ends) : So Ctl → Prop
  | .ok .nx s' => ∀ A mp σ H, SR F A mp s' σ H → D.nx σ H
  | .ok .brk s' => ∀ A mp σ H, SR F A mp s' σ H → D.bk σ H
  | .ok .ct s' => ∀ A mp σ H, SR F A mp s' σ H → D.ct σ H
  | .ok (.ret d) s' => ∀ mp H v, PerRel F.ca mp H s'.per → Ext F.mp0 F.H0 mp H → RV F.ca (AA F.B mp) mp H d v → D.rt v H
  | .exc x s' => ∀ A mp σ H cls dd, SR F A mp s' σ H → RX F.ca (AA A mp) mp H x cls dd → W cls (some dd) σ H
  | .bad => False
def tM (m : M Ctl) : TS := fun D σ H => ∃ s A mp, SR F A mp s σ H ∧ SRes F W D (m s)
end
section
variable {F : Fm} {W : WX} {D' : Ends} {A : Addr → Prop} {mp : List Addr} {σ : L2.St} {H : Hp} {s : S} {es : List Nat}
theorem exc_go {α : Type} {x : Exc} {p : List D} (r : SR F A mp s σ H) (h : SRes F W D' (.exc x ⟨frzX x s.env, p⟩)) : ∀ mp' H' cls dd, Ext mp H mp' H' → PerRel F.ca mp' H' p → RX F.ca (AA F.B mp') mp' H' x cls dd → W cls (some dd) σ H' := by
  intro mp' H' cls dd e q hx
  have r1 := r.later e q
  unfold frzX at h
  by_cases hf : flats x.fs = true
  · rw [if_pos hf] at h
    obtain ⟨e1, e2, gs, e3, e4⟩ := hx
    exact h A mp' σ H' cls dd r1 ⟨e1, e2, gs, e3, e4.flat hf⟩
  · rw [if_neg hf] at h
    exact h F.B mp' σ H' cls dd r1.frzAll hx
/-- an expression's value, to be held -/
theorem held_go {Z : (Addr → Prop) → List Addr → Hp → D → V → Prop} {m : Env → P D} {f : D → M Ctl} {Q : VK} (r : SR F A mp s σ H) (h : SRes F W D' (M.bind (held es m) f s))
    (k : ∀ d v A1 env1 per1 mp1 H1, SR F A1 mp ⟨env1, s.per⟩ σ H → (∀ (i : Nat) (d : D), env1[i]? = some (some (.own d)) → s.env[i]? = some (some (.own d))) → (∀ a, A1 a → A a) → Ext mp H mp1 H1 → PerRel F.ca mp1 H1 per1 → RV F.ca (AA A1 mp1) mp1 H1 d v → (d.flat = true ∨ Z (AA A1 mp1) mp1 H1 d v) → SRes F W D' (f d ⟨env1, per1⟩) → Q v H1) :
    tG F.ca W F.xn (fun A mp H d v => RV F.ca A mp H d v ∧ Z A mp H d v) m es σ H Q := by
  refine ⟨F.B, cutA A s.env σ es, s.env, mp, s.per, r.per, r.env.erel es, ?_⟩
  unfold M.bind held at h
  cases q : m s.env s.per with
  | ok d p =>
    rw [q] at h
    intro mp1 H1 v e p1 ⟨hv, hz⟩
    by_cases hf : d.flat = true
    · simp only [if_pos hf] at h
      exact k d v A s.env p mp1 H1 r (fun _ _ h => h) (fun _ h => h) e p1 (hv.flat hf) (.inl hf) h
    · simp only [if_neg hf] at h
      exact k d v _ (frzS es s.env) p mp1 H1 (r.frz es) (fun i d h => (frzS_own h).2) (fun _ h => h.1) e p1 hv (.inr hz) h
  | exc x p => rw [q] at h; exact exc_go (α := D) r h
  | bad => rw [q] at h; exact h
theorem held_goE {m : Env → P D} {f : D → M Ctl} {Q : VK} (r : SR F A mp s σ H) (h : SRes F W D' (M.bind (held es m) f s))
    (k : ∀ d v A1 s1 mp1 H1, SR F A1 mp1 s1 σ H1 → (∀ (i : Nat) (d : D), s1.env[i]? = some (some (.own d)) → s.env[i]? = some (some (.own d))) → (∀ a, A1 a → A a) → Ext mp H mp1 H1 → RV F.ca (AA A1 mp1) mp1 H1 d v → SRes F W D' (f d s1) → Q v H1) :
    tE F.ca W F.xn m es σ H Q := by
  have := held_go (Z := fun _ _ _ _ _ => True) (Q := Q) r h fun d v A1 env1 per1 mp1 H1 r1 o1 a1 e1 p1 hv _ h1 => k d v A1 ⟨env1, per1⟩ mp1 H1 (r1.later e1 p1) o1 a1 e1 hv h1
  obtain ⟨B, A', env, mp, per, p, r, res⟩ := this
  refine ⟨B, A', env, mp, per, p, r, ?_⟩
  revert res
  cases m env per with
  | ok d per' => exact fun res mp' H' v e q hv => res mp' H' v e q ⟨hv, trivial⟩
  | exc x per' => exact fun res => res
  | bad => exact fun res => res
theorem held_goN {m : Env → P D} {f : D → M Ctl} {Q : VK} (r : SR F A mp s σ H) (h : SRes F W D' (M.bind (held es m) f s))
    (k : ∀ d v A1 env1 per1 mp1 H1, SR F A1 mp ⟨env1, s.per⟩ σ H → Ext mp H mp1 H1 → PerRel F.ca mp1 H1 per1 → RV F.ca (AA A1 mp1) mp1 H1 d v → (d.box = true → ∃ a, v = .ref a ∧ H a = none ∧ Top F.ca (fun b => AA A1 mp1 b ∨ b = a) mp1 H1 a d) → SRes F W D' (f d ⟨env1, per1⟩) → Q v H1) :
    tN F.ca W F.xn m es σ H Q := held_go (Z := fun A mp H' d v => d.box = true → ∃ a, v = .ref a ∧ H a = none ∧ Top F.ca (fun b => A b ∨ b = a) mp H' a d) r h fun d v A1 env1 per1 mp1 H1 r1 _ _ e1 p1 hv hz h1 => k d v A1 env1 per1 mp1 H1 r1 e1 p1 hv (fun hb => hz.elim (fun hf => by cases d <;> simp [D.box, D.flat] at hb hf) fun z => z hb) h1
/-- a test -/
theorem asked_go {m : Env → P Bool} {f : Bool → M Ctl} {Q : Bool → Hp → Prop} (r : SR F A mp s σ H) (h : SRes F W D' (M.bind (asked m) f s))
    (k : ∀ b s1 mp1 H1, SR F A mp1 s1 σ H1 → SRes F W D' (f b s1) → Q b H1) : tB F.ca W F.xn m σ H Q := by
  refine ⟨F.B, cutA A s.env σ [], s.env, mp, s.per, r.per, r.env.erel [], ?_⟩
  unfold M.bind asked at h
  cases q : m s.env s.per with
  | ok b p =>
    rw [q] at h
    rintro mp1 H1 v e p1 rfl
    exact k _ ⟨s.env, p⟩ mp1 H1 (r.later e p1) h
  | exc x p => rw [q] at h; exact exc_go (α := D) r h
  | bad => rw [q] at h; exact h
/-- what goes out -/
theorem ret_go {m : Env → P D} (r : SR F A mp s σ H) (h : SRes F W D' (M.bind (asked m) (fun d => M.ret (.ret d)) s)) : tE F.ca W F.xn m es σ H D'.rt := by
  refine ⟨F.B, F.B, s.env, mp, s.per, r.per, (r.env.erel []).low, ?_⟩
  unfold M.bind asked at h
  cases q : m s.env s.per with
  | ok b p =>
    rw [q] at h
    intro mp1 H1 v e p1 hv
    exact h mp1 H1 v p1 (r.ext.trans e) hv
  | exc x p => rw [q] at h; exact exc_go (α := D) r h
  | bad => rw [q] at h; exact h
end
end DL
end
section
set_option Elab.async false
set_option linter.all false
set_option maxRecDepth 100000
/-! Stm2: slots set, objects changed. -/
namespace DL
open PySem L2 PyProof.Rows
theorem set_get {α : Type} {l : List α} {j i : Nat} {x y : α} (h : (l.set j x)[i]? = some y) : (i = j ∧ y = x) ∨ (i ≠ j ∧ l[i]? = some y) := by
  by_cases e : i = j
  · subst e
    have hl : i < l.length := by
      have := (List.getElem?_eq_some_iff.mp h).1
      simpa using this
    rw [List.getElem?_set_self hl] at h
    cases h
    exact .inl ⟨rfl, rfl⟩
  · rw [List.getElem?_set_ne (Ne.symm e)] at h
    exact .inr ⟨e, h⟩
section
variable {F : Fm} {A : Addr → Prop} {mp mp' : List Addr} {σ : L2.St} {H H' : Hp} {s : S} {per' : List D} {j : Nat} {d : D} {v : V}
theorem SR.set (r : SR F A mp s σ H) (hj : j < s.env.length) (h : RV F.ca (AA A mp) mp H d v) (hf : F.fx = none ∨ j ≠ 0) : SR F A mp ⟨s.env.set j (some (.dat d)), s.per⟩ (σ.set j (some v)) H := by
  have hs : j < σ.length := by rw [← r.env.len]; exact hj
  have other : ∀ {i : Nat}, i ≠ j → (σ.set j (some v))[i]? = σ[i]? := fun {i} n => List.getElem?_set_ne (Ne.symm n)
  refine ⟨r.per, r.ext, ⟨by simpa using r.env.len, r.env.sub, r.env.dom, fun i e h1 => ?_, fun i k e e' a h1 h2 h3 h4 => ?_, fun i e h1 hx => ?_, fun i c fs h1 => ?_, r.env.gh⟩, fun x hx => ?_⟩
  · rcases set_get h1 with ⟨_, z⟩ | ⟨n, z⟩
    · cases z
    · rw [other n]; exact r.env.own i e z
  · rcases set_get h1 with ⟨_, z⟩ | ⟨n, z⟩
    · cases z
    · rcases set_get h2 with ⟨_, z'⟩ | ⟨n', z'⟩
      · cases z'
      · rw [other n] at h3; rw [other n'] at h4
        exact r.env.uniq i k e e' a z z' h3 h4
  · rcases set_get h1 with ⟨rfl, z⟩ | ⟨n, z⟩
    · cases z
      exact ⟨v, List.getElem?_set_self hs, h⟩
    · rw [other n]; exact r.env.dat i e z hx
  · rcases set_get h1 with ⟨rfl, z⟩ | ⟨n, z⟩
    · injection z with z; injection z with z; subst z
      simp [RV] at h
    · rw [other n]; exact r.env.exn i c fs z
  · have n0 : (0 : Nat) ≠ j := by
      rcases hf with hf | hf
      · rw [hf] at hx; cases hx
      · exact Ne.symm hf
    rw [other n0]; exact r.fix x hx
/-- a caught error -/
theorem SR.setExn (r : SR F A mp s σ H) {c : Nat} {fs : List (Str × D)} (hj : j < s.env.length) (h : XR F.ca (AA A mp) mp F.xn H c fs v) (hf : F.fx = none ∨ j ≠ 0) : SR F A mp ⟨s.env.set j (some (.dat (.exn c fs))), s.per⟩ (σ.set j (some v)) H := by
  have hs : j < σ.length := by rw [← r.env.len]; exact hj
  have other : ∀ {i : Nat}, i ≠ j → (σ.set j (some v))[i]? = σ[i]? := fun {i} n => List.getElem?_set_ne (Ne.symm n)
  refine ⟨r.per, r.ext, ⟨by simpa using r.env.len, r.env.sub, r.env.dom, fun i e h1 => ?_, fun i k e e' a h1 h2 h3 h4 => ?_, fun i e h1 hx => ?_, fun i c fs h1 => ?_, r.env.gh⟩, fun x hx => ?_⟩
  · rcases set_get h1 with ⟨_, z⟩ | ⟨n, z⟩
    · cases z
    · rw [other n]; exact r.env.own i e z
  · rcases set_get h1 with ⟨_, z⟩ | ⟨n, z⟩
    · cases z
    · rcases set_get h2 with ⟨_, z'⟩ | ⟨n', z'⟩
      · cases z'
      · rw [other n] at h3; rw [other n'] at h4
        exact r.env.uniq i k e e' a z z' h3 h4
  · rcases set_get h1 with ⟨rfl, z⟩ | ⟨n, z⟩
    · cases z
      cases hx
    · rw [other n]; exact r.env.dat i e z hx
  · rcases set_get h1 with ⟨rfl, z⟩ | ⟨n, z⟩
    · cases z
      exact ⟨v, List.getElem?_set_self hs, h⟩
    · rw [other n]; exact r.env.exn i c fs z
  · have n0 : (0 : Nat) ≠ j := by
      rcases hf with hf | hf
      · rw [hf] at hx; cases hx
      · exact Ne.symm hf
    rw [other n0]; exact r.fix x hx
/-- a slot forgotten -/
theorem SR.wipe (r : SR F A mp s σ H) (j : Nat) (hf : F.fx = none ∨ j ≠ 0) : SR F A mp ⟨s.env.set j none, s.per⟩ (σ.set j none) H := by
  have other : ∀ {i : Nat}, i ≠ j → (σ.set j (none : Option V))[i]? = σ[i]? := fun {i} n => List.getElem?_set_ne (Ne.symm n)
  refine ⟨r.per, r.ext, ⟨by simpa using r.env.len, r.env.sub, r.env.dom, fun i e h1 => ?_, fun i k e e' a h1 h2 h3 h4 => ?_, fun i e h1 hx => ?_, fun i c fs h1 => ?_, r.env.gh⟩, fun x hx => ?_⟩
  · rcases set_get h1 with ⟨_, z⟩ | ⟨n, z⟩
    · cases z
    · rw [other n]; exact r.env.own i e z
  · rcases set_get h1 with ⟨_, z⟩ | ⟨n, z⟩
    · cases z
    · rcases set_get h2 with ⟨_, z'⟩ | ⟨n', z'⟩
      · cases z'
      · rw [other n] at h3; rw [other n'] at h4
        exact r.env.uniq i k e e' a z z' h3 h4
  · rcases set_get h1 with ⟨rfl, z⟩ | ⟨n, z⟩
    · cases z
    · rw [other n]; exact r.env.dat i e z hx
  · rcases set_get h1 with ⟨rfl, z⟩ | ⟨n, z⟩
    · cases z
    · rw [other n]; exact r.env.exn i c fs z
  · have n0 : (0 : Nat) ≠ j := by
      rcases hf with hf | hf
      · rw [hf] at hx; cases hx
      · exact Ne.symm hf
    rw [other n0]; exact r.fix x hx
/-- no longer in a suite -/
theorem SR.xn {F' : Fm} (r : SR F A mp s σ H) (hca : F'.ca = F.ca) (hB : F'.B = F.B) (hm : F'.mp0 = F.mp0) (hH : F'.H0 = F.H0) (hf : F'.fx = F.fx) (hg : F'.gh = F.gh) (hx : ∀ (i c : Nat) (fs : List (Str × D)), s.env[i]? = some (some (.dat (.exn c fs))) → False) : SR F' A mp s σ H := by
  obtain ⟨ca, B, mp0, H0, xn, fx, gh⟩ := F
  obtain ⟨ca', B', mp0', H0', xn', fx', gh'⟩ := F'
  simp only at hca hB hm hH hf hg
  subst hca hB hm hH hf hg
  exact ⟨r.per, r.ext, ⟨r.env.len, r.env.sub, r.env.dom, r.env.own, r.env.uniq, r.env.dat, fun i c fs h => (hx i c fs h).elim, r.env.gh⟩, r.fix⟩
/-- into a suite -/
theorem SR.xn' {F' : Fm} (r : SR F A mp s σ H) (hca : F'.ca = F.ca) (hB : F'.B = F.B) (hm : F'.mp0 = F.mp0) (hH : F'.H0 = F.H0) (hf : F'.fx = F.fx) (hg : F'.gh = F.gh) (hx : ∀ p ∈ F.xn, p ∈ F'.xn) : SR F' A mp s σ H := by
  obtain ⟨ca, B, mp0, H0, xn, fx, gh⟩ := F
  obtain ⟨ca', B', mp0', H0', xn', fx', gh'⟩ := F'
  simp only at hca hB hm hH hf hx hg
  subst hca hB hm hH hf hg
  refine ⟨r.per, r.ext, ⟨r.env.len, r.env.sub, r.env.dom, r.env.own, r.env.uniq, r.env.dat, fun i c fs h => ?_, r.env.gh⟩, r.fix⟩
  obtain ⟨v, q, a, oe, dd, gs, e1, e2, e3⟩ := r.env.exn i c fs h
  exact ⟨v, q, a, oe, dd, gs, e1, hx _ e2, e3⟩
/-- a new object in a slot of its own -/
theorem SR.setOwnA {H1 : Hp} {mp1 : List Addr} {per1 : List D} {a : Addr} (r : SR F A mp s σ H) (e : Ext mp H mp1 H1) (p1 : PerRel F.ca mp1 H1 per1) (hj : j < s.env.length) (na : ¬ AA A mp1 a) (ha : H a = none)
    (ht : Top F.ca (fun b => AA A mp1 b ∨ b = a) mp1 H1 a d) (hf : F.fx = none ∨ j ≠ 0) : SR F (fun b => A b ∨ b = a) mp1 ⟨s.env.set j (some (.own d)), per1⟩ (σ.set j (some (.ref a))) H1 := by
  have hs : j < σ.length := by rw [← r.env.len]; exact hj
  obtain ⟨o, ho⟩ := ht.some
  have r1 : SR F (fun b => A b ∨ b = a) mp1 ⟨s.env, per1⟩ σ H1 := r.ext' e p1 (fun _ h => .inl h) fun b h => h.imp id fun z => by subst z; exact ⟨ha, o, ho⟩
  have other : ∀ {i : Nat}, i ≠ j → (σ.set j (some (.ref a)))[i]? = σ[i]? := fun {i} n => List.getElem?_set_ne (Ne.symm n)
  have m0 : a ∉ mp := fun z => na (.inr (e.mem z))
  have h0 : F.H0 a = none := r.ext.fr.none (fun z => m0 (r.ext.mem z)) ha
  have own : ∀ {i : Nat} {e' : D}, s.env[i]? = some (some (.own e')) → σ[i]? = some (some (.ref a)) → False := fun {i e'} h1 h2 => by
    obtain ⟨b, q1, q2, _⟩ := r.env.own i e' h1
    rw [h2] at q1; cases q1
    exact na (.inl q2)
  refine ⟨r1.per, r1.ext, ⟨by simpa using r1.env.len, r1.env.sub, r1.env.dom, fun i e' h1 => ?_, fun i k e1 e2 b h1 h2 h3 h4 => ?_, fun i e' h1 hx => ?_, fun i c fs h1 => ?_, r1.env.gh⟩, fun x hx => ?_⟩
  · rcases set_get h1 with ⟨rfl, z⟩ | ⟨n, z⟩
    · cases z
      refine ⟨a, List.getElem?_set_self hs, .inr rfl, fun z => na (.inl (r.env.sub a z)), fun z => na (.inr z), h0, ht.less fun b z => z.elim (fun z => z.elim (fun z => .inl (.inl z)) fun z => .inr z) fun z => .inl (.inr z)⟩
      all_goals skip
    · rw [other n]; exact r1.env.own i e' z
  · rcases set_get h1 with ⟨rfl, z⟩ | ⟨n, z⟩
    · rcases set_get h2 with ⟨rfl, z'⟩ | ⟨n', z'⟩
      · rfl
      · rw [List.getElem?_set_self hs] at h3; cases h3
        rw [other n'] at h4
        exact (own z' h4).elim
    · rcases set_get h2 with ⟨rfl, z'⟩ | ⟨n', z'⟩
      · rw [List.getElem?_set_self hs] at h4; cases h4
        rw [other n] at h3
        exact (own z h3).elim
      · rw [other n] at h3; rw [other n'] at h4
        exact r.env.uniq i k e1 e2 b z z' h3 h4
  · rcases set_get h1 with ⟨rfl, z⟩ | ⟨n, z⟩
    · cases z
    · rw [other n]; exact r1.env.dat i e' z hx
  · rcases set_get h1 with ⟨rfl, z⟩ | ⟨n, z⟩
    · cases z
    · rw [other n]; exact r1.env.exn i c fs z
  · have n0 : (0 : Nat) ≠ j := by
      rcases hf with hf | hf
      · rw [hf] at hx; cases hx
      · exact Ne.symm hf
    rw [other n0]; exact r.fix x hx
theorem SR.setOwn {H1 : Hp} {mp1 : List Addr} {per1 : List D} {a : Addr} (r : SR F A mp s σ H) (e : Ext mp H mp1 H1) (p1 : PerRel F.ca mp1 H1 per1) (hj : j < s.env.length) (h : RV F.ca (AA A mp1) mp1 H1 d (.ref a)) (hb : d.box = true) (ha : H a = none)
    (ht : Top F.ca (fun b => AA A mp1 b ∨ b = a) mp1 H1 a d) (hf : F.fx = none ∨ j ≠ 0) : SR F (fun b => A b ∨ b = a) mp1 ⟨s.env.set j (some (.own d)), per1⟩ (σ.set j (some (.ref a))) H1 := by
  have na : ¬ AA A mp1 a := by
    cases d with
    | lst xs => simp only [RV] at h; obtain ⟨b, vs, q, n, _⟩ := h; cases q; exact n
    | dic xs => simp only [RV] at h; obtain ⟨b, vs, q, n, _⟩ := h; cases q; exact n
    | _ => cases hb
  exact r.setOwnA e p1 hj na ha ht hf
/-- a new standing object -/
theorem SR.stand {H1 : Hp} {mp1 : List Addr} {per1 : List D} {a : Addr} {xs : List D} (r : SR F A mp s σ H) (e : Ext mp H mp1 H1) (p1 : PerRel F.ca mp1 H1 per1) (h : RV F.ca (AA A mp1) mp1 H1 (.lst xs) (.ref a)) (hi : D.imms xs = true) (ha : H a = none) :
    SR F A (mp1 ++ [a]) ⟨s.env, per1 ++ [.lst xs]⟩ σ H1 ∧ RV F.ca (AA A (mp1 ++ [a])) (mp1 ++ [a]) H1 (.per per1.length) (.ref a) ∧ Ext mp H (mp1 ++ [a]) H1 := by
  simp only [RV] at h
  obtain ⟨b, vs, q, n, hq, rv⟩ := h
  cases q
  have pre : ∀ (i : Nat) (b : Addr), mp1[i]? = some b → (mp1 ++ [a])[i]? = some b := fun i b z => by
    rw [List.getElem?_append_left (List.getElem?_eq_some_iff.mp z).1]; exact z
  have e2 : Ext mp H (mp1 ++ [a]) H1 := ⟨e.fr, fun i b z => pre i b (e.pre i b z), fun b z => by
    rcases List.mem_append.mp z with z | z
    · exact e.new b z
    · rw [List.mem_singleton.mp z]; exact .inr ha⟩
  have rv' : RVs F.ca (fun _ => False) (mp1 ++ [a]) H1 xs vs := RVs.mono (fun _ _ q _ => q) (fun _ _ q => q) (fun _ z => z.elim) pre _ _ (RVs.imm (A' := fun _ => False) xs vs hi rv)
  have p2 : PerRel F.ca (mp1 ++ [a]) H1 (per1 ++ [.lst xs]) := by
    refine ⟨by simp [p1.len], ?_, fun i b d h1 h2 => ?_⟩
    · rw [List.nodup_append]
      refine ⟨p1.nd, by simp, fun x hx y hy => ?_⟩
      rw [List.mem_singleton.mp hy]
      rintro rfl
      exact n (.inr hx)
    · by_cases hl : i < mp1.length
      · rw [List.getElem?_append_left hl] at h1
        rw [List.getElem?_append_left (by rw [← p1.len]; exact hl)] at h2
        have ok := p1.ok i b d h1 h2
        cases d with
        | lst ys =>
          obtain ⟨im, us, q1, q2⟩ := ok
          exact ⟨im, us, q1, RVs.mono (fun _ _ q _ => q) (fun _ _ q => q) (fun _ z => z.elim) pre _ _ q2⟩
        | _ => exact ok.elim
      · have hi2 : i = mp1.length := by
          have := (List.getElem?_eq_some_iff.mp h1).1
          simp at this; omega
        subst hi2
        rw [List.getElem?_append_right (Nat.le_refl _)] at h1
        rw [List.getElem?_append_right (by rw [p1.len]; exact Nat.le_refl _)] at h2
        simp [p1.len] at h1 h2
        subst h1 h2
        exact ⟨hi, vs, hq, rv'⟩
  refine ⟨r.ext' e2 p2 (fun _ h => h) fun _ h => .inl h, ?_, e2⟩
  simp only [RV]
  refine ⟨a, rfl, ?_⟩
  rw [← p1.len, List.getElem?_append_right (Nat.le_refl _)]
  simp
/-- the object of an own slot is changed -/
theorem SR.chgOwn {a : Addr} {d' : D} {o : HO} (r : SR F A mp s σ H) (hi : s.env[j]? = some (some (.own d))) (hs : σ[j]? = some (some (.ref a))) (ht : Top F.ca (AA A mp) mp (upd H a o) a d') : SR F A mp ⟨s.env.set j (some (.own d')), s.per⟩ σ (upd H a o) := by
  obtain ⟨b, q, hA, hB, hm, h0, t⟩ := r.env.own j d hi
  rw [hs] at q; cases q
  obtain ⟨oo, hoo⟩ := t.some
  have hk : ∀ b u, H b = some u → ¬ AA A mp b → upd H a o b = some u := fun b u h n => by
    rw [upd_ne (fun z => n (by rw [z]; exact .inl hA))]; exact h
  have hu : ∀ b us, H b = some (.tup us) → upd H a o b = some (.tup us) := fun b us h => by
    rw [upd_ne (fun z => by rw [z] at h; exact t.noTup h)]; exact h
  have hl : j < s.env.length := (List.getElem?_eq_some_iff.mp hi).1
  have own : ∀ {i : Nat} {e : D}, (s.env.set j (some (.own d')))[i]? = some (some (.own e)) → ∃ e', s.env[i]? = some (some (.own e')) := fun {i e} h => by
    rcases set_get h with ⟨rfl, z⟩ | ⟨n, z⟩
    · exact ⟨d, hi⟩
    · exact ⟨e, z⟩
  refine ⟨⟨r.per.len, r.per.nd, fun i b e h1 h2 => ?_⟩, ⟨⟨fun b u h n => ?_, fun b us h => hu b us (r.ext.fr.tup b us h)⟩, r.ext.pre, r.ext.new⟩, ⟨by simpa using r.env.len, r.env.sub, fun b h => ?_, fun i e h1 => ?_, fun i k e1 e2 b h1 h2 h3 h4 => ?_, fun i e h1 hx => ?_, fun i c fs h1 => ?_, fun g hg => GOk.mono hk hu (fun a z => .inl z) (fun _ _ z => z) g (r.env.gh g hg)⟩, r.fix⟩
  · have ok := r.per.ok i b e h1 h2
    have hne : b ≠ a := fun z => hm (by rw [← z]; exact List.mem_of_getElem? h1)
    cases e with
    | lst xs =>
      obtain ⟨im, us, q1, q2⟩ := ok
      exact ⟨im, us, by rw [upd_ne hne]; exact q1, RVs.imm (A := AA A mp) xs us im (RVs.mono hk hu (fun a z => .inl z) (fun _ _ z => z) xs us (RVs.imm xs us im q2))⟩
    | _ => exact ok.elim
  · rw [upd_ne (fun z => by rw [z, h0] at h; cases h)]
    exact r.ext.fr.keep b u h n
  · by_cases z : b = a
    · rw [z, upd_same]; exact ⟨o, rfl⟩
    · rw [upd_ne z]; exact r.env.dom b h
  · rcases set_get h1 with ⟨rfl, z⟩ | ⟨n, z⟩
    · cases z
      exact ⟨a, hs, hA, hB, hm, h0, ht⟩
    · obtain ⟨b, q1, q2, q3, q4, q5, q6⟩ := r.env.own i e z
      have hne : b ≠ a := fun y => n (r.env.uniq i j e d a z hi (by rw [← y]; exact q1) hs)
      refine ⟨b, q1, q2, q3, q4, q5, ?_⟩
      cases e with
      | lst xs => obtain ⟨vs, y1, y2⟩ := q6; exact ⟨vs, by rw [upd_ne hne]; exact y1, RVs.mono hk hu (fun a z => .inl z) (fun _ _ z => z) _ _ y2⟩
      | dic xs => obtain ⟨vs, y1, y2⟩ := q6; exact ⟨vs, by rw [upd_ne hne]; exact y1, RD.mono hk hu (fun a z => .inl z) (fun _ _ z => z) _ _ y2⟩
      | ins c xs => obtain ⟨dx, vs, y1, y2⟩ := q6; exact ⟨dx, vs, by rw [upd_ne hne]; exact y1, RF.mono hk hu (fun a z => .inl z) (fun _ _ z => z) _ _ y2⟩
      | _ => exact q6.elim
  · obtain ⟨e1', y1⟩ := own h1
    obtain ⟨e2', y2⟩ := own h2
    exact r.env.uniq i k e1' e2' b y1 y2 h3 h4
  · rcases set_get h1 with ⟨rfl, z⟩ | ⟨n, z⟩
    · cases z
    · obtain ⟨w, q1, q2⟩ := r.env.dat i e z hx
      exact ⟨w, q1, RV.mono hk hu (fun a z => .inl z) (fun _ _ z => z) _ _ q2⟩
  · rcases set_get h1 with ⟨rfl, z⟩ | ⟨n, z⟩
    · cases z
    · obtain ⟨w, q1, b, oe, dd, gs, e1, e2, e3, e4, e5, e6, e7⟩ := r.env.exn i c fs z
      exact ⟨w, q1, b, oe, dd, gs, e1, e2, e3, e4, e5, by rw [upd_ne (fun z => by rw [z] at e6; exact t.noXd e6)]; exact e6, RF.mono hk hu (fun a z => .inl z) (fun _ _ z => z) _ _ e7⟩
/-- a standing object is changed -/
theorem SR.chgPer {k : Nat} {a : Addr} {xs : List D} {vs : List V} (r : SR F A mp s σ H) (hk : mp[k]? = some a) (hxs : D.imms xs = true) (hv : RVs F.ca (fun _ => False) mp (upd H a (.lst vs)) xs vs) : SR F A mp ⟨s.env, s.per.set k (.lst xs)⟩ σ (upd H a (.lst vs)) := by
  have hma : a ∈ mp := List.mem_of_getElem? hk
  have hkl : k < s.per.length := by rw [← r.per.len]; exact (List.getElem?_eq_some_iff.mp hk).1
  have hold := r.per.ok k a s.per[k] hk (by simp [hkl])
  obtain ⟨vs0, h00⟩ : ∃ vs0, H a = some (.lst vs0) := by
    revert hold
    cases s.per[k] with
    | lst ys => rintro ⟨_, us, q, _⟩; exact ⟨us, q⟩
    | _ => exact fun z => z.elim
  have hh : ∀ b u, H b = some u → ¬ AA A mp b → upd H a (.lst vs) b = some u := fun b u h n => by
    rw [upd_ne (fun z => n (by rw [z]; exact .inr hma))]; exact h
  have hu : ∀ b us, H b = some (.tup us) → upd H a (.lst vs) b = some (.tup us) := fun b us h => by
    rw [upd_ne (fun z => by rw [z, h00] at h; cases h)]; exact h
  have imm : ∀ {ys : List D} {us : List V}, D.imms ys = true → RVs F.ca (fun _ => False) mp H ys us → RVs F.ca (fun _ => False) mp (upd H a (.lst vs)) ys us := fun {ys us} im q =>
    RVs.imm (A := AA A mp) ys us im (RVs.mono hh hu (fun a z => .inl z) (fun _ _ z => z) ys us (RVs.imm ys us im q))
  refine ⟨⟨by simpa using r.per.len, r.per.nd, fun i b e h1 h2 => ?_⟩, ⟨⟨fun b u h n => ?_, fun b us h => hu b us (r.ext.fr.tup b us h)⟩, r.ext.pre, r.ext.new⟩, ⟨r.env.len, r.env.sub, fun b h => ?_, fun i e h1 => ?_, r.env.uniq, fun i e h1 hx => ?_, fun i c fs h1 => ?_, fun g hg => GOk.mono hh hu (fun a z => .inl z) (fun _ _ z => z) g (r.env.gh g hg)⟩, r.fix⟩
  · rcases set_get h2 with ⟨rfl, z⟩ | ⟨n, z⟩
    · rw [hk] at h1; cases h1
      subst z
      exact ⟨hxs, vs, upd_same, hv⟩
    · have hne : b ≠ a := fun y => by
        subst y
        obtain ⟨l1, g1⟩ := List.getElem?_eq_some_iff.mp h1
        obtain ⟨l2, g2⟩ := List.getElem?_eq_some_iff.mp hk
        exact n ((List.getElem_inj r.per.nd).mp (g1.trans g2.symm))
      have ok := r.per.ok i b e h1 z
      cases e with
      | lst ys =>
        obtain ⟨im, us, q1, q2⟩ := ok
        exact ⟨im, us, by rw [upd_ne hne]; exact q1, imm im q2⟩
      | _ => exact ok.elim
  · rw [upd_ne (fun z => by
      rw [z] at h n
      rcases r.ext.new a hma with y | y
      · exact n y
      · rw [h] at y; cases y)]
    exact r.ext.fr.keep b u h n
  · by_cases z : b = a
    · rw [z, upd_same]; exact ⟨_, rfl⟩
    · rw [upd_ne z]; exact r.env.dom b h
  · obtain ⟨b, q1, q2, q3, q4, q5, q6⟩ := r.env.own i e h1
    have hne : b ≠ a := fun y => q4 (by rw [y]; exact hma)
    refine ⟨b, q1, q2, q3, q4, q5, ?_⟩
    cases e with
    | lst xs => obtain ⟨vs, y1, y2⟩ := q6; exact ⟨vs, by rw [upd_ne hne]; exact y1, RVs.mono hh hu (fun a z => .inl z) (fun _ _ z => z) _ _ y2⟩
    | dic xs => obtain ⟨vs, y1, y2⟩ := q6; exact ⟨vs, by rw [upd_ne hne]; exact y1, RD.mono hh hu (fun a z => .inl z) (fun _ _ z => z) _ _ y2⟩
    | ins c xs => obtain ⟨dx, vs, y1, y2⟩ := q6; exact ⟨dx, vs, by rw [upd_ne hne]; exact y1, RF.mono hh hu (fun a z => .inl z) (fun _ _ z => z) _ _ y2⟩
    | _ => exact q6.elim
  · obtain ⟨w, q1, q2⟩ := r.env.dat i e h1 hx
    exact ⟨w, q1, RV.mono hh hu (fun a z => .inl z) (fun _ _ z => z) _ _ q2⟩
  · obtain ⟨w, q1, b, oe, dd, gs, e1, e2, e3, e4, e5, e6, e7⟩ := r.env.exn i c fs h1
    exact ⟨w, q1, b, oe, dd, gs, e1, e2, e3, e4, e5, by rw [upd_ne (fun z => by rw [z, h00] at e6; cases e6)]; exact e6, RF.mono hh hu (fun a z => .inl z) (fun _ _ z => z) _ _ e7⟩
end
end DL
end
section
set_option Elab.async false
set_option linter.all false
set_option maxRecDepth 100000
/-! Stm3: one lemma a statement. -/
namespace DL
open PySem L2 PyProof.Rows
structure SCn (X : Cx) (F : Fm) (T : Tab) (R : Rec) (L : Nms) (N : List Str) (hot : Bool) (sc : Scope) (W : WX) (fl : Bool) : Prop where
  c : Cn X F.ca T R L N hot sc W F.xn
  hp : PassesOwn (model X.prog X.w) X.A X.env X.xe
  stk : hot = false → X.stack = X.env :: X.outer ∧ X.env.frame = some X.env.locals
  fn : ∀ x, X.fn x = true
  fx : fl = false → F.fx = none
def locB (sc : Scope) (x : Str) : Bool := match sc.names.lookup x with
  | some .local | some .cell => true
  | _ => false
theorem locB_ok {sc : Scope} {x : Str} (h : locB sc x = true) : L2.Loc sc x := by
  unfold locB at h
  unfold L2.Loc
  split at h <;> first
    | (rename_i q; rw [q]; simp; done)
    | cases h
def isComp : Expr → Bool
  | .ListComp .. | .SetComp .. | .DictComp .. => true
  | _ => false
theorem noComp {a : Expr} {o : Option Expr} {l : Nat} {env : PySem.Env} (h : isComp a = false) : swapsWith a o l env = pure false := by
  cases a <;> first
    | rfl
    | (simp [isComp] at h)
/-- the comprehension swaps with its target -/
def swB (sc : Scope) (s : Scope) (y : Str) (py p : Pos) : Bool := (match sc.names.lookup y with
  | some .local => true
  | _ => false) && (py.line == p.line) && !(s.names.any fun (n, k) => n == y && (k == .local || k == .cell))
section
variable {X : Cx} {F : Fm} {T : Tab} {R : Rec} {L : Nms} {N : List Str} {hot : Bool} {sc : Scope} {W : WX} {fl : Bool} {i : Nat} {x : Str} {px pos : Pos} {a : Expr} {te : TE} {e : Ex}
theorem SCn.fx' (c : SCn X F T R L N hot sc W fl) {i : Nat} (h : (!fl || i != 0) = true) : F.fx = none ∨ i ≠ 0 := by
  cases fl with
  | false => exact .inl (c.fx rfl)
  | true => exact .inr (by simpa using h)
theorem ss_set (c : SCn X F T R L N hot sc W fl) (hN : N[i]? = some x) (hl : locB sc x = true) (hs : isComp a = false) (he : PE X a te) : PS X (.Assign [.Name x px] a pos) (tAsg te (gName i)) :=
  ps_set (by rw [c.c.hN]; exact c.c.nd) (by rw [c.c.hN]; exact hN) (by rw [c.c.hsc]; exact locB_ok hl) he (noComp hs) (.inl (c.fn x))
theorem sw_is {el : Expr} {gs : List Comprehension} {s : Scope} {p py : Pos} {y : Str} {l : Nat} {env : PySem.Env} (hk : env.scope.kind = .function) (hs : env.scope = sc) : swapsWith (.ListComp el gs s p) (some (.Name y py)) l env = pure (swB sc s y py p) := by
  have hb : env.blockKind = .function := by unfold Env.blockKind; rw [hk]; rfl
  have hq : env.kindOf y = sc.names.lookup y := by rw [← hs]; rfl
  unfold swapsWith swB
  simp only [hb, hq, Expr.pos]
  congr 1
  cases sc.names.lookup y with
  | none => rfl
  | some k => cases k <;> rfl
/-- what a comprehension's text is -/
theorem mE_lc {el : Ex} {v : Nat} {it : DL.It} {q : Oex} (h : mE T L N hot sc (.lc el v it q) a = true) : ∃ el' y tp it' ifs s p, a = .ListComp el' [⟨.Name y tp, it', ifs, 0⟩] s p ∧ hot = false ∧ v < 100000 ∧ N[v]? = some y ∧ blkC N sc s [(y, v)] = true ∧
    (s.names.lookup y = some .local ∨ s.names.lookup y = some .cell) ∧ isSet it' = false ∧ mI T L N hot sc it it' = true ∧ mE T L N hot (relS s sc) el el' = true ∧ mC T L N hot (relS s sc) q ifs = true := by
  cases a with
  | ListComp el' gs s p =>
    match gs, h with
    | [⟨tg, it', ifs, k⟩], h =>
      cases tg with
      | Name y tp =>
        by_cases hk : k = 0
        · subst hk
          simp only [mE, Bool.and_eq_true, Bool.not_eq_true', decide_eq_true_eq] at h
          obtain ⟨⟨⟨⟨⟨⟨⟨⟨h0, h1⟩, h2⟩, h3⟩, h4⟩, h5⟩, h6⟩, h7⟩, h8⟩ := h
          have hyl : s.names.lookup y = some .local ∨ s.names.lookup y = some .cell := by
            split at h4 <;> first
              | exact .inl (by assumption)
              | exact .inr (by assumption)
              | cases h4
          exact ⟨el', y, tp, it', ifs, s, p, rfl, h0, h1, h2, h3, hyl, h5, h6, h7, h8⟩
        · simp [mE, hk] at h
      | _ => simp [mE] at h
    | [], h => simp [mE] at h
    | _ :: _ :: _, h => simp [mE] at h
  | _ => simp [mE] at h
theorem ss_lc (c : SCn X F T R L N hot sc W fl) (h0 : hot = false) (hN : N[i]? = some x) {el it : Expr} {ifs : List Expr} {s : Scope} {y : Str} {v : Nat} {tp p : Pos} {mi : Env → P (List D)} {ei ee : List Nat} {me : Env → P D} {mc : Env → P Bool} (hv : v < 100000) (hb : blkC N sc s [(y, v)] = true) (hy : N[v]? = some y)
    (hsw : swB sc s x px p = true) (hyl : s.names.lookup y = some .local ∨ s.names.lookup y = some .cell) (hset : isSet it = false) (hi : PI X (.Name y tp) it (tI false F.ca W F.xn mi ei))
    (ht : ∀ X', Cn X' F.ca T R L N hot (relS s sc) noW [] → PTs X' ifs (tB F.ca noW [] mc)) (he : ∀ X', Cn X' F.ca T R L N hot (relS s sc) noW [] → PE X' el (tE F.ca noW [] me ee)) :
    PS X (.Assign [.Name x px] (.ListComp el [⟨.Name y tp, it, ifs, 0⟩] s p) pos) (tAsg (tN F.ca W F.xn (fun env => P.bind (mi env) fun ds => P.bind (calm (lcL v mc me env ds)) fun xs => if xs.length ≤ sizeLine then P.ret (.lst xs) else P.bad) (ee ++ ei)) (gName i)) := by
  subst h0
  obtain ⟨hx, h2, h3, h4⟩ := c.c.cold rfl
  have hloc : sc.names.lookup x = some .local := by
    unfold swB at hsw
    simp only [Bool.and_eq_true] at hsw
    have := hsw.1.1
    split at this
    · assumption
    · cases this
  refine ⟨fun pins s' σ H D' I h => ?_⟩
  refine ((ps_setLc (g := gName v) (own := [(y, v)]) (spos := pos) (py := px) (i := i) h2 (by rw [c.c.hN]; exact c.c.nd) (by rw [c.c.hN]; exact hN) (by rw [c.c.hsc]; exact hloc) (by rw [sw_is I.ok.kind c.c.hsc, hsw]) hi (by rw [c.c.hN, c.c.hsc]; exact blkOk_by hb) (fun s' H C cl fp => ?_) (fun s' H C cl fp => ht _ (c.c.blk s' H s C cl fp)) (fun s' H C cl fp => he _ (c.c.blk s' H s C cl fp)) ?_).imp fun D σ H hh => ?_).run pins s' σ H D' I h
  · have hl : (relS s X.env.scope).names.lookup y = some .local ∨ (relS s X.env.scope).names.lookup y = some .cell := by
      rcases hyl with h | h
      · exact .inl (lookup_relS_keep (by simp) h)
      · exact .inr (lookup_relS_keep (by simp) h)
    refine pg_name (by show X.N.Nodup; rw [c.c.hN]; exact c.c.nd) (by show X.N[v]? = _; rw [c.c.hN]; exact hy) hl ?_
    rcases hyl with h | h
    · exact .inr (lookup_relS_keep (by simp) h)
    · exact .inl (by show (s.names.lookup y == some .cell) = true; rw [h]; rfl)
  · intro x
    cases it <;> first
      | rfl
      | (simp [isSet] at hset)
  · have hh' : tN F.ca W F.xn _ _ σ H (fun v H1 => gName i v σ H1 D.nx) := hh
    rw [hx] at hh'
    have := lc_go hv σ H _ hh'
    rw [hx]
    exact this
/-- a new object's reading -/
theorem freshE (c : Cn X F.ca T R L N hot sc W F.xn) : ∀ (e : Ex) (a : Expr), fresh e = true → mE T L N hot sc e a = true → PE X a (tN F.ca W F.xn (ev T R e).v (esc e))
  | .lst es, a, _, h => by
    cases a with
    | List l p =>
      simp only [mE] at h
      simp only [ev, esc, Mean.of]
      exact sn_lst (soundEs c es l h)
    | _ => simp [mE] at h
  | .lc el v it q, a, _, h => by
    obtain ⟨el', y, tp, it', ifs, s, p, rfl, h0, h1, h2, h3, h4, h5, h6, h7, h8⟩ := mE_lc h
    simp only [ev, esc, Mean.of]
    exact sn_lc c h0 h1 h3 h2 h4 h5 (soundI c it it' h6) (fun X' c' => soundC c' q ifs h8) (fun X' c' => (soundE c' el el' h7).v)
  | .bin op a b, e, hf, h => by
    cases e with
    | BinOp a' o b' p =>
      simp only [mE, Bool.and_eq_true] at h
      obtain rfl := bopIs_eq h.1.1
      simp only [ev, esc, Mean.of]
      exact sn_bin op (soundE c a a' h.1.2).r (soundE c b b' h.2).r
    | _ => simp [mE] at h
  | .slc a lo hi, e, _, h => by
    cases e with
    | Subscript a' i' p =>
      cases i' with
      | Slice l u st p2 =>
        cases st with
        | some s => simp [mE] at h
        | none =>
          simp only [mE, Bool.and_eq_true] at h
          simp only [ev, esc, Mean.of]
          exact sn_slc c.hK (soundE c a a' h.1.1).r (soundO c lo l h.1.2) (soundO c hi u h.2)
      | _ => simp [mE] at h
    | _ => simp [mE] at h
  | .fn1 f a, e, _, h => by
    cases e with
    | Call fn l kw p =>
      cases fn with
      | Name x p2 =>
        match l, kw, h with
        | [a'], [], h =>
          simp only [mE, Bool.and_eq_true, Bool.not_eq_true', decide_eq_true_eq] at h
          obtain ⟨⟨⟨⟨h0, rfl⟩, h1⟩, h2⟩, h3⟩ := h
          obtain ⟨hxn, hc, tk, co⟩ := c.cold h0
          simp only [ev, esc, Mean.of]
          exact sn_fn1 f hc (c.glb h1) (c.gl.blt _ (fop_blt f)) (soundE c a a' h3).r (noStars (by simp [h2]))
        | [], _, h => simp [mE] at h
        | _ :: _ :: _, _, h => simp [mE] at h
        | [_], _ :: _, h => simp [mE] at h
      | _ => simp [mE] at h
    | _ => simp [mE] at h
  | .dct, e, _, h => by
    cases e with
    | Dict ks vs p =>
      cases ks <;> cases vs <;> first
        | (simp [mE] at h; done)
        | (simp only [ev, esc, Mean.of]; exact sn_dct)
    | _ => simp [mE] at h
  | .var _, _, h, _ => by simp [fresh] at h
  | .non, _, h, _ => by simp [fresh] at h
  | .bl _, _, h, _ => by simp [fresh] at h
  | .int _, _, h, _ => by simp [fresh] at h
  | .str _, _, h, _ => by simp [fresh] at h
  | .glo _ _, _, h, _ => by simp [fresh] at h
  | .neg _, _, h, _ => by simp [fresh] at h
  | .not _, _, h, _ => by simp [fresh] at h
  | .cmp _ _ _, _, h, _ => by simp [fresh] at h
  | .and _ _, _, h, _ => by simp [fresh] at h
  | .or _ _, _, h, _ => by simp [fresh] at h
  | .ite _ _ _, _, h, _ => by simp [fresh] at h
  | .tup _, _, h, _ => by simp [fresh] at h
  | .idx _ _, _, h, _ => by simp [fresh] at h
  | .att _ _, _, h, _ => by simp [fresh] at h
  | .call _ _, _, h, _ => by simp [fresh] at h
  | .new _ _, _, h, _ => by simp [fresh] at h
  | .meth _ _ _, _, h, _ => by simp [fresh] at h
  | .isi _ _, _, h, _ => by simp [fresh] at h
  | .xat _ _, _, h, _ => by simp [fresh] at h
/-- name = value, where the text may be a comprehension -/
def asgB (sc : Scope) (e : Ex) (y : Str) (py : Pos) : Expr → Bool
  | .ListComp _ _ s p => swB sc s y py p || true
  | a => !isComp a
theorem comp_lc {e : Ex} (h : mE T L N hot sc e a = true) (hc : isComp a = true) : ∃ el v it q, e = .lc el v it q := by
  cases a <;> simp [isComp] at hc <;> cases e <;> first
    | (simp [mE] at h; done)
    | exact ⟨_, _, _, _, rfl⟩
theorem asgN (c : SCn X F T R L N hot sc W fl) (hN : N[i]? = some x) (hl : locB sc x = true) (hf : fresh e = true) (h : mE T L N hot sc e a = true) : PS X (.Assign [.Name x px] a pos) (tAsg (tN F.ca W F.xn (ev T R e).v (esc e)) (gName i)) := by
  cases hc : isComp a with
  | false => exact ss_set c hN hl hc (freshE c.c e a hf h)
  | true =>
    obtain ⟨el, v, it, q, rfl⟩ := comp_lc h hc
    obtain ⟨el', y, tp, it', ifs, s, p, rfl, h0, h1, h2, h3, h4, h5, h6, h7, h8⟩ := mE_lc h
    cases hsw : swB sc s x px p with
    | true =>
      simp only [ev, esc, Mean.of]
      exact ss_lc c h0 hN h1 h3 h2 hsw h4 h5 (soundI c.c it it' h6) (fun X' c' => soundC c' q ifs h8) (fun X' c' => (soundE c' el el' h7).v)
    | false =>
      refine ⟨fun pins s' σ H D' I hh => ?_⟩
      exact (ps_set (by rw [c.c.hN]; exact c.c.nd) (by rw [c.c.hN]; exact hN) (by rw [c.c.hsc]; exact locB_ok hl) (freshE c.c _ _ hf h) (by rw [sw_is I.ok.kind c.c.hsc, hsw]) (.inl (c.fn x))).run pins s' σ H D' I hh
theorem asgE (c : SCn X F T R L N hot sc W fl) (hN : N[i]? = some x) (hl : locB sc x = true) (h : mE T L N hot sc e a = true) : PS X (.Assign [.Name x px] a pos) (tAsg (tE F.ca W F.xn (ev T R e).v (esc e)) (gName i)) := by
  cases hc : isComp a with
  | false => exact ss_set c hN hl hc (soundE c.c e a h).v
  | true =>
    obtain ⟨el, v, it, q, rfl⟩ := comp_lc h hc
    exact (asgN c hN hl rfl h).imp fun D σ H hh => tN.of σ H _ hh
/-! ### the statements -/
theorem setSlot_go {D' : Ends} {A : Addr → Prop} {mp : List Addr} {s : S} {σ : L2.St} {H : Hp} {d : D} {v : V} (r : SR F A mp s σ H) (hv : RV F.ca (AA A mp) mp H d v) (hf : F.fx = none ∨ i ≠ 0) (h : SRes F W D' (M.bind (setSlot i (.dat d)) (fun _ => M.ret .nx) s)) : D'.nx (σ.set i (some v)) H := by
  unfold M.bind setSlot at h
  by_cases hi : i < s.env.length
  · simp only [if_pos hi] at h
    exact h A mp _ H (r.set hi hv hf)
  · simp only [if_neg hi] at h
    exact h.elim
theorem st_set (c : SCn X F T R L N hot sc W fl) (hN : N[i]? = some x) (hl : locB sc x = true) (hf : (!fl || i != 0) = true) (h : mE T L N hot sc e a = true) : PS X (.Assign [.Name x px] a pos) (tM F W (evSt T R (.set i e))) :=
  (asgE c hN hl h).imp fun D' σ H ⟨s, A, mp, r, res⟩ => by
    simp only [evSt] at res
    exact held_goE r res fun d v A1 s1 mp1 H1 r1 _ _ _ hv h1 => setSlot_go r1 hv (c.fx' hf) h1
theorem st_own (c : SCn X F T R L N hot sc W fl) (hN : N[i]? = some x) (hl : locB sc x = true) (hf : (!fl || i != 0) = true) (hr : fresh e = true) (h : mE T L N hot sc e a = true) : PS X (.Assign [.Name x px] a pos) (tM F W (evSt T R (.own i e))) :=
  (asgN c hN hl hr h).imp fun D' σ H ⟨s, A, mp, r, res⟩ => by
    simp only [evSt, hr, if_true] at res
    refine held_goN r res fun d v A1 env1 per1 mp1 H1 r1 e1 p1 hv hn h1 => ?_
    cases hb : d.box with
    | false => rw [hb] at h1; exact h1.elim
    | true =>
      rw [hb] at h1
      simp only [if_true] at h1
      unfold M.bind setSlot at h1
      by_cases hi : i < env1.length
      · simp only [if_pos hi] at h1
        obtain ⟨b, rfl, hb1, hb2⟩ := hn hb
        exact h1 _ mp1 _ H1 (r1.setOwn e1 p1 hi hv hb hb1 hb2 (c.fx' hf))
      · simp only [if_neg hi] at h1
        exact h1.elim
theorem addPer_lst {d : D} {s : S} {o : So D} (h : addPer d s = o) (hb : o ≠ .bad) : ∃ xs, d = .lst xs ∧ D.imms xs = true ∧ o = .ok (.per s.per.length) ⟨s.env, s.per ++ [.lst xs]⟩ := by
  unfold addPer at h
  cases d with
  | lst xs =>
    simp only at h
    by_cases hi : D.imms xs = true
    · rw [if_pos hi] at h; exact ⟨xs, rfl, hi, h.symm⟩
    · rw [if_neg hi] at h; exact (hb h.symm).elim
  | _ => exact (hb h.symm).elim
theorem st_keep (c : SCn X F T R L N hot sc W fl) (hN : N[i]? = some x) (hl : locB sc x = true) (hf : (!fl || i != 0) = true) (hr : fresh e = true) (h : mE T L N hot sc e a = true) : PS X (.Assign [.Name x px] a pos) (tM F W (evSt T R (.keep i e))) :=
  (asgN c hN hl hr h).imp fun D' σ H ⟨s, A, mp, r, res⟩ => by
    simp only [evSt, hr, if_true] at res
    refine held_goN r res fun d v A1 env1 per1 mp1 H1 r1 e1 p1 hv hn h1 => ?_
    unfold M.bind at h1
    cases hq : addPer d ⟨env1, per1⟩ with
    | bad => rw [hq] at h1; exact h1.elim
    | exc y z => obtain ⟨xs, _, _, e⟩ := addPer_lst hq (by simp); cases e
    | ok p s2 =>
      rw [hq] at h1
      obtain ⟨xs, rfl, him, e⟩ := addPer_lst hq (by simp)
      injection e with e2 e3
      subst e2 e3
      obtain ⟨b, rfl, hb1, _⟩ := hn rfl
      obtain ⟨r2, rv2, _⟩ := r1.stand e1 p1 hv him hb1
      exact setSlot_go r2 rv2 (c.fx' hf) h1
theorem st_rkp (c : SCn X F T R L N hot sc W fl) (hr : fresh e = true) (h : mE T L N hot sc e a = true) : PS X (.Return (some a) pos) (tM F W (evSt T R (.rkp e))) :=
  (ps_ret (freshE c.c e a hr h)).imp fun D' σ H ⟨s, A, mp, r, res⟩ => by
    simp only [evSt, hr, if_true] at res
    show tN F.ca W F.xn _ _ σ H D'.rt
    refine held_goN r res fun d v A1 env1 per1 mp1 H1 r1 e1 p1 hv hn h1 => ?_
    unfold M.bind at h1
    cases hq : addPer d ⟨env1, per1⟩ with
    | bad => rw [hq] at h1; exact h1.elim
    | exc y z => obtain ⟨xs, _, _, e⟩ := addPer_lst hq (by simp); cases e
    | ok p s2 =>
      rw [hq] at h1
      obtain ⟨xs, rfl, him, e⟩ := addPer_lst hq (by simp)
      injection e with e2 e3
      subst e2 e3
      obtain ⟨b, rfl, hb1, _⟩ := hn rfl
      obtain ⟨r2, rv2, e4⟩ := r1.stand e1 p1 hv him hb1
      exact h1 _ H1 _ r2.per r2.ext (rv2.less (AA.less r2.env.sub))
theorem st_ret (c : SCn X F T R L N hot sc W fl) (h : mE T L N hot sc e a = true) : PS X (.Return (some a) pos) (tM F W (evSt T R (.ret e))) :=
  (ps_ret (soundE c.c e a h).v).imp fun D' σ H ⟨s, A, mp, r, res⟩ => by
    simp only [evSt] at res
    exact ret_go r res
theorem st_retN : PS X (.Return none pos) (tM F W (evSt T R (.ret .non))) :=
  ps_retN.imp fun D' σ H ⟨s, A, mp, r, res⟩ => by
    simp only [evSt, ev, Mean.of] at res
    exact res mp H .non r.per r.ext (by simp [RV])
theorem st_expr (c : SCn X F T R L N hot sc W fl) (hc : isComp a = false) (h : mE T L N hot sc e a = true) : PS X (.Expr a pos) (tM F W (evSt T R (.expr e))) :=
  (ps_expr (soundE c.c e a h).v (noComp hc)).imp fun D' σ H ⟨s, A, mp, r, res⟩ => by
    simp only [evSt] at res
    exact held_goE r res fun d v A1 s1 mp1 H1 r1 _ _ _ hv h1 => h1 A1 mp1 σ H1 r1
theorem st_ite (c : SCn X F T R L N hot sc W fl) (h : mE T L N hot sc e a = true) {p q : DL.St} {ps qs : List Stmt} (hp : PSs X ps (tM F W (evSt T R p))) (hq : PSs X qs (tM F W (evSt T R q))) : PS X (.If a ps qs pos) (tM F W (evSt T R (.ite e p q))) :=
  (ps_if (soundE c.c e a h).t hp hq).imp fun D' σ H ⟨s, A, mp, r, res⟩ => by
    simp only [evSt] at res
    refine asked_go r res fun b s1 mp1 H1 r1 h1 => ?_
    cases b with
    | true => exact iteT ⟨s1, A, mp1, r1, h1⟩
    | false => exact iteF ⟨s1, A, mp1, r1, h1⟩
theorem st_pass : PS X (.Pass pos) (tM F W (evSt T R .skip)) := ps_pass.imp fun D' σ H ⟨s, A, mp, r, res⟩ => by
  simp only [evSt] at res
  exact res A mp σ H r
theorem st_doc {z : Str} {j p2} : PS X (.Expr (.Constant (.str z) j p2) pos) (tM F W (evSt T R .skip)) := ps_doc.imp fun D' σ H ⟨s, A, mp, r, res⟩ => by
  simp only [evSt] at res
  exact res A mp σ H r
theorem ss_nil : PSs X [] (tM F W (evSt T R .skip)) := pss_nil.imp fun D' σ H ⟨s, A, mp, r, res⟩ => by
  simp only [evSt] at res
  exact res A mp σ H r
theorem ss_cons {p q : DL.St} {st : Stmt} {rest : List Stmt} (hp : PS X st (tM F W (evSt T R p))) (hq : PSs X rest (tM F W (evSt T R q))) : PSs X (st :: rest) (tM F W (evSt T R (.seq p q))) :=
  (pss_cons hp hq).imp fun D' σ H ⟨s, A, mp, r, res⟩ => by
    refine ⟨s, A, mp, r, ?_⟩
    simp only [evSt] at res
    unfold M.bind at res
    cases h : evSt T R p s with
    | ok k s1 =>
      rw [h] at res
      cases k with
      | nx => exact fun A mp σ H r => ⟨s1, A, mp, r, res⟩
      | brk => exact res
      | ct => exact res
      | ret d => exact res
    | exc y s1 => rw [h] at res; exact res
    | bad => rw [h] at res; exact res
end
end DL
end
section
set_option Elab.async false
set_option linter.all false
set_option maxRecDepth 100000
/-! Stm4: objects changed in place. -/
namespace DL
open PySem L2 PyProof.Rows
theorem imms_app : ∀ {xs ys : List D}, D.imms (xs ++ ys) = (D.imms xs && D.imms ys)
  | [], ys => by simp [D.imms]
  | x :: xs, ys => by simp [D.imms, imms_app, Bool.and_assoc]
theorem imms_mem : ∀ {xs : List D}, D.imms xs = true ↔ ∀ x ∈ xs, x.imm = true
  | [] => by simp [D.imms]
  | x :: xs => by simp [D.imms, imms_mem]
section
variable {X : Cx} {F : Fm} {T : Tab} {R : Rec} {L : Nms} {N : List Str} {hot : Bool} {sc : Scope} {W : WX} {fl : Bool} {i j : Nat} {x y : Str} {px p2 ap cp pos : Pos} {a b : Expr} {te : TE} {e k : Ex} {D' : Ends} {A : Addr → Prop} {mp : List Addr} {s : S} {σ : L2.St} {H : Hp}
theorem chg_go {α : Type} {f : D → Option (α × D)} {g : α → M Ctl} (r : SR F A mp s σ H) (h : SRes F W D' (M.bind (chg i f) g s)) :
    ∃ l d0 d1 al s', σ[i]? = some (some (.ref l)) ∧ f d0 = some (al, d1) ∧ Top F.ca (AA A mp) mp H l d0 ∧ SRes F W D' (g al s') ∧ AA A mp l ∧ s'.env.length = s.env.length ∧
      (((∃ d, s.env[i]? = some (some (.own d))) ∧ ∀ o, Top F.ca (AA A mp) mp (upd H l o) l d1 → SR F A mp s' σ (upd H l o)) ∨
       ((∀ d, s.env[i]? ≠ some (some (.own d))) ∧ (∃ ys, d0 = .lst ys ∧ D.imms ys = true) ∧ ∀ o xs, d1 = .lst xs → D.imms xs = true → Top F.ca (AA A mp) mp (upd H l o) l d1 → SR F A mp s' σ (upd H l o))) := by
  unfold M.bind chg at h
  cases q : s.env[i]? with
  | none => rw [q] at h; exact h.elim
  | some sl =>
    rw [q] at h
    cases sl with
    | none => exact h.elim
    | some sl =>
      cases sl with
      | own d0 =>
        dsimp only at h
        cases hf : f d0 with
        | none => rw [hf] at h; exact h.elim
        | some p =>
          obtain ⟨al, d1⟩ := p
          rw [hf] at h
          obtain ⟨l, q1, q2, q3, q4, q5, q6⟩ := r.env.own i d0 q
          exact ⟨l, d0, d1, al, _, q1, hf, q6, h, .inl q2, by simp, .inl ⟨⟨d0, rfl⟩, fun o t => r.chgOwn q q1 t⟩⟩
      | dat dd =>
        cases dd with
        | per k =>
          dsimp only at h
          cases hp : s.per[k]? with
          | none => rw [hp] at h; exact h.elim
          | some d0 =>
            rw [hp] at h
            dsimp only at h
            cases hf : f d0 with
            | none => rw [hf] at h; exact h.elim
            | some p =>
              obtain ⟨al, d1⟩ := p
              rw [hf] at h
              obtain ⟨v, q1, q2⟩ := r.env.dat i _ q rfl
              simp only [RV] at q2
              obtain ⟨l, rfl, hm⟩ := q2
              have ok := r.per.ok k l d0 hm hp
              cases d0 with
              | lst ys =>
                obtain ⟨im, us, y1, y2⟩ := ok
                refine ⟨l, .lst ys, d1, al, _, q1, hf, ⟨us, y1, RVs.imm ys us im y2⟩, h, .inr (List.mem_of_getElem? hm), rfl, .inr ⟨by simp, ⟨ys, rfl, im⟩, fun o xs e him t => ?_⟩⟩
                subst e
                obtain ⟨vs, z1, z2⟩ := t
                rw [upd_same] at z1
                cases z1
                exact r.chgPer hm him (RVs.imm xs vs him z2)
              | _ => exact ok.elim
        | _ => exact h.elim
theorem fits_go {d : D} {g : Unit → M Ctl} (h : SRes F W D' (M.bind (fitsIn i d) g s)) : SRes F W D' (g () s) ∧ ((∃ d, s.env[i]? = some (some (.own d))) ∨ d.imm = true) := by
  unfold M.bind fitsIn at h
  cases q : s.env[i]? with
  | none =>
    rw [q] at h
    dsimp only at h
    by_cases hi : d.imm = true
    · rw [if_pos hi] at h; exact ⟨h, .inr hi⟩
    · rw [if_neg hi] at h; exact h.elim
  | some sl =>
    rw [q] at h
    cases sl with
    | none =>
      dsimp only at h
      by_cases hi : d.imm = true
      · rw [if_pos hi] at h; exact ⟨h, .inr hi⟩
      · rw [if_neg hi] at h; exact h.elim
    | some sl =>
      cases sl with
      | own d0 => exact ⟨h, .inl ⟨d0, rfl⟩⟩
      | dat d0 =>
        dsimp only at h
        by_cases hi : d.imm = true
        · rw [if_pos hi] at h; exact ⟨h, .inr hi⟩
        · rw [if_neg hi] at h; exact h.elim
/-- what lies there lies there behind a change of l -/
theorem RV.upd' {l : Addr} {o : HO} {ca : Lk} {d : D} {v : V} (hA : AA A mp l) (hl : ∀ us, H l ≠ some (.tup us)) (h : RV ca (AA A mp) mp H d v) : RV ca (AA A mp) mp (upd H l o) d v :=
  RV.mono (fun b u q n => by rw [upd_ne (fun z => n (by rw [z]; exact hA))]; exact q) (fun b us q => by rw [upd_ne (fun z => by rw [z] at q; exact hl us q)]; exact q) (fun _ z => .inl z) (fun _ _ z => z) d v h
theorem RVs.upd' {l : Addr} {o : HO} {ca : Lk} {d : List D} {v : List V} (hA : AA A mp l) (hl : ∀ us, H l ≠ some (.tup us)) (h : RVs ca (AA A mp) mp H d v) : RVs ca (AA A mp) mp (upd H l o) d v :=
  RVs.mono (fun b u q n => by rw [upd_ne (fun z => n (by rw [z]; exact hA))]; exact q) (fun b us q => by rw [upd_ne (fun z => by rw [z] at q; exact hl us q)]; exact q) (fun _ z => .inl z) (fun _ _ z => z) d v h
theorem RD.upd' {l : Addr} {o : HO} {ca : Lk} {d : List (D × D)} {v : List (Key × V)} (hA : AA A mp l) (hl : ∀ us, H l ≠ some (.tup us)) (h : RD ca (AA A mp) mp H d v) : RD ca (AA A mp) mp (upd H l o) d v :=
  RD.mono (fun b u q n => by rw [upd_ne (fun z => n (by rw [z]; exact hA))]; exact q) (fun b us q => by rw [upd_ne (fun z => by rw [z] at q; exact hl us q)]; exact q) (fun _ z => .inl z) (fun _ _ z => z) d v h
theorem RF.upd' {l : Addr} {o : HO} {ca : Lk} {d : List (Str × D)} {v : List (Str × V)} (hA : AA A mp l) (hl : ∀ us, H l ≠ some (.tup us)) (h : RF ca (AA A mp) mp H d v) : RF ca (AA A mp) mp (upd H l o) d v :=
  RF.mono (fun b u q n => by rw [upd_ne (fun z => n (by rw [z]; exact hA))]; exact q) (fun b us q => by rw [upd_ne (fun z => by rw [z] at q; exact hl us q)]; exact q) (fun _ z => .inl z) (fun _ _ z => z) d v h
theorem RVs.one {ca : Lk} {d : D} {v : V} (h : RV ca (AA A mp) mp H d v) : RVs ca (AA A mp) mp H [d] [v] := by
  simp only [RVs]
  exact ⟨v, [], rfl, h, rfl⟩
/-- x.append(e) -/
theorem app_go {d : D} {v : V} (r : SR F A mp s σ H) (hv : RV F.ca (AA A mp) mp H d v) (h : SRes F W D' (M.bind (fitsIn i d) (fun _ => M.bind (chg i (appD d)) fun _ => M.ret .nx) s)) : ∃ l xs, σ[i]? = some (some (.ref l)) ∧ H l = some (.lst xs) ∧ xs.length < sizeLine ∧ D'.nx σ (upd H l (.lst (xs ++ [v]))) := by
  obtain ⟨h, hi⟩ := fits_go h
  obtain ⟨l, d0, d1, al, s', q1, q2, q3, q4, q5, _, q6⟩ := chg_go r h
  cases d0 with
  | lst ys =>
    obtain ⟨vs, z1, z2⟩ := q3
    simp only [appD] at q2
    by_cases hz : ys.length < sizeLine
    · rw [if_pos hz] at q2
      cases q2
      have nt : ∀ us, H l ≠ some (.tup us) := fun us z => by rw [z1] at z; cases z
      have t : Top F.ca (AA A mp) mp (upd H l (.lst (vs ++ [v]))) l (.lst (ys ++ [d])) := ⟨_, upd_same, (z2.upd' q5 nt).app (RVs.one (hv.upd' q5 nt))⟩
      refine ⟨l, vs, q1, z1, by rw [z2.length]; exact hz, ?_⟩
      rcases q6 with ⟨_, q6⟩ | ⟨no, ⟨ys', e1, e2⟩, q6⟩
      · exact q4 A mp σ _ (q6 _ t)
      · cases e1
        refine q4 A mp σ _ (q6 _ _ rfl ?_ t)
        rw [imms_app, e2]
        rcases hi with ⟨dd, hi⟩ | hi
        · exact (no dd hi).elim
        · simp [D.imms, hi]
    · rw [if_neg hz] at q2; cases q2
  | _ => simp [appD] at q2
theorem lst_ty {K : PySem.W.Frag} {xs : List V} {l : Addr} (h : H l = some (.lst xs)) : tyV K "list" (.ref l) H := .inl ⟨rfl, xs, SqL.of h⟩
theorem lstAt_go {g : Unit → M Ctl} (r : SR F A mp s σ H) (h : SRes F W D' (M.bind (lstAt i) g s)) : SRes F W D' (g () s) ∧ ∃ l xs, σ[i]? = some (some (.ref l)) ∧ H l = some (.lst xs) := by
  unfold M.bind lstAt at h
  cases q : s.env[i]? with
  | none => rw [q] at h; exact h.elim
  | some sl =>
    rw [q] at h
    cases sl with
    | none => exact h.elim
    | some sl =>
      cases sl with
      | own d0 =>
        obtain ⟨l, q1, q2, q3, q4, q5, q6⟩ := r.env.own i d0 q
        cases d0 with
        | lst ys =>
          obtain ⟨vs, z1, _⟩ := q6
          exact ⟨h, l, vs, q1, z1⟩
        | _ => exact h.elim
      | dat d0 =>
        cases d0 with
        | per k =>
          dsimp only at h
          by_cases hk : k < s.per.length
          · rw [if_pos hk] at h
            obtain ⟨v, q1, q2⟩ := r.env.dat i _ q rfl
            simp only [RV] at q2
            obtain ⟨l, rfl, hm⟩ := q2
            have ok := r.per.ok k l s.per[k] hm (by simp [hk])
            revert ok
            cases s.per[k] with
            | lst ys => rintro ⟨_, us, z, _⟩; exact ⟨h, l, us, q1, z⟩
            | _ => exact fun z => z.elim
          · rw [if_neg hk] at h; exact h.elim
        | _ => exact h.elim
theorem boxAt_go {g : Unit → M Ctl} (r : SR F A mp s σ H) (h : SRes F W D' (M.bind (boxAt i) g s)) : SRes F W D' (g () s) ∧ ∃ l, σ[i]? = some (some (.ref l)) := by
  unfold M.bind boxAt at h
  cases q : s.env[i]? with
  | none => rw [q] at h; exact h.elim
  | some sl =>
    rw [q] at h
    cases sl with
    | none => exact h.elim
    | some sl =>
      cases sl with
      | own d0 =>
        obtain ⟨l, q1, _⟩ := r.env.own i d0 q
        exact ⟨h, l, q1⟩
      | dat d0 =>
        cases d0 with
        | per k =>
          obtain ⟨v, q1, q2⟩ := r.env.dat i _ q rfl
          simp only [RV] at q2
          obtain ⟨l, rfl, hm⟩ := q2
          exact ⟨h, l, q1⟩
        | _ => exact h.elim
/-- a key, a place: flat -/
theorem key_go {m : Env → P D} {f : D → M Ctl} {Q : VK} {es : List Nat} (r : SR F A mp s σ H) (h : SRes F W D' (M.bind (asked m) (fun k => if !k.flat then M.bad else f k) s))
    (k : ∀ d v s1 mp1 H1, SR F A mp1 s1 σ H1 → s1.env = s.env → Ext mp H mp1 H1 → d.flat = true → RV F.ca (AA A mp1) mp1 H1 d v → SRes F W D' (f d s1) → Q v H1) : tE F.ca W F.xn m es σ H Q := by
  refine ⟨F.B, F.B, s.env, mp, s.per, r.per, (r.env.erel []).low, ?_⟩
  unfold M.bind asked at h
  cases q : m s.env s.per with
  | ok b p =>
    rw [q] at h
    intro mp1 H1 v e p1 hv
    dsimp only at h
    cases hf : b.flat with
    | false => rw [hf] at h; exact h.elim
    | true =>
      rw [hf] at h
      exact k b v ⟨s.env, p⟩ mp1 H1 (r.later e p1) rfl e hf (hv.flat hf) h
  | exc x p => rw [q] at h; exact exc_go (α := D) r h
  | bad => rw [q] at h; exact h
def varB (N : List Str) (sc : Scope) (i : Nat) (x : Str) : Bool := decide (N[i]? = some x) && visB sc x && okName x
theorem var_of (c : SCn X F T R L N hot sc W fl) (h : varB N sc i x = true) : PE X (.Name x px) (tVar i) := by
  unfold varB at h
  simp only [Bool.and_eq_true, decide_eq_true_eq] at h
  exact pe_var (by rw [c.c.hN]; exact h.1.1) (c.c.vis h.1.2) (okName_1 h.2) (okName_2 h.2)
theorem st_app (c : SCn X F T R L N hot sc W fl) (hx : varB N sc i x = true) (hl : (ap.endLine == cp.line) = true) (h : mE T L N hot sc e a = true) : PS X (.Expr (.Call (.Attribute (.Name x px) "append" ap) [a] [] cp) pos) (tM F W (evSt T R (.app i e))) := by
  have hs : NoStar X.env [a] := noStars (by simp [mE_star h])
  have h1 := hs.each a [] rfl
  refine (ps_expr (pe_bm PySem.F.plainAttrs_list PySem.F.slot_list_append PySem.F.type_list_append mt_append (var_of c hx) (pa_cons (soundE c.c e a h).v pa_nil h1) rfl (by rw [h1]; rfl) hl h1 rfl) (noComp rfl)).imp fun D' σ H ⟨s, A, mp, r, res⟩ => ?_
  simp only [evSt] at res
  obtain ⟨res, l, xs, q1, q2⟩ := lstAt_go r res
  refine ⟨_, q1, lst_ty q2, ?_⟩
  show tE F.ca W F.xn _ _ σ H fun v H1 => _
  refine held_goE r res fun d v A1 s1 mp1 H1 r1 _ _ _ hv h1 => ?_
  obtain ⟨l', xs', z1, z2, z3, z4⟩ := app_go r1 hv h1
  rw [q1] at z1; cases z1
  exact ⟨l, xs', v, rfl, rfl, z2, z3, z4⟩
/-- y = x.pop(k) -/
theorem st_popAt (c : SCn X F T R L N hot sc W fl) (hx : varB N sc i x = true) (hN : N[j]? = some y) (hly : locB sc y = true) (hf : (!fl || j != 0) = true) (hl : (ap.endLine == cp.line) = true) (h : mE T L N hot sc k a = true) : PS X (.Assign [.Name y p2] (.Call (.Attribute (.Name x px) "pop" ap) [a] [] cp) pos) (tM F W (evSt T R (.popAt j i k))) := by
  have hs : NoStar X.env [a] := noStars (by simp [mE_star h])
  have h1 := hs.each a [] rfl
  refine (ss_set c hN hly rfl (pe_bm PySem.F.plainAttrs_list PySem.F.slot_list_pop PySem.F.type_list_pop mt_popAt (var_of c hx) (pa_cons (soundE c.c k a h).v pa_nil h1) rfl (by rw [h1]; rfl) hl h1 rfl)).imp fun D' σ H ⟨s, A, mp, r, res⟩ => ?_
  simp only [evSt] at res
  obtain ⟨res, l, xs, q1, q2⟩ := lstAt_go r res
  refine ⟨_, q1, lst_ty q2, ?_⟩
  show tE F.ca W F.xn _ _ σ H fun v H1 => _
  refine key_go r res fun d v s1 mp1 H1 r1 _ _ _ hv h1 => ?_
  obtain ⟨l', d0, d1, al, s', z1, z2, z3, z4, z5, z7, z6⟩ := chg_go r1 h1
  rw [q1] at z1; cases z1
  cases d0 with
  | lst ys =>
    obtain ⟨vs, y1, y2⟩ := z3
    cases d with
    | int n =>
      simp only [popD] at z2
      by_cases hn : 0 ≤ n ∧ n < ys.length ∧ n < 4611686018427387904
      · rw [if_pos hn] at z2
        obtain ⟨w, e1, e2⟩ := Option.map_eq_some_iff.mp z2
        cases e2
        obtain ⟨u, u1, u2⟩ := y2.get e1
        have nt : ∀ us, H1 l ≠ some (.tup us) := fun us z => by rw [y1] at z; cases z
        have len := y2.length
        have t : Top F.ca (AA A mp1) mp1 (upd H1 l (.lst (vs.eraseIdx n.toNat))) l (.lst (ys.eraseIdx n.toNat)) := ⟨_, upd_same, (y2.upd' z5 nt).eraseIdx _⟩
        have hz : vs.length ≤ sizeLine ∨ True := .inr trivial
        refine ⟨l, vs, n, n.toNat, u, rfl, by rw [show v = .int n by simpa [RV] using hv], y1, by omega, ?_, ?_, u1, ?_⟩
        · omega
        · rw [PySem.seqIndex_of hn.1 (by omega)]
        · have rr : SR F A mp1 s' σ (upd H1 l (.lst (vs.eraseIdx n.toNat))) := by
            rcases z6 with ⟨_, z6⟩ | ⟨no, ⟨ys', e1, e2⟩, z6⟩
            · exact z6 _ t
            · cases e1
              exact z6 _ _ rfl (imms_mem.mpr fun x hx => imms_mem.mp e2 x (List.mem_of_mem_eraseIdx hx)) t
          exact setSlot_go rr (u2.upd' z5 nt) (c.fx' hf) z4
      · rw [if_neg hn] at z2; cases z2
    | _ => simp [popD] at z2
  | _ => simp [popD] at z2
end
end DL
end
section
set_option Elab.async false
set_option linter.all false
set_option maxRecDepth 100000
/-! Stm5: x[k] = v, o.f = v, for. -/
namespace DL
open PySem L2 PyProof.Rows
theorem putF_rf {ca : Lk} {A : Addr → Prop} {mp : List Addr} {H : Hp} {f : Str} {d : D} {v : V} (h : RV ca A mp H d v) : ∀ {fs : List (Str × D)} {gs : List (Str × V)}, RF ca A mp H fs gs → RF ca A mp H (putF f d fs) (L2.putF f v gs)
  | [], gs, r => by
    simp only [RF] at r
    subst r
    simp only [putF, L2.putF, RF]
    exact ⟨v, [], rfl, h, rfl⟩
  | (g, u) :: fs, gs, r => by
    simp only [RF] at r
    obtain ⟨w, q, rfl, h1, h2⟩ := r
    simp only [putF, L2.putF]
    by_cases e : g = f
    · subst e
      simp only [if_true, RF]
      exact ⟨v, q, rfl, h, h2⟩
    · simp only [if_neg e, RF]
      exact ⟨w, _, rfl, h1, putF_rf h h2⟩
def rPutA : TSet := fun o i v H Q => rSetL o i v H Q ∨ ∃ a H', o = .ref a ∧ DPut H a i v H' ∧ Q H'
section
variable {X : Cx} {F : Fm} {T : Tab} {R : Rec} {L : Nms} {N : List Str} {hot : Bool} {sc : Scope} {W : WX} {fl : Bool} {i j : Nat} {x y : Str} {px p2 ap cp pos : Pos} {a b : Expr} {te : TE} {e k : Ex} {D' : Ends} {A : Addr → Prop} {mp : List Addr} {s : S} {σ : L2.St} {H : Hp}
theorem set_any (hu : X.A.units + 1 < cLine) : PSet X rPutA := by
  intro pins s σ H o i v ov iv u Q I ro ri rv h
  rcases h with h | ⟨a, H', rfl, g, q⟩
  · exact set_list pins s σ H o i v ov iv u Q I ro ri rv h
  · cases ro
    exact d_setItem hu I g ri rv fun s4 I4 => ⟨H', I4, q⟩
theorem st_put (c : SCn X F T R L N hot sc W fl) (hx : varB N sc i x = true) (hsl : isSlice b = false) (hc : isComp a = false) (hk : mE T L N hot sc k b = true) (h : mE T L N hot sc e a = true) : PS X (.Assign [.Subscript (.Name x px) b p2] a pos) (tM F W (evSt T R (.put i k e))) := by
  have hu := c.c.units
  refine (ps_asg (soundE c.c e a h).v (pg_sub (var_of c hx) (soundE c.c k b hk).v (set_any (by omega)) (fun v => by cases b <;> first | rfl | (simp [isSlice] at hsl))) (by unfold swapsWithSole; exact noComp hc) (by cases a <;> rfl)).imp fun D' σ H ⟨s, A, mp, r, res⟩ => ?_
  simp only [evSt] at res
  show tE F.ca W F.xn _ _ σ H fun v H1 => _
  refine held_goE r res fun d v A1 s1 mp1 H1 r1 _ _ _ hv h1 => ?_
  obtain ⟨h2, l, q1⟩ := boxAt_go r1 h1
  refine ⟨_, q1, ?_⟩
  refine key_go r1 h2 fun d2 v2 s2 mp2 H2 r2 he2 e2 hf2 hv2 h3 => ?_
  have hv := e2.rv hv
  obtain ⟨h3, hfit⟩ := fits_go h3
  obtain ⟨l', d0, d1, al, s', z1, z2, z3, z4, z5, z7, z6⟩ := chg_go r2 h3
  rw [q1] at z1; cases z1
  cases d0 with
  | lst ys =>
    obtain ⟨vs, y1, y2⟩ := z3
    cases d2 with
    | int n =>
      simp only [putD] at z2
      obtain ⟨m, e1, e3⟩ := Option.map_eq_some_iff.mp z2
      cases e3
      have nt : ∀ us, H2 l ≠ some (.tup us) := fun us z => by rw [y1] at z; cases z
      have t : Top F.ca (AA A1 mp2) mp2 (upd H2 l (.lst (vs.set m v))) l (.lst (ys.set m d)) := ⟨_, upd_same, (y2.upd' z5 nt).set _ (hv.upd' z5 nt)⟩
      refine .inl ⟨l, vs, n, m, rfl, by simpa [RV] using hv2, y1, by rw [y2.length]; exact e1, ?_⟩
      rcases z6 with ⟨_, z6⟩ | ⟨no, ⟨ys', e1, e2⟩, z6⟩
      · exact z4 A1 mp2 σ _ (z6 _ t)
      · cases e1
        refine z4 A1 mp2 σ _ (z6 _ _ rfl (imms_mem.mpr fun x hx => ?_) t)
        rcases List.mem_or_eq_of_mem_set hx with hx | rfl
        · exact imms_mem.mp e2 x hx
        · rcases hfit with ⟨dd, hi⟩ | hi
          · exact (no dd hi).elim
          · exact hi
    | _ => simp [putD] at z2
  | dic kvs =>
    obtain ⟨ks, y1, y2⟩ := z3
    simp only [putD] at z2
    cases hkey : d2.key with
    | none => rw [hkey] at z2; cases z2
    | some key =>
      rw [hkey] at z2
      dsimp only at z2
      by_cases hz : kvs.length < sizeLine
      · rw [if_pos hz] at z2
        cases z2
        have nt : ∀ us, H2 l ≠ some (.tup us) := fun us z => by rw [y1] at z; cases z
        have ev2 : v2 = kV key := key_rv hkey (.inl hv2)
        subst ev2
        have t : Top F.ca (AA A1 mp2) mp2 (upd H2 l (.dK (putK ks key v))) l (.dic (store d2 d kvs)) := ⟨_, upd_same, store_rd hkey (hv.upd' z5 nt) (y2.upd' z5 nt)⟩
        refine .inr ⟨l, _, rfl, DPut.k y1 (by rw [y2.length]; exact hz), ?_⟩
        rcases z6 with ⟨_, z6⟩ | ⟨no, ⟨ys', e1, e2⟩, z6⟩
        · exact z4 A1 mp2 σ _ (z6 _ t)
        · cases e1
      · rw [if_neg hz] at z2; cases z2
  | _ => simp [putD] at z2
/-- o.f = v -/
theorem st_fld {f : Str} (c : SCn X F T R L N hot sc W fl) (hx : varB N sc i x = true) (hc : isComp a = false) (h : mE T L N hot sc e a = true) : PS X (.Assign [.Attribute (.Name x px) f p2] a pos) (tM F W (evSt T R (.fld i f e))) := by
  refine (ps_fld (var_of c hx) (soundE c.c e a h).v (noComp hc)).imp fun D' σ H ⟨s, A, mp, r, res⟩ => ?_
  simp only [evSt] at res
  show tE F.ca W F.xn _ _ σ H fun v H1 => _
  refine held_goE r res fun d v A1 s1 mp1 H1 r1 _ _ _ hv h1 => ?_
  obtain ⟨h1, hfit⟩ := fits_go h1
  obtain ⟨l, d0, d1, al, s', z1, z2, z3, z4, z5, z7, z6⟩ := chg_go r1 h1
  refine ⟨_, z1, ?_⟩
  cases d0 with
  | ins k fs =>
    obtain ⟨dx, gs, y1, y2⟩ := z3
    simp only [fldD] at z2
    cases hk : (T.cl k) with
    | none => rw [hk] at z2; cases z2
    | some cl =>
      rw [hk] at z2
      simp only [Option.bind_some] at z2
      by_cases hb : (!cl.exc && cl.flds.contains f && decide (fs.length < 1000)) = true
      · rw [if_pos hb] at z2
        cases z2
        simp only [Bool.and_eq_true, Bool.not_eq_true', decide_eq_true_eq] at hb
        have co := c.c.tok.cls k cl hk hb.1.1
        have na := c.c.tok.noat k cl f hk hb.1.1 (by simpa using hb.1.2)
        rw [← c.c.hK] at co na
        have nt : ∀ us, H1 l ≠ some (.tup us) := fun us z => by rw [y1] at z; cases z
        have t : Top F.ca (AA A1 mp1) mp1 (upd H1 l (.ins (F.ca.at_ k) dx (L2.putF f v gs))) l (.ins k (putF f d fs)) := ⟨dx, _, upd_same, putF_rf (hv.upd' z5 nt) (y2.upd' z5 nt)⟩
        refine ⟨l, _, dx, gs, rfl, y1, co.cls, na, by rw [y2.length]; exact hb.2, ?_⟩
        rcases z6 with ⟨_, z6⟩ | ⟨no, ⟨ys', e1, e2⟩, z6⟩
        · exact z4 A1 mp1 σ _ (z6 _ t)
        · cases e1
      · rw [if_neg hb] at z2; cases z2
  | _ => simp [fldD] at z2
end
end DL
end
section
set_option Elab.async false
set_option linter.all false
set_option maxRecDepth 100000
/-! Stm6: for. -/
namespace DL
open PySem L2 PyProof.Rows
theorem _root_.L2.PG.imp {X : Cx} {e : Expr} {t t' : TG} (h : PG X e t) (i : ∀ v σ H Q, t' v σ H Q → t v σ H Q) : PG X e t' := ⟨fun pins s σ H v u Q I r q => h.run pins s σ H v u Q I r (i v σ H Q q)⟩
/-- a target that is set by data -/
def tT (F : Fm) (t : Tg) : TG := fun v σ H Q => ∃ s A mp d s1, SR F A mp s σ H ∧ RV F.ca (AA A mp) mp H d v ∧ setTg t d s = .ok () s1 ∧ ∀ σ1, SR F A mp s1 σ1 H → Q σ1 H
def gNames : List Nat → TGs
  | [] => gNil
  | i :: is => gCons (gName i) (gNames is)
def mT (N : List Str) (sc : Scope) (fl : Bool) : Tg → Expr → Bool
  | .name i, .Name x _ => decide (N[i]? = some x) && locB sc x && (!fl || i != 0)
  | .tup is, .Tuple es _ _ => decide (is.length = es.length) && (is.zip es).all fun p => match p.2 with
    | .Name x _ => decide (N[p.1]? = some x) && locB sc x && (!fl || p.1 != 0)
    | _ => false
  | _, _ => false
section
variable {X : Cx} {F : Fm} {T : Tab} {R : Rec} {L : Nms} {N : List Str} {hot : Bool} {sc : Scope} {W : WX} {fl : Bool} {i j : Nat} {x y : Str} {px p2 ap cp pos : Pos} {a b tg : Expr} {te : TE} {e k : Ex} {D' : Ends} {A : Addr → Prop} {mp : List Addr} {s : S} {σ : L2.St} {H : Hp}
theorem setSlot_ok {d : D} {s1 : S} {v : V} (r : SR F A mp s σ H) (hv : RV F.ca (AA A mp) mp H d v) (hf : F.fx = none ∨ i ≠ 0) (h : setSlot i (.dat d) s = .ok () s1) : SR F A mp s1 (σ.set i (some v)) H := by
  unfold setSlot at h
  by_cases hi : i < s.env.length
  · rw [if_pos hi] at h
    cases h
    exact r.set hi hv hf
  · rw [if_neg hi] at h; cases h
theorem names_go : ∀ {is : List Nat} {ds : List D} {vs : List V} {s s1 : S} {σ : L2.St} {Q : L2.St → Hp → Prop}, (∀ i ∈ is, F.fx = none ∨ i ≠ 0) → SR F A mp s σ H → RVs F.ca (AA A mp) mp H ds vs → setAll is ds s = .ok () s1 → (∀ σ1, SR F A mp s1 σ1 H → Q σ1 H) → gNames is vs σ H Q ∧ vs.length = is.length
  | [], [], vs, s, s1, σ, Q, hf, r, rv, h, k => by
    simp only [RVs] at rv
    subst rv
    simp only [setAll, M.ret] at h
    cases h
    exact ⟨⟨rfl, k _ r⟩, rfl⟩
  | i :: is, d :: ds, vs, s, s1, σ, Q, hf, r, rv, h, k => by
    simp only [RVs] at rv
    obtain ⟨v, vr, rfl, h1, h2⟩ := rv
    simp only [setAll] at h
    unfold M.bind at h
    cases q : setSlot i (.dat d) s with
    | bad => rw [q] at h; cases h
    | exc _ _ => rw [q] at h; cases h
    | ok u s2 =>
      rw [q] at h
      have r2 := setSlot_ok r h1 (hf i List.mem_cons_self) q
      obtain ⟨g, hl⟩ := names_go (fun i hi => hf i (List.mem_cons_of_mem _ hi)) r2 h2 h k
      exact ⟨⟨v, vr, rfl, g⟩, by simp [hl]⟩
  | [], _ :: _, _, _, _, _, _, _, _, _, h, _ => by simp [setAll, M.bad] at h
  | _ :: _, [], _, _, _, _, _, _, _, _, h, _ => by simp [setAll, M.bad] at h
theorem names_pg (c : SCn X F T R L N hot sc W fl) : ∀ {is : List Nat} {es : List Expr}, is.length = es.length → ((is.zip es).all fun p => match p.2 with
    | .Name x _ => decide (N[p.1]? = some x) && locB sc x && (!fl || p.1 != 0)
    | _ => false) = true → PGs X es (gNames is) ∧ (∀ i ∈ is, F.fx = none ∨ i ≠ 0) ∧ (assignEach es X.env).length = es.length ∧ (assignEach es X.env).findIdx? (·.1) = none
  | [], [], _, _ => ⟨pgs_nil, by simp, rfl, rfl⟩
  | i :: is, e :: es, hl, h => by
    simp only [List.zip_cons_cons, List.all_cons, Bool.and_eq_true] at h
    obtain ⟨h1, h2⟩ := h
    cases e with
    | Name x p =>
      simp only [Bool.and_eq_true, decide_eq_true_eq] at h1
      obtain ⟨g, hi, hn, hs⟩ := names_pg c (by simpa using hl) h2
      refine ⟨pgs_cons (pg_name (by rw [c.c.hN]; exact c.c.nd) (by rw [c.c.hN]; exact h1.1.1) (by rw [c.c.hsc]; exact locB_ok h1.1.2) (.inl (c.fn x))) g, ?_, ?_, ?_⟩
      · intro j hj
        rcases List.mem_cons.mp hj with rfl | hj
        · exact c.fx' h1.2
        · exact hi j hj
      · show (assignEach es X.env).length + 1 = _
        rw [hn]; rfl
      · show (List.findIdx? (·.1) ((false, _) :: assignEach es X.env)) = none
        rw [List.findIdx?_cons]
        simp [hs]
    | _ => simp at h1
  | [], _ :: _, hl, _ => by simp at hl
  | _ :: _, [], hl, _ => by simp at hl
theorem tg_ok (c : SCn X F T R L N hot sc W fl) (h0 : hot = false) : ∀ {t : Tg}, mT N sc fl t tg = true → PG X tg (tT F t)
  | .name i, h => by
    cases tg with
    | Name x p =>
      simp only [mT, Bool.and_eq_true, decide_eq_true_eq] at h
      refine (pg_name (by rw [c.c.hN]; exact c.c.nd) (by rw [c.c.hN]; exact h.1.1) (by rw [c.c.hsc]; exact locB_ok h.1.2) (.inl (c.fn x))).imp fun v σ H Q ⟨s, A, mp, d, s1, r, hv, hs, k⟩ => ?_
      exact k _ (setSlot_ok r hv (c.fx' h.2) hs)
    | _ => simp [mT] at h
  | .tup is, h => by
    cases tg with
    | Tuple es kk p =>
      simp only [mT, Bool.and_eq_true, decide_eq_true_eq] at h
      obtain ⟨hx, hc, tk, co⟩ := c.c.cold h0
      obtain ⟨g, hi, hn, hs⟩ := names_pg c h.1 h.2
      refine (pg_tup (n := es.length) hc g hn hs).imp fun v σ H Q ⟨s, A, mp, d, s1, r, hv, hs, k⟩ => ?_
      cases d with
      | tup ds =>
        simp only [RV] at hv
        obtain ⟨l, vs, rfl, q1, q2⟩ := hv
        simp only [setTg] at hs
        obtain ⟨g, hl⟩ := names_go hi r q2 hs k
        exact ⟨l, vs, rfl, SqT.of q1, by rw [hl]; exact h.1, g⟩
      | _ => simp [setTg, M.bad] at hs
    | _ => simp [mT] at h
theorem esc_sub (e : Ex) : ∀ i ∈ esc e, i ∈ (DL.It.seq e).slot ++ esci (.seq e) := by
  intro i hi
  cases e with
  | var k => simpa [esc, It.slot, esci, escR] using hi
  | _ => simp only [It.slot, esci, List.nil_append]; simpa [esc, escR] using hi
theorem soundIh (c : Cn X F.ca T R L N hot sc W F.xn) : ∀ (it : DL.It) (a : Expr), mI T L N hot sc it a = true → PI X tg a (tI true F.ca W F.xn (evi T R it) (it.slot ++ esci it))
  | .seq e, a, h => by
    simp only [mI] at h
    have e' : evi T R (.seq e) = fun env => P.bind ((ev T R e).v env) fun x => P.opt x.items := by funext env; simp [evi]
    rw [e']
    exact (si_held (soundE c e a h).v).imp fun σ H R' ⟨B, A, env, mp, per, pp, r, res⟩ => ⟨B, A, env, mp, per, pp, r.esc (esc_sub e), res⟩
  | .rng e, a, h => by
    cases a with
    | Call fn l kw p =>
      cases fn with
      | Name x p2 =>
        match l, kw, h with
        | [a'], [], h =>
          simp only [mI, Bool.and_eq_true, Bool.not_eq_true', decide_eq_true_eq] at h
          obtain ⟨⟨⟨rfl, h1⟩, h2⟩, h3⟩ := h
          have e' : evi T R (.rng e) = fun env => P.bind ((ev T R e).v env) fun x => P.opt (rngD x) := by funext env; simp [evi]
          rw [e']
          exact si_rng (c.glb h1) (c.gl.blt _ (by decide)) (soundE c e a' h3).v (noStars (by simp [h2]))
        | [], _, h => simp [mI] at h
        | _ :: _ :: _, _, h => simp [mI] at h
        | [_], _ :: _, h => simp [mI] at h
      | _ => simp [mI] at h
    | _ => simp [mI] at h
theorem noExcS {sl : Slot} {s s1 : S} {y : Exc} (h : setSlot i sl s = .exc y s1) : False := by
  unfold setSlot at h
  by_cases hi : i < s.env.length
  · rw [if_pos hi] at h; cases h
  · rw [if_neg hi] at h; cases h
theorem noExcA : ∀ {is : List Nat} {ds : List D} {s s1 : S} {y : Exc}, setAll is ds s = .exc y s1 → False
  | [], [], s, s1, y, h => by simp [setAll, M.ret] at h
  | i :: is, d :: ds, s, s1, y, h => by
    simp only [setAll] at h
    unfold M.bind at h
    cases q : setSlot i (.dat d) s with
    | bad => rw [q] at h; cases h
    | exc _ _ => exact noExcS q
    | ok u s2 => rw [q] at h; exact noExcA h
  | [], _ :: _, _, _, _, h => by simp [setAll, M.bad] at h
  | _ :: _, [], _, _, _, h => by simp [setAll, M.bad] at h
theorem noExcTg {t : Tg} {d : D} {s s1 : S} {y : Exc} (h : setTg t d s = .exc y s1) : False := by
  cases t with
  | name i => exact noExcS h
  | tup is =>
    cases d with
    | tup xs => exact noExcA h
    | _ => simp [setTg, M.bad] at h
/-- with less to keep -/
theorem SR.weak {gh : List G} (r : SR { F with gh := F.gh ++ gh } A mp s σ H) : SR F A mp s σ H :=
  ⟨r.per, r.ext, ⟨r.env.len, r.env.sub, r.env.dom, r.env.own, r.env.uniq, r.env.dat, r.env.exn, fun g hg => r.env.gh g (List.mem_append_left _ hg)⟩, r.fix⟩
theorem SR.more {gh : List G} (r : SR F A mp s σ H) (h : ∀ g ∈ gh, GOk F.ca (AA A mp) mp H g) : SR { F with gh := F.gh ++ gh } A mp s σ H :=
  ⟨r.per, r.ext, ⟨r.env.len, r.env.sub, r.env.dom, r.env.own, r.env.uniq, r.env.dat, r.env.exn, fun g hg => (List.mem_append.mp hg).elim (r.env.gh g) (h g)⟩, r.fix⟩
theorem SRes.more {gh : List G} {o : So Ctl} (h : SRes F W D' o) : SRes { F with gh := F.gh ++ gh } W D' o := by
  cases o with
  | ok k s1 =>
    cases k with
    | nx => exact fun A mp σ H r => h A mp σ H r.weak
    | brk => exact fun A mp σ H r => h A mp σ H r.weak
    | ct => exact fun A mp σ H r => h A mp σ H r.weak
    | ret d => exact h
  | exc x s1 => exact fun A mp σ H cls dd r => h A mp σ H cls dd r.weak
  | bad => exact h
def ghosts (ds : List D) (vs : List V) : List G := (ds.zip vs).map fun p => .rv p.1 p.2
theorem ghosts_ok {ca : Lk} : ∀ {ds : List D} {vs : List V}, RVs ca A mp H ds vs → ∀ g ∈ ghosts ds vs, GOk ca A mp H g
  | [], vs, h, g, hg => by simp [ghosts] at hg
  | d :: ds, vs, h, g, hg => by
    simp only [RVs] at h
    obtain ⟨v, r, rfl, h1, h2⟩ := h
    simp only [ghosts, List.zip_cons_cons, List.map_cons, List.mem_cons] at hg
    rcases hg with rfl | hg
    · exact h1
    · exact ghosts_ok h2 g hg
theorem st_for (c : SCn X F T R L N hot sc W fl) (h0 : hot = false) {it : DL.It} {t : Tg} {b : DL.St} {body : List Stmt} (ht : mT N sc fl t tg = true) (hi : mI T L N hot sc it a = true) (hset : isSet a = false)
    (hb : ∀ F' : Fm, SCn X F' T R L N hot sc W fl → F'.ca = F.ca → PSs X body (tM F' W (evSt T R b))) : PS X (.For tg a body [] pos) (tM F W (evSt T R (.for_ t it b))) := by
  obtain ⟨hx, hc, tk, co⟩ := c.c.cold h0
  have hfold : ∀ x, foldedSetIterable a X.env x = pure x := by
    intro x
    cases a <;> first
      | rfl
      | (simp [isSet] at hset)
  have c' : ∀ gh, SCn X { F with gh := F.gh ++ gh } T R L N hot sc W fl := fun gh => ⟨c.c, c.hp, c.stk, c.fn, c.fx⟩
  have hbx : PSs X body (fun D σ H => ∃ gh, tM { F with gh := F.gh ++ gh } W (evSt T R b) D σ H) := ⟨fun pins s σ H D I ⟨gh, h⟩ => (hb _ (c' gh) rfl).run pins s σ H D I h⟩
  have hgx : PG X tg (fun v σ H Q => ∃ gh, tT { F with gh := F.gh ++ gh } t v σ H Q) := ⟨fun pins s σ H v u Q I r ⟨gh, h⟩ => (tg_ok (c' gh) h0 ht).run pins s σ H v u Q I r h⟩
  refine (ps_for c.hp hc (soundIh c.c it a hi) hgx hbx hfold).imp fun D' σ H ⟨s, A, mp, r, res⟩ => ?_
  simp only [evSt] at res
  refine ⟨F.B, cutA A s.env σ (it.slot ++ esci it), s.env, mp, s.per, r.per, r.env.erel _, ?_⟩
  cases q : evi T R it s.env s.per with
  | bad => rw [q] at res; exact res.elim
  | exc x p => rw [q] at res; exact exc_go (α := D) r res
  | ok ds p =>
    rw [q] at res
    dsimp only at res
    rintro mp1 H1 J e1 p1 ⟨vs, S, src, hS, rvs, hst⟩
    have r1 := (r.frz (it.slot ++ esci it)).later e1 p1
    generalize hA1 : cutA A s.env σ (it.slot ++ esci it) = A1 at r1 rvs hst
    have hlen : vs.length = ds.length := rvs.length
    -- what is kept
    obtain ⟨gs, hg1, hg2⟩ : ∃ gs : List G, (∀ g ∈ gs, GOk F.ca (AA A1 mp1) mp1 H1 g) ∧ ∀ A mp H, (∀ g ∈ gs, GOk F.ca (AA A mp) mp H g) → S H := by
      rcases hst with rfl | ⟨l, us, n1, n2, rfl⟩ | ⟨l, us, rfl⟩
      · exact ⟨[], by simp, fun _ _ _ _ => trivial⟩
      · refine ⟨[.raw l (.lst us)], fun g hg => ?_, fun A mp H h => (h _ (List.mem_singleton.mpr rfl)).1⟩
        rw [List.mem_singleton.mp hg]
        exact ⟨hS, .inr (n2 rfl)⟩
      · refine ⟨[.raw l (.tup us)], fun g hg => ?_, fun A mp H h => (h _ (List.mem_singleton.mpr rfl)).1⟩
        rw [List.mem_singleton.mp hg]
        exact ⟨hS, .inl ⟨us, rfl⟩⟩
    have r2 : SR { F with gh := F.gh ++ (ghosts ds vs ++ gs) } A1 mp1 _ σ H1 := r1.more fun g hg => (List.mem_append.mp hg).elim (ghosts_ok rvs g) (hg1 g)
    generalize hf : (fun d => M.bind (setTg t d) fun _ => evSt T R b) = f at res
    refine ⟨fun i m σ H => m = vs.length - i ∧ i ≤ vs.length ∧ ∃ s A mp, SR { F with gh := F.gh ++ (ghosts ds vs ++ gs) } A mp s σ H ∧ SRes F W D' (forL f (ds.drop i) s), ⟨vs.length, by simp, Nat.zero_le _, _, A1, mp1, r2, by simpa using res⟩, ?_⟩
    rintro i m σ2 H2 ⟨rfl, hi, s2, A2, mp2, r3, res2⟩
    have gall : ∀ g ∈ ghosts ds vs ++ gs, GOk F.ca (AA A2 mp2) mp2 H2 g := fun g hg => r3.env.gh g (List.mem_append_right _ hg)
    have hS2 : S H2 := hg2 A2 mp2 H2 fun g hg => gall g (List.mem_append_right _ hg)
    by_cases hlt : i < vs.length
    · refine .inr ⟨src.go i H2 hS2 hlt, fun σ' H' => ∃ s A mp, SR { F with gh := F.gh ++ (ghosts ds vs ++ gs) } A mp s σ' H' ∧ SRes F W D' (forL f (ds.drop (i + 1)) s), fun σ' H' hh => ⟨vs.length - (i + 1), by omega, rfl, by omega, hh⟩, fun x H' hy => ?_⟩
      obtain ⟨rfl, hx⟩ := src.yld i H2 x H' hS2 hlt hy
      have hdrop : ds.drop i = ds[i]'(by omega) :: ds.drop (i + 1) := List.drop_eq_getElem_cons (by omega)
      rw [hdrop] at res2
      have hd : ds[i]? = some (ds[i]'(by omega)) := by simp [show i < ds.length by omega]
      generalize ds[i]'(by omega) = d at res2 hd
      have rvx : RV F.ca (AA A2 mp2) mp2 H' d x := by
        have hm : G.rv d x ∈ ghosts ds vs := by
          unfold ghosts
          refine List.mem_map.mpr ⟨(d, x), ?_, rfl⟩
          refine List.mem_of_getElem? (i := i) ?_
          rw [List.getElem?_zip_eq_some]
          exact ⟨hd, hx⟩
        exact gall _ (List.mem_append_left _ hm)
      simp only [forL] at res2
      unfold M.bind at res2
      subst hf
      dsimp only at res2
      unfold M.bind at res2
      cases hset2 : setTg t d s2 with
      | bad => rw [hset2] at res2; exact res2.elim
      | exc y z => rw [hset2] at res2; exact (noExcTg hset2).elim
      | ok u s3 =>
        rw [hset2] at res2
        dsimp only at res2
        refine ⟨_, s2, A2, mp2, d, s3, r3, rvx, hset2, fun σ3 r4 => ⟨_, s3, A2, mp2, r4, ?_⟩⟩
        cases hbd : evSt T R b s3 with
        | bad => rw [hbd] at res2; exact res2.elim
        | exc y z =>
          rw [hbd] at res2
          exact fun A mp σ H cls dd r => res2 A mp σ H cls dd r.weak
        | ok k s4 =>
          rw [hbd] at res2
          cases k with
          | nx => exact fun A mp σ H r => ⟨s4, A, mp, r, res2⟩
          | ct => exact fun A mp σ H r => ⟨s4, A, mp, r, res2⟩
          | brk => exact fun A mp σ H r => res2 A mp σ H r.weak
          | ret v => exact res2
    · have e : i = vs.length := by omega
      subst e
      refine .inl ⟨src.stop _ H2 hS2 (Nat.le_refl _), ?_⟩
      rw [hlen, List.drop_length] at res2
      exact res2 A2 mp2 σ2 H2 r3.weak
end
end DL
end
section
set_option Elab.async false
set_option linter.all false
set_option maxRecDepth 100000
/-! Stm7: try .. except X as n. -/
namespace DL
open PySem L2 PyProof.Rows
section
variable {X : Cx} {F : Fm} {T : Tab} {R : Rec} {L : Nms} {N : List Str} {hot : Bool} {sc : Scope} {W : WX} {fl : Bool} {i j : Nat} {x y n : Str} {px p2 ap cp pos np pos' : Pos} {D' : Ends} {A : Addr → Prop} {mp : List Addr} {s : S} {σ : L2.St} {H : Hp}
theorem SCn.tr (c : SCn X F T R L N hot sc W fl) (h0 : hot = false) {W' : WX} {pn : List (Addr × Obj)} {xe : Value → Shared → Prop} (tk : Takes (X.tr pn xe) W') (hp : PassesOwn (model X.prog X.w) X.A X.env xe) : SCn (X.tr pn xe) F T R L N hot sc W' fl := by
  obtain ⟨h1, h2, h3, h4⟩ := c.c.cold h0
  refine ⟨⟨c.c.hK, c.c.tok, c.c.hN, c.c.hsc, c.c.nd, c.c.units, ?_, c.c.gl, fun _ => ⟨h1, h2, tk, ⟨fun f fn x e1 e2 => ⟨(h4.fn f fn x e1 e2).ex⟩, h4.t0, fun c cl fn e1 e2 e3 => ⟨(h4.new c cl fn e1 e2 e3).ex⟩, h4.n0, h4.me⟩⟩⟩, hp, c.stk, c.fn, c.fx⟩
  rw [h1]; intro p hp; cases hp
theorem SCn.suite (c : SCn X F T R L N hot sc W fl) {a : Addr} {oe : Obj} {pn : List (Addr × Obj)} : SCn (X.suite a ((a, oe) :: pn)) { F with xn := [(a, oe)] } T R L N true sc noW fl := by
  refine ⟨⟨c.c.hK, c.c.tok, c.c.hN, c.c.hsc, c.c.nd, c.c.units, ?_, c.c.gl, (fun h => by cases h)⟩, PassesOwn.never, (fun h => by cases h), c.fn, c.fx⟩
  intro p hp
  rw [List.mem_singleton.mp hp]
  exact List.mem_cons_self
theorem st_try {cn : Nat} {cl : Cl} {b h : DL.St} {body suite : List Stmt} {b0 : Stmt} (c : SCn X F T R L N hot sc W fl) (h0 : hot = false) (hN : N[i]? = some n) (hl : sc.names.lookup n = some .local) (hf : (!fl || i != 0) = true) (hcl : (T.cl cn) = some cl) (hx : cl.name = x) (hg : gloB sc x = true) (ho : okName x = true)
    (hb : ∀ (pn : List (Addr × Obj)) (xe : Value → Shared → Prop) (W' : WX), SCn (X.tr pn xe) F T R L N hot sc W' fl → PSs (X.tr pn xe) body (tM F W' (evSt T R b)))
    (hsu : ∀ (a : Addr) (oe : Obj) (pn : List (Addr × Obj)), SCn (X.suite a ((a, oe) :: pn)) { F with xn := [(a, oe)] } T R L N true sc noW fl → PSs (X.suite a ((a, oe) :: pn)) (b0 :: suite) (tM { F with xn := [(a, oe)] } noW (evSt T R h))) :
    PS X (.Try body [.ExceptHandler (some (.Name x np)) (some n) (b0 :: suite) pos'] [] [] pos) (tM F W (evSt T R (.try1 b cn i h))) := by
  obtain ⟨h1, h2, h3, h4⟩ := c.c.cold h0
  obtain ⟨hs1, hs2⟩ := c.stk h0
  subst hx
  refine (ps_try_as (i := i) (n := n) (x := cl.name) (c := .ref (F.ca.at_ cn)) (Wout := W) (tb := fun W' => tM F W' (evSt T R b))
    (ts := fun a cls d D σ H => ∀ oe, Zc cls d oe → (∃ vs, oe.data = .fields vs) → tM { F with xn := [(a, oe)] } noW (evSt T R h) D σ H) hs1 hs2 (by rw [c.c.hN]; exact c.c.nd) (by rw [c.c.hN]; exact hN) (by show X.env.scope.names.lookup n = _; rw [c.c.hsc]; exact hl)
    ⟨c.c.glb hg, okName_1 ho, .inl (c.c.gl.cls cn cl hcl)⟩ h3 (fun W' pn xe tk hp => hb pn xe W' (c.tr h0 tk hp)) (fun a oe cls d pn hz hfl => (hsu a oe pn c.suite).imp fun D σ H hh => hh oe hz hfl)).imp fun D' σ H ⟨s, A, mp, r, res⟩ => ?_
  refine ⟨s, A, mp, r, ?_⟩
  simp only [evSt] at res
  cases q : evSt T R b s with
  | ok k s1 => rw [q] at res; cases k <;> exact res
  | bad => rw [q] at res; exact res
  | exc xx s1 =>
    rw [q] at res
    dsimp only at res
    intro A1 mp1 σ1 H1 cls dd r1 hx1
    obtain ⟨e1, e2, gs, e3, e4⟩ := hx1
    subst e1
    cases hxc : (T.cl xx.c) with
    | none => rw [hxc] at res; exact res.elim
    | some cx =>
      rw [hxc] at res
      dsimp only at res
      by_cases hk : (cx.exc && excAt T cn) = true
      · rw [if_pos hk] at res
        simp only [Bool.and_eq_true] at hk
        have hex := c.c.tok.exm xx.c cx cn hxc hk.1 hk.2
        rw [← c.c.hK] at hex
        refine ⟨cx.sups.contains cn, hex, fun hb1 a ha oe hz hfl => ?_, fun hb1 => ?_⟩
        · rw [if_pos hb1] at res
          unfold mild M.bind at res
          cases hset : setSlot i (.dat (.exn xx.c xx.fs)) s1 with
          | bad => rw [hset] at res; exact res.elim
          | exc _ _ => exact (noExcS hset).elim
          | ok u s2 =>
            rw [hset] at res
            dsimp only at res
            have hi : i < s1.env.length ∧ s2 = ⟨s1.env.set i (some (.dat (.exn xx.c xx.fs))), s1.per⟩ := by
              unfold setSlot at hset
              by_cases hi : i < s1.env.length
              · rw [if_pos hi] at hset; cases hset; exact ⟨hi, rfl⟩
              · rw [if_neg hi] at hset; cases hset
            obtain ⟨hi, rfl⟩ := hi
            have r2 : SR { F with xn := [(a, oe)] } A1 mp1 s1 σ1 H1 := r1.xn' rfl rfl rfl rfl rfl rfl (by rw [h1]; intro p hp; cases hp)
            have r3 := r2.setExn (v := .ref a) (c := xx.c) (fs := xx.fs) hi ⟨a, oe, dd, gs, rfl, List.mem_singleton.mpr rfl, hz, hfl, e2, e3, e4⟩ (c.fx' hf)
            refine ⟨_, A1, mp1, r3, ?_⟩
            cases hh : evSt T R h ⟨s1.env.set i (some (.dat (.exn xx.c xx.fs))), s1.per⟩ with
            | bad => rw [hh] at res; exact res.elim
            | exc _ _ => rw [hh] at res; exact res.elim
            | ok k s3 =>
              rw [hh] at res
              dsimp only at res
              unfold wipeSlot M.ret at res
              by_cases hcl2 : (s3.env.set i none).any exnSl = true
              · rw [if_pos hcl2] at res; exact res.elim
              · rw [if_neg hcl2] at res
                have out : ∀ A mp σ H, SR { F with xn := [(a, oe)] } A mp s3 σ H → SR F A mp ⟨s3.env.set i none, s3.per⟩ (σ.set i none) H := fun A mp σ H r => by
                  refine (r.wipe i (c.fx' hf)).xn rfl rfl rfl rfl rfl rfl fun j c' fs hj => ?_
                  refine hcl2 (List.any_eq_true.mpr ⟨_, List.mem_of_getElem? hj, rfl⟩)
                cases k with
                | nx => exact fun A mp σ H r => res A mp _ H (out A mp σ H r)
                | brk => exact fun A mp σ H r => res A mp _ H (out A mp σ H r)
                | ct => exact fun A mp σ H r => res A mp _ H (out A mp σ H r)
                | ret d => exact res
        · have hb2 : ¬ (cx.sups.contains cn = true) := by rw [hb1]; decide
          rw [if_neg hb2] at res
          exact res A1 mp1 σ1 H1 _ dd r1 ⟨rfl, e2, gs, e3, e4⟩
      · rw [if_neg hk] at res; exact res.elim
end
end DL
end
section
set_option Elab.async false
set_option linter.all false
set_option maxRecDepth 100000
set_option maxHeartbeats 2000000
/-! Err: the program's own errors: __init__ says super().__init__(text), then keeps each argument under its name. -/
namespace DL
open PySem PySem.W PySem.Calls PyProof.Rows PySem.HandSPX
/-- self.f = f, one behind another -/
def keepsAll : List Str → List Stmt → Bool
  | [], [] => true
  | f :: fs, .Assign [.Attribute (.Name s _) g _] (.Name h _) _ :: r => decide (s = "self") && decide (g = f) && decide (h = f) && keepsAll fs r
  | _, _ => false
theorem keepsAll_cons {f : Str} {fs : List Str} {body : List Stmt} (h : keepsAll (f :: fs) body = true) : ∃ p1 p2 p3 p4 r, body = .Assign [.Attribute (.Name "self" p1) f p2] (.Name f p3) p4 :: r ∧ keepsAll fs r = true := by
  unfold keepsAll at h
  split at h
  · rename_i q; cases q
  · rename_i q
    cases q
    simp only [Bool.and_eq_true, decide_eq_true_eq] at h
    obtain ⟨⟨⟨rfl, rfl⟩, rfl⟩, h2⟩ := h
    exact ⟨_, _, _, _, _, rfl, h2⟩
  · cases h
def isSup : Stmt → Bool
  | .Expr (.Call (.Attribute (.Call (.Name s _) [] [] _) i ap) [.Constant (.str _) _ _] [] p) _ => decide (s = "super") && decide (i = "__init__") && (ap.endLine == p.line)
  | _ => false
/-- what the written part says of an error's class and its __init__ -/
structure XTxt (prog : Program) (K : Frag) (mg : Str → Option Value) (C fI : Addr) (flds : List Str) : Prop where
  cls : ∃ nm q N bs bm sn sub ab col dd k0 k1 k2 k3 k5, K.lookup C = some (excClassObj nm q C N bs bm true sn sub ab col dd k0 k1 k2 k3 k5 "ValueError.__new__") ∧ refsVE bm = true
  sa : findIn K (.ref C) "__setattr__" = some (some (.builtin "object.__setattr__"))
  no : ∀ f ∈ flds, findIn K (.ref C) f = some none
  iC : findIn K (.ref C) "__init__" = some (some (.ref fI))
  tC : typeIn K (.ref fI) = some (.type "function")
  kC : keepIn K (.ref C) = true
  exC : subIn K (.ref C) (.type "BaseException") = some true
  tyC : typeIn K (.ref C) = some (.type "type")
  veC : subIn K (.ref C) (.type "ValueError") = some true
  meC : mroIn K C (.ref C) = some true
  sup : ks_superIn K C C "__init__" = some (some (.builtin "ValueError.__init__"))
  stat : nsIn K cStatics "thirdparty.any" = some none
  nosup : mg "super" = none
  top : (prog.main.scope.names.lookup ("super" : Str)).isSome = false
  nd : (("self" : Str) :: flds).Nodup
  ne : flds ≠ []
  few : flds.length ≤ 100
  dbg : ∀ f ∈ flds, (f == ("__debug__" : Str)) = false
  fn : ∃ (oc : Value) (od : Option Addr) (name qual : Str) (params : Arguments) (st : Stmt) (body : List Stmt) (scope : Scope) (dV kV doc pm : Value) (an : Option Addr) (cda : Addr) (ct : Value) (cc : Addr) (osl : Array (Option Value)) (ar : Arg) (ccl : Value) (cdd : Option Addr) (vs : Array Value) (ccs : Array (Option Value)) (file : Str) (tf : Tok) (cl : Value) (cld : Option Addr) (csl : Array (Option Value)),
    K.lookup fI = some ⟨oc, od, .func (ksFn name qual params (st :: body) scope dV kV doc pm an (.ref cda) ct cc), osl⟩ ∧ codeIn K (.ref cda) qual = true ∧
    (∀ us : List Value, us.length = flds.length + 1 → bindArgs (ksFn name qual params (st :: body) scope dV kV doc pm an (.ref cda) ct cc) ⟨us, []⟩ = pure ((("self" : Str) :: flds).zip us)) ∧
    isSup st = true ∧ keepsAll flds body = true ∧ (params.posonlyargs ++ params.args).head? = some ar ∧ ar.arg = "self" ∧
    K.lookup cda = some ⟨ccl, cdd, .fields vs, ccs⟩ ∧ vs[2]? = some (.str file tf) ∧ ((prog.main.file : Str) == file) = true ∧
    K.lookup cc = some ⟨cl, cld, .cell (some (.ref C)), csl⟩ ∧
    scope.names.lookup ("super" : Str) = some .globalImplicit ∧ scope.names.lookup ("__class__" : Str) = some .free ∧ (∀ f ∈ ("self" : Str) :: flds, scope.names.lookup f = some .local) ∧ (∀ y ∈ scope.names, y.2 ≠ .cell) ∧ scope.kind = .function ∧ scope.isCoroutine = false ∧ scope.isGenerator = false
theorem ns_keep {h h' : Heap} {L : Addr} {m : Str → Option Value} (hn : h.Ns L m) (k : ∀ o, h.get? L = some o → h'.get? L = some o) : h'.Ns L m := by
  obtain ⟨oL, es, ep, hL, r⟩ := hn
  exact ⟨oL, es, ep, k _ hL, r⟩
section
variable {prog : Program} {w : World} {A : Around} {E : Value → Shared → Prop} {K : Frag} {mg : Str → Option Value} {C fI : Addr} {flds : List Str} {g : Array GenState} {d : Drawn} {os : OsState}
/-- further fields -/
theorem keeps_old {env : PySem.Env} {x dx : Addr} {fv : Array Value} {cd : ClassData} {m : Str → Option Value} {val : Str → Value} {Q : Flow → Shared → Prop} (hk : env.scope.kind = .function) (hcd : clsIn K C = some cd) (hm : refsVE cd.mro = true) (hh : cd.hasDict = true) (sa : findIn K (.ref C) "__setattr__" = some (some (.builtin "object.__setattr__")))
    (hself : env.kindOf "self" = some .local) (mself : m "self" = some (.ref x)) (hLd : env.locals ≠ dx) (hnK : ∀ o, K.lookup dx ≠ some o) :
    ∀ (fs : List Str) (body : List Stmt) (h : Heap) (t : Nat) (m0 : Str → Option Value) (nl : List Str), keepsAll fs body = true → K.In h → h.Ns env.locals m → (∀ f ∈ fs, findIn K (.ref C) f = some none ∧ env.kindOf f = some .local ∧ m f = some (val f) ∧ (f == ("__debug__" : Str)) = false) → h.get? x = some { cls := .ref C, dict := some dx, data := .fields fv } → x ≠ dx →
      h.Ns1 dx m0 → Within m0 nl → nl.length + fs.length ≤ 1000 →
      (∀ h' t', (∀ b o, b ≠ dx → h.get? b = some o → h'.get? b = some o) → h'.Ns1 dx (fs.foldl (fun m f y => if y = f then some (val f) else m y) m0) → Q .next ⟨h', g, d, t', os⟩) →
      wpAny (model prog w) A (execs body env) Q E ⟨h, g, d, t, os⟩
  | [], body, h, t, m0, nl, hb, X, hn, hf, hx, hxd, h0, hw, hl, hq => by
    cases body with
    | cons _ _ => simp [keepsAll] at hb
    | nil => exact wpAny_execs_nil (hq h t (fun _ _ _ e => e) h0)
  | f :: fs, body, h, t, m0, nl, hb, X, hn, hf, hx, hxd, h0, hw, hl, hq => by
    obtain ⟨p1, p2, p3, p4, r, rfl, hb2⟩ := keepsAll_cons hb
    · obtain ⟨f1, f2, f3, f4⟩ := hf f List.mem_cons_self
      refine wpAny_execs_cons (plainObj_wpAny_Assign_Attribute ?_)
      refine wpAny_Name (wpAny_loadName_local hk f2 hn f3 ?_) f4
      refine wpAny_Name (wpAny_loadName_local hk hself hn mself ?_) (by decide)
      obtain ⟨oD, esD, epD, hoD, hdD, _⟩ := h0.count hw
      refine set_plain X (ox := { cls := .ref C, dict := some dx, data := .fields fv }) (od := some oD) ⟨hx, rfl, rfl, hoD⟩ sa ?_
      refine OEX.osa_old X hx h0 hw (by simp at hl; omega) hcd hm hh f1 fun h2 t2 k2 n2 => ?_
      show wpAny _ _ (execs r env) _ _ _
      refine keeps_old hk hcd hm hh sa hself mself hLd hnK fs r h2 t2 _ (f :: nl) hb2 (fun a o e => k2 a o (fun z => hnK o (z ▸ e)) (X a o e)) (ns_keep hn fun o e => k2 _ o hLd e) (fun f hf' => hf f (List.mem_cons_of_mem _ hf')) (k2 x _ hxd hx) hxd n2 (Within.cons f _ hw) (by simp at hl ⊢; omega) fun h3 t3 k3 n3 => ?_
      exact hq h3 t3 (fun b o hb e => k3 b o hb (k2 b o hb e)) n3
theorem isSup_eq {st : Stmt} (h : isSup st = true) : ∃ p0 p1 ap z j p2 p pos, st = .Expr (.Call (.Attribute (.Call (.Name "super" p0) [] [] p1) "__init__" ap) [.Constant (.str z) j p2] [] p) pos ∧ (ap.endLine == p.line) = true := by
  unfold isSup at h
  split at h
  · simp only [Bool.and_eq_true, decide_eq_true_eq] at h
    obtain ⟨⟨rfl, rfl⟩, h3⟩ := h
    exact ⟨_, _, _, _, _, _, _, _, rfl, h3⟩
  · cases h
/-- what __init__ leaves of a fresh error at x -/
structure InitEnd (h h' : Heap) (x C dx t1 : Addr) (m : Str → Option Value) : Prop where
  keep : ∀ b o, b ≠ x → h.get? b = some o → h'.get? b = some o
  obj : h'.get? x = some { cls := .ref C, dict := some dx, data := .fields #[.ref t1, .none, .none, .none, .bool false, .none] }
  dbig : h.objs.size ≤ dx
  dne : dx ≠ x
  ns : h'.Ns1 dx m
/-- the built-in __init__, bound, called -/
theorem bound_init {u e t0 : Addr} {rest : List Value} {Q : Value → Shared → Prop} {h : Heap} {t : Nat} {nm q : Str} {N : Addr} {bs bm : List Value} {sn : List Str} {sub : List Value} {ab : Bool} {col : Option Bool} {dd : Option Addr} {k0 k1 k2 k3 k5 : Option Value}
    (hC : h.get? C = some (excClassObj nm q C N bs bm true sn sub ab col dd k0 k1 k2 k3 k5 "ValueError.__new__")) (he : h.get? e = some (excO C t0)) (hu : h.get? u = some (kxs_mw "ValueError.__init__" e)) (hz : rest.length ≤ sizeLine)
    (hq : ∀ h' t1, (∀ b o, b ≠ e → h.get? b = some o → h'.get? b = some o) → h'.get? e = some (excO C t1) → Q .none ⟨h', g, d, t, os⟩) :
    wpAny (model prog w) A (call (.ref u) rest) Q E ⟨h, g, d, t, os⟩ := by
  refine wpAny_call (codeAny_of_tree ?_)
  show wpAny _ A.in1 (callAny (.ref u) ⟨rest, []⟩) _ _ _
  simp only [callAny]
  refine wpAny_bind (wpAny_load hu ?_)
  simp only [kxs_mw, show (Value.type "method-wrapper" == Value.type "method" || Value.type "method-wrapper" == Value.type "builtin_function_or_method" || Value.type "method-wrapper" == Value.type "method-wrapper") = true by decide, if_true]
  refine KFB.if_so (by decide) ?_
  refine wpAny_bind (check_bound_init F.excBase_ValueError.toExcCallFacts hC he rfl ?_)
  refine wpAny_bind (wpAny_pure (wpAny_pure ?_))
  refine ⟨plainId_quiet F.excBase_ValueError.init.plain _, codeAny_builtin F.excBase_ValueError.initEntry ?_⟩
  exact exc_init_tree (cls := .ref C) (t0 := t0) (dv := none) (c2 := .none) (c3 := .none) (b4 := .bool false) he hz fun h' k e' _ => hq h' _ k e'
theorem sup_tree {o : Expr} {m : Str} {ap p : Pos} {l : List Expr} {env : PySem.Env} (hs : NoStar env l) (hl : (ap.endLine == p.line) = true) (hn : l.length < 30) :
    eval (.Call (.Attribute o m ap) l [] p) env = (do
      let ov ← attributeBase o m env (eval o env)
      standAt ap.atName
      let (f, first) ← holding [ov] (getMethod ov m (do return (← importBound o env).getD true))
      callWith p f first (backTo p (starEach l env)) []) := by
  have hf : methodCallForm (l.length + ([] : List Keyword).length) (backTo p (starEach l env)) (backToKw p (keywordEach [] env)) = true := by
    unfold methodCallForm
    have h1 := hs.all p
    simp only [Bool.and_eq_true, decide_eq_true_eq]
    refine ⟨⟨?_, rfl⟩, by show l.length + 0 + 0 < 30; omega⟩
    rw [List.any_eq_false] at h1
    rw [List.all_eq_true]
    intro x hx
    simpa using h1 x hx
  have hp : methodCallPos true o env ap p = pure p := by unfold methodCallPos; simp [hl]
  rw [arm_eval_Call]
  unfold methodCall calleeOf
  rw [hf]
  simp only [if_true, hp, pure_bind]
  rfl
theorem look_rev {β : Type} : ∀ {l : List (Str × β)} (y : Str), (l.map (·.1)).Nodup → l.reverse.lookup y = l.lookup y
  | [], y, _ => rfl
  | (a, b) :: l, y, nd => by
    simp only [List.map_cons, List.nodup_cons] at nd
    rw [List.reverse_cons, List.lookup_append, look_rev y nd.2]
    by_cases e : y = a
    · subst e
      have : l.lookup y = none := by
        cases q : l.lookup y with
        | none => rfl
        | some v => exact (nd.1 (List.mem_map.mpr ⟨_, PySem.mem_of_lookup q, rfl⟩)).elim
      rw [this]
      simp [List.lookup]
    · have : (y == a) = false := by simpa using e
      simp [List.lookup, this]
theorem own_init (T : XTxt prog K mg C fI flds) {R : Result → Shared → Prop} {x t0 : Addr} {us : List Value} {s : Shared} {mb : Str → Option Value} (X : K.In s.heap) (hlim : s.heap.NoLimit) (hg : s.heap.Ns mainGlobals mg) (hbt : s.heap.Ns builtinsNs mb) (hmb : ∀ y : Str, y ≠ "__name__" → mb y = bootBuiltins y)
    (hx : s.heap.get? x = some (excO C t0)) (hnx : K.lookup x = none) (hroom : A.depth < recursionLimit) (hus : us.length = flds.length)
    (hq : ∀ h' tk dx t1, InitEnd s.heap h' x C dx t1 (flds.foldl (fun m f y => if y = f then some (((flds.zip us).lookup f).getD .none) else m y) (fun _ => none)) → R (.ok (.ret .none)) { s with heap := h', toks := tk }) :
    codeAny (model prog w) A (.call (.ref fI) ⟨.ref x :: us, []⟩) R s := by
  obtain ⟨oc, od, name, qual, params, st, body, scope, dV, kV, doc, pm, an, cda, ct, cc, osl, ar, ccl, cdd, vs, ccs, file, tf, cl, cld, csl, ho, hcd, hbind, hst, hbody, hhead, har, hcda, hvs, hfile, hcell, hks, hkc, hloc, hnc, hkind, hco, hgen⟩ := T.fn
  obtain ⟨nm, q, N, bs, bm, sn, sub, ab, col, dd, k0, k1, k2, k3, k5, hC, hbm⟩ := T.cls
  have hcl : clsIn K C = some { name := nm, bases := bs, mro := .ref C :: bm, ns := N, qualname := q, hasDict := true, slotNames := sn, subclasses := sub, abstract := ab, collection := col, hasDel := false } := by unfold clsIn; rw [hC] <;> rfl
  have hm0 : refsVE (.ref C :: bm) = true := hbm
  obtain ⟨p0, p1, ap, z, j, p2, p, pos, rfl, hline⟩ := isSup_eq hst
  obtain ⟨hp, gg, dr, tk, oo⟩ := s
  refine ks_codeAny_call_defAt (binds := (("self" : Str) :: flds).zip (.ref x :: us)) hroom (X _ _ ho) rfl hlim (codeRec_of X hcd) rfl (BindsTo.of_eq (hbind (.ref x :: us) (by simp [hus]))) hnc (fun y hy => hloc y.1 (List.of_mem_zip hy).1) (fun h1 hn k1' => ?_) hco hgen hkind
  have X1 : K.In h1 := X.keeps k1'
  have hx1 := k1' _ _ hx
  have hzl : (("self" : Str) :: flds).length = (Value.ref x :: us).length := by simp [hus]
  have hkeys : (((("self" : Str) :: flds).zip (Value.ref x :: us)).map (·.1)) = ("self" : Str) :: flds := by rw [List.map_fst_zip (by omega)]
  have hm : ∀ y, ((("self" : Str) :: flds).zip (Value.ref x :: us)).reverse.lookup y = ((("self" : Str) :: flds).zip (Value.ref x :: us)).lookup y := fun y => look_rev y (by rw [hkeys]; exact T.nd)
  have mself : ((("self" : Str) :: flds).zip (Value.ref x :: us)).reverse.lookup ("self" : Str) = some (.ref x) := by rw [hm]; simp [List.lookup]
  have hself : scope.names.lookup ("self" : Str) = some .local := hloc _ List.mem_cons_self
  have nself : ∀ f ∈ flds, f ≠ ("self" : Str) := fun f hf z => (List.nodup_cons.mp T.nd).1 (z ▸ hf)
  have mf : ∀ f ∈ flds, ((("self" : Str) :: flds).zip (Value.ref x :: us)).reverse.lookup f = some (((flds.zip us).lookup f).getD .none) := fun f hf => by
    rw [hm]
    have e : (f == ("self" : Str)) = false := by simpa using nself f hf
    simp only [List.zip_cons_cons, List.lookup_cons, e]
    obtain ⟨i, hi⟩ := List.getElem?_of_mem hf
    have hil : i < flds.length := (List.getElem?_eq_some_iff.mp hi).1
    have hm2 : (f, us[i]'(by omega)) ∈ flds.zip us := by
      refine List.mem_of_getElem? (i := i) ?_
      rw [List.getElem?_zip_eq_some]
      exact ⟨hi, by simp [show i < us.length by omega]⟩
    cases q : (flds.zip us).lookup f with
    | some v => rfl
    | none =>
      obtain ⟨c', e'⟩ := L2.mem_lookup hm2
      rw [q] at e'; cases e'
  have hns : NoStar (callEnv (ksFn name qual params (.Expr (.Call (.Attribute (.Call (.Name "super" p0) [] [] p1) "__init__" ap) [.Constant (.str z) j p2] [] p) pos :: body) scope dV kV doc pm an (.ref cda) ct cc) hp.objs.size fI) [.Constant (.str z) j p2] := noStars rfl
  refine ks_wpAt_execs_cons (ks_wpAt_Expr_any (ks_wpAt_MethodCall ?_ (sup_tree hns hline (by show 1 < 30; omega))) (by unfold interactive; rw [show (callEnv (ksFn name qual params (.Expr (.Call (.Attribute (.Call (.Name "super" p0) [] [] p1) "__init__" ap) [.Constant (.str z) j p2] [] p) pos :: body) scope dV kV doc pm an (.ref cda) ct cc) hp.objs.size fI).scope.kind = .function from hkind]; rfl) rfl)
  refine ks_wpAt_super_base hks hkc (by decide) rfl (X1 _ _ ho) rfl hhead rfl (X1 _ _ hcda) rfl hvs hfile T.top ?_
  refine ks_loadName_global hkind hks (loadGlobal_builtin (hg.keeps k1') T.nosup (hbt.keeps k1') ((hmb _ (by decide)).trans (by decide +kernel : bootBuiltins "super" = some (.type "super"))) ⟨rfl, ?_⟩)
  refine wpAny_loadName_free hkind hkc rfl ⟨_, X1 _ _ hcell, rfl⟩ ?_
  rw [har]
  refine wpAny_loadName_local hkind hself hn mself ?_
  have hC1 := X1 _ _ hC
  refine ks_wpAny_isType_cls hC1 rfl ⟨rfl, ?_⟩
  refine ks_wpAny_call_super hC1 rfl hx1 rfl (fun c e => by cases e) (looks_mroIn X1 T.meC) fun h2 e2 k2' => ?_
  have X2 : K.In h2 := X1.keeps k2'
  have hx2 := k2' _ _ hx1
  have I2 : InstAt h2 x (excO C t0) C none := ⟨hx2, rfl, rfl, trivial⟩
  have hsup : alongIn K "__init__" (((Value.ref C :: bm).dropWhile (· != .ref C)).drop 1) = some (some (.builtin "ValueError.__init__")) := by
    have := T.sup
    unfold ks_superIn at this
    rw [hcl] at this
    exact this
  refine kxs_getMethod kxs_ValueError e2 (looks_opaque X2 T.stat) (l₀ := Value.ref C :: bm) (fun A Q E s k q => wpAny_bind ((looks_clsIn X2 hcl) A _ E s k (wpAny_pure q))) rfl X2 hsup (I2.type.andThen (looks_subIn X2 T.veC)) (ks_ne X2 I2 hcl) (by decide) ?_
  dsimp only
  have hget : (h2.push (kxs_mw "ValueError.__init__" x)).get? h2.objs.size = some (kxs_mw "ValueError.__init__" x) := Heap.get?_push_at rfl rfl
  refine kxs_callWith (i := "ValueError.__init__") (x := x) rfl ?_
  refine evalArgs_plain (spliced_cons (Constant_str (x := z) (k := j) (pos := p2) (spliced_nil ⟨hget, ?_⟩)))
  refine bound_init (Heap.get?_push_of_some _ (X2 _ _ hC)) (Heap.get?_push_of_some _ hx2) hget (by rw [sizeLine_eq]; show 1 ≤ 16777216; omega) fun h3 t1 k3 hx3 => ?_
  refine wpAt_of_wpAny ?_
  have kk : ∀ b o, b ≠ x → h1.get? b = some o → h3.get? b = some o := fun b o hb e => k3 b o hb (Heap.get?_push_of_some _ (k2' b o e))
  have X3 : K.In h3 := fun a o e => kk a o (fun z => by rw [z, hnx] at e; cases e) (X1 a o e)
  have hLx : hp.objs.size ≠ x := Nat.ne_of_gt (Heap.lt_size hx)
  have hn3 := ns_keep hn fun o e => kk _ o hLx e
  cases hfl : flds with
  | nil => exact (T.ne hfl).elim
  | cons f fs =>
    rw [hfl] at hbody
    obtain ⟨q1, q2, q3, q4, r, rfl, hb2⟩ := keepsAll_cons hbody
    · 
      have hfm : f ∈ flds := by rw [hfl]; exact List.mem_cons_self
      refine wpAny_execs_cons (plainObj_wpAny_Assign_Attribute ?_)
      refine wpAny_Name (wpAny_loadName_local hkind (hloc f (List.mem_cons_of_mem _ hfm)) hn3 (mf f hfm) ?_) (T.dbg f hfm)
      refine wpAny_Name (wpAny_loadName_local hkind hself hn3 mself ?_) (by decide)
      refine set_plain X3 (ox := excO C t1) (od := none) ⟨hx3, rfl, rfl, trivial⟩ T.sa ?_
      refine exc_osa X3 hx3 hcl hm0 rfl (T.no f hfm) fun h4 t4 dx k4 dn dne hx4 hn4 => ?_
      show wpAny _ _ (execs r _) _ _ _
      have hL3 : hp.objs.size < h3.objs.size := hn3.lt
      have hdx : hp.objs.size ≤ dx := Nat.le_trans (Nat.le_of_lt hL3) dn
      have nd4 : ∀ {b : Addr} {o : Obj}, h3.get? b = some o → b ≠ dx := fun {b o} e => Nat.ne_of_lt (Nat.lt_of_lt_of_le (Heap.lt_size e) dn)
      refine keeps_old (env := callEnv (ksFn name qual params (.Expr (.Call (.Attribute (.Call (.Name "super" p0) [] [] p1) "__init__" ap) [.Constant (.str z) j p2] [] p) pos :: .Assign [.Attribute (.Name "self" q1) f q2] (.Name f q3) q4 :: r) scope dV kV doc pm an (.ref cda) ct cc) hp.objs.size fI) (x := x) (dx := dx) (m := fun y => ((("self" : Str) :: flds).zip (Value.ref x :: us)).reverse.lookup y) (val := fun f => ((flds.zip us).lookup f).getD .none) hkind hcl hm0 rfl T.sa hself mself (Nat.ne_of_lt (Nat.lt_of_lt_of_le hL3 dn)) (fun o e => nd4 (X3 _ _ e) rfl) fs r h4 t4 _ [f] hb2
        (fun a o e => k4 a o (fun z => by rw [z, hnx] at e; cases e) (X3 a o e)) (ns_keep hn3 fun o e => k4 _ o hLx e) (fun f' hf => ?_) hx4 (Ne.symm dne) hn4 (Within.cons f _ Within.nil) ?_ fun h5 t5 k5 n5 => ?_
      · have hfm : f' ∈ flds := by rw [hfl]; exact List.mem_cons_of_mem _ hf
        exact ⟨T.no f' hfm, hloc f' (List.mem_cons_of_mem _ hfm), mf f' hfm, T.dbg f' hfm⟩
      · have := T.few
        rw [hfl] at this
        simp at this ⊢
        omega
      · refine hq h5 t5 dx t1 ⟨fun b o hb e => ?_, k5 x _ (Ne.symm dne) hx4, hdx, dne, ?_⟩
        · have e3 := kk b o hb (k1' b o e)
          exact k5 b o (nd4 e3) (k4 b o hb e3)
        · rw [hfl] at n5 ⊢
          exact n5
end
end DL
end
section
set_option Elab.async false
set_option linter.all false
set_option maxRecDepth 100000
set_option maxHeartbeats 2000000
namespace DL
open PySem PySem.W PySem.Calls PyProof.Rows PySem.HandSPX L2
/-- a made error -/
structure Made (h h' : Heap) (e C d : Addr) (m : Str → Option Value) : Prop where
  keep : ∀ b o, h.get? b = some o → h'.get? b = some o
  new : h.objs.size ≤ e
  obj : ∃ oe vs, h'.get? e = some oe ∧ oe.cls = .ref C ∧ oe.dict = some d ∧ oe.data = .fields vs ∧ vs[1]? = some .none
  dbig : h.objs.size ≤ d
  dne : d ≠ e
  ns : h'.Ns1 d m
def foldF (flds : List Str) (us : List Value) : Str → Option Value := flds.foldl (fun m f y => if y = f then some (((flds.zip us).lookup f).getD .none) else m y) (fun _ => none)
section
variable {prog : Program} {w : World} {A : Around} {R : Result → Shared → Prop} {s : Shared} {K : Frag} {mg mb : Str → Option Value} {C fI : Addr} {flds : List Str}
theorem own_made (T : XTxt prog K mg C fI flds) {us : List Value} (X : K.In s.heap) (hlim : s.heap.NoLimit) (hg : s.heap.Ns mainGlobals mg) (hbt : s.heap.Ns builtinsNs mb) (hmb : ∀ y : Str, y ≠ "__name__" → mb y = bootBuiltins y) (hroom : A.depth + 1 < recursionLimit) (hus : us.length = flds.length)
    (hq : ∀ h' tk e d, Made s.heap h' e C d (foldF flds us) → R (.ok (.ret (.ref e))) { s with heap := h', toks := tk }) :
    codeAny (model prog w) A (.call (.ref C) ⟨us, []⟩) R s := by
  obtain ⟨nm, q, N, bs, bm, sn, sub, ab, col, dd, k0, k1, k2, k3, k5, hC, hbm⟩ := T.cls
  obtain ⟨hp, g, dr, tk, os⟩ := s
  have k : ∀ b o, hp.get? b = some o → ((hp.push (kdv_tup us)).push (excO C hp.objs.size)).get? b = some o := fun b o e => Heap.get?_push_of_some _ (Heap.get?_push_of_some _ e)
  have hget : ((hp.push (kdv_tup us)).push (excO C hp.objs.size)).get? (hp.objs.size + 1) = some (excO C hp.objs.size) := by heap_get
  have hnx : K.lookup (hp.objs.size + 1) = none := by
    cases e : K.lookup (hp.objs.size + 1) with
    | none => rfl
    | some o => exact absurd (Nat.lt_of_succ_lt (Heap.lt_size (show hp.get? (hp.objs.size + 1) = some o from X _ _ e))) (Nat.lt_irrefl _)
  have hz : us.length ≤ sizeLine := by
    rw [sizeLine_eq, hus]
    have := T.few
    omega
  refine call_own F.excBase_ValueError (fun Y => refsVE_contains Y bm hbm) (X _ _ hC) (looks_findIn X T.iC) (fun self => bind_fn X self T.tC) hz ?_
  refine own_init (s := ⟨(hp.push (kdv_tup us)).push (excO C hp.objs.size), g, dr, tk, os⟩) T (X.keeps k) (hlim.keeps k) (hg.keeps k) (hbt.keeps k) hmb hget hnx ?_ hus fun h' tk' dx t1 ⟨k', hx, dn, dne, hns⟩ => ?_
  · show A.depth + 1 < recursionLimit
    exact hroom
  · have old : ∀ b o, hp.get? b = some o → h'.get? b = some o := fun b o e => k' b o (Nat.ne_of_lt (Nat.lt_succ_of_lt (Heap.lt_size e))) (k b o e)
    have z : hp.objs.size + 1 + 1 ≤ dx := by
      have q := dn
      simp only [Heap.size_push] at q
      exact q
    exact ⟨rfl, hq h' tk' (hp.objs.size + 1) dx ⟨old, Nat.le_succ _, ⟨_, _, hx, rfl, rfl, rfl, rfl⟩, Nat.le_trans (Nat.le_trans (Nat.le_succ _) (Nat.le_succ _)) z, dne, hns⟩⟩
end
/-- the fields by name -/
theorem fold_get {us : List Value} : ∀ (l : List Str) (m0 : Str → Option Value) (val : Str → Value) (y : Str), (l.foldl (fun m f y => if y = f then some (val f) else m y) m0) y = if y ∈ l then some (val y) else m0 y
  | [], m0, val, y => by simp
  | f :: l, m0, val, y => by
    rw [List.foldl_cons, fold_get (us := us) l]
    by_cases h : y ∈ l
    · simp [h]
    · by_cases e : y = f
      · subst e; simp [h]
      · simp [h, e]
theorem zip_rel : ∀ {flds : List Str} {vs : List V} {us : List Value}, Vals vs us → us.length = flds.length → ∀ f, RelO ((flds.zip vs).lookup f) (if f ∈ flds then some (((flds.zip us).lookup f).getD .none) else none)
  | [], vs, us, r, hl, f => by simp [RelO]
  | g :: l, [], us, r, hl, f => by cases r; simp at hl
  | g :: l, v :: vs, us, r, hl, f => by
    cases r with
    | cons rv rr =>
      rename_i u us'
      by_cases e : f = g
      · subst e
        simp only [List.zip_cons_cons, List.lookup_cons, beq_self_eq_true, List.mem_cons, true_or, if_true]
        exact rv
      · have hb : (f == g) = false := by simpa using e
        simp only [List.zip_cons_cons, List.lookup_cons, hb, List.mem_cons, e, false_or]
        exact zip_rel rr (by simpa using hl) f
section
variable {X : Cx} {C fI : Addr} {flds : List Str}
def tMkX (C : Addr) (flds : List Str) (ta : TA) : L2.St → Hp → XK → Prop := fun σ H Q => ta σ H fun vs H1 => vs.length = flds.length ∧ ∀ d, H1 d = none → Q (.ref C) (some d) (upd H1 d (.xd (flds.zip vs)))
theorem pmk_own' (T : XTxt X.prog X.K X.mg C fI flds) {x : Str} {e : Expr} {es : List Expr} {ta : TA} {p pos : Pos} (hr : X.A.depth + 10 < recursionLimit) (hg : Gl X x) (hm : X.mg x = some (.ref C)) (ho : (x == ("__debug__" : Str)) = false) (ha : PA X (e :: es) ta)
    (he : starEach (e :: es) X.env = (false, eval e X.env) :: starEach es X.env) (hpl : (backTo pos (starEach es X.env)).any (·.1) = false) : PMk X (.Call (.Name x p) (e :: es) [] pos) (tMkX C flds ta) := by
  intro pins s σ H Q I h
  refine wpAny_Call_Name_kw (ld_glob I hg hm ?_ ho)
  refine callWith_K (h₀ := X.base) I.ok.mod.kin T.kC (thn (ha.run pos pins s σ H _ I h) fun us s1 hh => ?_) he hpl
  obtain ⟨vs, H1, I1, r1, hz, q1⟩ := hh
  refine ⟨I1.kIn, ?_⟩
  show wpAny _ _ (call (.ref C) us) _ _ _
  have hlim := I1.nolimit
  obtain ⟨mb, hb1, hb2⟩ := I1.mod.blt
  have hbt := hb1.keeps I1.bk
  have hgl := I1.mod.glob.keeps I1.bk
  obtain ⟨hp, g, dr, tk, os⟩ := s1
  have hus : us.length = flds.length := by rw [← r1.length]; exact hz
  refine wpAny_call (own_made T I1.kIn hlim hgl hbt hb2 (by show X.A.depth + 1 < _; omega) hus fun h' tk' e d M => ?_)
  show MkP X pins σ Q (.ref e) ⟨h', g, dr, tk', os⟩
  obtain ⟨oe, fv, hoe, hc, hd, hdat, h1⟩ := M.obj
  have hns := M.ns
  obtain ⟨G', g1, g2⟩ := restrict h' fun b => decide (b ≠ e)
  have gk : ∀ b, b ≠ e → G'.get? b = h'.get? b := fun b hb => g1 b (decide_eq_true hb)
  have ge : G'.get? e = none := g2 e (by simp)
  have old : ∀ b o, hp.get? b = some o → G'.get? b = some o := fun b o q => (gk b (Nat.ne_of_lt (Nat.lt_of_lt_of_le (Heap.lt_size q) M.new))).trans (M.keep b o q)
  have ob : ObjOk X.prog X.w (upd H1 d (.xd (flds.zip vs))) G' d (.xd (flds.zip vs)) := by
    refine ⟨_, hns.at (fun o q => (gk d M.dne).trans q), fun f => ?_⟩
    unfold foldF
    rw [fold_get (us := us)]
    exact zip_rel r1 hus f
  have J : Inv X pins σ (upd H1 d (.xd (flds.zip vs))) ⟨G', g, dr, tk', os⟩ := I1.laid (t' := tk') old M.dbig ob
  refine ⟨e, oe, fv, ⟨G', g, dr, tk', os⟩, _, .ref C, some d, rfl, J, fun b o q => ?_, ge, hoe, ⟨hc, hd⟩, hdat, h1, ?_, rfl, I1.bare, raises_own T.exC T.tyC, q1 d (I1.hok.fresh M.dbig)⟩
  · by_cases hb : b = e
    · have q' : G'.get? b = some o := q
      rw [hb, ge] at q'; cases q'
    · exact (gk b hb).symm.trans q
  · rw [upd_ne (Ne.symm M.dne)]
    exact I1.hok.fresh M.new
end
def XOk (X : Cx) (ca : Lk) (T : Tab) : Prop := ∀ (c : Nat) (cl : Cl), (T.cl c) = some cl → cl.exc = true → cl.flds ≠ [] → ∃ fI, XTxt X.prog X.K X.mg (ca.at_ c) fI cl.flds
section
variable {X : Cx} {F : Fm} {T : Tab} {R : Rec} {L : Nms} {N : List Str} {hot : Bool} {sc : Scope} {W : WX} {fl : Bool}
theorem zip_rf {ca : Lk} {A : Addr → Prop} {mp : List Addr} {H : Hp} : ∀ {flds : List Str} {ds : List D} {vs : List V}, RVs ca A mp H ds vs → RF ca A mp H (flds.zip ds) (flds.zip vs)
  | [], ds, vs, h => by simp [RF]
  | f :: l, [], vs, h => by simp only [RVs] at h; subst h; simp [RF]
  | f :: l, d :: ds, vs, h => by
    simp only [RVs] at h
    obtain ⟨v, r, rfl, h1, h2⟩ := h
    simp only [List.zip_cons_cons, RF]
    exact ⟨v, _, rfl, h1, zip_rf h2⟩
theorem st_raise {cn : Nat} {cl : Cl} {es : Exs} {x : Str} {p pos pos2 : Pos} {l : List Expr} (c : SCn X F T R L N hot sc W fl) (h0 : hot = false) (xo : XOk X F.ca T) (hroom : X.A.depth + 10 < recursionLimit) (hcl : (T.cl cn) = some cl) (hxc : cl.exc = true) (hne : cl.flds ≠ []) (hx : cl.name = x) (hg : gloB sc x = true) (ho : okName x = true) (hl : l ≠ [])
    (h : mEs T L N hot sc es l = true) : PS X (.Raise (some (.Call (.Name x p) l [] pos)) none pos2) (tM F W (evSt T R (.raise cn es))) := by
  obtain ⟨hxn, hc, tk, co⟩ := c.c.cold h0
  obtain ⟨fI, XT⟩ := xo cn cl hcl hxc hne
  subst hx
  cases l with
  | nil => exact (hl rfl).elim
  | cons a r =>
    have ns := noStars (env := X.env) (mEs_nostar h)
    refine (ps_raise hc tk (pmk_own' XT hroom (c.c.glb hg) (c.c.gl.cls cn cl hcl) (okName_1 ho) (soundEs c.c es (a :: r) h) (ns.each a r rfl) ?_)).imp fun D' σ H ⟨s, A, mp, r, res⟩ => ?_
    · have h2 := ns.all pos
      rw [ns.each a r rfl] at h2
      simpa [backTo] using h2
    · simp only [evSt] at res
      refine ⟨F.B, F.B, s.env, mp, s.per, r.per, (r.env.erel []).low, ?_⟩
      cases q : evs T R es s.env s.per with
      | bad => rw [q] at res; exact res.elim
      | exc y p => rw [q] at res; exact exc_go (α := D) r res
      | ok xs p =>
        rw [q] at res
        dsimp only at res
        rw [hcl] at res
        dsimp only at res
        by_cases hlen : xs.length = cl.flds.length
        · rw [if_pos hlen] at res
          intro mp1 H1 vs e1 p1 rv
          refine ⟨by rw [rv.length]; exact hlen, fun d hd => ?_⟩
          refine exc_go (α := D) r res mp1 (upd H1 d (.xd (cl.flds.zip vs))) _ d (e1.trans (Ext.alloc hd)) (p1.alloc hd) ⟨rfl, p1.notMem hd, _, upd_same, ?_⟩
          exact zip_rf ((Ext.alloc (o := .xd (cl.flds.zip vs)) hd).rvs rv)
        · rw [if_neg hlen] at res; exact res.elim
end
end DL
end
section
set_option Elab.async false
set_option linter.all false
set_option maxRecDepth 100000
/-! MatS: statements and their text. -/
namespace DL
open PySem L2 PyProof.Rows
def isNon : Ex → Bool
  | .non => true
  | _ => false
section
variable (T : Tab) (L : Nms) (N : List Str) (sc : Scope) (fl : Bool)
mutual
def mS1 (hot : Bool) : DL.St → Stmt → Bool
  | .skip, st => (match st with
    | .Pass _ => true
    | .Expr (.Constant (.str _) _ _) _ => true
    | _ => false)
  | .seq _ _, _ => false
  | .expr e, st => (match st with
    | .Expr a _ => !isComp a && mE T L N hot sc e a
    | _ => false)
  | .set i e, st => (match st with
    | .Assign [.Name x _] a _ => decide (N[i]? = some x) && locB sc x && (!fl || i != 0) && mE T L N hot sc e a
    | _ => false)
  | .own i e, st => (match st with
    | .Assign [.Name x _] a _ => decide (N[i]? = some x) && locB sc x && (!fl || i != 0) && fresh e && mE T L N hot sc e a
    | _ => false)
  | .keep i e, st => (match st with
    | .Assign [.Name x _] a _ => decide (N[i]? = some x) && locB sc x && (!fl || i != 0) && fresh e && mE T L N hot sc e a
    | _ => false)
  | .app i e, st => (match st with
    | .Expr (.Call (.Attribute (.Name x _) m ap) [a] [] cp) _ => decide (m = "append") && varB N sc i x && (ap.endLine == cp.line) && mE T L N hot sc e a
    | _ => false)
  | .put i k e, st => (match st with
    | .Assign [.Subscript (.Name x _) b _] a _ => varB N sc i x && !isSlice b && !isComp a && mE T L N hot sc k b && mE T L N hot sc e a
    | _ => false)
  | .popAt j i k, st => (match st with
    | .Assign [.Name y _] (.Call (.Attribute (.Name x _) m ap) [a] [] cp) _ => decide (m = "pop") && varB N sc i x && decide (N[j]? = some y) && locB sc y && (!fl || j != 0) && (ap.endLine == cp.line) && mE T L N hot sc k a
    | _ => false)
  | .fld i f e, st => (match st with
    | .Assign [.Attribute (.Name x _) g _] a _ => decide (f = g) && varB N sc i x && !isComp a && mE T L N hot sc e a
    | _ => false)
  | .ret e, st => (match st with
    | .Return (some a) _ => mE T L N hot sc e a
    | .Return none _ => isNon e
    | _ => false)
  | .rkp e, st => (match st with
    | .Return (some a) _ => fresh e && mE T L N hot sc e a
    | _ => false)
  | .ite c a b, st => (match st with
    | .If c' p q _ => mE T L N hot sc c c' && mSs hot a p && mSs hot b q
    | _ => false)
  | .for_ t it b, st => (match st with
    | .For tg a body [] _ => !hot && mT N sc fl t tg && mI T L N hot sc it a && !isSet a && mSs hot b body
    | _ => false)
  | .raise c es, st => (match st with
    | .Raise (some (.Call (.Name x _) l [] _)) none _ => !hot && (match (T.cl c) with
      | some cl => cl.exc && !cl.flds.isEmpty && decide (cl.name = x)
      | none => false) && gloB sc x && okName x && !l.isEmpty && mEs T L N hot sc es l
    | _ => false)
  | .try1 b c i h, st => (match st with
    | .Try body [.ExceptHandler (some (.Name x _)) (some n) (b0 :: suite) _] [] [] _ => !hot && (match (T.cl c) with
      | some cl => decide (cl.name = x)
      | none => false) && gloB sc x && okName x && decide (N[i]? = some n) && decide (sc.names.lookup n = some .local) && (!fl || i != 0) && mSs hot b body && mSs true h (b0 :: suite)
    | _ => false)
def mSs (hot : Bool) : DL.St → List Stmt → Bool
  | .skip, l => l.isEmpty
  | .seq a b, l => (match l with
    | st :: r => mS1 hot a st && mSs hot b r
    | [] => false)
  | .expr _, _ => false
  | .set _ _, _ => false
  | .own _ _, _ => false
  | .keep _ _, _ => false
  | .app _ _, _ => false
  | .put _ _ _, _ => false
  | .popAt _ _ _, _ => false
  | .fld _ _ _, _ => false
  | .ret _, _ => false
  | .rkp _, _ => false
  | .ite _ _ _, _ => false
  | .for_ _ _ _, _ => false
  | .raise _ _, _ => false
  | .try1 _ _ _ _, _ => false
end
end
section
variable {T : Tab} {R : Rec} {L : Nms} {N : List Str} {sc : Scope} {fl : Bool}
mutual
theorem sound1 : ∀ (st : DL.St) (p : Stmt) (hot : Bool) (X : Cx) (F : Fm) (W : WX), mS1 T L N sc fl hot st p = true → SCn X F T R L N hot sc W fl → XOk X F.ca T → X.A.depth + 10 < recursionLimit → PS X p (tM F W (evSt T R st))
  | .skip, p, hot, X, F, W, h, c, xo, hr => by
    simp only [mS1] at h
    split at h
    · exact st_pass
    · exact st_doc
    · cases h
  | .seq _ _, p, hot, X, F, W, h, c, xo, hr => by simp [mS1] at h
  | .expr e, p, hot, X, F, W, h, c, xo, hr => by
    simp only [mS1] at h
    split at h
    · simp only [Bool.and_eq_true, Bool.not_eq_true'] at h
      exact st_expr c h.1 h.2
    · cases h
  | .set i e, p, hot, X, F, W, h, c, xo, hr => by
    simp only [mS1] at h
    split at h
    · simp only [Bool.and_eq_true, decide_eq_true_eq] at h
      exact st_set c h.1.1.1 h.1.1.2 h.1.2 h.2
    · cases h
  | .own i e, p, hot, X, F, W, h, c, xo, hr => by
    simp only [mS1] at h
    split at h
    · simp only [Bool.and_eq_true, decide_eq_true_eq] at h
      exact st_own c h.1.1.1.1 h.1.1.1.2 h.1.1.2 h.1.2 h.2
    · cases h
  | .keep i e, p, hot, X, F, W, h, c, xo, hr => by
    simp only [mS1] at h
    split at h
    · simp only [Bool.and_eq_true, decide_eq_true_eq] at h
      exact st_keep c h.1.1.1.1 h.1.1.1.2 h.1.1.2 h.1.2 h.2
    · cases h
  | .app i e, p, hot, X, F, W, h, c, xo, hr => by
    simp only [mS1] at h
    split at h
    · simp only [Bool.and_eq_true, decide_eq_true_eq] at h
      obtain ⟨⟨⟨rfl, h1⟩, h2⟩, h3⟩ := h
      exact st_app c h1 h2 h3
    · cases h
  | .put i k e, p, hot, X, F, W, h, c, xo, hr => by
    simp only [mS1] at h
    split at h
    · simp only [Bool.and_eq_true, Bool.not_eq_true'] at h
      exact st_put c h.1.1.1.1 h.1.1.1.2 h.1.1.2 h.1.2 h.2
    · cases h
  | .popAt j i k, p, hot, X, F, W, h, c, xo, hr => by
    simp only [mS1] at h
    split at h
    · simp only [Bool.and_eq_true, decide_eq_true_eq] at h
      obtain ⟨⟨⟨⟨⟨⟨rfl, h1⟩, h2⟩, h3⟩, h4⟩, h5⟩, h6⟩ := h
      exact st_popAt c h1 h2 h3 h4 h5 h6
    · cases h
  | .fld i f e, p, hot, X, F, W, h, c, xo, hr => by
    simp only [mS1] at h
    split at h
    · simp only [Bool.and_eq_true, Bool.not_eq_true', decide_eq_true_eq] at h
      obtain ⟨⟨⟨rfl, h1⟩, h2⟩, h3⟩ := h
      exact st_fld c h1 h2 h3
    · cases h
  | .ret e, p, hot, X, F, W, h, c, xo, hr => by
    simp only [mS1] at h
    split at h
    · exact st_ret c h
    · cases e <;> first
        | (simp [isNon] at h; done)
        | exact st_retN
    · cases h
  | .rkp e, p, hot, X, F, W, h, c, xo, hr => by
    simp only [mS1] at h
    split at h
    · simp only [Bool.and_eq_true] at h
      exact st_rkp c h.1 h.2
    · cases h
  | .ite e a b, p, hot, X, F, W, h, c, xo, hr => by
    simp only [mS1] at h
    split at h
    · simp only [Bool.and_eq_true] at h
      exact st_ite c h.1.1 (soundS a _ hot X F W h.1.2 c xo hr) (soundS b _ hot X F W h.2 c xo hr)
    · cases h
  | .for_ t it b, p, hot, X, F, W, h, c, xo, hr => by
    simp only [mS1] at h
    split at h
    · simp only [Bool.and_eq_true, Bool.not_eq_true'] at h
      obtain ⟨⟨⟨⟨h0, h1⟩, h2⟩, h3⟩, h4⟩ := h
      exact st_for c h0 h1 h2 h3 fun F' c' hca => soundS b _ hot X F' W h4 c' (hca ▸ xo) hr
    · cases h
  | .raise k es, p, hot, X, F, W, h, c, xo, hr => by
    simp only [mS1] at h
    split at h
    · simp only [Bool.and_eq_true, Bool.not_eq_true'] at h
      obtain ⟨⟨⟨⟨⟨h0, h1⟩, h2⟩, h3⟩, h4⟩, h5⟩ := h
      cases hk : (T.cl k) with
      | none => rw [hk] at h1; cases h1
      | some cl =>
        rw [hk] at h1
        simp only [Bool.and_eq_true, Bool.not_eq_true', decide_eq_true_eq] at h1
        exact st_raise c h0 xo hr hk h1.1.1 (by intro z; rw [z] at h1; simp at h1) h1.2 h2 h3 (by intro z; rw [z] at h4; simp at h4) h5
    · cases h
  | .try1 b k i hd, p, hot, X, F, W, h, c, xo, hr => by
    simp only [mS1] at h
    split at h
    · simp only [Bool.and_eq_true, Bool.not_eq_true', decide_eq_true_eq] at h
      obtain ⟨⟨⟨⟨⟨⟨⟨⟨h0, h1⟩, h2⟩, h3⟩, h4⟩, h5⟩, h6⟩, h7⟩, h8⟩ := h
      cases hk : (T.cl k) with
      | none => rw [hk] at h1; cases h1
      | some cl =>
        rw [hk] at h1
        simp only [decide_eq_true_eq] at h1
        exact st_try c h0 h4 h5 h6 hk h1 h2 h3 (fun pn xe W' c' => soundS b _ hot _ F W' h7 c' xo hr) (fun a oe pn c' => soundS hd _ true _ _ noW h8 c' xo hr)
    · cases h
theorem soundS : ∀ (st : DL.St) (l : List Stmt) (hot : Bool) (X : Cx) (F : Fm) (W : WX), mSs T L N sc fl hot st l = true → SCn X F T R L N hot sc W fl → XOk X F.ca T → X.A.depth + 10 < recursionLimit → PSs X l (tM F W (evSt T R st))
  | .skip, l, hot, X, F, W, h, c, xo, hr => by
    cases l with
    | nil => exact ss_nil
    | cons _ _ => simp [mSs] at h
  | .seq a b, l, hot, X, F, W, h, c, xo, hr => by
    cases l with
    | nil => simp [mSs] at h
    | cons st r =>
      simp only [mSs, Bool.and_eq_true] at h
      exact ss_cons (sound1 a st hot X F W h.1 c xo hr) (soundS b r hot X F W h.2 c xo hr)
  | .expr _, l, hot, X, F, W, h, c, xo, hr => by simp [mSs] at h
  | .set _ _, l, hot, X, F, W, h, c, xo, hr => by simp [mSs] at h
  | .own _ _, l, hot, X, F, W, h, c, xo, hr => by simp [mSs] at h
  | .keep _ _, l, hot, X, F, W, h, c, xo, hr => by simp [mSs] at h
  | .app _ _, l, hot, X, F, W, h, c, xo, hr => by simp [mSs] at h
  | .put _ _ _, l, hot, X, F, W, h, c, xo, hr => by simp [mSs] at h
  | .popAt _ _ _, l, hot, X, F, W, h, c, xo, hr => by simp [mSs] at h
  | .fld _ _ _, l, hot, X, F, W, h, c, xo, hr => by simp [mSs] at h
  | .ret _, l, hot, X, F, W, h, c, xo, hr => by simp [mSs] at h
  | .rkp _, l, hot, X, F, W, h, c, xo, hr => by simp [mSs] at h
  | .ite _ _ _, l, hot, X, F, W, h, c, xo, hr => by simp [mSs] at h
  | .for_ _ _ _, l, hot, X, F, W, h, c, xo, hr => by simp [mSs] at h
  | .raise _ _, l, hot, X, F, W, h, c, xo, hr => by simp [mSs] at h
  | .try1 _ _ _ _, l, hot, X, F, W, h, c, xo, hr => by simp [mSs] at h
end
end
end DL
end
section
set_option Elab.async false
set_option linter.all false
set_option maxRecDepth 100000
/-! Fun: the table's functions keep their promises, level by level. -/
namespace DL
open PySem L2 PyProof.Rows
/-- a function of the table, as the written part has it -/
structure FDef (K : PySem.W.Frag) (T : Tab) (L : Nms) (fn : Fn) (fl : Bool) (f : Addr) (fd : FuncData) (ps : List Str) : Prop where
  ex : ∃ (x qual : Str) (params : Arguments) (body : List Stmt) (scope : Scope) (N : List Str), FunD K x qual params body scope [] [] f fd ∧ FnScope N ps scope ∧ N.length = fn.ns ∧ mSs T L N scope fl false fn.body body = true
  np : ps.length = fn.np
  bd : Binds K fd ps []
theorem Takes0.call {run : DL.St → M Ctl} {fn : Fn} : Takes0 fn.np (callBy run fn) := fun args per h => by
  unfold callBy at h
  by_cases e : args.length = fn.np
  · exact e
  · rw [if_neg e] at h; exact (h rfl).elim
theorem Takes0.make {run : DL.St → M Ctl} {c : Nat} {fn : Fn} {np : Nat} (hn : np + 1 = fn.np) : Takes0 np (makeBy run c fn) := fun args per h => by
  unfold makeBy at h
  by_cases e : args.length + 1 = fn.np
  · omega
  · rw [if_neg e] at h; exact (h rfl).elim
section
variable {ca : Lk} {A : Addr → Prop} {mp : List Addr} {per : List D} {H : Hp} {args : List D} {vs : List V} {N : List Str}
theorem entry_get {ns : Nat} {env : Env} {i : Nat} {sl : Slot} (h : (entry ns env)[i]? = some (some sl)) : env[i]? = some (some sl) := by
  unfold entry at h
  by_cases hi : i < env.length
  · rwa [List.getElem?_append_left hi] at h
  · rw [List.getElem?_append_right (by omega), List.getElem?_replicate] at h
    split at h <;> cases h
theorem entry_len {ns : Nat} {env : Env} (h : env.length ≤ ns) : (entry ns env).length = ns := by
  unfold entry
  rw [List.length_append, List.length_replicate]
  omega
theorem start_len (h : vs.length ≤ N.length) : (L2.start N vs).length = N.length := by
  unfold L2.start
  rw [List.length_append, List.length_map, List.length_replicate]
  omega
theorem start_get {i : Nat} {v : V} (h : vs[i]? = some v) : (L2.start N vs)[i]? = some (some v) := by
  unfold L2.start
  have hi : i < vs.length := (List.getElem?_eq_some_iff.mp h).1
  rw [List.getElem?_append_left (by simpa using hi), List.getElem?_map, h]
  rfl
/-- a def's entry -/
theorem entry_SR (n : Now ca A mp per H) (rv : RVs ca (AA A mp) mp H args vs) {ns : Nat} (hN : N.length = ns) (hl : args.length ≤ ns) :
    SR ⟨ca, A, mp, H, [], none, []⟩ A mp ⟨entry ns (args.map fun d => some (.dat d)), per⟩ (L2.start N vs) H := by
  have hv := rv.length
  have dat : ∀ {i : Nat} {sl : Slot}, (entry ns (args.map fun d => some (Slot.dat d)))[i]? = some (some sl) → ∃ d, sl = .dat d ∧ args[i]? = some d := fun {i sl} h => by
    have := entry_get h
    rw [List.getElem?_map] at this
    obtain ⟨d, e1, e2⟩ := Option.map_eq_some_iff.mp this
    cases e2
    exact ⟨d, rfl, e1⟩
  refine ⟨n.per, Ext.refl, ⟨?_, fun _ h => h, n.dom, fun i d h => ?_, fun i j d d' a h => ?_, fun i d h hx => ?_, fun i c fs h => ?_, by simp⟩, by simp⟩
  · rw [entry_len (by simpa using hl), start_len (by omega), hN]
  · obtain ⟨_, e, _⟩ := dat h; cases e
  · obtain ⟨_, e, _⟩ := dat h; cases e
  · obtain ⟨d', e, h2⟩ := dat h
    cases e
    obtain ⟨v, e1, e2⟩ := rv.get h2
    exact ⟨v, start_get e1, e2⟩
  · obtain ⟨d', e, h2⟩ := dat h
    cases e
    obtain ⟨v, e1, e2⟩ := rv.get h2
    simp [RV] at e2
end
/-- what the whole table's facts are -/
structure PF (P : Program) (w : World) (K : PySem.W.Frag) (mg : Str → Option Value) (base : Heap) (ca : Lk) (T : Tab) (L : Nms) (adr : Nat → Addr) (fdv : Nat → FuncData) (psv : Nat → List Str) (ini : Nat → Bool) : Prop where
  hK : K = ca.K
  tok : TOk T ca
  gl : GlOk mg ca T L
  fns : ∀ (f : Nat) (fn : Fn), (T.fn f) = some fn → FDef K T L fn (ini f) (adr f) (fdv f) (psv f)
  named : ∀ (f : Nat) (x : Str), L.fn f = some x → ini f = false ∧ mg x = some (.ref (adr f)) ∧ PySem.W.keepIn K (.ref (adr f)) = true
  meth : ∀ (c : Nat) (cl : Cl) (m : Str) (f : Nat), (T.cl c) = some cl → cl.exc = false → cl.meths.lookup m = some f → (T.fn f).isSome = true ∧ ini f = false ∧ Meth K (ca.at_ c) m (adr f)
  make : ∀ (c : Nat) (cl : Cl), (T.cl c) = some cl → cl.exc = false → ini cl.init = true ∧ Mk K (ca.at_ c) (adr cl.init)
  xtx : ∀ (c : Nat) (cl : Cl), (T.cl c) = some cl → cl.exc = true → cl.flds ≠ [] → ∃ fI, XTxt P K mg (ca.at_ c) fI cl.flds
/-- the promises at level n -/
structure LevOk (P : Program) (w : World) (K : PySem.W.Frag) (mg : Str → Option Value) (base : Heap) (ca : Lk) (T : Tab) (adr : Nat → Addr) (fdv : Nat → FuncData) (psv : Nat → List Str) (ini : Nat → Bool) (n : Nat) : Prop where
  call : ∀ (f : Nat) (fn : Fn), (T.fn f) = some fn → ini f = false → FnOk P w K mg base (L2.CX P w) (2 * n + 2) (adr f) (fdv f) (psv f) (spF ca fn.np ((lev T n).call f))
  make : ∀ (c : Nat) (cl : Cl) (fn : Fn), (T.cl c) = some cl → cl.exc = false → (T.fn cl.init) = some fn → FnOk P w K mg base (L2.CX P w) (2 * n + 2) (adr cl.init) (fdv cl.init) (psv cl.init) (spI ca fn.np c ((lev T n).make c))
section
variable {P : Program} {w : World} {K : PySem.W.Frag} {mg : Str → Option Value} {base : Heap} {ca : Lk} {T : Tab} {L : Nms} {adr : Nat → Addr} {fdv : Nat → FuncData} {psv : Nat → List Str} {ini : Nat → Bool} {n : Nat}
theorem lev_t0 {f : Nat} {fn : Fn} (h : (T.fn f) = some fn) : Takes0 fn.np ((lev T n).call f) := by
  cases n with
  | zero => exact fun args per h => (h rfl).elim
  | succ n =>
    simp only [lev, h]
    exact Takes0.call
theorem lev_n0 {c : Nat} {cl : Cl} {fn : Fn} {np : Nat} (hc : (T.cl c) = some cl) (h : (T.fn cl.init) = some fn) (hn : np + 1 = fn.np) : Takes0 np ((lev T n).make c) := by
  cases n with
  | zero => exact fun args per h => (h rfl).elim
  | succ n =>
    simp only [lev, hc, Option.bind_some, h]
    exact Takes0.make hn
theorem callsOk (pf : PF P w K mg base ca T L adr fdv psv ini) (lo : LevOk P w K mg base ca T adr fdv psv ini n) {X : Cx} (h1 : X.prog = P) (h2 : X.w = w) (h3 : X.K = K) (h4 : X.mg = mg) (h5 : X.base = base) (hr : Room (2 * n + 3) X.A) : CallsOk X ca T (lev T n) L := by
  subst h1 h2 h3 h4 h5
  refine ⟨fun f fn x e1 e2 => ?_, fun f fn e => lev_t0 e, fun c cl fn e1 e2 e3 => ?_, fun c cl fn e1 e2 e3 np hn => lev_n0 e1 e3 hn, fun c cl m f e1 e2 e3 => ?_⟩
  · obtain ⟨q1, q2, q3⟩ := pf.named f x e2
    exact ⟨adr f, fdv f, psv f, 2 * n + 2, lo.call f fn e1 q1, hr.mono (by omega), q2, q3, (pf.fns f fn e1).bd⟩
  · obtain ⟨q1, q2⟩ := pf.make c cl e1 e2
    exact ⟨adr cl.init, fdv cl.init, psv cl.init, 2 * n + 2, q2, lo.make c cl fn e1 e2 e3, hr, pf.gl.cls c cl e1, (pf.fns _ fn e3).bd⟩
  · obtain ⟨q1, q2, q3⟩ := pf.meth c cl m f e1 e2 e3
    obtain ⟨fn, hf⟩ := Option.isSome_iff_exists.mp q1
    exact ⟨adr f, fdv f, psv f, 2 * n + 2, fn.np, q3, lo.call f fn hf q2, lev_t0 hf, hr.mono (by omega), (pf.fns f fn hf).bd⟩
/-- a body's context -/
theorem cx_scn (pf : PF P w K mg base ca T L adr fdv psv ini) (lo : LevOk P w K mg base ca T adr fdv psv ini n) {N ps : List Str} {qual : Str} {scope : Scope} {f : Addr} {cdv : Value} {A : Around} {outer : List PySem.Env} {s : Shared} {H : Hp} {E : XK} {F : Fm} {fl : Bool} (S : FnScope N ps scope)
    (hr : Room (2 * n + 3) (A.deeper (envOfC qual scope s.heap.objs.size f cdv))) (hca : F.ca = ca) (hxn : F.xn = []) (hfx : fl = false → F.fx = none) :
    SCn (cxOf (L2.CX P w) P w K mg base N qual scope f cdv A outer s H E) F T (lev T n) L N false scope (xw E) fl ∧ XOk (cxOf (L2.CX P w) P w K mg base N qual scope f cdv A outer s H E) F.ca T ∧ (cxOf (L2.CX P w) P w K mg base N qual scope f cdv A outer s H E).A.depth + 10 < recursionLimit := by
  subst hca
  refine ⟨⟨⟨pf.hK, pf.tok, rfl, rfl, S.nd, ?_, ?_, pf.gl, fun _ => ⟨hxn, rfl, takes_of rfl rfl rfl rfl, callsOk pf lo rfl rfl rfl rfl rfl hr⟩⟩, passes_of rfl, fun _ => ⟨rfl, rfl⟩, fun _ => rfl, hfx⟩, pf.xtx, ?_⟩
  · have := hr.un
    show (A.deeper (envOfC qual scope s.heap.objs.size f cdv)).units + 64 < cLine
    omega
  · rw [hxn]; intro p hp; cases hp
  · have := hr.dp
    show (A.deeper (envOfC qual scope s.heap.objs.size f cdv)).depth + 10 < recursionLimit
    omega
theorem lev_call (pf : PF P w K mg base ca T L adr fdv psv ini) (lo : LevOk P w K mg base ca T adr fdv psv ini n) {f : Nat} {fn : Fn} (hf : (T.fn f) = some fn) (hi : ini f = false) : FnOk P w K mg base (L2.CX P w) (2 * (n + 1) + 2) (adr f) (fdv f) (psv f) (spF ca fn.np ((lev T (n + 1)).call f)) := by
  have fd := pf.fns f fn hf
  obtain ⟨x, qual, params, body, scope, N, FD, S, hN, hm⟩ := fd.ex
  rw [hi] at hm
  refine FD.ok (k := 2 * n + 3) S (fun vs H Q E h => by rw [fd.np]; exact h.1) fun cdv A outer s H vs Q E hr sp => ?_
  obtain ⟨hlen, A0, mp, per, args, nw, rv, res⟩ := sp
  simp only [lev, hf] at res
  unfold callBy at res
  by_cases hl : args.length = fn.np
  · rw [if_pos hl] at res
    obtain ⟨c, xo, dep⟩ := cx_scn (F := ⟨ca, A0, mp, H, [], none, []⟩) (fl := false) pf lo (outer := outer) (E := E) (H := H) S hr rfl rfl (fun _ => rfl)
    have hle : args.length ≤ fn.ns := by
      have h1 : psv f = N.take (psv f).length := S.pre.symm
      have h2 : (psv f).length ≤ N.length := by
        have := congrArg List.length h1
        rw [List.length_take] at this
        omega
      rw [hl, ← fd.np, ← hN]; exact h2
    refine ⟨_, soundS fn.body body false _ _ _ hm c xo dep, ⟨_, A0, mp, entry_SR nw rv hN hle, ?_⟩⟩
    cases hb : evSt T (lev T n) fn.body ⟨entry fn.ns (args.map fun d => some (.dat d)), per⟩ with
    | bad => rw [hb] at res; exact res.elim
    | exc y s1 =>
      rw [hb] at res
      intro A1 mp1 σ1 H1 cls dd r hx
      obtain ⟨e1, e2, gs, e3, e4⟩ := hx
      exact res mp1 H1 cls dd r.ext r.per ⟨e1, e2, gs, e3, e4.less (AA.less r.env.sub)⟩
    | ok k s1 =>
      rw [hb] at res
      cases k with
      | nx => exact fun A1 mp1 σ1 H1 r => res mp1 H1 .non r.ext r.per (by simp [RV])
      | brk => exact res.elim
      | ct => exact res.elim
      | ret dv => exact fun mp1 H1 v p e rv => res mp1 H1 v e p rv
  · rw [if_neg hl] at res; exact res.elim
theorem SR.setFx {F : Fm} {A : Addr → Prop} {mp : List Addr} {s : S} {σ : L2.St} {H : Hp} {x : Addr} (r : SR { F with fx := none } A mp s σ H) (h : σ[0]? = some (some (.ref x))) : SR { F with fx := some x } A mp s σ H :=
  ⟨r.per, r.ext, ⟨r.env.len, r.env.sub, r.env.dom, r.env.own, r.env.uniq, r.env.dat, r.env.exn, r.env.gh⟩, fun y hy => by cases hy; exact h⟩
theorem lev_make (pf : PF P w K mg base ca T L adr fdv psv ini) (lo : LevOk P w K mg base ca T adr fdv psv ini n) {c : Nat} {cl : Cl} {fn : Fn} (hc : (T.cl c) = some cl) (hx : cl.exc = false) (hf : (T.fn cl.init) = some fn) : FnOk P w K mg base (L2.CX P w) (2 * (n + 1) + 2) (adr cl.init) (fdv cl.init) (psv cl.init) (spI ca fn.np c ((lev T (n + 1)).make c)) := by
  have fd := pf.fns cl.init fn hf
  have hi := (pf.make c cl hc hx).1
  obtain ⟨x, qual, params, body, scope, N, FD, S, hN, hm⟩ := fd.ex
  rw [hi] at hm
  refine FD.ok (k := 2 * n + 3) S (fun vs H Q E h => by rw [fd.np]; exact h.1) fun cdv A outer s H vs Q E hr sp => ?_
  obtain ⟨hlen, A0, mp, per, args, x0, dx, rest, H1, rfl, hx0, hdx, hne, rfl, nw, rv, res⟩ := sp
  simp only [lev, hc, Option.bind_some, hf] at res
  unfold makeBy at res
  by_cases hl : args.length + 1 = fn.np
  · rw [if_pos hl] at res
    obtain ⟨cc, xo, dep⟩ := cx_scn (F := ⟨ca, A0, mp, H1, [], some x0, []⟩) (fl := true) pf lo (outer := outer) (E := E) (H := upd (upd H1 dx (.own x0)) x0 (.ins (ca.at_ c) dx [])) S hr rfl rfl (fun h => by cases h)
    have h2 : (psv cl.init).length ≤ N.length := by
      have h1 : psv cl.init = N.take (psv cl.init).length := S.pre.symm
      have := congrArg List.length h1
      rw [List.length_take] at this
      omega
    have hle : args.length + 1 ≤ fn.ns := by rw [hl, ← fd.np, ← hN]; exact h2
    -- the entry, ahead of the new object
    have hvl := rv.length
    have dat : ∀ {i : Nat} {sl : Slot}, (entry fn.ns ((none : Option Slot) :: args.map fun d => some (Slot.dat d)))[i]? = some (some sl) → ∃ d j, sl = .dat d ∧ i = j + 1 ∧ args[j]? = some d := fun {i sl} h => by
      have := entry_get h
      cases i with
      | zero => simp at this
      | succ j =>
        rw [List.getElem?_cons_succ, List.getElem?_map] at this
        obtain ⟨d, e1, e2⟩ := Option.map_eq_some_iff.mp this
        cases e2
        exact ⟨d, j, rfl, rfl, e1⟩
    have r0 : SR ⟨ca, A0, mp, H1, [], none, []⟩ A0 mp ⟨entry fn.ns ((none : Option Slot) :: args.map fun d => some (Slot.dat d)), per⟩ (L2.start N (.ref x0 :: rest)) H1 := by
      refine ⟨nw.per, Ext.refl, ⟨?_, fun _ h => h, nw.dom, fun i d h => ?_, fun i j d d' a h => ?_, fun i d h hx => ?_, fun i c fs h => ?_, by simp⟩, by simp⟩
      · rw [entry_len (by simpa using hle), start_len (by simp; omega), hN]
      · obtain ⟨_, _, e, _⟩ := dat h; cases e
      · obtain ⟨_, _, e, _⟩ := dat h; cases e
      · obtain ⟨d', j, e, rfl, h2⟩ := dat h
        cases e
        obtain ⟨v, e1, e2⟩ := rv.get h2
        exact ⟨v, start_get (by simpa using e1), e2⟩
      · obtain ⟨d', j, e, rfl, h2⟩ := dat h
        cases e
        obtain ⟨v, e1, e2⟩ := rv.get h2
        simp [RV] at e2
    have e1 : Ext mp H1 mp (upd H1 dx (.own x0)) := Ext.alloc hdx
    have hx1 : upd H1 dx (HO.own x0) x0 = none := by rw [upd_ne (Ne.symm hne)]; exact hx0
    have e2 : Ext mp H1 mp (upd (upd H1 dx (.own x0)) x0 (.ins (ca.at_ c) dx [])) := e1.trans (Ext.alloc hx1)
    have p2 : PerRel ca mp (upd (upd H1 dx (.own x0)) x0 (.ins (ca.at_ c) dx [])) per := (nw.per.alloc hdx).alloc hx1
    have nx : ¬ AA A0 mp x0 := fun z => by
      rcases z with z | z
      · obtain ⟨o, ho⟩ := nw.dom x0 z
        rw [hx0] at ho; cases ho
      · exact nw.per.notMem hx0 z
    have r1 := r0.setOwnA (j := 0) (d := .ins c []) e2 p2 (by rw [entry_len (by simpa using hle)]; omega) nx hx0 ⟨dx, [], upd_same, by simp [RF]⟩ (.inl rfl)
    have hs0 : (L2.start N (.ref x0 :: rest)).set 0 (some (.ref x0)) = L2.start N (.ref x0 :: rest) := by
      unfold L2.start
      simp
    have he0 : (entry fn.ns ((none : Option Slot) :: args.map fun d => some (Slot.dat d))).set 0 (some (.own (.ins c []))) = entry fn.ns (some (.own (.ins c [])) :: args.map fun d => some (Slot.dat d)) := by
      unfold entry
      simp
    rw [hs0, he0] at r1
    have r2 : SR ⟨ca, A0, mp, H1, [], some x0, []⟩ _ mp _ _ _ := SR.setFx (F := ⟨ca, A0, mp, H1, [], none, []⟩) r1 (start_get (by simp))
    refine ⟨_, soundS fn.body body false _ _ _ hm cc xo dep, ⟨_, _, mp, r2, ?_⟩⟩
    cases hb : evSt T (lev T n) fn.body ⟨entry fn.ns (some (.own (.ins c [])) :: args.map fun d => some (.dat d)), per⟩ with
    | bad => rw [hb] at res; exact res.elim
    | exc y s1 =>
      rw [hb] at res
      intro A1 mp1 σ1 H2 cls dd r hx
      obtain ⟨e1, e2, gs, e3, e4⟩ := hx
      exact res mp1 H2 cls dd r.ext r.per ⟨e1, e2, gs, e3, e4.less (AA.less r.env.sub)⟩
    | ok k s1 =>
      rw [hb] at res
      cases k with
      | nx =>
        intro A1 mp1 σ1 H2 r
        dsimp only at res
        have hfix := r.fix x0 rfl
        cases h0 : s1.env[0]? with
        | none => rw [h0] at res; exact res.elim
        | some sl =>
          rw [h0] at res
          cases sl with
          | none => exact res.elim
          | some sl =>
            dsimp only at res
            cases hex : sl.d.isExn with
            | true => rw [hex] at res; exact res.elim
            | false =>
              rw [hex] at res
              refine res mp1 H2 (.ref x0) r.ext r.per ?_ rfl
              cases sl with
              | own d =>
                obtain ⟨a, q1, q2, q3, q4, q5, q6⟩ := r.env.own 0 d h0
                rw [hfix] at q1; cases q1
                refine (q6.less (AA.less r.env.sub)).rv ?_
                rintro (z | z)
                · exact q3 z
                · exact q4 z
              | dat d =>
                obtain ⟨v, q1, q2⟩ := r.env.dat 0 d h0 hex
                rw [hfix] at q1; cases q1
                exact q2.less (AA.less r.env.sub)
      | brk => exact res.elim
      | ct => exact res.elim
      | ret dv => exact res.elim
  · rw [if_neg hl] at res; exact res.elim
theorem lev_zero (pf : PF P w K mg base ca T L adr fdv psv ini) : LevOk P w K mg base ca T adr fdv psv ini 0 := by
  refine ⟨fun f fn h1 h2 => ⟨fun vs H Q E h => by rw [(pf.fns f fn h1).np]; exact h.1, ?_⟩, fun c cl fn h1 h2 h3 => ⟨fun vs H Q E h => by rw [(pf.fns _ fn h3).np]; exact h.1, ?_⟩⟩
  · rintro A outer s H args us vs Q E _ _ _ _ ⟨_, A0, mp, per, args', _, _, res⟩
    exact res.elim
  · rintro A outer s H args us vs Q E _ _ _ _ ⟨_, A0, mp, per, args', x0, dx, rest, H1, _, _, _, _, _, _, _, res⟩
    exact res.elim
theorem lev_all (pf : PF P w K mg base ca T L adr fdv psv ini) : ∀ n, LevOk P w K mg base ca T adr fdv psv ini n
  | 0 => lev_zero pf
  | n + 1 => ⟨fun f fn h1 h2 => lev_call pf (lev_all pf n) h1 h2, fun c cl fn h1 h2 h3 => lev_make pf (lev_all pf n) h1 h2 h3⟩
end
end DL
end
section
set_option Elab.async false
set_option linter.all false
set_option maxRecDepth 100000
/-! Chk: what the written part must say, as one Bool. -/
namespace DL
open PySem L2 PyProof.Rows He
def lk (T : Tab) (K : PySem.W.Frag) : Lk := ⟨K, fun c => match (T.cl c) with
  | some cl => ga K cl.name
  | none => 0⟩
theorem lk_at {T : Tab} {K : PySem.W.Frag} {c : Nat} {cl : DL.Cl} (h : (T.cl c) = some cl) : (lk T K).at_ c = ga K cl.name := by
  unfold lk
  simp only [h]
/-- a class that is no error's -/
def clsB (K : PySem.W.Frag) (T : Tab) (cl : DL.Cl) : Bool :=
  (Fa.cls cl.name).ok K && decide (PySem.W.findIn K (.ref (ga K cl.name)) "__class__" = some (some (.builtin "object.__class__"))) && decide (PySem.W.specialIn K (.builtin "object.__class__") "__get__" = some (some (.builtin "getset_descriptor.__get__"))) &&
  decide (PySem.W.takesIn K (.builtin "object.__class__") = some true) && decide (PySem.W.mroIn K (ga K cl.name) (.type "object") = some true) && cl.flds.all (fun f => (Fa.noat cl.name f).ok K) && cl.consts.isEmpty && (Fa.mkr cl.name).ok K && cl.meths.all (fun p => (Fa.meth cl.name p.1).ok K) &&
  T.cls.all fun q => decide (PySem.W.kitOne K (.ref (ga K cl.name)) (.ref (ga K q.2.name)) = some (cl.sups.contains q.1))
/-- an error's class -/
def excB (K : PySem.W.Frag) (T : Tab) (cl : DL.Cl) : Bool :=
  xfB K (ga K cl.name) && cl.flds.all (fun f => (Fa.noat cl.name f).ok K) && T.cls.all fun q => !q.2.exc || decide (PySem.W.exmOne K (.ref (ga K cl.name)) (.ref (ga K q.2.name)) = some (cl.sups.contains q.1))
def tyB (K : PySem.W.Frag) (T : Tab) : Bool :=
  (tyNames.all fun n => T.cls.all fun q => decide (PySem.W.kitOne K (.type n) (.ref (ga K q.2.name)) = some false)) && tyNames.all fun n => ["bool", "int", "str", "list", "tuple"].all fun k => decide (PySem.W.kitOne K (.type n) (.type k) = some (n == k || (n == "bool" && k == "int")))
theorem tok_of {K : PySem.W.Frag} {T : Tab} (h1 : T.cls.all (fun q => if q.2.exc then excB K T q.2 else clsB K T q.2) = true) (h2 : tyB K T = true) : TOk T (lk T K) := by
  have at1 : ∀ {c : Nat} {cl : DL.Cl}, (T.cl c) = some cl → cl.exc = false → clsB K T cl = true := fun {c cl} h hx => by
    have := List.all_eq_true.mp h1 (c, cl) (assoc_mem h)
    simpa [hx] using this
  have at2 : ∀ {c : Nat} {cl : DL.Cl}, (T.cl c) = some cl → cl.exc = true → excB K T cl = true := fun {c cl} h hx => by
    have := List.all_eq_true.mp h1 (c, cl) (assoc_mem h)
    simpa [hx] using this
  unfold tyB at h2
  simp only [Bool.and_eq_true, List.all_eq_true, decide_eq_true_eq] at h2
  refine ⟨fun c cl h hx => ?_, fun c cl f h hx hf => ?_, fun c cl f d h hx hl => ?_, fun c cl h hx => ?_, fun k cl c h hx hc => ?_, fun c cl k h hx hk => ?_, fun k n hk hn => ?_, fun n hn k hk => ?_⟩
  all_goals first
    | (have a := at1 h hx
       unfold clsB at a
       simp only [Bool.and_eq_true, List.all_eq_true, decide_eq_true_eq] at a
       obtain ⟨⟨⟨⟨⟨⟨⟨⟨⟨b1, b2⟩, b3⟩, b4⟩, b5⟩, b6⟩, b7⟩, b8⟩, b9⟩, b10⟩ := a)
    | (have a := at2 h hx
       unfold excB at a
       simp only [Bool.and_eq_true, List.all_eq_true, decide_eq_true_eq] at a
       obtain ⟨⟨b1, b2⟩, b3⟩ := a)
    | skip
  · rw [lk_at h]; exact ⟨cls_ok b1, b2, b3, b4, b5⟩
  · rw [lk_at h]; exact noat_ok (b6 f hf)
  · rw [List.isEmpty_iff.mp b7] at hl; cases hl
  · rw [lk_at h]; exact ⟨xfB_ok b1, fun f hf => noat_ok (b2 f hf)⟩
  · cases hck : (T.cl c) with
    | none => unfold excAt at hc; rw [hck] at hc; cases hc
    | some ck =>
      have hx2 : ck.exc = true := by unfold excAt at hc; rw [hck] at hc; exact hc
      rw [lk_at h, lk_at hck]
      have := b3 (c, ck) (assoc_mem hck)
      simp only [hx2, Bool.not_true, Bool.false_or, decide_eq_true_eq] at this
      exact this
  · obtain ⟨ck, hck⟩ := Option.isSome_iff_exists.mp hk
    rw [lk_at h, lk_at hck]
    exact b10 (k, ck) (assoc_mem hck)
  · obtain ⟨ck, hck⟩ := Option.isSome_iff_exists.mp hk
    rw [lk_at hck]
    exact h2.1 n hn (k, ck) (assoc_mem hck)
  · exact h2.2 n hn k hk
end DL
end
section
set_option Elab.async false
set_option linter.all false
set_option maxRecDepth 100000
/-! Bnd: plain parameters are bound one by one. -/
namespace DL
open PySem
theorem zip_lookup : ∀ {ps : List Str} {us : List Value} {x : Str}, us.length = ps.length → x ∈ ps → ((ps.zip us).lookup x).isNone = false
  | [], _, _, _, h => by cases h
  | p :: ps, [], _, hl, _ => by simp at hl
  | p :: ps, u :: us, x, hl, h => by
    simp only [List.zip_cons_cons, List.lookup_cons]
    by_cases e : x = p
    · simp [e]
    · have : (x == p) = false := by simpa using e
      rw [this]
      rcases List.mem_cons.mp h with h | h
      · exact absurd h e
      · exact zip_lookup (by simpa using hl) h
theorem zip_filterMap : ∀ {ps : List Str} {us : List Value} (pre : List (Str × Value)), us.length = ps.length → (∀ x ∈ ps, pre.lookup x = none) → ps.Nodup → ps.filterMap (fun n => ((pre ++ ps.zip us).lookup n).map (n, ·)) = ps.zip us
  | [], _, _, _, _, _ => by simp
  | p :: ps, [], _, hl, _, _ => by simp at hl
  | p :: ps, u :: us, pre, hl, hp, nd => by
    have h1 : (pre ++ (p :: ps).zip (u :: us)).lookup p = some u := by
      rw [List.lookup_append, hp p (by simp)]
      simp
    rw [List.filterMap_cons, h1]
    simp only [Option.map_some, List.zip_cons_cons]
    have e : pre ++ (p, u) :: ps.zip us = (pre ++ [(p, u)]) ++ ps.zip us := by simp
    rw [e]
    congr 1
    refine zip_filterMap (pre ++ [(p, u)]) (by simpa using hl) (fun x hx => ?_) (List.nodup_cons.mp nd).2
    rw [List.lookup_append, hp x (List.mem_cons_of_mem _ hx)]
    have : x ≠ p := fun e => (List.nodup_cons.mp nd).1 (e ▸ hx)
    have e2 : (x == p) = false := by simpa using this
    simp [List.lookup_cons, e2]
theorem bindPlain {fd : FuncData} {ps : List Str} (h1 : fd.params.posonlyargs = []) (h2 : fd.params.args.map (·.arg) = ps) (h3 : fd.params.vararg = none) (h4 : fd.params.kwonlyargs = []) (h5 : fd.params.kwarg = none) (hd : fd.defaults = .none) (nd : ps.Nodup) (us : List Value) (hl : us.length = ps.length) : bindArgs fd ⟨us, []⟩ = pure (ps.zip us) := by
  unfold bindArgs
  simp only [h1, h2, h3, h4, h5, hd, List.map_nil, List.nil_append, List.append_nil]
  have hs : seqItems? .none = pure none := rfl
  have hm : (ps.take ps.length).filter (fun n => ((ps.zip us).lookup n).isNone) = [] := by
    rw [List.take_length, List.filter_eq_nil_iff]
    intro x hx
    simp [zip_lookup hl hx]
  have hf := zip_filterMap (ps := ps) (us := us) [] hl (fun _ _ => rfl) nd
  rw [List.nil_append] at hf
  have hg : ¬ us.length > ps.length := by omega
  rw [List.take_length] at hm
  simp [hs, hf, hl]
  intro x hx hn
  exfalso
  have := zip_lookup hl hx
  cases q : (ps.zip us).lookup x with
  | none => rw [q] at this; cases this
  | some v =>
    refine hn v ?_
    clear hm hf hs this hg nd h2
    revert q
    generalize ps.zip us = l
    intro q
    induction l with
    | nil => cases q
    | cons a r ih =>
      obtain ⟨y, z⟩ := a
      rw [List.lookup_cons] at q
      by_cases e : x = y
      · subst e
        simp at q
        subst q
        exact List.mem_cons_self
      · have e2 : (x == y) = false := by simpa using e
        rw [e2] at q
        exact List.mem_cons_of_mem _ (ih q)
end DL
end
section
set_option Elab.async false
set_option linter.all false
set_option maxRecDepth 100000
/-! Chk2: an error's __init__, as one Bool. -/
namespace DL
open PySem PySem.W L2 PyProof.Rows He PySem.HandSPX
/-- plain parameters -/
def plainPar (p : Arguments) (ps : List Str) : Bool := p.posonlyargs.isEmpty && decide (p.args.map (·.arg) = ps) && p.vararg.isNone && p.kwonlyargs.isEmpty && p.kwarg.isNone
theorem plainPar_ok {p : Arguments} {ps : List Str} (h : plainPar p ps = true) : p.posonlyargs = [] ∧ p.args.map (·.arg) = ps ∧ p.vararg = none ∧ p.kwonlyargs = [] ∧ p.kwarg = none := by
  unfold plainPar at h
  simpa [and_assoc] using h
def closB (K : Frag) (C : Addr) : List (Str × Addr) → Bool
  | [(x, cc)] => decide (x = "__class__") && (match K.lookup cc with
    | some ⟨_, _, .cell (some (.ref D)), _⟩ => decide (D = C)
    | _ => false)
  | _ => false
theorem closB_ok {K : Frag} {C : Addr} {l : List (Str × Addr)} (h : closB K C l = true) : ∃ cc cl cld csl, l = [(("__class__" : Str), cc)] ∧ K.lookup cc = some ⟨cl, cld, .cell (some (.ref C)), csl⟩ := by
  unfold closB at h
  split at h
  · rename_i x cc
    simp only [Bool.and_eq_true, decide_eq_true_eq] at h
    obtain ⟨rfl, h2⟩ := h
    split at h2
    · rename_i q
      have := of_decide_eq_true h2
      subst this
      exact ⟨cc, _, _, _, rfl, q⟩
    · cases h2
  · cases h
def codB (prog : Program) (K : Frag) (qual : Str) : Value → Bool
  | .ref cda => codeIn K (.ref cda) qual && (match K.lookup cda with
    | some ⟨_, _, .fields vs, _⟩ => (match vs[2]? with
      | some (Value.str file _) => ((prog.main.file : Str) == file)
      | _ => false)
    | _ => false)
  | _ => false
theorem codB_ok {prog : Program} {K : Frag} {qual : Str} {cd : Value} (h : codB prog K qual cd = true) : ∃ cda ccl cdd vs ccs file tf, cd = .ref cda ∧ codeIn K (.ref cda) qual = true ∧ K.lookup cda = some ⟨ccl, cdd, .fields vs, ccs⟩ ∧ vs[2]? = some (.str file tf) ∧ ((prog.main.file : Str) == file) = true := by
  unfold codB at h
  split at h
  · rename_i cda
    obtain ⟨h1, h2⟩ := ba h
    split at h2
    · rename_i q
      split at h2
      · rename_i e
        exact ⟨cda, _, _, _, _, _, _, rfl, h1, q, e, h2⟩
      · cases h2
    · cases h2
  · cases h
def bodB (flds : List Str) : FuncBody → Bool
  | .stmts (st :: body) => isSup st && keepsAll flds body
  | _ => false
theorem bodB_ok {flds : List Str} {b : FuncBody} (h : bodB flds b = true) : ∃ st body, b = .stmts (st :: body) ∧ isSup st = true ∧ keepsAll flds body = true := by
  unfold bodB at h
  split at h
  · obtain ⟨h1, h2⟩ := ba h
    exact ⟨_, _, rfl, h1, h2⟩
  · cases h
def scpB (flds : List Str) (sc : Scope) : Bool := decide (sc.names.lookup ("super" : Str) = some .globalImplicit) && decide (sc.names.lookup ("__class__" : Str) = some .free) && ((("self" : Str) :: flds).all fun f => decide (sc.names.lookup f = some .local)) &&
  (sc.names.all fun y => decide (y.2 ≠ .cell)) && decide (sc.kind = .function) && !sc.isCoroutine && !sc.isGenerator
theorem scpB_ok {flds : List Str} {scope : Scope} (h : scpB flds scope = true) : scope.names.lookup ("super" : Str) = some .globalImplicit ∧ scope.names.lookup ("__class__" : Str) = some .free ∧ (∀ f ∈ ("self" : Str) :: flds, scope.names.lookup f = some .local) ∧ (∀ y ∈ scope.names, y.2 ≠ .cell) ∧ scope.kind = .function ∧ scope.isCoroutine = false ∧ scope.isGenerator = false := by
  unfold scpB at h
  simp only [Bool.and_eq_true, decide_eq_true_eq, List.all_eq_true, Bool.not_eq_true'] at h
  obtain ⟨⟨⟨⟨⟨⟨h1, h2⟩, h3⟩, h4⟩, h5⟩, h6⟩, h7⟩ := h
  exact ⟨h1, h2, h3, h4, h5, h6, h7⟩
def fdB (prog : Program) (K : Frag) (C : Addr) (flds : List Str) (fd : FuncData) : Bool :=
  decide (fd.globals = mainGlobals) && decide (fd.builtins = builtinsNs) && decide (fd.defaults = .none) && plainPar fd.params (("self" : Str) :: flds) && closB K C fd.closure && codB prog K fd.qualname fd.code && bodB flds fd.body && scpB flds fd.scope
/-- the function object of an error's __init__ -/
def initB (prog : Program) (K : Frag) (C fI : Addr) (flds : List Str) : Bool := match K.lookup fI with
  | some ⟨_, _, .func fd, _⟩ => fdB prog K C flds fd
  | _ => false
/-- an error's class -/
def xclsB (K : Frag) (C : Addr) : Bool := match K.lookup C with
  | some ⟨.type t, _, .cls cd, ⟨[_, _, _, _, some (.builtin n), _]⟩⟩ => decide (t = "type") && (match cd.mro with
    | .ref C' :: bm => decide (C' = C) && refsVE bm
    | _ => false) && decide (n = "ValueError.__new__") && !cd.hasDel && cd.hasDict
  | _ => false
theorem xclsB_ok {K : Frag} {C : Addr} (h : xclsB K C = true) : ∃ nm q N bs bm sn sub ab col dd k0 k1 k2 k3 k5, K.lookup C = some (excClassObj nm q C N bs bm true sn sub ab col dd k0 k1 k2 k3 k5 "ValueError.__new__") ∧ refsVE bm = true := by
  unfold xclsB at h
  split at h
  · rename_i t dd cd k0 k1 k2 k3 n k5 q
    simp only [Bool.and_eq_true, decide_eq_true_eq, Bool.not_eq_true'] at h
    obtain ⟨⟨⟨⟨rfl, h1⟩, rfl⟩, h2⟩, h3⟩ := h
    obtain ⟨nm, bs, mro, ns, qn, hd, sn, sb, ab, col, del⟩ := cd
    dsimp only at h1 h2 h3
    subst h2 h3
    split at h1
    · simp only [Bool.and_eq_true, decide_eq_true_eq] at h1
      obtain ⟨rfl, h4⟩ := h1
      exact ⟨_, _, _, _, _, _, _, _, _, _, _, _, _, _, _, q, h4⟩
    · cases h1
  · cases h
/-- all of it -/
def xtB (prog : Program) (K : Frag) (x : Str) (flds : List Str) : Bool :=
  xclsB K (ga K x) && eqO (findIn K (.ref (ga K x)) "__setattr__") (some (some (.builtin "object.__setattr__"))) && flds.all (fun f => (Fa.noat x f).ok K) && eqO (findIn K (.ref (ga K x)) "__init__") (some (some (.ref (ma K (ga K x) "__init__")))) &&
  decide (typeIn K (.ref (ma K (ga K x) "__init__")) = some (.type "function")) && keepIn K (.ref (ga K x)) && decide (subIn K (.ref (ga K x)) (.type "BaseException") = some true) && decide (typeIn K (.ref (ga K x)) = some (.type "type")) && decide (subIn K (.ref (ga K x)) (.type "ValueError") = some true) &&
  decide (mroIn K (ga K x) (.ref (ga K x)) = some true) && eqO (ks_superIn K (ga K x) (ga K x) "__init__") (some (some (.builtin "ValueError.__init__"))) && eqO (nsIn K cStatics "thirdparty.any") (some none) && !(prog.main.scope.names.lookup ("super" : Str)).isSome && decide ((("self" : Str) :: flds).Nodup) && !flds.isEmpty && decide (flds.length ≤ 100) &&
  flds.all (fun f => !(f == ("__debug__" : Str))) && initB prog K (ga K x) (ma K (ga K x) "__init__") flds
theorem xtB_ok {prog : Program} {K : Frag} {mg : Str → Option Value} {x : Str} {flds : List Str} (h : xtB prog K x flds = true) (hs : mg "super" = none) : XTxt prog K mg (ga K x) (ma K (ga K x) "__init__") flds := by
  unfold xtB at h
  simp only [Bool.and_eq_true, decide_eq_true_eq, List.all_eq_true, Bool.not_eq_true'] at h
  obtain ⟨⟨⟨⟨⟨⟨⟨⟨⟨⟨⟨⟨⟨⟨⟨⟨⟨h1, h2⟩, h3⟩, h4⟩, h5⟩, h6⟩, h7⟩, h8⟩, h9⟩, h10⟩, h11⟩, h12⟩, h13⟩, h14⟩, h15⟩, h16⟩, h17⟩, h18⟩ := h
  refine ⟨xclsB_ok h1, eqO_ok h2, fun f hf => noat_ok (h3 f hf), eqO_ok h4, h5, h6, h7, h8, h9, h10, eqO_ok h11, eqO_ok h12, hs, h13, h14, (fun e => by rw [e] at h15; cases h15), h16, h17, ?_⟩
  unfold initB at h18
  split at h18
  · rename_i oc od fd osl q
    unfold fdB at h18
    simp only [Bool.and_eq_true, decide_eq_true_eq] at h18
    obtain ⟨⟨⟨⟨⟨⟨⟨g1, g2⟩, g3⟩, g4⟩, g5⟩, g6⟩, g7⟩, g8⟩ := h18
    obtain ⟨n1, n2, n3, n4, n5, n6, n7, n8, n9, n10, n11, n12, n13, n14, n15⟩ := fd
    dsimp only at g1 g2 g3 g4 g5 g6 g7 g8
    obtain ⟨cc, cl, cld, csl, e1, e2⟩ := closB_ok g5
    obtain ⟨cda, ccl, cdd, vs, ccs, file, tf, e3, e4, e5, e6, e7⟩ := codB_ok g6
    obtain ⟨st, body, e8, e9, e10⟩ := bodB_ok g7
    obtain ⟨p1, p2, p3, p4, p5⟩ := plainPar_ok g4
    subst g1 g2 g3 e1 e3 e8
    cases hp : n3.args with
    | nil => rw [hp] at p2; cases p2
    | cons ar r =>
      have ea : ar.arg = "self" := by rw [hp] at p2; exact (List.cons.inj p2).1
      refine ⟨oc, od, n1, n2, n3, st, body, n5, _, n9, n10, n11, n12, cda, n14, cc, osl, ar, ccl, cdd, vs, ccs, file, tf, cl, cld, csl, q, e4, ?_, e9, e10, ?_, ea, e5, e6, e7, e2, scpB_ok g8⟩
      · exact fun us hl => bindPlain p1 p2 p3 p4 p5 rfl h14 us (by simpa using hl)
      · rw [p1, hp]; rfl
  · cases h18
end DL
end
section
set_option Elab.async false
set_option linter.all false
set_option maxRecDepth 100000
/-! Chk3: the table's facts by one Bool over the text and one over the written part. -/
namespace DL
open PySem PySem.W L2 PyProof.Rows He
/-- where a function of the table stands: by names; its name, its qualified name; its place in the top (a class's: the place in its body); its names; whether it is an __init__ -/
structure FDs where
  at_ : Str × Option Str
  name : Str
  qual : Str
  top : Nat
  sub : Option Nat
  N : List Str
  ini : Bool
def clsBody : Stmt → List Stmt
  | .ClassDef _ _ _ b _ _ _ _ _ _ _ => b
  | _ => []
def FDs.stmt (prog : Program) (d : FDs) : Stmt := match d.sub with
  | none => prog.main.body.getD d.top (.Pass ⟨0, 0, 0, 0⟩)
  | some j => (clsBody (prog.main.body.getD d.top (.Pass ⟨0, 0, 0, 0⟩))).getD j (.Pass ⟨0, 0, 0, 0⟩)
def FDs.def_ (prog : Program) (d : FDs) : DefD := ⟨d.at_, d.name, d.qual, defArgs (d.stmt prog), defBody (d.stmt prog), defScope (d.stmt prog), [], []⟩
/-- the text of one function -/
def fnScB (N ps : List Str) (sc : Scope) : Bool := decide (sc.kind = .function) && !sc.isCoroutine && !sc.isGenerator && decide N.Nodup && decide (N.take ps.length = ps) && ps.all (fun x => decide (sc.names.lookup x = some .local) || decide (sc.names.lookup x = some .cell)) && sc.names.all fun y => decide (y.2 ≠ .free)
theorem fnScB_ok {N ps : List Str} {sc : Scope} (h : fnScB N ps sc = true) : FnScope N ps sc := by
  unfold fnScB at h
  simp only [Bool.and_eq_true, Bool.or_eq_true, Bool.not_eq_true', decide_eq_true_eq, List.all_eq_true] at h
  obtain ⟨⟨⟨⟨⟨⟨h1, h2⟩, h3⟩, h4⟩, h5⟩, h6⟩, h7⟩ := h
  exact ⟨h1, h2, h3, h4, h5, h6, h7⟩
def txt1 (prog : Program) (T : DL.Tab) (L : Nms) (fn : Fn) (d : FDs) : Bool :=
  fnScB d.N (d.N.take fn.np) (defScope (d.stmt prog)) && decide (d.N.length = fn.ns) && decide ((d.N.take fn.np).length = fn.np) && decide ((d.N.take fn.np).Nodup) && plainPar (defArgs (d.stmt prog)) (d.N.take fn.np) && mSs T L d.N (defScope (d.stmt prog)) d.ini false fn.body (defBody (d.stmt prog))
def txtAll (prog : Program) (T : DL.Tab) (L : Nms) (ds : List (Nat × FDs)) : Bool := T.fns.all fun q => match assoc ds q.1 with
  | some d => txt1 prog T L q.2 d
  | none => false
theorem txtAll_get {prog : Program} {T : DL.Tab} {L : Nms} {ds : List (Nat × FDs)} {i : Nat} {fn : Fn} (h : txtAll prog T L ds = true) (e : T.fn i = some fn) : ∃ d, assoc ds i = some d ∧ txt1 prog T L fn d = true := by
  have := List.all_eq_true.mp h (i, fn) (assoc_mem e)
  dsimp only at this
  split at this
  · rename_i d q
    exact ⟨d, q, this⟩
  · cases this
/-- the addresses, the function objects, the parameters, the kinds -/
def adrOf (K : Frag) (ds : List (Nat × FDs)) (f : Nat) : Addr := match assoc ds f with
  | some d => fAd K d.at_
  | none => 0
def fdOf (K : Frag) (a : Addr) : FuncData := match K.lookup a with
  | some ⟨_, _, .func fd, _⟩ => fd
  | _ => default
def psOf (T : DL.Tab) (ds : List (Nat × FDs)) (f : Nat) : List Str := match assoc ds f, T.fn f with
  | some d, some fn => d.N.take fn.np
  | _, _ => []
def iniOf (ds : List (Nat × FDs)) (f : Nat) : Bool := match assoc ds f with
  | some d => d.ini
  | none => false
def gloFa : Str × D → Fa
  | (x, .int i) => .int x i
  | (x, .str z) => .str x z
  | (x, _) => .glo x
def gloOk : Str × D → Bool
  | (_, .int _) => true
  | (_, .str _) => true
  | _ => false
/-- the facts of the written part -/
def exB (prog : Program) (T : DL.Tab) (L : Nms) (ds : List (Nat × FDs)) (K : Frag) : Bool :=
  T.cls.all (fun q => if q.2.exc then excB K T q.2 else clsB K T q.2) && tyB K T &&
  (L.glos.all fun p => gloOk p && (gloFa p).ok K) && (bltNames.all fun x => (Fa.free x).ok K) && (T.cls.all fun q => (Fa.glo q.2.name).ok K) && (Fa.free "super").ok K &&
  (L.fns.all fun q => !iniOf ds q.1 && (Fa.glo q.2).ok K && decide (ga K q.2 = adrOf K ds q.1) && keepIn K (.ref (adrOf K ds q.1))) &&
  (T.cls.all fun q => q.2.exc || q.2.meths.all fun p => (T.fn p.2).isSome && !iniOf ds p.2 && (Fa.meth q.2.name p.1).ok K && decide (ma K (ga K q.2.name) p.1 = adrOf K ds p.2)) &&
  (T.cls.all fun q => q.2.exc || (iniOf ds q.2.init && (Fa.mkr q.2.name).ok K && decide (ma K (ga K q.2.name) "__init__" = adrOf K ds q.2.init))) &&
  (T.cls.all fun q => !q.2.exc || q.2.flds.isEmpty || xtB prog K q.2.name q.2.flds)
theorem mem_of_lookup {α : Type} {m : Str} {f : α} : ∀ {l : List (Str × α)}, l.lookup m = some f → (m, f) ∈ l
  | [], h => by cases h
  | (a, b) :: r, h => by
    rw [List.lookup_cons] at h
    by_cases e : m = a
    · subst e
      simp at h
      subst h
      exact List.mem_cons_self
    · have e2 : (m == a) = false := by simpa using e
      rw [e2] at h
      exact List.mem_cons_of_mem _ (mem_of_lookup h)
theorem pf_of {P : Program} {w : World} {K : Frag} {mg : Str → Option Value} {base h : Heap} {T : DL.Tab} {L : Nms} {ds : List (Nat × FDs)} (X : K.In h) (G : h.Ns mainGlobals mg) (ht : txtAll P T L ds = true) (he : exB P T L ds K = true) (hd : ∀ (i : Nat) (d : FDs), (i, d) ∈ ds → ∃ fd, FunD K d.name d.qual (defArgs (d.stmt P)) (defBody (d.stmt P)) (defScope (d.stmt P)) [] [] (fAd K d.at_) fd) :
    PF P w K mg base (lk T K) T L (adrOf K ds) (fun f => fdOf K (adrOf K ds f)) (psOf T ds) (iniOf ds) := by
  unfold exB at he
  simp only [Bool.and_eq_true] at he
  obtain ⟨⟨⟨⟨⟨⟨⟨⟨⟨h1, h2⟩, h3⟩, h4⟩, h5⟩, h6⟩, h7⟩, h8⟩, h9⟩, h10⟩ := he
  refine ⟨rfl, tok_of h1 h2, ⟨fun x d hx => ?_, fun x hx => ?_, fun c cl hc => ?_⟩, fun f fn hf => ?_, fun f x hx => ?_, fun c cl m f hc hx hm => ?_, fun c cl hc hx => ?_, fun c cl hc hx hf => ?_⟩
  · have := List.all_eq_true.mp h3 (x, d) hx
    obtain ⟨q1, q2⟩ := ba this
    cases d with
    | int i =>
      obtain ⟨t, e⟩ := int_ok X G q2
      exact ⟨.int i, _, e, ⟨t, rfl⟩, fun A mp H => by simp [RV]⟩
    | str z =>
      obtain ⟨t, e⟩ := str_ok X G q2
      exact ⟨.str z, _, e, ⟨t, rfl⟩, fun A mp H => by simp [RV]⟩
    | _ => simp [gloOk] at q1
  · exact free_ok X G (List.all_eq_true.mp h4 x hx)
  · rw [lk_at hc]
    exact glo_ok X G (List.all_eq_true.mp h5 (c, cl) (assoc_mem hc))
  · obtain ⟨d, hdi, t1⟩ := txtAll_get ht hf
    unfold txt1 at t1
    simp only [Bool.and_eq_true, decide_eq_true_eq] at t1
    obtain ⟨⟨⟨⟨⟨t2, t3⟩, t4⟩, t5⟩, t6⟩, t7⟩ := t1
    obtain ⟨fd, FD⟩ := hd f d (assoc_mem hdi)
    have ea : adrOf K ds f = fAd K d.at_ := by unfold adrOf; rw [hdi]
    have ef : fdOf K (adrOf K ds f) = fd := by
      obtain ⟨oc, od, dV, kV, doc, pm, an, cdv, ct, osl, e0, lk, _⟩ := FD.ex
      unfold fdOf
      rw [ea, lk]
    have ep : psOf T ds f = d.N.take fn.np := by unfold psOf; rw [hdi, hf]
    have ei : iniOf ds f = d.ini := by unfold iniOf; rw [hdi]
    rw [ef, ea, ep, ei]
    obtain ⟨p1, p2, p3, p4, p5⟩ := plainPar_ok t6
    refine ⟨⟨_, _, _, _, _, d.N, FD, fnScB_ok t2, t3, t7⟩, t4, ?_⟩
    exact FD.bindsN fun kV doc pm an cdv ct us hl => bindPlain p1 p2 p3 p4 p5 rfl t5 us hl
  · have := List.all_eq_true.mp h7 (f, x) (assoc_mem hx)
    simp only [Bool.and_eq_true, Bool.not_eq_true', decide_eq_true_eq] at this
    obtain ⟨⟨⟨q1, q2⟩, q3⟩, q4⟩ := this
    exact ⟨q1, by rw [← q3]; exact glo_ok X G q2, q4⟩
  · have := List.all_eq_true.mp h8 (c, cl) (assoc_mem hc)
    dsimp only at this
    rw [hx, Bool.false_or] at this
    have := List.all_eq_true.mp this (m, f) (mem_of_lookup hm)
    simp only [Bool.and_eq_true, Bool.not_eq_true', decide_eq_true_eq] at this
    obtain ⟨⟨⟨q1, q2⟩, q3⟩, q4⟩ := this
    refine ⟨q1, q2, ?_⟩
    rw [← q4, lk_at hc]
    exact meth_ok q3
  · have := List.all_eq_true.mp h9 (c, cl) (assoc_mem hc)
    dsimp only at this
    rw [hx, Bool.false_or] at this
    simp only [Bool.and_eq_true, decide_eq_true_eq] at this
    obtain ⟨⟨q1, q2⟩, q3⟩ := this
    refine ⟨q1, ?_⟩
    rw [← q3, lk_at hc]
    exact mkr_ok q2
  · have := List.all_eq_true.mp h10 (c, cl) (assoc_mem hc)
    dsimp only at this
    have hn : cl.flds.isEmpty = false := by
      cases q : cl.flds with
      | nil => exact absurd q hf
      | cons _ _ => rfl
    rw [hx, hn] at this
    simp only [Bool.not_true, Bool.false_or] at this
    rw [lk_at hc]
    exact ⟨_, xtB_ok this (free_ok X G h6)⟩
end DL
end
section
set_option Elab.async false
set_option linter.all false
set_option maxRecDepth 100000
/-! EndL: from the table's facts and the plain law to the row. -/
namespace DL
open PySem PySem.W L2 PyProof.Rows He PySem.Spec
theorem walk_dl {l : PySem.W.OpenLaw} {n k : Nat} {q : Program} {loose : List Str} {XP : (Str → Option Value) → Heap → Prop} {YP : World → Heap → Prop} {d : DefRec} {CX : World → CXT} {x : Str}
    (hn : l.most = some n) (hn2 : n ≤ sizeLine) (hdf : d.params.defaults = []) (hr : Room k callerA)
    (F : ∀ (w : World) (mg : Str → Option Value) (fa : Addr) (h : Heap), YP w h → h.Ns mainGlobals mg → mg d.name = some (.ref fa) →
      ∃ (K : PySem.W.Frag) (fd : FuncData) (sp : Sp), K.In h ∧ (∀ (s : Shared) (u : Value), BindsTo s fd ⟨[u], []⟩ [(x, u)]) ∧
        (∀ (H : Hp) (a : Addr) (ns : List Int), ns.length ≤ n → (∀ z ∈ ns, Builtin.Int.intBits z ≤ 1048576) → Only H → SqL K H a (ns.map V.int) → sp [.ref a] H (fun v _ => v = .bl true) fun _ _ _ => False) ∧
        ∀ base : Heap, K.In base → base.Ns mainGlobals mg → FnOk l.prog w K mg base (CX w) k fa fd [x] sp)
    (hCX : ∀ (w : World) (H : Hp) (s : Shared) (e : Value) (s' : Shared), CX w [] H s (fun _ _ _ => False) e s' → False) :
    PySem.W.WalkO q loose XP YP l.row.toRowW d [] (fun f vs => PySem.call f vs) := by
  refine Att.attach_callB hn hdf fun w s₀ s₁ mg mb fa o pm cd doc a vs ns G Y ho hd hcd hmg hobj hints hlen hbits hg => ?_
  obtain ⟨K, fd, sp, KX, hb, hsp, hF⟩ := F w mg fa _ Y G.T.g hmg
  exact law_call KX G.T.g G.T.b G.T.builtins G.T.nolimit hg hobj hints (Nat.le_trans hlen hn2) hr hF hb (fun H hO hS => hsp H a ns hlen hbits hO hS) fun H e s' => hCX w H s₁ e s'
/-- the Hook: what the module's names reach, and the C statics -/
def KY (n : Nat) (g : Addr → Option Obj) : Frag := frG g (cStatics :: asD g n)
def hookY (n : Nat) (fn : List DefD) (ex : Frag → Bool) : Hook where
  α := AlD × Bool
  obs := fun s => (obsD [] fn (KY n s.heap.get?), ex (KY n s.heap.get?))
  val := fun _ => (valD fn, true)
  says := fun _ h => ∃ K : Frag, K.In h ∧ SaysD [] fn K ∧ ex K = true
  of := fun _ _ e => ⟨_, frG_in, congrArg (fun z : AlD × Bool => z.1) e, congrArg (fun z : AlD × Bool => z.2) e⟩
  keeps := fun _ _ _ ⟨K, hK, c⟩ k => ⟨K, Frag.In.keeps hK k, c⟩
theorem obsY_eq {n : Nat} {fn : List DefD} {ex : Frag → Bool} {g : Addr → Option Obj} {s : Shared} (h : ∀ a, g a = s.heap.get? a) : (obsD [] fn (KY n g), ex (KY n g)) = (hookY n fn ex).obs s := by
  have e : g = s.heap.get? := funext h
  rw [e] <;> rfl
/-- the script's bits -/
def ScrOk (ns : List Int) : Prop := ns.length ≤ 63 ∧ ∀ z ∈ ns, Builtin.Int.intBits z ≤ 1048576
/-- the plain law -/
def PlainLaw (T : DL.Tab) (n f : Nat) : Prop := ∀ ns : List Int, ScrOk ns → ∃ p, (lev T n).call f [.scr ns] [] = .ok (.bl true) p
/-- the promise of the law's def -/
theorem law_sp {K : Frag} {T : DL.Tab} {n f : Nat} (pl : PlainLaw T n f) (H : Hp) (a : Addr) (ns : List Int) (h1 : ns.length ≤ 63) (h2 : ∀ z ∈ ns, Builtin.Int.intBits z ≤ 1048576) (hO : Only H) (hS : SqL K H a (ns.map V.int)) :
    spF (lk T K) 1 ((lev T n).call f) [.ref a] H (fun v _ => v = .bl true) fun _ _ _ => False := by
  refine ⟨rfl, fun _ => False, [], [], [.scr ns], ⟨⟨rfl, List.nodup_nil, fun i a d h => by simp at h⟩, fun _ h => h.elim⟩, ?_, ?_⟩
  · simp only [RVs, RV]
    refine ⟨_, _, rfl, ⟨a, rfl, ?_⟩, rfl⟩
    rcases hS with h | h
    · refine .inl ⟨?_, h⟩
      rintro (z | z)
      · exact z
      · cases z
    · exact .inr h
  · obtain ⟨p, e⟩ := pl ns ⟨h1, h2⟩
    rw [e]
    intro mp' H' v _ _ hv
    simpa [RV] using hv
/-- all that a law's def wants -/
theorem law_F {l : PySem.W.OpenLaw} {T : DL.Tab} {L : Nms} {ds : List (Nat × FDs)} {n : Nat} {nm x : Str} {fn : Fn} {d0 : FDs} (ht : txtAll l.prog T L ds = true) (pl : PlainLaw T n 0) (hf : (T.fn 0) = some fn) (hnp : fn.np = 1) (hd0 : assoc ds 0 = some d0) (hN : d0.N.take 1 = [x]) (hL : L.fn 0 = some nm)
    {m : Nat} (w : World) (mg : Str → Option Value) (ad : Addr) (h : Heap) (Y : (hookY m (ds.map fun q => q.2.def_ l.prog) (exB l.prog T L ds)).says w h) (G : h.Ns mainGlobals mg) (hmg : mg nm = some (.ref ad)) :
    ∃ (K : PySem.W.Frag) (fd : FuncData) (sp : Sp), K.In h ∧ (∀ (s : Shared) (u : Value), BindsTo s fd ⟨[u], []⟩ [(x, u)]) ∧
        (∀ (H : Hp) (a : Addr) (ns : List Int), ns.length ≤ 63 → (∀ z ∈ ns, Builtin.Int.intBits z ≤ 1048576) → Only H → SqL K H a (ns.map V.int) → sp [.ref a] H (fun v _ => v = .bl true) fun _ _ _ => False) ∧
        ∀ base : Heap, K.In base → base.Ns mainGlobals mg → FnOk l.prog w K mg base (L2.CX l.prog w) (2 * n + 2) ad fd [x] sp := by
  obtain ⟨K, KX, cd, cm⟩ := Y
  have hdefs : ∀ (i : Nat) (d : FDs), (i, d) ∈ ds → ∃ fd, FunD K d.name d.qual (defArgs (d.stmt l.prog)) (defBody (d.stmt l.prog)) (defScope (d.stmt l.prog)) [] [] (fAd K d.at_) fd := fun i d hd => by
    obtain ⟨fd, F⟩ := cd.defs (d := d.def_ l.prog) (List.mem_map_of_mem (f := fun q : Nat × FDs => q.2.def_ l.prog) hd)
    exact ⟨fd, F⟩
  have pf : ∀ base : Heap, PF l.prog w K mg base (lk T K) T L (adrOf K ds) (fun f => fdOf K (adrOf K ds f)) (psOf T ds) (iniOf ds) := fun base => pf_of KX G ht cm hdefs
  obtain ⟨q1, q2, q3⟩ := (pf h).named 0 nm hL
  have ea : adrOf K ds 0 = ad := by
    rw [hmg] at q2
    cases q2
    rfl
  have ep : psOf T ds 0 = [x] := by
    unfold psOf
    rw [hd0, hf]
    show d0.N.take fn.np = [x]
    rw [hnp, hN]
  refine ⟨K, fdOf K (adrOf K ds 0), spF (lk T K) 1 ((lev T n).call 0), KX, ?_, fun H a ns h1 h2 hO hS => law_sp pl H a ns h1 h2 hO hS, fun base _ _ => ?_⟩
  · obtain ⟨d, hdi, t1⟩ := txtAll_get ht hf
    unfold txt1 at t1
    simp only [Bool.and_eq_true, decide_eq_true_eq] at t1
    obtain ⟨⟨⟨⟨⟨t2, t3⟩, t4⟩, t5⟩, t6⟩, t7⟩ := t1
    obtain ⟨fd, FD⟩ := hdefs 0 d (assoc_mem hdi)
    rw [hd0] at hdi
    cases hdi
    rw [hnp, hN] at t5 t6
    have e2 : adrOf K ds 0 = fAd K d0.at_ := by unfold adrOf; rw [hd0]
    have ef : fdOf K (adrOf K ds 0) = fd := by
      obtain ⟨oc, od, dV, kV, doc, pm, an, cdv, ct, osl, e0, lk, _⟩ := FD.ex
      unfold fdOf
      rw [e2, lk]
    rw [ef]
    obtain ⟨p1, p2, p3, p4, p5⟩ := plainPar_ok t6
    intro s u
    exact FunD.bindsA (ps := [x]) FD (fun kV doc pm an cdv ct us hl => bindPlain p1 p2 p3 p4 p5 rfl t5 us hl) s [u] rfl
  · have := (lev_all (pf base) n).call 0 fn hf q1
    rw [ea, ep, hnp] at this
    rw [ea]
    exact this
theorem cx_no (P : Program) (w : World) (H : Hp) (s : Shared) (e : Value) (s' : Shared) (h : L2.CX P w [] H s (fun _ _ _ => False) e s') : False := by
  obtain ⟨_, _, _, _, _, _, _, _, _, _, _, _, hE⟩ := h
  exact hE
end DL
end
section
set_option Elab.async false
set_option linter.all false
set_option maxRecDepth 100000
/-! Fx: the functions of the program and of the laws in the small syntax (printed by gen.py --lib). -/
namespace DL.Fx
abbrev k_DimmerError : Nat := 0
abbrev k_InvalidName : Nat := 1
abbrev k_DuplicateName : Nat := 2
abbrev k_UnknownName : Nat := 3
abbrev k_InvalidLine : Nat := 4
abbrev k_TooMany : Nat := 5
abbrev k_Table : Nat := 6
abbrev k_Node : Nat := 7
abbrev k_Leaf : Nat := 8
abbrev k_Branch : Nat := 9
abbrev k_Group : Nat := 10
abbrev k_Row : Nat := 11
abbrev k_InvalidNote : Nat := 12
abbrev k_NoOrder : Nat := 13
abbrev k_OrderTree : Nat := 14
abbrev k_Notes : Nat := 15
abbrev k_Solution : Nat := 16
abbrev k_Failure : Nat := 17
abbrev k_Trial : Nat := 18
abbrev k_Whole : Nat := 19
abbrev k_Hall : Nat := 20
abbrev k_Arrangement : Nat := 21
abbrev k_Split : Nat := 22
abbrev k_Desk : Nat := 23
abbrev k_InvalidOrder : Nat := 24
/-- check_name ['name', 'sign'] -/
abbrev n_check_name : Nat := 1
def check_name : Fn := ⟨1, 2, .seq (.ite (.or (.not (.isi (.var 0) .str)) (.or (.cmp .eq (.var 0) (.str "")) (.cmp .gt (.fn1 .len (.var 0)) (.glo "LENGTH" (.int 12))))) (.seq (.raise 1 (.cons (.var 0) .nil)) (.skip)) (.skip)) (.seq (.for_ (.name 1) (.seq (.var 0)) (.seq (.ite (.cmp .notIn (.var 1) (.glo "SIGNS" (.str "abcdefghijklmnopqrstuvwxyz0123456789"))) (.seq (.raise 1 (.cons (.var 0) .nil)) (.skip)) (.skip)) (.skip))) (.skip))⟩
/-- check_new ['name', 'taken'] -/
abbrev n_check_new : Nat := 2
def check_new : Fn := ⟨2, 2, .seq (.expr (.call 1 (.cons (.var 0) .nil))) (.seq (.ite (.cmp .inn (.var 0) (.var 1)) (.seq (.raise 2 (.cons (.var 0) .nil)) (.skip)) (.skip)) (.skip))⟩
/-- check_known ['name', 'known'] -/
abbrev n_check_known : Nat := 3
def check_known : Fn := ⟨2, 2, .seq (.ite (.cmp .notIn (.var 0) (.var 1)) (.seq (.raise 3 (.cons (.var 0) .nil)) (.skip)) (.skip)) (.skip)⟩
/-- checked_names ['names', 'taken', 'name'] -/
abbrev n_checked_names : Nat := 4
def checked_names : Fn := ⟨1, 3, .seq (.ite (.cmp .gt (.fn1 .len (.var 0)) (.glo "LIMIT" (.int 24))) (.seq (.raise 5 (.cons (.glo "LIMIT" (.int 24)) .nil)) (.skip)) (.skip)) (.seq (.own 1 (.lst .nil)) (.seq (.for_ (.name 2) (.seq (.var 0)) (.seq (.expr (.call 2 (.cons (.var 2) (.cons (.var 1) .nil)))) (.seq (.app 1 (.var 2)) (.skip)))) (.seq (.ret (.fn1 .tuple (.var 1))) (.skip))))⟩
/-- Table_shown ['self', 'look'] -/
abbrev n_Table_shown : Nat := 5
def Table_shown : Fn := ⟨2, 2, .seq (.expr (.call 3 (.cons (.var 1) (.cons (.att (.var 0) "looks") .nil)))) (.seq (.ret (.idx (.att (.var 0) "cells") (.var 1))) (.skip))⟩
/-- Table_alike ['self', 'first', 'second'] -/
abbrev n_Table_alike : Nat := 6
def Table_alike : Fn := ⟨3, 3, .seq (.ret (.cmp .eq (.meth (.var 0) "shown" (.cons (.var 1) .nil)) (.meth (.var 0) "shown" (.cons (.var 2) .nil)))) (.skip)⟩
/-- Table_seen ['self', 'lamp', 'look'] -/
abbrev n_Table_seen : Nat := 7
def Table_seen : Fn := ⟨2, 3, .seq (.expr (.call 3 (.cons (.var 1) (.cons (.att (.var 0) "lamps") .nil)))) (.seq (.ret (.fn1 .tuple (.lc (.var 2) 2 (.seq (.att (.var 0) "looks")) (.some (.cmp .inn (.var 1) (.idx (.att (.var 0) "cells") (.var 2))))))) (.skip))⟩
/-- Table___init__ ['self', 'lamps', 'looks', 'cells', 'look', 'glowing', 'taken', 'lamp'] -/
abbrev n_Table___init__ : Nat := 8
def Table___init__ : Fn := ⟨3, 8, .seq (.ite (.or (.cmp .gt (.fn1 .len (.var 1)) (.glo "LIMIT" (.int 24))) (.cmp .gt (.fn1 .len (.var 2)) (.glo "LIMIT" (.int 24)))) (.seq (.raise 5 (.cons (.glo "LIMIT" (.int 24)) .nil)) (.skip)) (.skip)) (.seq (.fld 0 "lamps" (.call 4 (.cons (.var 1) .nil))) (.seq (.own 3 (.dct)) (.seq (.for_ (.tup [4, 5]) (.seq (.var 2)) (.seq (.expr (.call 2 (.cons (.var 4) (.cons (.var 3) .nil)))) (.seq (.own 6 (.lst .nil)) (.seq (.for_ (.name 7) (.seq (.var 5)) (.seq (.expr (.call 3 (.cons (.var 7) (.cons (.att (.var 0) "lamps") .nil)))) (.seq (.expr (.call 2 (.cons (.var 7) (.cons (.var 6) .nil)))) (.seq (.app 6 (.var 7)) (.skip))))) (.seq (.put 3 (.var 4) (.fn1 .tuple (.lc (.var 7) 7 (.seq (.att (.var 0) "lamps")) (.some (.cmp .inn (.var 7) (.var 6)))))) (.skip)))))) (.seq (.fld 0 "looks" (.fn1 .tuple (.fn1 .list (.var 3)))) (.seq (.fld 0 "cells" (.var 3)) (.skip))))))⟩
/-- Table___len__ ['self'] -/
abbrev n_Table___len__ : Nat := 11
def Table___len__ : Fn := ⟨1, 1, .seq (.ret (.fn1 .len (.att (.var 0) "looks"))) (.skip)⟩
/-- Table___eq__ ['self', 'other'] -/
abbrev n_Table___eq__ : Nat := 12
def Table___eq__ : Fn := ⟨2, 2, .seq (.ite (.not (.isi (.var 1) (.cls 6))) (.seq (.ret (.bl false)) (.skip)) (.skip)) (.seq (.ret (.and (.cmp .eq (.att (.var 0) "lamps") (.att (.var 1) "lamps")) (.and (.cmp .eq (.att (.var 0) "looks") (.att (.var 1) "looks")) (.cmp .eq (.att (.var 0) "cells") (.att (.var 1) "cells"))))) (.skip))⟩
/-- Table_rows ['self', 'look'] -/
abbrev n_Table_rows : Nat := 14
def Table_rows : Fn := ⟨1, 2, .seq (.ret (.lc (.tup (.cons (.var 1) (.cons (.idx (.att (.var 0) "cells") (.var 1)) .nil))) 1 (.seq (.att (.var 0) "looks")) .none)) (.skip)⟩
/-- Leaf___init__ ['self', 'name'] -/
abbrev n_Leaf___init__ : Nat := 20
def Leaf___init__ : Fn := ⟨2, 2, .seq (.fld 0 "name" (.var 1)) (.skip)⟩
/-- Node_leaves ['self'] -/
abbrev n_Node_leaves : Nat := 22
def Node_leaves : Fn := ⟨1, 1, .seq (.ret (.tup .nil)) (.skip)⟩
/-- Node_many ['self'] -/
abbrev n_Node_many : Nat := 23
def Node_many : Fn := ⟨1, 1, .seq (.ret (.int 1)) (.skip)⟩
/-- Node_shape ['self'] -/
abbrev n_Node_shape : Nat := 24
def Node_shape : Fn := ⟨1, 1, .seq (.ret (.tup .nil)) (.skip)⟩
/-- Node_text ['self'] -/
abbrev n_Node_text : Nat := 25
def Node_text : Fn := ⟨1, 1, .seq (.ret (.str "")) (.skip)⟩
/-- Leaf_leaves ['self'] -/
abbrev n_Leaf_leaves : Nat := 26
def Leaf_leaves : Fn := ⟨1, 1, .seq (.ret (.tup (.cons (.att (.var 0) "name") .nil))) (.skip)⟩
/-- Leaf_many ['self'] -/
abbrev n_Leaf_many : Nat := 27
def Leaf_many : Fn := ⟨1, 1, .seq (.ret (.int 1)) (.skip)⟩
/-- Leaf_shape ['self'] -/
abbrev n_Leaf_shape : Nat := 28
def Leaf_shape : Fn := ⟨1, 1, .seq (.ret (.att (.var 0) "name")) (.skip)⟩
/-- Leaf_text ['self'] -/
abbrev n_Leaf_text : Nat := 29
def Leaf_text : Fn := ⟨1, 1, .seq (.ret (.att (.var 0) "name")) (.skip)⟩
/-- Branch_many ['self', 'product', 'part'] -/
abbrev n_Branch_many : Nat := 31
def Branch_many : Fn := ⟨1, 3, .seq (.set 1 (.int 1)) (.seq (.for_ (.name 2) (.seq (.att (.var 0) "parts")) (.seq (.set 1 (.bin .mul (.var 1) (.meth (.var 2) "many" .nil))) (.skip))) (.seq (.ret (.var 1)) (.skip)))⟩
/-- Branch_shape ['self', 'part'] -/
abbrev n_Branch_shape : Nat := 34
def Branch_shape : Fn := ⟨1, 2, .seq (.ret (.bin .add (.tup (.cons (.att (.var 0) "KIND") .nil)) (.fn1 .tuple (.lc (.meth (.var 1) "shape" .nil) 1 (.seq (.att (.var 0) "parts")) .none)))) (.skip)⟩
/-- line_begins ['parts', 'prefix', 'rest', 'part', 'size'] -/
abbrev n_line_begins : Nat := 42
def line_begins : Fn := ⟨2, 5, .seq (.set 2 (.var 1)) (.seq (.for_ (.name 3) (.seq (.var 0)) (.seq (.set 4 (.fn1 .len (.meth (.var 3) "leaves" .nil))) (.seq (.ite (.not (.meth (.var 3) "begins" (.cons (.slc (.var 2) .none (.some (.var 4))) .nil))) (.seq (.ret (.bl false)) (.skip)) (.skip)) (.seq (.set 2 (.slc (.var 2) (.some (.var 4)) .none)) (.skip))))) (.seq (.ret (.cmp .eq (.var 2) (.tup .nil))) (.skip)))⟩
/-- Node_begins ['self', 'prefix'] -/
abbrev n_Node_begins : Nat := 43
def Node_begins : Fn := ⟨2, 2, .seq (.ret (.cmp .eq (.var 1) (.tup .nil))) (.skip)⟩
/-- Leaf_begins ['self', 'prefix'] -/
abbrev n_Leaf_begins : Nat := 44
def Leaf_begins : Fn := ⟨2, 2, .seq (.ret (.or (.cmp .eq (.var 1) (.tup .nil)) (.cmp .eq (.var 1) (.tup (.cons (.att (.var 0) "name") .nil))))) (.skip)⟩
/-- check_pair ['table', 'pair'] -/
abbrev n_check_pair : Nat := 49
def check_pair : Fn := ⟨2, 2, .seq (.expr (.call 3 (.cons (.idx (.var 1) (.int 0)) (.cons (.att (.var 0) "looks") .nil)))) (.seq (.expr (.call 3 (.cons (.idx (.var 1) (.int 1)) (.cons (.att (.var 0) "looks") .nil)))) (.seq (.ite (.cmp .eq (.idx (.var 1) (.int 0)) (.idx (.var 1) (.int 1))) (.seq (.raise 12 (.cons (.idx (.var 1) (.int 0)) (.cons (.idx (.var 1) (.int 1)) .nil))) (.skip)) (.skip)) (.skip)))⟩
/-- chain ['table', 'start', 'end', 'origin'] -/
abbrev n_chain : Nat := 53
def chain : Fn := ⟨3, 4, .seq (.expr (.call 49 (.cons (.var 0) (.cons (.var 1) .nil)))) (.seq (.expr (.call 49 (.cons (.var 0) (.cons (.var 2) .nil)))) (.seq (.set 3 (.call 51 (.cons (.var 0) (.cons (.var 1) .nil)))) (.seq (.ite (.cmp .notIn (.var 2) (.var 3)) (.seq (.ret (.non)) (.skip)) (.skip)) (.seq (.ret (.call 52 (.cons (.var 3) (.cons (.var 2) .nil)))) (.skip)))))⟩
/-- share ['node', 'chosen', 'name', 'hits'] -/
abbrev n_share : Nat := 55
def share : Fn := ⟨2, 4, .seq (.set 3 (.fn1 .len (.lc (.var 2) 2 (.seq (.meth (.var 0) "leaves" .nil)) (.some (.cmp .inn (.var 2) (.var 1)))))) (.seq (.ite (.cmp .eq (.var 3) (.int 0)) (.seq (.ret (.int 0)) (.skip)) (.skip)) (.seq (.ite (.cmp .eq (.var 3) (.fn1 .len (.meth (.var 0) "leaves" .nil))) (.seq (.ret (.int 2)) (.skip)) (.skip)) (.seq (.ret (.int 1)) (.skip))))⟩
/-- with_share ['parts', 'chosen', 'wanted', 'part'] -/
abbrev n_with_share : Nat := 56
def with_share : Fn := ⟨3, 4, .seq (.ret (.lc (.var 3) 3 (.seq (.var 0)) (.some (.cmp .eq (.call 55 (.cons (.var 3) (.cons (.var 1) .nil))) (.var 2))))) (.skip)⟩
/-- OrderTree___and__ ['self', 'chosen', 'name', 'root'] -/
abbrev n_OrderTree___and__ : Nat := 66
def OrderTree___and__ : Fn := ⟨2, 4, .seq (.for_ (.name 2) (.seq (.var 1)) (.seq (.expr (.call 3 (.cons (.var 2) (.cons (.att (.var 0) "names") .nil)))) (.skip))) (.seq (.ite (.cmp .isN (.att (.var 0) "root") (.non)) (.seq (.ret (.var 0)) (.skip)) (.skip)) (.seq (.set 3 (.call 62 (.cons (.att (.var 0) "root") (.cons (.var 1) .nil)))) (.seq (.ite (.cmp .isN (.var 3) (.non)) (.seq (.raise 13 (.cons (.non) (.cons (.non) .nil))) (.skip)) (.skip)) (.seq (.ret (.new 14 (.cons (.att (.var 0) "names") (.cons (.call 47 (.cons (.var 3) .nil)) .nil)))) (.skip)))))⟩
/-- OrderTree___contains__ ['self', 'order'] -/
abbrev n_OrderTree___contains__ : Nat := 67
def OrderTree___contains__ : Fn := ⟨2, 2, .seq (.ret (.and (.cmp .eq (.fn1 .len (.var 1)) (.fn1 .len (.att (.var 0) "names"))) (.meth (.var 0) "begins" (.cons (.var 1) .nil)))) (.skip)⟩
/-- OrderTree_begins ['self', 'prefix'] -/
abbrev n_OrderTree_begins : Nat := 68
def OrderTree_begins : Fn := ⟨2, 2, .seq (.ite (.cmp .isN (.att (.var 0) "root") (.non)) (.seq (.ret (.cmp .eq (.fn1 .len (.var 1)) (.int 0))) (.skip)) (.skip)) (.seq (.ret (.meth (.att (.var 0) "root") "begins" (.cons (.fn1 .tuple (.var 1)) .nil))) (.skip))⟩
/-- OrderTree___eq__ ['self', 'other'] -/
abbrev n_OrderTree___eq__ : Nat := 69
def OrderTree___eq__ : Fn := ⟨2, 2, .seq (.ite (.not (.isi (.var 1) (.cls 14))) (.seq (.ret (.bl false)) (.skip)) (.skip)) (.seq (.ret (.cmp .eq (.meth (.var 0) "shape" .nil) (.meth (.var 1) "shape" .nil))) (.skip))⟩
/-- OrderTree_shape ['self'] -/
abbrev n_OrderTree_shape : Nat := 70
def OrderTree_shape : Fn := ⟨1, 1, .seq (.ite (.cmp .isN (.att (.var 0) "root") (.non)) (.seq (.ret (.tup .nil)) (.skip)) (.skip)) (.seq (.ret (.meth (.att (.var 0) "root") "shape" .nil)) (.skip))⟩
/-- OrderTree___len__ ['self'] -/
abbrev n_OrderTree___len__ : Nat := 71
def OrderTree___len__ : Fn := ⟨1, 1, .seq (.ret (.fn1 .len (.att (.var 0) "names"))) (.skip)⟩
/-- OrderTree___str__ ['self'] -/
abbrev n_OrderTree___str__ : Nat := 72
def OrderTree___str__ : Fn := ⟨1, 1, .seq (.ite (.cmp .isN (.att (.var 0) "root") (.non)) (.seq (.ret (.str "()")) (.skip)) (.skip)) (.seq (.ret (.fn1 .str (.meth (.att (.var 0) "root") "text" .nil))) (.skip))⟩
/-- OrderTree_total ['self'] -/
abbrev n_OrderTree_total : Nat := 73
def OrderTree_total : Fn := ⟨1, 1, .seq (.ite (.cmp .isN (.att (.var 0) "root") (.non)) (.seq (.ret (.int 1)) (.skip)) (.skip)) (.seq (.ret (.meth (.att (.var 0) "root") "many" .nil)) (.skip))⟩
/-- Notes___len__ ['self'] -/
abbrev n_Notes___len__ : Nat := 79
def Notes___len__ : Fn := ⟨1, 1, .seq (.ret (.fn1 .len (.att (.var 0) "pairs"))) (.skip)⟩
/-- Notes___contains__ ['self', 'pair'] -/
abbrev n_Notes___contains__ : Nat := 81
def Notes___contains__ : Fn := ⟨2, 2, .seq (.ret (.cmp .inn (.fn1 .tuple (.var 1)) (.att (.var 0) "pairs"))) (.skip)⟩
/-- Notes___eq__ ['self', 'other'] -/
abbrev n_Notes___eq__ : Nat := 82
def Notes___eq__ : Fn := ⟨2, 2, .seq (.ret (.and (.isi (.var 1) (.cls 15)) (.cmp .eq (.att (.var 0) "pairs") (.att (.var 1) "pairs")))) (.skip)⟩
/-- pairs_of ['notes'] -/
abbrev n_pairs_of : Nat := 89
def pairs_of : Fn := ⟨1, 1, .seq (.ite (.cmp .isN (.var 0) (.non)) (.seq (.ret (.tup .nil)) (.skip)) (.skip)) (.seq (.ret (.att (.var 0) "pairs")) (.skip))⟩
/-- clash ['node', 'pairs', 'links', 'found', 'one', 'forward', 'backward', 'part'] -/
abbrev n_clash : Nat := 92
def clash : Fn := ⟨2, 8, .seq (.ite (.or (.cmp .isN (.var 0) (.non)) (.cmp .eq (.att (.var 0) "KIND") (.str "leaf"))) (.seq (.ret (.non)) (.skip)) (.skip)) (.seq (.set 2 (.call 90 (.cons (.var 0) (.cons (.var 1) .nil)))) (.seq (.ite (.cmp .eq (.att (.var 0) "KIND") (.str "group")) (.seq (.set 3 (.call 91 (.cons (.fn1 .len (.att (.var 0) "parts")) (.cons (.var 2) .nil)))) (.seq (.ite (.cmp .ne (.var 3) (.lst .nil)) (.seq (.ret (.tup (.cons (.str "group") (.cons (.var 3) .nil)))) (.skip)) (.skip)) (.skip))) (.seq (.set 5 (.lc (.idx (.var 2) (.var 4)) 4 (.seq (.var 2)) (.some (.cmp .lt (.idx (.var 4) (.int 0)) (.idx (.var 4) (.int 1)))))) (.seq (.set 6 (.lc (.idx (.var 2) (.var 4)) 4 (.seq (.var 2)) (.some (.cmp .gt (.idx (.var 4) (.int 0)) (.idx (.var 4) (.int 1)))))) (.seq (.ite (.and (.cmp .ne (.var 5) (.lst .nil)) (.cmp .ne (.var 6) (.lst .nil))) (.seq (.ret (.tup (.cons (.str "row") (.cons (.lst (.cons (.idx (.var 5) (.int 0)) (.cons (.idx (.var 6) (.int 0)) .nil))) .nil)))) (.skip)) (.skip)) (.skip))))) (.seq (.for_ (.name 7) (.seq (.att (.var 0) "parts")) (.seq (.set 3 (.call 92 (.cons (.var 7) (.cons (.var 1) .nil)))) (.seq (.ite (.cmp .notN (.var 3) (.non)) (.seq (.ret (.var 3)) (.skip)) (.skip)) (.skip)))) (.seq (.ret (.non)) (.skip)))))⟩
/-- checked_pairs ['table', 'notes', 'pairs', 'pair'] -/
abbrev n_checked_pairs : Nat := 96
def checked_pairs : Fn := ⟨2, 4, .seq (.set 2 (.call 89 (.cons (.var 1) .nil))) (.seq (.for_ (.name 3) (.seq (.var 2)) (.seq (.expr (.call 3 (.cons (.idx (.var 3) (.int 0)) (.cons (.att (.var 0) "looks") .nil)))) (.seq (.expr (.call 3 (.cons (.idx (.var 3) (.int 1)) (.cons (.att (.var 0) "looks") .nil)))) (.skip)))) (.seq (.ret (.var 2)) (.skip)))⟩
/-- Solution___init__ ['self', 'order', 'bar', 'ring'] -/
abbrev n_Solution___init__ : Nat := 99
def Solution___init__ : Fn := ⟨4, 4, .seq (.fld 0 "order" (.var 1)) (.seq (.fld 0 "bar" (.var 2)) (.seq (.fld 0 "ring" (.var 3)) (.skip)))⟩
/-- Solution___bool__ ['self'] -/
abbrev n_Solution___bool__ : Nat := 100
def Solution___bool__ : Fn := ⟨1, 1, .seq (.ret (.cmp .notN (.att (.var 0) "order") (.non))) (.skip)⟩
/-- need ['table', 'notes', 'solution'] -/
abbrev n_need : Nat := 105
def need : Fn := ⟨2, 3, .seq (.set 2 (.call 97 (.cons (.var 0) (.cons (.var 1) .nil)))) (.seq (.ite (.cmp .isN (.att (.var 2) "order") (.non)) (.seq (.raise 13 (.cons (.att (.var 2) "bar") (.cons (.att (.var 2) "ring") .nil))) (.skip)) (.skip)) (.seq (.ret (.att (.var 2) "order")) (.skip)))⟩
/-- prospects ['table', 'notes', 'first', 'second', 'words', 'lamp', 'seen', 'look', 'inner'] -/
abbrev n_prospects : Nat := 108
def prospects : Fn := ⟨4, 9, .seq (.expr (.call 49 (.cons (.var 0) (.cons (.tup (.cons (.var 2) (.cons (.var 3) .nil))) .nil)))) (.seq (.expr (.call 105 (.cons (.var 0) (.cons (.var 1) .nil)))) (.seq (.own 4 (.dct)) (.seq (.for_ (.name 5) (.seq (.att (.var 0) "lamps")) (.seq (.set 6 (.meth (.var 0) "seen" (.cons (.var 5) .nil))) (.seq (.put 4 (.var 5) (.str "open")) (.seq (.ite (.and (.cmp .inn (.var 2) (.var 6)) (.cmp .inn (.var 3) (.var 6))) (.seq (.put 4 (.var 5) (.str "on")) (.skip)) (.seq (.ite (.and (.cmp .notIn (.var 2) (.var 6)) (.and (.cmp .notIn (.var 3) (.var 6)) (.cmp .ne (.var 6) (.tup .nil)))) (.seq (.set 8 (.lc (.var 7) 7 (.seq (.var 6)) (.some (.call 107 (.cons (.var 0) (.cons (.var 1) (.cons (.var 7) (.cons (.var 2) (.cons (.var 3) .nil))))))))) (.seq (.ite (.cmp .eq (.var 8) (.lst .nil)) (.seq (.put 4 (.var 5) (.str "off")) (.skip)) (.skip)) (.skip))) (.skip)) (.skip))) (.skip))))) (.seq (.ret (.var 4)) (.skip)))))⟩
/-- paper_of ['table', 'notes', 'most', 'solution', 'conflict', 'branches', 'lamp'] -/
abbrev n_paper_of : Nat := 111
def paper_of : Fn := ⟨3, 7, .seq (.set 3 (.call 97 (.cons (.var 0) (.cons (.var 1) .nil)))) (.seq (.set 4 (.tup (.cons (.str "bar") (.cons (.att (.var 3) "bar") .nil)))) (.seq (.ite (.cmp .isN (.att (.var 3) "bar") (.non)) (.seq (.set 4 (.tup (.cons (.str "ring") (.cons (.att (.var 3) "ring") .nil)))) (.skip)) (.skip)) (.seq (.own 5 (.lst .nil)) (.seq (.ite (.cmp .gt (.var 2) (.int 0)) (.seq (.for_ (.name 6) (.seq (.meth (.var 3) "used" .nil)) (.seq (.app 5 (.tup (.cons (.var 6) (.cons (.call 111 (.cons (.meth (.var 0) "without" (.cons (.var 6) .nil)) (.cons (.var 1) (.cons (.bin .sub (.var 2) (.int 1)) .nil)))) .nil)))) (.skip))) (.skip)) (.skip)) (.seq (.ret (.tup (.cons (.var 4) (.cons (.var 5) .nil)))) (.skip))))))⟩
/-- Failure___init__ ['self', 'lamps', 'paper'] -/
abbrev n_Failure___init__ : Nat := 114
def Failure___init__ : Fn := ⟨3, 3, .seq (.fld 0 "lamps" (.var 1)) (.seq (.fld 0 "paper" (.var 2)) (.skip))⟩
/-- Trial___init__ ['self', 'hall'] -/
abbrev n_Trial___init__ : Nat := 115
def Trial___init__ : Fn := ⟨2, 2, .seq (.fld 0 "hall" (.var 1)) (.seq (.fld 0 "state" (.att (.var 1) "state")) (.seq (.fld 0 "past" (.att (.var 1) "past")) (.skip)))⟩
/-- Trial___enter__ ['self'] -/
abbrev n_Trial___enter__ : Nat := 116
def Trial___enter__ : Fn := ⟨1, 1, .seq (.ret (.att (.var 0) "hall")) (.skip)⟩
/-- Hall___init__ ['self'] -/
abbrev n_Hall___init__ : Nat := 119
def Hall___init__ : Fn := ⟨1, 1, .seq (.fld 0 "state" (.tup (.cons (.tup .nil) (.cons (.tup .nil) (.cons (.tup .nil) .nil))))) (.seq (.fld 0 "past" (.tup .nil)) (.seq (.fld 0 "budget" (.int 2)) (.skip)))⟩
/-- Hall_table ['self'] -/
abbrev n_Hall_table : Nat := 121
def Hall_table : Fn := ⟨1, 1, .seq (.ret (.new 6 (.cons (.idx (.att (.var 0) "state") (.int 0)) (.cons (.idx (.att (.var 0) "state") (.int 1)) .nil)))) (.skip)⟩
/-- Hall_changes ['self'] -/
abbrev n_Hall_changes : Nat := 123
def Hall_changes : Fn := ⟨1, 1, .seq (.ret (.fn1 .len (.att (.var 0) "past"))) (.skip)⟩
/-- Hall_most ['self'] -/
abbrev n_Hall_most : Nat := 124
def Hall_most : Fn := ⟨1, 1, .seq (.ret (.att (.var 0) "budget")) (.skip)⟩
/-- Hall_become ['self', 'lamps', 'rows', 'pairs'] -/
abbrev n_Hall_become : Nat := 125
def Hall_become : Fn := ⟨4, 4, .seq (.expr (.new 6 (.cons (.var 1) (.cons (.var 2) .nil)))) (.seq (.fld 0 "past" (.bin .add (.att (.var 0) "past") (.tup (.cons (.att (.var 0) "state") .nil)))) (.seq (.fld 0 "state" (.tup (.cons (.fn1 .tuple (.var 1)) (.cons (.fn1 .tuple (.var 2)) (.cons (.fn1 .tuple (.var 3)) .nil))))) (.skip)))⟩
/-- Hall_remove_lamp ['self', 'name', 'table'] -/
abbrev n_Hall_remove_lamp : Nat := 128
def Hall_remove_lamp : Fn := ⟨2, 3, .seq (.set 2 (.meth (.att (.var 0) "table") "without" (.cons (.var 1) .nil))) (.seq (.expr (.meth (.var 0) "become" (.cons (.att (.var 2) "lamps") (.cons (.meth (.var 2) "rows" .nil) (.cons (.idx (.att (.var 0) "state") (.int 2)) .nil))))) (.skip))⟩
/-- Hall_solution ['self'] -/
abbrev n_Hall_solution : Nat := 133
def Hall_solution : Fn := ⟨1, 1, .seq (.ret (.call 97 (.cons (.att (.var 0) "table") (.cons (.att (.var 0) "known") .nil)))) (.skip)⟩
/-- Hall_best_order ['self'] -/
abbrev n_Hall_best_order : Nat := 134
def Hall_best_order : Fn := ⟨1, 1, .seq (.ret (.call 105 (.cons (.att (.var 0) "table") (.cons (.att (.var 0) "known") .nil)))) (.skip)⟩
/-- new_name ['names', 'number'] -/
abbrev n_new_name : Nat := 141
def new_name : Fn := ⟨1, 2, .seq (.for_ (.name 1) (.rng (.bin .add (.fn1 .len (.var 0)) (.int 1))) (.seq (.ite (.cmp .notIn (.bin .add (.str "new") (.fn1 .str (.var 1))) (.var 0)) (.seq (.ret (.bin .add (.str "new") (.fn1 .str (.var 1)))) (.skip)) (.skip)) (.skip))) (.seq (.ret (.str "new")) (.skip))⟩
/-- Arrangement___eq__ ['self', 'other'] -/
abbrev n_Arrangement___eq__ : Nat := 147
def Arrangement___eq__ : Fn := ⟨2, 2, .seq (.ite (.not (.isi (.var 1) (.cls 21))) (.seq (.ret (.bl false)) (.skip)) (.skip)) (.seq (.ret (.and (.cmp .eq (.att (.var 0) "settings") (.att (.var 1) "settings")) (.cmp .eq (.att (.var 0) "stretches") (.att (.var 1) "stretches")))) (.skip))⟩
/-- Arrangement___radd__ ['self', 'by'] -/
abbrev n_Arrangement___radd__ : Nat := 149
def Arrangement___radd__ : Fn := ⟨2, 2, .seq (.ret (.bin .add (.var 0) (.var 1))) (.skip)⟩
/-- bar_holds ['table', 'steps'] -/
abbrev n_bar_holds : Nat := 154
def bar_holds : Fn := ⟨2, 2, .seq (.ite (.not (.call 153 (.cons (.var 0) (.cons (.var 1) .nil)))) (.seq (.ret (.bl false)) (.skip)) (.skip)) (.seq (.ret (.cmp .eq (.slc (.idx (.var 1) (.int 0)) .none (.some (.int 2))) (.tup (.cons (.idx (.idx (.var 1) (.neg (.int 1))) (.int 1)) (.cons (.idx (.idx (.var 1) (.neg (.int 1))) (.int 0)) .nil))))) (.skip))⟩
/-- ring_holds ['table', 'notes', 'ring', 'steps', 'index'] -/
abbrev n_ring_holds : Nat := 155
def ring_holds : Fn := ⟨3, 5, .seq (.ite (.cmp .eq (.fn1 .len (.var 2)) (.int 0)) (.seq (.ret (.bl false)) (.skip)) (.skip)) (.seq (.for_ (.name 3) (.seq (.var 2)) (.seq (.ite (.or (.not (.call 153 (.cons (.var 0) (.cons (.var 3) .nil)))) (.cmp .notIn (.slc (.idx (.var 3) (.int 0)) .none (.some (.int 2))) (.call 89 (.cons (.var 1) .nil)))) (.seq (.ret (.bl false)) (.skip)) (.skip)) (.skip))) (.seq (.for_ (.name 4) (.rng (.fn1 .len (.var 2))) (.seq (.ite (.cmp .ne (.idx (.idx (.idx (.var 2) (.bin .sub (.var 4) (.int 1))) (.neg (.int 1))) (.int 1)) (.idx (.idx (.idx (.var 2) (.var 4)) (.neg (.int 1))) (.int 0))) (.seq (.ret (.bl false)) (.skip)) (.skip)) (.skip))) (.seq (.ret (.bl true)) (.skip))))⟩
/-- divided ['table', 'first', 'second', 'count', 'lamp', 'found'] -/
abbrev n_divided : Nat := 161
def divided : Fn := ⟨3, 6, .seq (.set 3 (.bin .add (.fn1 .len (.var 1)) (.fn1 .len (.var 2)))) (.seq (.ite (.cmp .eq (.var 3) (.fn1 .len (.att (.var 0) "lamps"))) (.seq (.ret (.tup (.cons (.var 1) (.cons (.var 2) .nil)))) (.skip)) (.skip)) (.seq (.set 4 (.idx (.att (.var 0) "lamps") (.var 3))) (.seq (.set 5 (.non)) (.seq (.ite (.call 98 (.cons (.call 160 (.cons (.var 0) (.cons (.bin .add (.var 1) (.tup (.cons (.var 4) .nil))) .nil))) .nil)) (.seq (.set 5 (.call 161 (.cons (.var 0) (.cons (.bin .add (.var 1) (.tup (.cons (.var 4) .nil))) (.cons (.var 2) .nil))))) (.skip)) (.skip)) (.seq (.ite (.and (.cmp .isN (.var 5) (.non)) (.call 98 (.cons (.call 160 (.cons (.var 0) (.cons (.bin .add (.var 2) (.tup (.cons (.var 4) .nil))) .nil))) .nil))) (.seq (.set 5 (.call 161 (.cons (.var 0) (.cons (.var 1) (.cons (.bin .add (.var 2) (.tup (.cons (.var 4) .nil))) .nil))))) (.skip)) (.skip)) (.seq (.ret (.var 5)) (.skip)))))))⟩
/-- split ['table', 'found'] -/
abbrev n_split : Nat := 163
def split : Fn := ⟨1, 2, .seq (.ite (.cmp .gt (.fn1 .len (.att (.var 0) "lamps")) (.glo "MOST" (.int 10))) (.seq (.raise 5 (.cons (.glo "MOST" (.int 10)) .nil)) (.skip)) (.skip)) (.seq (.set 1 (.call 161 (.cons (.var 0) (.cons (.tup .nil) (.cons (.tup .nil) .nil))))) (.seq (.ite (.cmp .isN (.var 1) (.non)) (.seq (.ret (.new 22 (.cons (.non) (.cons (.non) (.cons (.call 162 (.cons (.var 0) (.cons (.tup .nil) (.cons (.tup .nil) .nil)))) .nil))))) (.skip)) (.skip)) (.seq (.ret (.new 22 (.cons (.idx (.var 1) (.int 0)) (.cons (.idx (.var 1) (.int 1)) (.cons (.non) .nil))))) (.skip))))⟩
/-- Split___init__ ['self', 'first', 'second', 'paper'] -/
abbrev n_Split___init__ : Nat := 164
def Split___init__ : Fn := ⟨4, 4, .seq (.fld 0 "first" (.var 1)) (.seq (.fld 0 "second" (.var 2)) (.seq (.fld 0 "paper" (.var 3)) (.skip)))⟩
/-- split_holds ['table', 'paper'] -/
abbrev n_split_holds : Nat := 165
def split_holds : Fn := ⟨2, 2, .seq (.ret (.call 166 (.cons (.var 0) (.cons (.tup .nil) (.cons (.tup .nil) (.cons (.var 1) .nil)))))) (.skip)⟩
/-- split_part_holds ['table', 'first', 'second', 'paper', 'side', 'lamp', 'one'] -/
abbrev n_split_part_holds : Nat := 166
def split_part_holds : Fn := ⟨4, 7, .seq (.ite (.cmp .eq (.idx (.var 3) (.int 0)) (.str "bar")) (.seq (.set 4 (.var 1)) (.seq (.ite (.cmp .eq (.idx (.var 3) (.int 1)) (.int 2)) (.seq (.set 4 (.var 2)) (.skip)) (.skip)) (.seq (.ite (.or (.cmp .notIn (.idx (.var 3) (.int 1)) (.tup (.cons (.int 1) (.cons (.int 2) .nil)))) (.not (.call 154 (.cons (.var 0) (.cons (.idx (.var 3) (.int 2)) .nil))))) (.seq (.ret (.bl false)) (.skip)) (.skip)) (.seq (.ret (.cmp .eq (.lc (.var 5) 5 (.seq (.call 77 (.cons (.idx (.var 3) (.int 2)) .nil))) (.some (.cmp .notIn (.var 5) (.var 4)))) (.lst .nil))) (.skip))))) (.skip)) (.seq (.set 5 (.idx (.var 3) (.int 1))) (.seq (.ite (.or (.cmp .ne (.idx (.var 3) (.int 0)) (.str "lamp")) (.or (.cmp .notIn (.var 5) (.att (.var 0) "lamps")) (.or (.cmp .inn (.var 5) (.var 1)) (.cmp .inn (.var 5) (.var 2))))) (.seq (.ret (.bl false)) (.skip)) (.skip)) (.seq (.set 6 (.call 166 (.cons (.var 0) (.cons (.bin .add (.var 1) (.tup (.cons (.var 5) .nil))) (.cons (.var 2) (.cons (.idx (.var 3) (.int 2)) .nil)))))) (.seq (.ret (.and (.var 6) (.call 166 (.cons (.var 0) (.cons (.var 1) (.cons (.bin .add (.var 2) (.tup (.cons (.var 5) .nil))) (.cons (.idx (.var 3) (.int 3)) .nil))))))) (.skip)))))⟩
/-- Hall_undo ['self'] -/
abbrev n_Hall_undo : Nat := 167
def Hall_undo : Fn := ⟨1, 1, .seq (.ite (.cmp .eq (.att (.var 0) "past") (.tup .nil)) (.seq (.ret (.bl false)) (.skip)) (.skip)) (.seq (.fld 0 "state" (.idx (.att (.var 0) "past") (.neg (.int 1)))) (.seq (.fld 0 "past" (.slc (.att (.var 0) "past") .none (.some (.neg (.int 1))))) (.seq (.ret (.bl true)) (.skip))))⟩
/-- Hall_set_most ['self', 'value'] -/
abbrev n_Hall_set_most : Nat := 171
def Hall_set_most : Fn := ⟨2, 2, .seq (.fld 0 "most" (.var 1)) (.skip)⟩
/-- Desk___call__ ['self', 'line'] -/
abbrev n_Desk___call__ : Nat := 172
def Desk___call__ : Fn := ⟨2, 2, .seq (.ret (.idx (.meth (.var 0) "run" (.cons (.var 1) .nil)) (.int 0))) (.skip)⟩
/-- L_is ['_law_value', '_law_due'] -/
abbrev n_L_is : Nat := 500
def L_is : Fn := ⟨2, 2, .seq (.ret (.and (.isi (.var 0) .bool) (.cmp .eq (.var 0) (.var 1)))) (.skip)⟩
/-- L_bag ['_law_script', '_law_cell'] -/
abbrev n_L_bag : Nat := 501
def L_bag : Fn := ⟨1, 2, .seq (.rkp (.bin .add (.lst (.cons (.int 0) (.cons (.int 0) .nil))) (.lc (.fn1 .abs (.var 1)) 1 (.seq (.slc (.var 0) .none (.some (.int 63)))) .none))) (.skip)⟩
/-- L_take ['_law_bag_here', '_law_size', '_law_cell', '_law_digit'] -/
abbrev n_L_take : Nat := 502
def L_take : Fn := ⟨2, 4, .seq (.ite (.and (.cmp .eq (.idx (.var 0) (.int 1)) (.int 0)) (.cmp .gt (.fn1 .len (.var 0)) (.int 2))) (.seq (.popAt 2 0 (.int 2)) (.seq (.ite (.cmp .ge (.var 2) (.bin .pow (.int 10) (.int 18))) (.seq (.put 0 (.int 1) (.var 2)) (.skip)) (.seq (.put 0 (.int 0) (.bin .mod (.fn1 .int (.bin .add (.bin .add (.bin .mul (.idx (.var 0) (.int 0)) (.int 48271)) (.bin .mul (.var 2) (.int 69621))) (.int 11))) (.int 2147483647))) (.seq (.ret (.bin .mod (.fn1 .int (.bin .fdiv (.bin .add (.bin .mul (.idx (.var 0) (.int 0)) (.int 16807)) (.int 7919)) (.int 16))) (.var 1))) (.skip)))) (.skip))) (.skip)) (.seq (.ite (.cmp .gt (.idx (.var 0) (.int 1)) (.int 0)) (.seq (.set 3 (.bin .mod (.fn1 .int (.idx (.var 0) (.int 1))) (.var 1))) (.seq (.put 0 (.int 1) (.bin .fdiv (.idx (.var 0) (.int 1)) (.var 1))) (.seq (.ret (.var 3)) (.skip)))) (.skip)) (.seq (.put 0 (.int 0) (.bin .mod (.fn1 .int (.bin .mul (.idx (.var 0) (.int 0)) (.int 48271))) (.int 2147483647))) (.seq (.ret (.bin .mod (.fn1 .int (.bin .fdiv (.idx (.var 0) (.int 0)) (.int 16))) (.var 1))) (.skip))))⟩
/-- L_name ['_law_bag_here', '_law_used', '_law_letters', '_law_name_here', '_law_k'] -/
abbrev n_L_name : Nat := 503
def L_name : Fn := ⟨2, 5, .seq (.set 2 (.str "abcdefghijklmnopqrstuvwxyz")) (.seq (.set 3 (.str "")) (.seq (.for_ (.name 4) (.rng (.bin .add (.int 1) (.call 502 (.cons (.var 0) (.cons (.int 3) .nil))))) (.seq (.set 3 (.bin .add (.var 3) (.idx (.var 2) (.call 502 (.cons (.var 0) (.cons (.int 26) .nil)))))) (.skip))) (.seq (.ite (.cmp .inn (.var 3) (.var 1)) (.seq (.set 3 (.bin .add (.var 3) (.fn1 .str (.fn1 .len (.var 1))))) (.skip)) (.skip)) (.seq (.ret (.var 3)) (.skip)))))⟩
/-- L_names ['_law_bag_here', '_law_count', '_law_names_here', '_law_k'] -/
abbrev n_L_names : Nat := 504
def L_names : Fn := ⟨2, 4, .seq (.own 2 (.lst .nil)) (.seq (.for_ (.name 3) (.rng (.var 1)) (.seq (.app 2 (.call 503 (.cons (.var 0) (.cons (.var 2) .nil)))) (.skip))) (.seq (.ret (.var 2)) (.skip)))⟩
/-- L_free_rows ['_law_bag_here', '_law_lamps', '_law_looks', '_law_rows_here', '_law_look', '_law_shown', '_law_lamp'] -/
abbrev n_L_free_rows : Nat := 505
def L_free_rows : Fn := ⟨3, 7, .seq (.own 3 (.lst .nil)) (.seq (.for_ (.name 4) (.seq (.var 2)) (.seq (.own 5 (.lst .nil)) (.seq (.for_ (.name 6) (.seq (.var 1)) (.seq (.ite (.cmp .eq (.call 502 (.cons (.var 0) (.cons (.int 2) .nil))) (.int 1)) (.seq (.app 5 (.var 6)) (.skip)) (.skip)) (.skip))) (.seq (.app 3 (.tup (.cons (.var 4) (.cons (.var 5) .nil)))) (.skip))))) (.seq (.ret (.var 3)) (.skip)))⟩
/-- L_planted_rows ['_law_bag_here', '_law_lamps', '_law_looks', '_law_settings', '_law_look', '_law_ends', '_law_lamp', '_law_low', '_law_rows_here', '_law_k', '_law_j', '_law_shown'] -/
abbrev n_L_planted_rows : Nat := 506
def L_planted_rows : Fn := ⟨3, 12, .seq (.own 3 (.lst .nil)) (.seq (.for_ (.name 4) (.seq (.var 2)) (.seq (.app 3 (.call 502 (.cons (.var 0) (.cons (.int 9) .nil)))) (.skip))) (.seq (.own 5 (.lst .nil)) (.seq (.for_ (.name 6) (.seq (.var 1)) (.seq (.set 7 (.call 502 (.cons (.var 0) (.cons (.int 9) .nil)))) (.seq (.app 5 (.tup (.cons (.var 7) (.cons (.bin .sub (.bin .add (.var 7) (.call 502 (.cons (.var 0) (.cons (.int 7) .nil)))) (.int 1)) .nil)))) (.skip)))) (.seq (.own 8 (.lst .nil)) (.seq (.for_ (.name 9) (.rng (.fn1 .len (.var 2))) (.seq (.set 11 (.lc (.idx (.var 1) (.var 10)) 10 (.rng (.fn1 .len (.var 1))) (.some (.and (.cmp .le (.idx (.idx (.var 5) (.var 10)) (.int 0)) (.idx (.var 3) (.var 9))) (.cmp .le (.idx (.var 3) (.var 9)) (.idx (.idx (.var 5) (.var 10)) (.int 1))))))) (.seq (.app 8 (.tup (.cons (.idx (.var 2) (.var 9)) (.cons (.var 11) .nil)))) (.skip)))) (.seq (.ret (.var 8)) (.skip)))))))⟩
/-- L_flipped ['_law_bag_here', '_law_lamps', '_law_rows_here', '_law_spot', '_law_lamp', '_law_old', '_law_one', '_law_new'] -/
abbrev n_L_flipped : Nat := 507
def L_flipped : Fn := ⟨3, 8, .seq (.ite (.or (.cmp .eq (.var 1) (.lst .nil)) (.cmp .eq (.var 2) (.lst .nil))) (.seq (.ret (.var 2)) (.skip)) (.skip)) (.seq (.set 3 (.call 502 (.cons (.var 0) (.cons (.fn1 .len (.var 2)) .nil)))) (.seq (.set 4 (.idx (.var 1) (.call 502 (.cons (.var 0) (.cons (.fn1 .len (.var 1)) .nil))))) (.seq (.set 5 (.idx (.idx (.var 2) (.var 3)) (.int 1))) (.seq (.set 7 (.lc (.var 6) 6 (.seq (.var 1)) (.some (.cmp .ne (.cmp .inn (.var 6) (.var 5)) (.cmp .eq (.var 6) (.var 4)))))) (.seq (.ret (.bin .add (.bin .add (.slc (.var 2) .none (.some (.var 3))) (.lst (.cons (.tup (.cons (.idx (.idx (.var 2) (.var 3)) (.int 0)) (.cons (.var 7) .nil))) .nil))) (.slc (.var 2) (.some (.bin .add (.var 3) (.int 1))) .none))) (.skip))))))⟩
/-- L_rows ['_law_bag_here', '_law_lamps', '_law_looks', '_law_way', '_law_rows_here'] -/
abbrev n_L_rows : Nat := 508
def L_rows : Fn := ⟨3, 5, .seq (.set 3 (.call 502 (.cons (.var 0) (.cons (.int 4) .nil)))) (.seq (.ite (.cmp .eq (.var 3) (.int 0)) (.seq (.ret (.call 505 (.cons (.var 0) (.cons (.var 1) (.cons (.var 2) .nil))))) (.skip)) (.skip)) (.seq (.set 4 (.call 506 (.cons (.var 0) (.cons (.var 1) (.cons (.var 2) .nil))))) (.seq (.ite (.cmp .eq (.var 3) (.int 1)) (.seq (.ret (.var 4)) (.skip)) (.skip)) (.seq (.ret (.call 507 (.cons (.var 0) (.cons (.var 1) (.cons (.var 4) .nil))))) (.skip)))))⟩
/-- L_seen ['_law_rows_here', '_law_lamp', '_law_row'] -/
abbrev n_L_seen : Nat := 509
def L_seen : Fn := ⟨2, 3, .seq (.ret (.lc (.idx (.var 2) (.int 0)) 2 (.seq (.var 0)) (.some (.cmp .inn (.var 1) (.idx (.var 2) (.int 1)))))) (.skip)⟩
/-- L_is_integer ['_law_value'] -/
abbrev n_L_is_integer : Nat := 511
def L_is_integer : Fn := ⟨1, 1, .seq (.ret (.and (.isi (.var 0) .int) (.not (.isi (.var 0) .bool)))) (.skip)⟩
/-- L_same ['_law_table', '_law_lamps', '_law_rows_here', '_law_row', '_law_shown', '_law_lamp', '_law_seen_here'] -/
abbrev n_L_same : Nat := 512
def L_same : Fn := ⟨3, 7, .seq (.ite (.or (.not (.isi (.att (.var 0) "lamps") .tuple)) (.not (.isi (.att (.var 0) "looks") .tuple))) (.seq (.ret (.bl false)) (.skip)) (.skip)) (.seq (.ite (.or (.cmp .ne (.fn1 .list (.att (.var 0) "lamps")) (.var 1)) (.cmp .ne (.fn1 .list (.att (.var 0) "looks")) (.lc (.idx (.var 3) (.int 0)) 3 (.seq (.var 2)) .none))) (.seq (.ret (.bl false)) (.skip)) (.skip)) (.seq (.ite (.or (.not (.call 511 (.cons (.fn1 .len (.var 0)) .nil))) (.cmp .ne (.fn1 .len (.var 0)) (.fn1 .len (.var 2)))) (.seq (.ret (.bl false)) (.skip)) (.skip)) (.seq (.for_ (.name 3) (.seq (.var 2)) (.seq (.set 4 (.meth (.var 0) "shown" (.cons (.idx (.var 3) (.int 0)) .nil))) (.seq (.ite (.or (.not (.isi (.var 4) .tuple)) (.cmp .ne (.fn1 .list (.var 4)) (.idx (.var 3) (.int 1)))) (.seq (.ret (.bl false)) (.skip)) (.skip)) (.seq (.ite (.not (.call 500 (.cons (.meth (.var 0) "alike" (.cons (.idx (.var 3) (.int 0)) (.cons (.idx (.idx (.var 2) (.int 0)) (.int 0)) .nil))) (.cons (.cmp .eq (.idx (.var 3) (.int 1)) (.idx (.idx (.var 2) (.int 0)) (.int 1))) .nil)))) (.seq (.ret (.bl false)) (.skip)) (.skip)) (.seq (.for_ (.name 5) (.seq (.var 1)) (.seq (.ite (.not (.call 500 (.cons (.idx (.var 0) (.tup (.cons (.var 5) (.cons (.idx (.var 3) (.int 0)) .nil)))) (.cons (.cmp .inn (.var 5) (.idx (.var 3) (.int 1))) .nil)))) (.seq (.ret (.bl false)) (.skip)) (.skip)) (.skip))) (.skip)))))) (.seq (.for_ (.name 5) (.seq (.var 1)) (.seq (.set 6 (.meth (.var 0) "seen" (.cons (.var 5) .nil))) (.seq (.ite (.or (.not (.isi (.var 6) .tuple)) (.cmp .ne (.fn1 .list (.var 6)) (.call 509 (.cons (.var 2) (.cons (.var 5) .nil))))) (.seq (.ret (.bl false)) (.skip)) (.skip)) (.skip)))) (.seq (.ret (.bl true)) (.skip))))))⟩
/-- L_fault ['_law_name_here', '_law_taken', '_law_sign'] -/
abbrev n_L_fault : Nat := 513
def L_fault : Fn := ⟨2, 3, .seq (.ite (.or (.not (.isi (.var 0) .str)) (.or (.cmp .eq (.var 0) (.str "")) (.cmp .gt (.fn1 .len (.var 0)) (.int 12)))) (.seq (.ret (.str "invalid")) (.skip)) (.skip)) (.seq (.for_ (.name 2) (.seq (.var 0)) (.seq (.ite (.cmp .notIn (.var 2) (.str "abcdefghijklmnopqrstuvwxyz0123456789")) (.seq (.ret (.str "invalid")) (.skip)) (.skip)) (.skip))) (.seq (.ite (.cmp .inn (.var 0) (.var 1)) (.seq (.ret (.str "duplicate")) (.skip)) (.skip)) (.seq (.ret (.str "")) (.skip))))⟩
/-- L_names_due ['_law_names_here', '_law_taken', '_law_name_here', '_law_word'] -/
abbrev n_L_names_due : Nat := 514
def L_names_due : Fn := ⟨1, 4, .seq (.own 1 (.lst .nil)) (.seq (.for_ (.name 2) (.seq (.var 0)) (.seq (.set 3 (.call 513 (.cons (.var 2) (.cons (.var 1) .nil)))) (.seq (.ite (.cmp .ne (.var 3) (.str "")) (.seq (.ret (.tup (.cons (.var 3) (.cons (.var 2) .nil)))) (.skip)) (.skip)) (.seq (.app 1 (.var 2)) (.skip))))) (.seq (.ret (.non)) (.skip)))⟩
/-- L_due ['_law_lamps', '_law_rows_here', '_law_due_here', '_law_looks', '_law_row', '_law_word', '_law_inner', '_law_lamp'] -/
abbrev n_L_due : Nat := 515
def L_due : Fn := ⟨2, 8, .seq (.ite (.or (.cmp .gt (.fn1 .len (.var 0)) (.int 24)) (.cmp .gt (.fn1 .len (.var 1)) (.int 24))) (.seq (.ret (.tup (.cons (.str "many") (.cons (.int 24) .nil)))) (.skip)) (.skip)) (.seq (.set 2 (.call 514 (.cons (.var 0) .nil))) (.seq (.ite (.cmp .notN (.var 2) (.non)) (.seq (.ret (.var 2)) (.skip)) (.skip)) (.seq (.own 3 (.lst .nil)) (.seq (.for_ (.name 4) (.seq (.var 1)) (.seq (.set 5 (.call 513 (.cons (.idx (.var 4) (.int 0)) (.cons (.var 3) .nil)))) (.seq (.ite (.cmp .ne (.var 5) (.str "")) (.seq (.ret (.tup (.cons (.var 5) (.cons (.idx (.var 4) (.int 0)) .nil)))) (.skip)) (.skip)) (.seq (.app 3 (.idx (.var 4) (.int 0))) (.seq (.own 6 (.lst .nil)) (.seq (.for_ (.name 7) (.seq (.idx (.var 4) (.int 1))) (.seq (.ite (.cmp .notIn (.var 7) (.var 0)) (.seq (.ret (.tup (.cons (.str "unknown") (.cons (.var 7) .nil)))) (.skip)) (.skip)) (.seq (.ite (.cmp .inn (.var 7) (.var 6)) (.seq (.ret (.tup (.cons (.str "duplicate") (.cons (.var 7) .nil)))) (.skip)) (.skip)) (.seq (.app 6 (.var 7)) (.skip))))) (.skip))))))) (.seq (.ret (.non)) (.skip))))))⟩
/-- L_odd_name ['_law_cell'] -/
abbrev n_L_odd_name : Nat := 516
def L_odd_name : Fn := ⟨1, 1, .seq (.ret (.idx (.lst (.cons (.str "") (.cons (.str "A") (.cons (.str "a b") (.cons (.str "abcdefghijklm") (.cons (.str "a_b") (.cons (.int 7) (.cons (.non) (.cons (.str "b-") (.cons (.str " ") (.cons (.str "-1") (.cons (.str "a.") (.cons (.str "aZ9") .nil))))))))))))) (.var 0))) (.skip)⟩
/-- L_put ['_law_bag_here', '_law_names_here', '_law_name_here', '_law_spot'] -/
abbrev n_L_put : Nat := 519
def L_put : Fn := ⟨3, 4, .seq (.set 3 (.call 502 (.cons (.var 0) (.cons (.bin .add (.fn1 .len (.var 1)) (.int 1)) .nil)))) (.seq (.ret (.bin .add (.bin .add (.slc (.var 1) .none (.some (.var 3))) (.lst (.cons (.var 2) .nil))) (.slc (.var 1) (.some (.var 3)) .none))) (.skip))⟩
/-- L_spoilt ['_law_bag_here', '_law_lamps', '_law_rows_here', '_law_way', '_law_spot', '_law_name_here'] -/
abbrev n_L_spoilt : Nat := 520
def L_spoilt : Fn := ⟨3, 6, .seq (.set 3 (.call 502 (.cons (.var 0) (.cons (.int 9) .nil)))) (.seq (.ite (.cmp .eq (.var 3) (.int 1)) (.seq (.set 1 (.call 519 (.cons (.var 0) (.cons (.var 1) (.cons (.idx (.bin .add (.var 1) (.lst (.cons (.str "twice") .nil))) (.call 502 (.cons (.var 0) (.cons (.bin .add (.fn1 .len (.var 1)) (.int 1)) .nil)))) .nil))))) (.skip)) (.skip)) (.seq (.ite (.cmp .eq (.var 3) (.int 2)) (.seq (.set 1 (.call 519 (.cons (.var 0) (.cons (.var 1) (.cons (.call 516 (.cons (.call 502 (.cons (.var 0) (.cons (.int 12) .nil))) .nil)) .nil))))) (.skip)) (.skip)) (.seq (.ite (.and (.cmp .eq (.var 3) (.int 3)) (.cmp .ne (.var 2) (.lst .nil))) (.seq (.set 2 (.call 519 (.cons (.var 0) (.cons (.var 2) (.cons (.tup (.cons (.idx (.idx (.var 2) (.call 502 (.cons (.var 0) (.cons (.fn1 .len (.var 2)) .nil)))) (.int 0)) (.cons (.lst .nil) .nil))) .nil))))) (.skip)) (.skip)) (.seq (.ite (.cmp .eq (.var 3) (.int 4)) (.seq (.set 2 (.call 519 (.cons (.var 0) (.cons (.var 2) (.cons (.tup (.cons (.call 516 (.cons (.call 502 (.cons (.var 0) (.cons (.int 12) .nil))) .nil)) (.cons (.lst .nil) .nil))) .nil))))) (.skip)) (.skip)) (.seq (.ite (.and (.cmp .gt (.var 3) (.int 4)) (.and (.cmp .lt (.var 3) (.int 8)) (.cmp .ne (.var 2) (.lst .nil)))) (.seq (.set 4 (.call 502 (.cons (.var 0) (.cons (.fn1 .len (.var 2)) .nil)))) (.seq (.set 5 (.idx (.lst (.cons (.str "absent9999") (.cons (.int 7) (.cons (.non) .nil)))) (.call 502 (.cons (.var 0) (.cons (.int 3) .nil))))) (.seq (.ite (.and (.cmp .eq (.var 3) (.int 6)) (.cmp .ne (.idx (.idx (.var 2) (.var 4)) (.int 1)) (.lst .nil))) (.seq (.set 5 (.idx (.idx (.idx (.var 2) (.var 4)) (.int 1)) (.call 502 (.cons (.var 0) (.cons (.fn1 .len (.idx (.idx (.var 2) (.var 4)) (.int 1))) .nil))))) (.skip)) (.skip)) (.seq (.set 2 (.bin .add (.bin .add (.slc (.var 2) .none (.some (.var 4))) (.lst (.cons (.tup (.cons (.idx (.idx (.var 2) (.var 4)) (.int 0)) (.cons (.call 519 (.cons (.var 0) (.cons (.idx (.idx (.var 2) (.var 4)) (.int 1)) (.cons (.var 5) .nil)))) .nil))) .nil))) (.slc (.var 2) (.some (.bin .add (.var 4) (.int 1))) .none))) (.skip))))) (.skip)) (.seq (.ret (.lst (.cons (.var 1) (.cons (.var 2) .nil)))) (.skip)))))))⟩
/-- L_accepts ['_law_lamps', '_law_looks', '_law_name', '_law_table', 'e', '_law_look'] -/
abbrev n_L_accepts : Nat := 521
def L_accepts : Fn := ⟨3, 6, .seq (.try1 (.seq (.set 3 (.new 6 (.cons (.var 0) (.cons (.var 1) .nil)))) (.skip)) 1 4 (.seq (.ite (.cmp .ne (.xat 4 "name") (.var 2)) (.seq (.ret (.str "wrong")) (.skip)) (.skip)) (.seq (.ret (.str "refused")) (.skip)))) (.seq (.ite (.or (.cmp .ne (.fn1 .list (.att (.var 3) "lamps")) (.var 0)) (.cmp .ne (.fn1 .list (.att (.var 3) "looks")) (.lc (.idx (.var 5) (.int 0)) 5 (.seq (.var 1)) .none))) (.seq (.ret (.str "wrong")) (.skip)) (.skip)) (.seq (.ret (.str "good")) (.skip)))⟩
/-- L_due_v2 ['_law_lamps', '_law_rows', '_law_due_here', '_law_looks', '_law_row', '_law_word', '_law_inner', '_law_lamp'] -/
abbrev n_L_due_v2 : Nat := 523
def L_due_v2 : Fn := ⟨2, 8, .seq (.ite (.or (.cmp .gt (.fn1 .len (.var 0)) (.int 24)) (.cmp .gt (.fn1 .len (.var 1)) (.int 24))) (.seq (.ret (.tup (.cons (.str "many") (.cons (.int 24) .nil)))) (.skip)) (.skip)) (.seq (.set 2 (.call 514 (.cons (.var 0) .nil))) (.seq (.ite (.cmp .notN (.var 2) (.non)) (.seq (.ret (.var 2)) (.skip)) (.skip)) (.seq (.own 3 (.lst .nil)) (.seq (.for_ (.name 4) (.seq (.var 1)) (.seq (.set 5 (.call 513 (.cons (.idx (.var 4) (.int 0)) (.cons (.var 3) .nil)))) (.seq (.ite (.cmp .ne (.var 5) (.str "")) (.seq (.ret (.tup (.cons (.var 5) (.cons (.idx (.var 4) (.int 0)) .nil)))) (.skip)) (.skip)) (.seq (.app 3 (.idx (.var 4) (.int 0))) (.seq (.own 6 (.lst .nil)) (.seq (.for_ (.name 7) (.seq (.idx (.var 4) (.int 1))) (.seq (.ite (.cmp .notIn (.var 7) (.var 0)) (.seq (.ret (.tup (.cons (.str "unknown") (.cons (.var 7) .nil)))) (.skip)) (.skip)) (.seq (.ite (.cmp .inn (.var 7) (.var 6)) (.seq (.ret (.tup (.cons (.str "duplicate") (.cons (.var 7) .nil)))) (.skip)) (.skip)) (.seq (.app 6 (.var 7)) (.skip))))) (.skip))))))) (.seq (.ret (.non)) (.skip))))))⟩
/-- L_free_rows_v2 ['_law_bag_here', '_law_lamps', '_law_looks', '_law_rows', '_law_look', '_law_shown', '_law_lamp'] -/
abbrev n_L_free_rows_v2 : Nat := 524
def L_free_rows_v2 : Fn := ⟨3, 7, .seq (.own 3 (.lst .nil)) (.seq (.for_ (.name 4) (.seq (.var 2)) (.seq (.own 5 (.lst .nil)) (.seq (.for_ (.name 6) (.seq (.var 1)) (.seq (.ite (.cmp .eq (.call 502 (.cons (.var 0) (.cons (.int 2) .nil))) (.int 1)) (.seq (.app 5 (.var 6)) (.skip)) (.skip)) (.skip))) (.seq (.app 3 (.tup (.cons (.var 4) (.cons (.var 5) .nil)))) (.skip))))) (.seq (.ret (.var 3)) (.skip)))⟩
/-- L_word_tuple ['_law_value', '_law_count', '_law_word'] -/
abbrev n_L_word_tuple : Nat := 529
def L_word_tuple : Fn := ⟨2, 3, .seq (.ite (.or (.not (.isi (.var 0) .tuple)) (.cmp .ne (.fn1 .len (.var 0)) (.var 1))) (.seq (.ret (.bl false)) (.skip)) (.skip)) (.seq (.for_ (.name 2) (.seq (.var 0)) (.seq (.ite (.not (.isi (.var 2) .str)) (.seq (.ret (.bl false)) (.skip)) (.skip)) (.skip))) (.seq (.ret (.bl true)) (.skip)))⟩
/-- L_taken_out ['_law_table', '_law_gone'] -/
abbrev n_L_taken_out : Nat := 531
def L_taken_out : Fn := ⟨2, 2, .seq (.ite (.cmp .eq (.var 1) (.lst .nil)) (.seq (.ret (.meth (.var 0) "without" .nil)) (.skip)) (.skip)) (.seq (.ite (.cmp .eq (.fn1 .len (.var 1)) (.int 1)) (.seq (.ret (.meth (.var 0) "without" (.cons (.idx (.var 1) (.int 0)) .nil))) (.skip)) (.skip)) (.seq (.ite (.cmp .eq (.fn1 .len (.var 1)) (.int 2)) (.seq (.ret (.meth (.var 0) "without" (.cons (.idx (.var 1) (.int 0)) (.cons (.idx (.var 1) (.int 1)) .nil)))) (.skip)) (.skip)) (.seq (.ret (.meth (.var 0) "without" (.cons (.idx (.var 1) (.int 0)) (.cons (.idx (.var 1) (.int 1)) (.cons (.idx (.var 1) (.int 2)) .nil))))) (.skip))))⟩
/-- L_only ['_law_table', '_law_stay'] -/
abbrev n_L_only : Nat := 532
def L_only : Fn := ⟨2, 2, .seq (.ite (.cmp .eq (.var 1) (.lst .nil)) (.seq (.ret (.meth (.var 0) "only" .nil)) (.skip)) (.skip)) (.seq (.ite (.cmp .eq (.fn1 .len (.var 1)) (.int 1)) (.seq (.ret (.meth (.var 0) "only" (.cons (.idx (.var 1) (.int 0)) .nil))) (.skip)) (.skip)) (.seq (.ite (.cmp .eq (.fn1 .len (.var 1)) (.int 2)) (.seq (.ret (.meth (.var 0) "only" (.cons (.idx (.var 1) (.int 0)) (.cons (.idx (.var 1) (.int 1)) .nil)))) (.skip)) (.skip)) (.seq (.ret (.meth (.var 0) "only" (.cons (.idx (.var 1) (.int 0)) (.cons (.idx (.var 1) (.int 1)) (.cons (.idx (.var 1) (.int 2)) .nil))))) (.skip))))⟩
/-- L_with ['_law_table', '_law_shown'] -/
abbrev n_L_with : Nat := 533
def L_with : Fn := ⟨2, 2, .seq (.ite (.cmp .eq (.var 1) (.lst .nil)) (.seq (.ret (.meth (.var 0) "with_look" (.cons (.str "longername12") .nil))) (.skip)) (.skip)) (.seq (.ite (.cmp .eq (.fn1 .len (.var 1)) (.int 1)) (.seq (.ret (.meth (.var 0) "with_look" (.cons (.str "longername12") (.cons (.idx (.var 1) (.int 0)) .nil)))) (.skip)) (.skip)) (.seq (.ret (.meth (.var 0) "with_look" (.cons (.str "longername12") (.cons (.idx (.var 1) (.int 1)) (.cons (.idx (.var 1) (.int 0)) .nil))))) (.skip)))⟩
/-- L_some ['_law_bag_here', '_law_names_here', '_law_most', '_law_found', '_law_k'] -/
abbrev n_L_some : Nat := 534
def L_some : Fn := ⟨3, 5, .seq (.own 3 (.lst .nil)) (.seq (.ite (.cmp .ne (.var 1) (.lst .nil)) (.seq (.for_ (.name 4) (.rng (.call 502 (.cons (.var 0) (.cons (.bin .add (.var 2) (.int 1)) .nil)))) (.seq (.app 3 (.idx (.var 1) (.call 502 (.cons (.var 0) (.cons (.fn1 .len (.var 1)) .nil))))) (.skip))) (.skip)) (.skip)) (.seq (.ret (.var 3)) (.skip)))⟩
/-- L_other ['_law_lamp', '_law_first', '_law_second'] -/
abbrev n_L_other : Nat := 535
def L_other : Fn := ⟨3, 3, .seq (.ite (.cmp .eq (.var 0) (.var 1)) (.seq (.ret (.var 2)) (.skip)) (.skip)) (.seq (.ite (.cmp .eq (.var 0) (.var 2)) (.seq (.ret (.var 1)) (.skip)) (.skip)) (.seq (.ret (.var 0)) (.skip)))⟩
/-- L_groups ['_law_rows_here', '_law_groups_here', '_law_row', '_law_one', '_law_alike'] -/
abbrev n_L_groups : Nat := 537
def L_groups : Fn := ⟨1, 5, .seq (.own 1 (.lst .nil)) (.seq (.for_ (.name 2) (.seq (.var 0)) (.seq (.set 4 (.fn1 .tuple (.lc (.idx (.var 3) (.int 0)) 3 (.seq (.var 0)) (.some (.cmp .eq (.idx (.var 3) (.int 1)) (.idx (.var 2) (.int 1))))))) (.seq (.ite (.cmp .notIn (.var 4) (.var 1)) (.seq (.app 1 (.var 4)) (.skip)) (.skip)) (.skip)))) (.seq (.ret (.var 1)) (.skip)))⟩
/-- L_call ['_law_table', '_law_door', '_law_lamp', '_law_look', 'e'] -/
abbrev n_L_call : Nat := 538
def L_call : Fn := ⟨4, 5, .seq (.try1 (.seq (.ite (.cmp .eq (.var 1) (.int 0)) (.seq (.expr (.meth (.var 0) "shown" (.cons (.var 3) .nil))) (.skip)) (.skip)) (.seq (.ite (.cmp .eq (.var 1) (.int 1)) (.seq (.expr (.meth (.var 0) "seen" (.cons (.var 2) .nil))) (.skip)) (.skip)) (.seq (.ite (.cmp .eq (.var 1) (.int 2)) (.seq (.expr (.idx (.var 0) (.tup (.cons (.var 2) (.cons (.var 3) .nil))))) (.skip)) (.skip)) (.seq (.ite (.cmp .eq (.var 1) (.int 3)) (.seq (.expr (.meth (.var 0) "without" (.cons (.var 2) .nil))) (.skip)) (.skip)) (.seq (.ite (.cmp .eq (.var 1) (.int 4)) (.seq (.expr (.meth (.var 0) "only" (.cons (.var 3) .nil))) (.skip)) (.skip)) (.seq (.ite (.cmp .eq (.var 1) (.int 5)) (.seq (.expr (.meth (.var 0) "alike" (.cons (.var 3) (.cons (.var 3) .nil)))) (.skip)) (.skip)) (.seq (.ite (.cmp .eq (.var 1) (.int 6)) (.seq (.expr (.meth (.var 0) "with_look" (.cons (.str "longername12") (.cons (.var 2) .nil)))) (.skip)) (.skip)) (.skip)))))))) 3 4 (.seq (.ret (.tup (.cons (.str "unknown") (.cons (.xat 4 "name") (.cons (.isi (.var 4) (.cls 0)) .nil))))) (.skip))) (.seq (.ret (.tup (.cons (.str "good") (.cons (.non) (.cons (.bl true) .nil))))) (.skip))⟩
/-- L_several ['_law_table', '_law_door', '_law_names_here', 'e'] -/
abbrev n_L_several : Nat := 539
def L_several : Fn := ⟨3, 4, .seq (.try1 (.seq (.ite (.cmp .eq (.var 1) (.int 0)) (.seq (.expr (.meth (.var 0) "alike" (.cons (.idx (.var 2) (.int 0)) (.cons (.idx (.var 2) (.int 1)) .nil)))) (.skip)) (.skip)) (.seq (.ite (.cmp .eq (.var 1) (.int 1)) (.seq (.expr (.meth (.var 0) "only" (.cons (.idx (.var 2) (.int 0)) (.cons (.idx (.var 2) (.int 1)) (.cons (.idx (.var 2) (.int 2)) .nil))))) (.skip)) (.skip)) (.seq (.ite (.cmp .eq (.var 1) (.int 2)) (.seq (.expr (.meth (.var 0) "without" (.cons (.idx (.var 2) (.int 0)) (.cons (.idx (.var 2) (.int 1)) (.cons (.idx (.var 2) (.int 2)) .nil))))) (.skip)) (.skip)) (.seq (.ite (.cmp .eq (.var 1) (.int 3)) (.seq (.expr (.meth (.var 0) "seen" (.cons (.idx (.var 2) (.int 1)) .nil))) (.skip)) (.skip)) (.skip))))) 3 3 (.seq (.ret (.tup (.cons (.str "unknown") (.cons (.xat 3 "name") .nil)))) (.skip))) (.seq (.ret (.non)) (.skip))⟩
/-- L_first ['_law_known', '_law_names_here', '_law_door', '_law_asked', '_law_name_here'] -/
abbrev n_L_first : Nat := 540
def L_first : Fn := ⟨3, 5, .seq (.set 3 (.idx (.lst (.cons (.slc (.var 1) .none (.some (.int 2))) (.cons (.var 1) (.cons (.var 1) (.cons (.slc (.var 1) (.some (.int 1)) (.some (.int 2))) .nil))))) (.var 2))) (.seq (.for_ (.name 4) (.seq (.var 3)) (.seq (.ite (.cmp .notIn (.var 4) (.var 0)) (.seq (.ret (.tup (.cons (.str "unknown") (.cons (.var 4) .nil)))) (.skip)) (.skip)) (.skip))) (.seq (.ret (.non)) (.skip)))⟩
/-- L_node ['_law_shape_here', '_law_part', '_law_parts'] -/
abbrev n_L_node : Nat := 542
def L_node : Fn := ⟨1, 3, .seq (.ite (.isi (.var 0) .str) (.seq (.ret (.new 8 (.cons (.var 0) .nil))) (.skip)) (.skip)) (.seq (.set 2 (.lc (.call 542 (.cons (.var 1) .nil)) 1 (.seq (.slc (.var 0) (.some (.int 1)) .none)) .none)) (.seq (.ite (.cmp .eq (.fn1 .len (.var 2)) (.int 2)) (.seq (.ret (.new 10 (.cons (.idx (.var 2) (.int 0)) (.cons (.idx (.var 2) (.int 1)) .nil)))) (.skip)) (.skip)) (.seq (.ite (.and (.cmp .eq (.fn1 .len (.var 2)) (.int 3)) (.cmp .eq (.idx (.var 0) (.int 0)) (.str "row"))) (.seq (.ret (.new 11 (.cons (.idx (.var 2) (.int 0)) (.cons (.idx (.var 2) (.int 1)) (.cons (.idx (.var 2) (.int 2)) .nil))))) (.skip)) (.skip)) (.seq (.ite (.cmp .eq (.fn1 .len (.var 2)) (.int 3)) (.seq (.ret (.new 10 (.cons (.idx (.var 2) (.int 0)) (.cons (.idx (.var 2) (.int 1)) (.cons (.idx (.var 2) (.int 2)) .nil))))) (.skip)) (.skip)) (.seq (.ite (.cmp .eq (.idx (.var 0) (.int 0)) (.str "row")) (.seq (.ret (.new 11 (.cons (.idx (.var 2) (.int 0)) (.cons (.idx (.var 2) (.int 1)) (.cons (.idx (.var 2) (.int 2)) (.cons (.idx (.var 2) (.int 3)) .nil)))))) (.skip)) (.skip)) (.seq (.ret (.new 10 (.cons (.idx (.var 2) (.int 0)) (.cons (.idx (.var 2) (.int 1)) (.cons (.idx (.var 2) (.int 2)) (.cons (.idx (.var 2) (.int 3)) .nil)))))) (.skip)))))))⟩
/-- L_kind_ok ['_law_node_here', '_law_shape_here'] -/
abbrev n_L_kind_ok : Nat := 546
def L_kind_ok : Fn := ⟨2, 2, .seq (.ite (.or (.not (.isi (.var 0) (.cls 7))) (.cmp .eq (.isi (.var 0) (.cls 9)) (.isi (.var 1) .str))) (.seq (.ret (.bl false)) (.skip)) (.skip)) (.seq (.ite (.isi (.var 1) .str) (.seq (.ret (.and (.isi (.var 0) (.cls 8)) (.and (.cmp .eq (.att (.var 0) "KIND") (.str "leaf")) (.cmp .eq (.att (.var 0) "name") (.var 1))))) (.skip)) (.skip)) (.seq (.ite (.or (.cmp .ne (.isi (.var 0) (.cls 11)) (.cmp .eq (.idx (.var 1) (.int 0)) (.str "row"))) (.cmp .ne (.isi (.var 0) (.cls 10)) (.cmp .eq (.idx (.var 1) (.int 0)) (.str "group")))) (.seq (.ret (.bl false)) (.skip)) (.skip)) (.seq (.ret (.and (.cmp .eq (.att (.var 0) "KIND") (.idx (.var 1) (.int 0))) (.and (.isi (.att (.var 0) "parts") .tuple) (.cmp .eq (.fn1 .len (.att (.var 0) "parts")) (.bin .sub (.fn1 .len (.var 1)) (.int 1)))))) (.skip))))⟩
/-- L_some_v2 ['_law_bag_here', '_law_names_here', '_law_found', '_law_name_here'] -/
abbrev n_L_some_v2 : Nat := 549
def L_some_v2 : Fn := ⟨2, 4, .seq (.own 2 (.lst .nil)) (.seq (.for_ (.name 3) (.seq (.var 1)) (.seq (.ite (.cmp .eq (.call 502 (.cons (.var 0) (.cons (.int 2) .nil))) (.int 1)) (.seq (.app 2 (.var 3)) (.skip)) (.skip)) (.skip))) (.seq (.ret (.var 2)) (.skip)))⟩
/-- L_beside ['_law_order', '_law_chosen_here', '_law_k', '_law_spots'] -/
abbrev n_L_beside : Nat := 552
def L_beside : Fn := ⟨2, 4, .seq (.set 3 (.lc (.var 2) 2 (.rng (.fn1 .len (.var 0))) (.some (.cmp .inn (.idx (.var 0) (.var 2)) (.var 1))))) (.seq (.ret (.or (.cmp .eq (.var 3) (.lst .nil)) (.cmp .eq (.bin .add (.bin .sub (.idx (.var 3) (.neg (.int 1))) (.idx (.var 3) (.int 0))) (.int 1)) (.fn1 .len (.var 3))))) (.skip))⟩
/-- L_left ['_law_orders', '_law_chosen_here', '_law_order'] -/
abbrev n_L_left : Nat := 553
def L_left : Fn := ⟨2, 3, .seq (.ret (.lc (.var 2) 2 (.seq (.var 0)) (.some (.call 552 (.cons (.var 2) (.cons (.var 1) .nil)))))) (.skip)⟩
/-- L_tells ['_law_told', '_law_due', '_law_k'] -/
abbrev n_L_tells : Nat := 554
def L_tells : Fn := ⟨2, 3, .seq (.ite (.cmp .ne (.fn1 .len (.var 0)) (.fn1 .len (.var 1))) (.seq (.ret (.bl false)) (.skip)) (.skip)) (.seq (.for_ (.name 2) (.rng (.fn1 .len (.var 1))) (.seq (.ite (.or (.not (.isi (.idx (.var 0) (.var 2)) .tuple)) (.cmp .ne (.idx (.var 0) (.var 2)) (.idx (.var 1) (.var 2)))) (.seq (.ret (.bl false)) (.skip)) (.skip)) (.skip))) (.seq (.ret (.bl true)) (.skip)))⟩
/-- L_chosen ['_law_bag_here', '_law_names_here', '_law_order', '_law_way', '_law_first'] -/
abbrev n_L_chosen : Nat := 555
def L_chosen : Fn := ⟨4, 5, .seq (.ite (.cmp .eq (.var 3) (.int 0)) (.seq (.ret (.call 549 (.cons (.var 0) (.cons (.var 1) .nil)))) (.skip)) (.skip)) (.seq (.set 4 (.call 502 (.cons (.var 0) (.cons (.bin .add (.fn1 .len (.var 2)) (.int 1)) .nil)))) (.seq (.ret (.fn1 .list (.slc (.var 2) (.some (.var 4)) (.some (.bin .add (.var 4) (.call 502 (.cons (.var 0) (.cons (.bin .add (.fn1 .len (.var 2)) (.int 1)) .nil)))))))) (.skip)))⟩
/-- L_is_shape ['_law_shape', '_law_left_here', '_law_part'] -/
abbrev n_L_is_shape : Nat := 558
def L_is_shape : Fn := ⟨2, 3, .seq (.ite (.cmp .gt (.var 1) (.int 60)) (.seq (.ret (.bl false)) (.skip)) (.skip)) (.seq (.ite (.isi (.var 0) .str) (.seq (.ret (.bl true)) (.skip)) (.skip)) (.seq (.ite (.or (.not (.isi (.var 0) .tuple)) (.or (.cmp .eq (.var 0) (.tup .nil)) (.cmp .notIn (.idx (.var 0) (.int 0)) (.lst (.cons (.str "group") (.cons (.str "row") .nil)))))) (.seq (.ret (.bl false)) (.skip)) (.skip)) (.seq (.ite (.or (.cmp .lt (.fn1 .len (.var 0)) (.int 3)) (.and (.cmp .lt (.fn1 .len (.var 0)) (.int 4)) (.cmp .eq (.idx (.var 0) (.int 0)) (.str "row")))) (.seq (.ret (.bl false)) (.skip)) (.skip)) (.seq (.for_ (.name 2) (.seq (.slc (.var 0) (.some (.int 1)) .none)) (.seq (.ite (.not (.call 558 (.cons (.var 2) (.cons (.bin .add (.var 1) (.int 1)) .nil)))) (.seq (.ret (.bl false)) (.skip)) (.skip)) (.skip))) (.seq (.ret (.bl true)) (.skip))))))⟩
/-- L_beside_v2 ['_law_order', '_law_chosen', '_law_k', '_law_spots'] -/
abbrev n_L_beside_v2 : Nat := 560
def L_beside_v2 : Fn := ⟨2, 4, .seq (.set 3 (.lc (.var 2) 2 (.rng (.fn1 .len (.var 0))) (.some (.cmp .inn (.idx (.var 0) (.var 2)) (.var 1))))) (.seq (.ret (.or (.cmp .eq (.var 3) (.lst .nil)) (.cmp .eq (.bin .add (.bin .sub (.idx (.var 3) (.neg (.int 1))) (.idx (.var 3) (.int 0))) (.int 1)) (.fn1 .len (.var 3))))) (.skip))⟩
/-- L_left_v2 ['_law_orders', '_law_chosen', '_law_order'] -/
abbrev n_L_left_v2 : Nat := 561
def L_left_v2 : Fn := ⟨2, 3, .seq (.ret (.lc (.var 2) 2 (.seq (.var 0)) (.some (.call 560 (.cons (.var 2) (.cons (.var 1) .nil)))))) (.skip)⟩
/-- L_run ['_law_bag_here', '_law_order', '_law_first'] -/
abbrev n_L_run : Nat := 562
def L_run : Fn := ⟨2, 3, .seq (.set 2 (.call 502 (.cons (.var 0) (.cons (.bin .add (.fn1 .len (.var 1)) (.int 1)) .nil)))) (.seq (.ret (.fn1 .list (.slc (.var 1) (.some (.var 2)) (.some (.bin .add (.var 2) (.call 502 (.cons (.var 0) (.cons (.bin .add (.fn1 .len (.var 1)) (.int 1)) .nil)))))))) (.skip))⟩
/-- L_others_ok ['_law_bag_here', '_law_names_here', '_law_lists', '_law_every', '_law_tree', '_law_left_here', '_law_order', '_law_k', '_law_others', '_law_due', '_law_chosen', '_law_other', '_law_name_here', '_law_longer', '_law_moved', '_law_twin'] -/
abbrev n_L_others_ok : Nat := 566
def L_others_ok : Fn := ⟨6, 16, .seq (.set 6 (.idx (.var 3) (.call 502 (.cons (.var 0) (.cons (.fn1 .len (.var 3)) .nil))))) (.seq (.set 8 (.lc (.call 562 (.cons (.var 0) (.cons (.var 6) .nil))) 7 (.rng (.call 502 (.cons (.var 0) (.cons (.int 4) .nil)))) .none)) (.seq (.set 9 (.var 3)) (.seq (.for_ (.name 10) (.seq (.var 8)) (.seq (.set 9 (.call 561 (.cons (.var 9) (.cons (.var 10) .nil)))) (.skip))) (.seq (.set 11 (.call 563 (.cons (.var 1) (.cons (.var 8) .nil)))) (.seq (.ite (.or (.not (.call 500 (.cons (.cmp .eq (.var 4) (.var 11)) (.cons (.cmp .eq (.var 5) (.var 9)) .nil)))) (.not (.call 500 (.cons (.cmp .ne (.var 11) (.var 4)) (.cons (.cmp .ne (.var 5) (.var 9)) .nil))))) (.seq (.ret (.bl false)) (.skip)) (.skip)) (.seq (.set 13 (.lc (.bin .add (.var 12) (.str "0")) 12 (.seq (.var 1)) .none)) (.seq (.own 14 (.lst .nil)) (.seq (.for_ (.name 10) (.seq (.var 2)) (.seq (.app 14 (.lc (.bin .add (.var 12) (.str "0")) 12 (.seq (.var 10)) .none)) (.skip))) (.seq (.set 15 (.call 563 (.cons (.var 13) (.cons (.var 14) .nil)))) (.seq (.ret (.and (.call 500 (.cons (.cmp .eq (.var 4) (.var 15)) (.cons (.cmp .eq (.var 1) (.lst .nil)) .nil))) (.cmp .eq (.att (.var 15) "total") (.att (.var 4) "total")))) (.skip)))))))))))⟩
/-- L_odd_order ['_law_bag_here', '_law_order', '_law_pool', '_law_way'] -/
abbrev n_L_odd_order : Nat := 567
def L_odd_order : Fn := ⟨2, 4, .seq (.set 2 (.bin .add (.fn1 .list (.var 1)) (.lst (.cons (.str "absent9999") .nil)))) (.seq (.set 3 (.call 502 (.cons (.var 0) (.cons (.int 4) .nil)))) (.seq (.ite (.and (.cmp .eq (.var 3) (.int 0)) (.cmp .ne (.var 1) (.tup .nil))) (.seq (.ret (.fn1 .list (.slc (.var 1) (.some (.int 1)) .none))) (.skip)) (.skip)) (.seq (.ite (.cmp .eq (.var 3) (.int 1)) (.seq (.ret (.bin .add (.fn1 .list (.var 1)) (.lst (.cons (.idx (.var 2) (.call 502 (.cons (.var 0) (.cons (.fn1 .len (.var 2)) .nil)))) .nil)))) (.skip)) (.skip)) (.seq (.ite (.and (.cmp .eq (.var 3) (.int 2)) (.cmp .gt (.fn1 .len (.var 1)) (.int 1))) (.seq (.ret (.bin .add (.lst (.cons (.idx (.var 1) (.int 1)) .nil)) (.fn1 .list (.slc (.var 1) (.some (.int 1)) .none)))) (.skip)) (.skip)) (.seq (.ret (.slc (.var 2) (.some (.int 1)) .none)) (.skip))))))⟩
/-- L_names_v2 ['_law_bag_here', '_law_count_here', '_law_names_here', '_law_k'] -/
abbrev n_L_names_v2 : Nat := 568
def L_names_v2 : Fn := ⟨2, 4, .seq (.own 2 (.lst .nil)) (.seq (.for_ (.name 3) (.rng (.var 1)) (.seq (.app 2 (.call 503 (.cons (.var 0) (.cons (.var 2) .nil)))) (.skip))) (.seq (.ret (.var 2)) (.skip)))⟩
/-- L_is_shape_v2 ['_law_shape', '_law_left', '_law_part'] -/
abbrev n_L_is_shape_v2 : Nat := 569
def L_is_shape_v2 : Fn := ⟨2, 3, .seq (.ite (.cmp .gt (.var 1) (.int 60)) (.seq (.ret (.bl false)) (.skip)) (.skip)) (.seq (.ite (.isi (.var 0) .str) (.seq (.ret (.bl true)) (.skip)) (.skip)) (.seq (.ite (.or (.not (.isi (.var 0) .tuple)) (.or (.cmp .eq (.var 0) (.tup .nil)) (.cmp .notIn (.idx (.var 0) (.int 0)) (.lst (.cons (.str "group") (.cons (.str "row") .nil)))))) (.seq (.ret (.bl false)) (.skip)) (.skip)) (.seq (.ite (.or (.cmp .lt (.fn1 .len (.var 0)) (.int 3)) (.and (.cmp .lt (.fn1 .len (.var 0)) (.int 4)) (.cmp .eq (.idx (.var 0) (.int 0)) (.str "row")))) (.seq (.ret (.bl false)) (.skip)) (.skip)) (.seq (.for_ (.name 2) (.seq (.slc (.var 0) (.some (.int 1)) .none)) (.seq (.ite (.not (.call 569 (.cons (.var 2) (.cons (.bin .add (.var 1) (.int 1)) .nil)))) (.seq (.ret (.bl false)) (.skip)) (.skip)) (.skip))) (.seq (.ret (.bl true)) (.skip))))))⟩
/-- L_good ['_law_lamps', '_law_rows_here', '_law_pairs', '_law_found', '_law_row', '_law_order'] -/
abbrev n_L_good : Nat := 575
def L_good : Fn := ⟨3, 6, .seq (.own 3 (.lst .nil)) (.seq (.for_ (.name 5) (.seq (.call 551 (.cons (.lc (.idx (.var 4) (.int 0)) 4 (.seq (.var 1)) .none) .nil))) (.seq (.ite (.and (.call 574 (.cons (.var 2) (.cons (.var 5) .nil))) (.call 573 (.cons (.var 0) (.cons (.var 1) (.cons (.var 5) .nil))))) (.seq (.app 3 (.var 5)) (.skip)) (.skip)) (.skip))) (.seq (.ret (.var 3)) (.skip)))⟩
/-- L_is_step ['_law_rows_here', '_law_pair', '_law_other', '_law_lamp', '_law_seen_here'] -/
abbrev n_L_is_step : Nat := 576
def L_is_step : Fn := ⟨4, 5, .seq (.set 4 (.call 509 (.cons (.var 0) (.cons (.var 3) .nil)))) (.seq (.ite (.cmp .eq (.idx (.var 1) (.int 1)) (.idx (.var 2) (.int 1))) (.seq (.ret (.and (.cmp .ne (.idx (.var 1) (.int 0)) (.idx (.var 2) (.int 0))) (.and (.cmp .inn (.idx (.var 1) (.int 0)) (.var 4)) (.and (.cmp .inn (.idx (.var 2) (.int 0)) (.var 4)) (.cmp .notIn (.idx (.var 1) (.int 1)) (.var 4)))))) (.skip)) (.skip)) (.seq (.ite (.cmp .eq (.idx (.var 1) (.int 0)) (.idx (.var 2) (.int 0))) (.seq (.ret (.and (.cmp .inn (.idx (.var 1) (.int 1)) (.var 4)) (.and (.cmp .inn (.idx (.var 2) (.int 1)) (.var 4)) (.cmp .notIn (.idx (.var 1) (.int 0)) (.var 4))))) (.skip)) (.skip)) (.seq (.ret (.bl false)) (.skip))))⟩
/-- L_triples ['_law_steps', '_law_step'] -/
abbrev n_L_triples : Nat := 577
def L_triples : Fn := ⟨1, 2, .seq (.ite (.or (.not (.isi (.var 0) .list)) (.cmp .eq (.var 0) (.lst .nil))) (.seq (.ret (.bl false)) (.skip)) (.skip)) (.seq (.for_ (.name 1) (.seq (.var 0)) (.seq (.ite (.or (.not (.isi (.var 1) .tuple)) (.cmp .ne (.fn1 .len (.var 1)) (.int 3))) (.seq (.ret (.bl false)) (.skip)) (.skip)) (.seq (.ite (.or (.not (.isi (.idx (.var 1) (.int 0)) .str)) (.not (.isi (.idx (.var 1) (.int 1)) .str))) (.seq (.ret (.bl false)) (.skip)) (.skip)) (.seq (.ite (.and (.cmp .notN (.idx (.var 1) (.int 2)) (.non)) (.not (.isi (.idx (.var 1) (.int 2)) .str))) (.seq (.ret (.bl false)) (.skip)) (.skip)) (.skip))))) (.seq (.ret (.bl true)) (.skip)))⟩
/-- L_bar_ok ['_law_lamps', '_law_rows_here', '_law_steps'] -/
abbrev n_L_bar_ok : Nat := 579
def L_bar_ok : Fn := ⟨3, 3, .seq (.ite (.not (.call 578 (.cons (.var 0) (.cons (.var 1) (.cons (.var 2) .nil))))) (.seq (.ret (.bl false)) (.skip)) (.skip)) (.seq (.ret (.and (.cmp .eq (.idx (.idx (.var 2) (.int 0)) (.int 0)) (.idx (.idx (.var 2) (.neg (.int 1))) (.int 1))) (.cmp .eq (.idx (.idx (.var 2) (.int 0)) (.int 1)) (.idx (.idx (.var 2) (.neg (.int 1))) (.int 0))))) (.skip))⟩
/-- L_tells_v2 ['_law_told', '_law_due_here', '_law_k'] -/
abbrev n_L_tells_v2 : Nat := 584
def L_tells_v2 : Fn := ⟨2, 3, .seq (.ite (.cmp .ne (.fn1 .len (.var 0)) (.fn1 .len (.var 1))) (.seq (.ret (.bl false)) (.skip)) (.skip)) (.seq (.for_ (.name 2) (.rng (.fn1 .len (.var 1))) (.seq (.ite (.or (.not (.isi (.idx (.var 0) (.var 2)) .tuple)) (.cmp .ne (.idx (.var 0) (.var 2)) (.idx (.var 1) (.var 2)))) (.seq (.ret (.bl false)) (.skip)) (.skip)) (.skip))) (.seq (.ret (.bl true)) (.skip)))⟩
/-- L_lists ['_law_bag_here', '_law_names_here', '_law_lists_here', '_law_k', '_law_first'] -/
abbrev n_L_lists : Nat := 585
def L_lists : Fn := ⟨2, 5, .seq (.own 2 (.lst .nil)) (.seq (.for_ (.name 3) (.rng (.call 502 (.cons (.var 0) (.cons (.int 3) .nil)))) (.seq (.set 4 (.call 502 (.cons (.var 0) (.cons (.fn1 .len (.var 1)) .nil)))) (.seq (.app 2 (.slc (.var 1) (.some (.var 4)) (.some (.bin .add (.var 4) (.int 2))))) (.skip)))) (.seq (.ret (.var 2)) (.skip)))⟩
/-- L_due_v3 ['_law_names_here', '_law_lists_here', '_law_left_here', '_law_chosen'] -/
abbrev n_L_due_v3 : Nat := 586
def L_due_v3 : Fn := ⟨2, 4, .seq (.set 2 (.call 551 (.cons (.var 0) .nil))) (.seq (.for_ (.name 3) (.seq (.var 1)) (.seq (.set 2 (.call 561 (.cons (.var 2) (.cons (.var 3) .nil)))) (.skip))) (.seq (.ret (.var 2)) (.skip)))⟩
/-- L_pair ['_law_bag_here', '_law_looks', '_law_first', '_law_second'] -/
abbrev n_L_pair : Nat := 588
def L_pair : Fn := ⟨2, 4, .seq (.set 2 (.call 502 (.cons (.var 0) (.cons (.fn1 .len (.var 1)) .nil)))) (.seq (.set 3 (.bin .mod (.fn1 .int (.bin .add (.bin .add (.var 2) (.int 1)) (.call 502 (.cons (.var 0) (.cons (.bin .sub (.fn1 .len (.var 1)) (.int 1)) .nil))))) (.fn1 .len (.var 1)))) (.seq (.ret (.tup (.cons (.idx (.var 1) (.var 2)) (.cons (.idx (.var 1) (.var 3)) .nil)))) (.skip)))⟩
/-- L_is_step_v2 ['_law_rows_here', '_law_pair_here', '_law_other', '_law_lamp', '_law_seen_here'] -/
abbrev n_L_is_step_v2 : Nat := 589
def L_is_step_v2 : Fn := ⟨4, 5, .seq (.set 4 (.call 509 (.cons (.var 0) (.cons (.var 3) .nil)))) (.seq (.ite (.cmp .eq (.idx (.var 1) (.int 1)) (.idx (.var 2) (.int 1))) (.seq (.ret (.and (.cmp .ne (.idx (.var 1) (.int 0)) (.idx (.var 2) (.int 0))) (.and (.cmp .inn (.idx (.var 1) (.int 0)) (.var 4)) (.and (.cmp .inn (.idx (.var 2) (.int 0)) (.var 4)) (.cmp .notIn (.idx (.var 1) (.int 1)) (.var 4)))))) (.skip)) (.skip)) (.seq (.ite (.cmp .eq (.idx (.var 1) (.int 0)) (.idx (.var 2) (.int 0))) (.seq (.ret (.and (.cmp .inn (.idx (.var 1) (.int 1)) (.var 4)) (.and (.cmp .inn (.idx (.var 2) (.int 1)) (.var 4)) (.cmp .notIn (.idx (.var 1) (.int 0)) (.var 4))))) (.skip)) (.skip)) (.seq (.ret (.bl false)) (.skip))))⟩
/-- L_planted_rows_v2 ['_law_bag_here', '_law_lamps', '_law_looks', '_law_settings', '_law_look', '_law_ends', '_law_lamp', '_law_low', '_law_rows', '_law_k', '_law_j', '_law_shown'] -/
abbrev n_L_planted_rows_v2 : Nat := 593
def L_planted_rows_v2 : Fn := ⟨3, 12, .seq (.own 3 (.lst .nil)) (.seq (.for_ (.name 4) (.seq (.var 2)) (.seq (.app 3 (.call 502 (.cons (.var 0) (.cons (.int 9) .nil)))) (.skip))) (.seq (.own 5 (.lst .nil)) (.seq (.for_ (.name 6) (.seq (.var 1)) (.seq (.set 7 (.call 502 (.cons (.var 0) (.cons (.int 9) .nil)))) (.seq (.app 5 (.tup (.cons (.var 7) (.cons (.bin .sub (.bin .add (.var 7) (.call 502 (.cons (.var 0) (.cons (.int 7) .nil)))) (.int 1)) .nil)))) (.skip)))) (.seq (.own 8 (.lst .nil)) (.seq (.for_ (.name 9) (.rng (.fn1 .len (.var 2))) (.seq (.set 11 (.lc (.idx (.var 1) (.var 10)) 10 (.rng (.fn1 .len (.var 1))) (.some (.and (.cmp .le (.idx (.idx (.var 5) (.var 10)) (.int 0)) (.idx (.var 3) (.var 9))) (.cmp .le (.idx (.var 3) (.var 9)) (.idx (.idx (.var 5) (.var 10)) (.int 1))))))) (.seq (.app 8 (.tup (.cons (.idx (.var 2) (.var 9)) (.cons (.var 11) .nil)))) (.skip)))) (.seq (.ret (.var 8)) (.skip)))))))⟩
/-- L_flipped_v2 ['_law_bag_here', '_law_lamps', '_law_rows', '_law_spot', '_law_lamp', '_law_old', '_law_one', '_law_new'] -/
abbrev n_L_flipped_v2 : Nat := 594
def L_flipped_v2 : Fn := ⟨3, 8, .seq (.ite (.or (.cmp .eq (.var 1) (.lst .nil)) (.cmp .eq (.var 2) (.lst .nil))) (.seq (.ret (.var 2)) (.skip)) (.skip)) (.seq (.set 3 (.call 502 (.cons (.var 0) (.cons (.fn1 .len (.var 2)) .nil)))) (.seq (.set 4 (.idx (.var 1) (.call 502 (.cons (.var 0) (.cons (.fn1 .len (.var 1)) .nil))))) (.seq (.set 5 (.idx (.idx (.var 2) (.var 3)) (.int 1))) (.seq (.set 7 (.lc (.var 6) 6 (.seq (.var 1)) (.some (.cmp .ne (.cmp .inn (.var 6) (.var 5)) (.cmp .eq (.var 6) (.var 4)))))) (.seq (.ret (.bin .add (.bin .add (.slc (.var 2) .none (.some (.var 3))) (.lst (.cons (.tup (.cons (.idx (.idx (.var 2) (.var 3)) (.int 0)) (.cons (.var 7) .nil))) .nil))) (.slc (.var 2) (.some (.bin .add (.var 3) (.int 1))) .none))) (.skip))))))⟩
/-- L_seen_v2 ['_law_rows', '_law_lamp', '_law_row'] -/
abbrev n_L_seen_v2 : Nat := 595
def L_seen_v2 : Fn := ⟨2, 3, .seq (.ret (.lc (.idx (.var 2) (.int 0)) 2 (.seq (.var 0)) (.some (.cmp .inn (.var 1) (.idx (.var 2) (.int 1)))))) (.skip)⟩
/-- L_good_v2 ['_law_lamps', '_law_rows', '_law_pairs', '_law_found', '_law_row', '_law_order'] -/
abbrev n_L_good_v2 : Nat := 599
def L_good_v2 : Fn := ⟨3, 6, .seq (.own 3 (.lst .nil)) (.seq (.for_ (.name 5) (.seq (.call 551 (.cons (.lc (.idx (.var 4) (.int 0)) 4 (.seq (.var 1)) .none) .nil))) (.seq (.ite (.and (.call 598 (.cons (.var 2) (.cons (.var 5) .nil))) (.call 597 (.cons (.var 0) (.cons (.var 1) (.cons (.var 5) .nil))))) (.seq (.app 3 (.var 5)) (.skip)) (.skip)) (.skip))) (.seq (.ret (.var 3)) (.skip)))⟩
/-- L_name_v2 ['_law_bag_here', '_law_used_here', '_law_letters', '_law_name_here', '_law_k'] -/
abbrev n_L_name_v2 : Nat := 600
def L_name_v2 : Fn := ⟨2, 5, .seq (.set 2 (.str "abcdefghijklmnopqrstuvwxyz")) (.seq (.set 3 (.str "")) (.seq (.for_ (.name 4) (.rng (.bin .add (.int 1) (.call 502 (.cons (.var 0) (.cons (.int 3) .nil))))) (.seq (.set 3 (.bin .add (.var 3) (.idx (.var 2) (.call 502 (.cons (.var 0) (.cons (.int 26) .nil)))))) (.skip))) (.seq (.ite (.cmp .inn (.var 3) (.var 1)) (.seq (.set 3 (.bin .add (.var 3) (.fn1 .str (.fn1 .len (.var 1))))) (.skip)) (.skip)) (.seq (.ret (.var 3)) (.skip)))))⟩
/-- L_names_v3 ['_law_bag_here', '_law_count', '_law_names_here', '_law_k'] -/
abbrev n_L_names_v3 : Nat := 601
def L_names_v3 : Fn := ⟨2, 4, .seq (.own 2 (.lst .nil)) (.seq (.for_ (.name 3) (.rng (.var 1)) (.seq (.app 2 (.call 600 (.cons (.var 0) (.cons (.var 2) .nil)))) (.skip))) (.seq (.ret (.var 2)) (.skip)))⟩
/-- L_good_v3 ['_law_lamps', '_law_rows', '_law_pairs', '_law_found', '_law_row', '_law_order'] -/
abbrev n_L_good_v3 : Nat := 603
def L_good_v3 : Fn := ⟨3, 6, .seq (.own 3 (.lst .nil)) (.seq (.for_ (.name 5) (.seq (.call 551 (.cons (.lc (.idx (.var 4) (.int 0)) 4 (.seq (.var 1)) .none) .nil))) (.seq (.ite (.and (.call 574 (.cons (.var 2) (.cons (.var 5) .nil))) (.call 597 (.cons (.var 0) (.cons (.var 1) (.cons (.var 5) .nil))))) (.seq (.app 3 (.var 5)) (.skip)) (.skip)) (.skip))) (.seq (.ret (.var 3)) (.skip)))⟩
/-- L_is_step_v3 ['_law_rows', '_law_pair', '_law_other', '_law_lamp', '_law_seen_here'] -/
abbrev n_L_is_step_v3 : Nat := 604
def L_is_step_v3 : Fn := ⟨4, 5, .seq (.set 4 (.call 595 (.cons (.var 0) (.cons (.var 3) .nil)))) (.seq (.ite (.cmp .eq (.idx (.var 1) (.int 1)) (.idx (.var 2) (.int 1))) (.seq (.ret (.and (.cmp .ne (.idx (.var 1) (.int 0)) (.idx (.var 2) (.int 0))) (.and (.cmp .inn (.idx (.var 1) (.int 0)) (.var 4)) (.and (.cmp .inn (.idx (.var 2) (.int 0)) (.var 4)) (.cmp .notIn (.idx (.var 1) (.int 1)) (.var 4)))))) (.skip)) (.skip)) (.seq (.ite (.cmp .eq (.idx (.var 1) (.int 0)) (.idx (.var 2) (.int 0))) (.seq (.ret (.and (.cmp .inn (.idx (.var 1) (.int 1)) (.var 4)) (.and (.cmp .inn (.idx (.var 2) (.int 1)) (.var 4)) (.cmp .notIn (.idx (.var 1) (.int 0)) (.var 4))))) (.skip)) (.skip)) (.seq (.ret (.bl false)) (.skip))))⟩
/-- L_bar_ok_v2 ['_law_lamps', '_law_rows', '_law_steps'] -/
abbrev n_L_bar_ok_v2 : Nat := 606
def L_bar_ok_v2 : Fn := ⟨3, 3, .seq (.ite (.not (.call 605 (.cons (.var 0) (.cons (.var 1) (.cons (.var 2) .nil))))) (.seq (.ret (.bl false)) (.skip)) (.skip)) (.seq (.ret (.and (.cmp .eq (.idx (.idx (.var 2) (.int 0)) (.int 0)) (.idx (.idx (.var 2) (.neg (.int 1))) (.int 1))) (.cmp .eq (.idx (.idx (.var 2) (.int 0)) (.int 1)) (.idx (.idx (.var 2) (.neg (.int 1))) (.int 0))))) (.skip))⟩
/-- L_pair_due ['_law_looks', '_law_pair', '_law_name_here'] -/
abbrev n_L_pair_due : Nat := 607
def L_pair_due : Fn := ⟨2, 3, .seq (.for_ (.name 2) (.seq (.var 1)) (.seq (.ite (.cmp .notIn (.var 2) (.var 0)) (.seq (.ret (.tup (.cons (.str "unknown") (.cons (.var 2) .nil)))) (.skip)) (.skip)) (.skip))) (.seq (.ite (.cmp .eq (.idx (.var 1) (.int 0)) (.idx (.var 1) (.int 1))) (.seq (.ret (.tup (.cons (.str "note") (.cons (.var 1) .nil)))) (.skip)) (.skip)) (.seq (.ret (.non)) (.skip)))⟩
/-- L_is_step_v4 ['_law_rows', '_law_pair_here', '_law_other', '_law_lamp', '_law_seen_here'] -/
abbrev n_L_is_step_v4 : Nat := 609
def L_is_step_v4 : Fn := ⟨4, 5, .seq (.set 4 (.call 595 (.cons (.var 0) (.cons (.var 3) .nil)))) (.seq (.ite (.cmp .eq (.idx (.var 1) (.int 1)) (.idx (.var 2) (.int 1))) (.seq (.ret (.and (.cmp .ne (.idx (.var 1) (.int 0)) (.idx (.var 2) (.int 0))) (.and (.cmp .inn (.idx (.var 1) (.int 0)) (.var 4)) (.and (.cmp .inn (.idx (.var 2) (.int 0)) (.var 4)) (.cmp .notIn (.idx (.var 1) (.int 1)) (.var 4)))))) (.skip)) (.skip)) (.seq (.ite (.cmp .eq (.idx (.var 1) (.int 0)) (.idx (.var 2) (.int 0))) (.seq (.ret (.and (.cmp .inn (.idx (.var 1) (.int 1)) (.var 4)) (.and (.cmp .inn (.idx (.var 2) (.int 1)) (.var 4)) (.cmp .notIn (.idx (.var 1) (.int 0)) (.var 4))))) (.skip)) (.skip)) (.seq (.ret (.bl false)) (.skip))))⟩
/-- L_pairs ['_law_bag_here', '_law_looks', '_law_count', '_law_pairs_here', '_law_k', '_law_first', '_law_second'] -/
abbrev n_L_pairs : Nat := 612
def L_pairs : Fn := ⟨3, 7, .seq (.own 3 (.lst .nil)) (.seq (.ite (.cmp .lt (.fn1 .len (.var 1)) (.int 2)) (.seq (.ret (.var 3)) (.skip)) (.skip)) (.seq (.for_ (.name 4) (.rng (.var 2)) (.seq (.set 5 (.call 502 (.cons (.var 0) (.cons (.fn1 .len (.var 1)) .nil)))) (.seq (.set 6 (.bin .mod (.fn1 .int (.bin .add (.bin .add (.var 5) (.int 1)) (.call 502 (.cons (.var 0) (.cons (.bin .sub (.fn1 .len (.var 1)) (.int 1)) .nil))))) (.fn1 .len (.var 1)))) (.seq (.app 3 (.tup (.cons (.idx (.var 1) (.var 5)) (.cons (.idx (.var 1) (.var 6)) .nil)))) (.skip))))) (.seq (.ret (.var 3)) (.skip))))⟩
/-- L_notes ['_law_pairs_here', '_law_notes_here', '_law_pair'] -/
abbrev n_L_notes : Nat := 613
def L_notes : Fn := ⟨1, 3, .seq (.set 1 (.new 15 .nil)) (.seq (.for_ (.name 2) (.seq (.var 0)) (.seq (.set 1 (.bin .add (.var 1) (.new 15 (.cons (.var 2) .nil)))) (.skip))) (.seq (.ret (.var 1)) (.skip)))⟩
/-- L_made_v2 ['_law_pairs_here'] -/
abbrev n_L_made_v2 : Nat := 615
def L_made_v2 : Fn := ⟨1, 1, .seq (.ite (.cmp .eq (.var 0) (.lst .nil)) (.seq (.ret (.new 15 .nil)) (.skip)) (.skip)) (.seq (.ite (.cmp .eq (.fn1 .len (.var 0)) (.int 1)) (.seq (.ret (.new 15 (.cons (.idx (.var 0) (.int 0)) .nil))) (.skip)) (.skip)) (.seq (.ite (.cmp .eq (.fn1 .len (.var 0)) (.int 2)) (.seq (.ret (.new 15 (.cons (.idx (.var 0) (.int 0)) (.cons (.idx (.var 0) (.int 1)) .nil)))) (.skip)) (.skip)) (.seq (.ite (.cmp .eq (.fn1 .len (.var 0)) (.int 3)) (.seq (.ret (.new 15 (.cons (.idx (.var 0) (.int 0)) (.cons (.idx (.var 0) (.int 1)) (.cons (.idx (.var 0) (.int 2)) .nil))))) (.skip)) (.skip)) (.seq (.ret (.new 15 (.cons (.idx (.var 0) (.int 0)) (.cons (.idx (.var 0) (.int 1)) (.cons (.idx (.var 0) (.int 2)) (.cons (.idx (.var 0) (.int 3)) .nil)))))) (.skip)))))⟩
/-- L_from ['_law_pairs_here', '_law_name_here', '_law_count', '_law_found', '_law_turn', '_law_pair'] -/
abbrev n_L_from : Nat := 616
def L_from : Fn := ⟨3, 6, .seq (.own 3 (.lst (.cons (.var 1) .nil))) (.seq (.for_ (.name 4) (.rng (.var 2)) (.seq (.for_ (.name 5) (.seq (.var 0)) (.seq (.ite (.and (.cmp .inn (.idx (.var 5) (.int 0)) (.var 3)) (.cmp .notIn (.idx (.var 5) (.int 1)) (.var 3))) (.seq (.app 3 (.idx (.var 5) (.int 1))) (.skip)) (.skip)) (.skip))) (.skip))) (.seq (.ret (.slc (.var 3) (.some (.int 1)) .none)) (.skip)))⟩
/-- L_pairs_due ['_law_pairs', '_law_pair', '_law_name_here'] -/
abbrev n_L_pairs_due : Nat := 617
def L_pairs_due : Fn := ⟨1, 3, .seq (.for_ (.name 1) (.seq (.var 0)) (.seq (.for_ (.name 2) (.seq (.var 1)) (.seq (.ite (.cmp .ne (.call 513 (.cons (.var 2) (.cons (.lst .nil) .nil))) (.str "")) (.seq (.ret (.tup (.cons (.str "name") (.cons (.var 2) (.cons (.bl true) .nil))))) (.skip)) (.skip)) (.skip))) (.seq (.ite (.cmp .eq (.idx (.var 1) (.int 0)) (.idx (.var 1) (.int 1))) (.seq (.ret (.tup (.cons (.str "note") (.cons (.tup (.cons (.idx (.var 1) (.int 0)) (.cons (.idx (.var 1) (.int 1)) .nil))) (.cons (.bl true) .nil))))) (.skip)) (.skip)) (.skip)))) (.seq (.ret (.non)) (.skip))⟩
/-- L_good_v4 ['_law_lamps', '_law_rows_here', '_law_pairs_here', '_law_found', '_law_row', '_law_order'] -/
abbrev n_L_good_v4 : Nat := 620
def L_good_v4 : Fn := ⟨3, 6, .seq (.own 3 (.lst .nil)) (.seq (.for_ (.name 5) (.seq (.call 551 (.cons (.lc (.idx (.var 4) (.int 0)) 4 (.seq (.var 1)) .none) .nil))) (.seq (.ite (.and (.call 619 (.cons (.var 2) (.cons (.var 5) .nil))) (.call 573 (.cons (.var 0) (.cons (.var 1) (.cons (.var 5) .nil))))) (.seq (.app 3 (.var 5)) (.skip)) (.skip)) (.skip))) (.seq (.ret (.var 3)) (.skip)))⟩
/-- L_ring_ok ['_law_lamps', '_law_rows_here', '_law_pairs_here', '_law_ring', '_law_steps', '_law_k'] -/
abbrev n_L_ring_ok : Nat := 621
def L_ring_ok : Fn := ⟨4, 6, .seq (.ite (.or (.not (.isi (.var 3) .list)) (.cmp .eq (.var 3) (.lst .nil))) (.seq (.ret (.bl false)) (.skip)) (.skip)) (.seq (.for_ (.name 4) (.seq (.var 3)) (.seq (.ite (.or (.not (.call 578 (.cons (.var 0) (.cons (.var 1) (.cons (.var 4) .nil))))) (.cmp .notIn (.slc (.idx (.var 4) (.int 0)) .none (.some (.int 2))) (.var 2))) (.seq (.ret (.bl false)) (.skip)) (.skip)) (.skip))) (.seq (.for_ (.name 5) (.rng (.fn1 .len (.var 3))) (.seq (.ite (.cmp .ne (.idx (.idx (.idx (.var 3) (.bin .sub (.var 5) (.int 1))) (.neg (.int 1))) (.int 1)) (.idx (.idx (.idx (.var 3) (.var 5)) (.neg (.int 1))) (.int 0))) (.seq (.ret (.bl false)) (.skip)) (.skip)) (.skip))) (.seq (.ret (.bl true)) (.skip))))⟩
/-- L_good_v5 ['_law_lamps', '_law_rows_here', '_law_pairs_here', '_law_found', '_law_row', '_law_order'] -/
abbrev n_L_good_v5 : Nat := 623
def L_good_v5 : Fn := ⟨3, 6, .seq (.own 3 (.lst .nil)) (.seq (.for_ (.name 5) (.seq (.call 551 (.cons (.lc (.idx (.var 4) (.int 0)) 4 (.seq (.var 1)) .none) .nil))) (.seq (.ite (.and (.call 622 (.cons (.var 2) (.cons (.var 5) .nil))) (.call 573 (.cons (.var 0) (.cons (.var 1) (.cons (.var 5) .nil))))) (.seq (.app 3 (.var 5)) (.skip)) (.skip)) (.skip))) (.seq (.ret (.var 3)) (.skip)))⟩
/-- L_bar_ok_v3 ['_law_lamps', '_law_rows_here', '_law_steps'] -/
abbrev n_L_bar_ok_v3 : Nat := 624
def L_bar_ok_v3 : Fn := ⟨3, 3, .seq (.ite (.not (.call 590 (.cons (.var 0) (.cons (.var 1) (.cons (.var 2) .nil))))) (.seq (.ret (.bl false)) (.skip)) (.skip)) (.seq (.ret (.and (.cmp .eq (.idx (.idx (.var 2) (.int 0)) (.int 0)) (.idx (.idx (.var 2) (.neg (.int 1))) (.int 1))) (.cmp .eq (.idx (.idx (.var 2) (.int 0)) (.int 1)) (.idx (.idx (.var 2) (.neg (.int 1))) (.int 0))))) (.skip))⟩
/-- L_ring_ok_v2 ['_law_lamps', '_law_rows_here', '_law_pairs_here', '_law_ring', '_law_steps', '_law_k'] -/
abbrev n_L_ring_ok_v2 : Nat := 625
def L_ring_ok_v2 : Fn := ⟨4, 6, .seq (.ite (.or (.not (.isi (.var 3) .list)) (.cmp .eq (.var 3) (.lst .nil))) (.seq (.ret (.bl false)) (.skip)) (.skip)) (.seq (.for_ (.name 4) (.seq (.var 3)) (.seq (.ite (.or (.not (.call 590 (.cons (.var 0) (.cons (.var 1) (.cons (.var 4) .nil))))) (.cmp .notIn (.slc (.idx (.var 4) (.int 0)) .none (.some (.int 2))) (.var 2))) (.seq (.ret (.bl false)) (.skip)) (.skip)) (.skip))) (.seq (.for_ (.name 5) (.rng (.fn1 .len (.var 3))) (.seq (.ite (.cmp .ne (.idx (.idx (.idx (.var 3) (.bin .sub (.var 5) (.int 1))) (.neg (.int 1))) (.int 1)) (.idx (.idx (.idx (.var 3) (.var 5)) (.neg (.int 1))) (.int 0))) (.seq (.ret (.bl false)) (.skip)) (.skip)) (.skip))) (.seq (.ret (.bl true)) (.skip))))⟩
/-- L_notes_v2 ['_law_pairs_here', '_law_notes_here', '_law_pair_here'] -/
abbrev n_L_notes_v2 : Nat := 626
def L_notes_v2 : Fn := ⟨1, 3, .seq (.set 1 (.new 15 .nil)) (.seq (.for_ (.name 2) (.seq (.var 0)) (.seq (.set 1 (.bin .add (.var 1) (.new 15 (.cons (.var 2) .nil)))) (.skip))) (.seq (.ret (.var 1)) (.skip)))⟩
/-- L_same_error ['_law_lamps', '_law_rows_here', '_law_pairs_here', '_law_got', '_law_due'] -/
abbrev n_L_same_error : Nat := 631
def L_same_error : Fn := ⟨5, 5, .seq (.ite (.or (.cmp .isN (.var 3) (.non)) (.cmp .isN (.var 4) (.non))) (.seq (.ret (.and (.cmp .isN (.var 3) (.non)) (.cmp .isN (.var 4) (.non)))) (.skip)) (.skip)) (.seq (.ite (.cmp .ne (.idx (.var 3) (.int 0)) (.idx (.var 4) (.int 0))) (.seq (.ret (.bl false)) (.skip)) (.skip)) (.seq (.ite (.cmp .ne (.idx (.var 4) (.int 0)) (.str "none")) (.seq (.ret (.cmp .eq (.idx (.var 3) (.int 1)) (.idx (.var 4) (.int 1)))) (.skip)) (.skip)) (.seq (.ite (.cmp .eq (.cmp .isN (.idx (.idx (.var 3) (.int 1)) (.int 0)) (.non)) (.cmp .isN (.idx (.idx (.var 3) (.int 1)) (.int 1)) (.non))) (.seq (.ret (.bl false)) (.skip)) (.skip)) (.seq (.ite (.cmp .notN (.idx (.idx (.var 3) (.int 1)) (.int 0)) (.non)) (.seq (.ret (.and (.call 579 (.cons (.var 0) (.cons (.var 1) (.cons (.idx (.idx (.var 3) (.int 1)) (.int 0)) .nil)))) (.cmp .eq (.fn1 .len (.idx (.idx (.var 3) (.int 1)) (.int 0))) (.call 583 (.cons (.var 0) (.cons (.var 1) .nil)))))) (.skip)) (.skip)) (.seq (.ret (.call 621 (.cons (.var 0) (.cons (.var 1) (.cons (.var 2) (.cons (.idx (.idx (.var 3) (.int 1)) (.int 1)) .nil)))))) (.skip))))))⟩
/-- L_right ['_law_lamps', '_law_rows_here', '_law_pairs_here', '_law_good_here', '_law_solution'] -/
abbrev n_L_right : Nat := 632
def L_right : Fn := ⟨5, 5, .seq (.ite (.cmp .ne (.var 3) (.lst .nil)) (.seq (.ret (.and (.cmp .eq (.att (.var 4) "order") (.idx (.var 3) (.int 0))) (.and (.cmp .isN (.att (.var 4) "bar") (.non)) (.cmp .isN (.att (.var 4) "ring") (.non))))) (.skip)) (.skip)) (.seq (.ite (.or (.cmp .notN (.att (.var 4) "order") (.non)) (.cmp .eq (.cmp .isN (.att (.var 4) "bar") (.non)) (.cmp .isN (.att (.var 4) "ring") (.non)))) (.seq (.ret (.bl false)) (.skip)) (.skip)) (.seq (.ite (.cmp .notN (.att (.var 4) "bar") (.non)) (.seq (.ret (.call 579 (.cons (.var 0) (.cons (.var 1) (.cons (.att (.var 4) "bar") .nil))))) (.skip)) (.skip)) (.seq (.ret (.call 621 (.cons (.var 0) (.cons (.var 1) (.cons (.var 2) (.cons (.att (.var 4) "ring") .nil)))))) (.skip))))⟩
/-- L_ring_ok_v3 ['_law_lamps', '_law_rows', '_law_pairs_here', '_law_ring', '_law_steps', '_law_k'] -/
abbrev n_L_ring_ok_v3 : Nat := 633
def L_ring_ok_v3 : Fn := ⟨4, 6, .seq (.ite (.or (.not (.isi (.var 3) .list)) (.cmp .eq (.var 3) (.lst .nil))) (.seq (.ret (.bl false)) (.skip)) (.skip)) (.seq (.for_ (.name 4) (.seq (.var 3)) (.seq (.ite (.or (.not (.call 605 (.cons (.var 0) (.cons (.var 1) (.cons (.var 4) .nil))))) (.cmp .notIn (.slc (.idx (.var 4) (.int 0)) .none (.some (.int 2))) (.var 2))) (.seq (.ret (.bl false)) (.skip)) (.skip)) (.skip))) (.seq (.for_ (.name 5) (.rng (.fn1 .len (.var 3))) (.seq (.ite (.cmp .ne (.idx (.idx (.idx (.var 3) (.bin .sub (.var 5) (.int 1))) (.neg (.int 1))) (.int 1)) (.idx (.idx (.idx (.var 3) (.var 5)) (.neg (.int 1))) (.int 0))) (.seq (.ret (.bl false)) (.skip)) (.skip)) (.skip))) (.seq (.ret (.bl true)) (.skip))))⟩
/-- L_turned ['_law_order', '_law_k'] -/
abbrev n_L_turned : Nat := 635
def L_turned : Fn := ⟨1, 2, .seq (.ret (.fn1 .tuple (.lc (.idx (.var 0) (.bin .sub (.bin .sub (.fn1 .len (.var 0)) (.int 1)) (.var 1))) 1 (.rng (.fn1 .len (.var 0))) .none))) (.skip)⟩
/-- L_odd ['_law_bag_here', '_law_order', '_law_way', '_law_spot'] -/
abbrev n_L_odd : Nat := 639
def L_odd : Fn := ⟨2, 4, .seq (.set 2 (.call 502 (.cons (.var 0) (.cons (.int 6) .nil)))) (.seq (.ite (.or (.cmp .eq (.var 1) (.lst .nil)) (.cmp .eq (.var 2) (.int 0))) (.seq (.ret (.fn1 .list (.var 1))) (.skip)) (.skip)) (.seq (.set 3 (.call 502 (.cons (.var 0) (.cons (.fn1 .len (.var 1)) .nil)))) (.seq (.ite (.cmp .eq (.var 2) (.int 1)) (.seq (.ret (.bin .add (.slc (.var 1) .none (.some (.var 3))) (.slc (.var 1) (.some (.bin .add (.var 3) (.int 1))) .none))) (.skip)) (.skip)) (.seq (.ite (.cmp .eq (.var 2) (.int 2)) (.seq (.ret (.bin .add (.bin .add (.slc (.var 1) .none (.some (.var 3))) (.lst (.cons (.idx (.var 1) (.bin .sub (.var 3) (.int 1))) .nil))) (.slc (.var 1) (.some (.bin .add (.var 3) (.int 1))) .none))) (.skip)) (.skip)) (.seq (.ite (.cmp .eq (.var 2) (.int 3)) (.seq (.ret (.bin .add (.bin .add (.slc (.var 1) .none (.some (.var 3))) (.lst (.cons (.str "absent9999") .nil))) (.slc (.var 1) (.some (.bin .add (.var 3) (.int 1))) .none))) (.skip)) (.skip)) (.seq (.ite (.cmp .eq (.var 2) (.int 4)) (.seq (.ret (.bin .add (.var 1) (.lst (.cons (.idx (.var 1) (.var 3)) .nil)))) (.skip)) (.skip)) (.seq (.ret (.bin .add (.slc (.var 1) (.some (.var 3)) .none) (.slc (.var 1) .none (.some (.var 3))))) (.skip))))))))⟩
/-- L_bent ['_law_bag_here', '_law_looks', '_law_lamps', '_law_steps', '_law_way', '_law_spot', '_law_step', '_law_names_here', '_law_bulbs'] -/
abbrev n_L_bent : Nat := 641
def L_bent : Fn := ⟨4, 9, .seq (.set 3 (.fn1 .list (.var 3))) (.seq (.set 4 (.call 502 (.cons (.var 0) (.cons (.int 8) .nil)))) (.seq (.ite (.or (.cmp .eq (.var 3) (.lst .nil)) (.cmp .eq (.var 4) (.int 0))) (.seq (.ret (.var 3)) (.skip)) (.skip)) (.seq (.set 5 (.call 502 (.cons (.var 0) (.cons (.fn1 .len (.var 3)) .nil)))) (.seq (.set 6 (.idx (.var 3) (.var 5))) (.seq (.set 7 (.bin .add (.var 1) (.lst (.cons (.str "absent9999") .nil)))) (.seq (.set 8 (.bin .add (.var 2) (.lst (.cons (.str "absent9999") (.cons (.non) .nil))))) (.seq (.ite (.cmp .eq (.var 4) (.int 1)) (.seq (.ret (.bin .add (.slc (.var 3) .none (.some (.var 5))) (.slc (.var 3) (.some (.bin .add (.var 5) (.int 1))) .none))) (.skip)) (.skip)) (.seq (.ite (.cmp .eq (.var 4) (.int 2)) (.seq (.set 6 (.tup (.cons (.idx (.var 7) (.call 502 (.cons (.var 0) (.cons (.fn1 .len (.var 7)) .nil)))) (.cons (.idx (.var 6) (.int 1)) (.cons (.idx (.var 6) (.int 2)) .nil))))) (.skip)) (.skip)) (.seq (.ite (.cmp .eq (.var 4) (.int 3)) (.seq (.set 6 (.tup (.cons (.idx (.var 6) (.int 0)) (.cons (.idx (.var 7) (.call 502 (.cons (.var 0) (.cons (.fn1 .len (.var 7)) .nil)))) (.cons (.idx (.var 6) (.int 2)) .nil))))) (.skip)) (.skip)) (.seq (.ite (.cmp .eq (.var 4) (.int 4)) (.seq (.set 6 (.tup (.cons (.idx (.var 6) (.int 0)) (.cons (.idx (.var 6) (.int 1)) (.cons (.idx (.var 8) (.call 502 (.cons (.var 0) (.cons (.fn1 .len (.var 8)) .nil)))) .nil))))) (.skip)) (.skip)) (.seq (.ite (.cmp .eq (.var 4) (.int 5)) (.seq (.set 6 (.tup (.cons (.idx (.var 6) (.int 1)) (.cons (.idx (.var 6) (.int 0)) (.cons (.idx (.var 6) (.int 2)) .nil))))) (.skip)) (.skip)) (.seq (.ite (.cmp .eq (.var 4) (.int 6)) (.seq (.ret (.bin .add (.bin .add (.slc (.var 3) .none (.some (.var 5))) (.lst (.cons (.var 6) .nil))) (.slc (.var 3) (.some (.var 5)) .none))) (.skip)) (.skip)) (.seq (.ret (.bin .add (.bin .add (.slc (.var 3) .none (.some (.var 5))) (.lst (.cons (.var 6) .nil))) (.slc (.var 3) (.some (.bin .add (.var 5) (.int 1))) .none))) (.skip))))))))))))))⟩
/-- L_spoilt_v3 ['_law_bag_here', '_law_looks', '_law_lamps', '_law_ring', '_law_way', '_law_spot', '_law_k'] -/
abbrev n_L_spoilt_v3 : Nat := 644
def L_spoilt_v3 : Fn := ⟨4, 7, .seq (.set 4 (.call 502 (.cons (.var 0) (.cons (.int 6) .nil)))) (.seq (.ite (.or (.cmp .eq (.var 3) (.lst .nil)) (.cmp .eq (.var 4) (.int 0))) (.seq (.ret (.fn1 .list (.var 3))) (.skip)) (.skip)) (.seq (.set 5 (.call 502 (.cons (.var 0) (.cons (.fn1 .len (.var 3)) .nil)))) (.seq (.ite (.cmp .eq (.var 4) (.int 1)) (.seq (.ret (.bin .add (.slc (.var 3) .none (.some (.var 5))) (.slc (.var 3) (.some (.bin .add (.var 5) (.int 1))) .none))) (.skip)) (.skip)) (.seq (.ite (.cmp .eq (.var 4) (.int 2)) (.seq (.ret (.bin .add (.bin .add (.slc (.var 3) .none (.some (.var 5))) (.lst (.cons (.idx (.var 3) (.var 5)) .nil))) (.slc (.var 3) (.some (.var 5)) .none))) (.skip)) (.skip)) (.seq (.ite (.cmp .eq (.var 4) (.int 3)) (.seq (.ret (.bin .add (.slc (.var 3) (.some (.var 5)) .none) (.slc (.var 3) .none (.some (.var 5))))) (.skip)) (.skip)) (.seq (.ite (.cmp .eq (.var 4) (.int 4)) (.seq (.ret (.lc (.idx (.var 3) (.bin .sub (.bin .sub (.fn1 .len (.var 3)) (.int 1)) (.var 6))) 6 (.rng (.fn1 .len (.var 3))) .none)) (.skip)) (.skip)) (.seq (.ret (.bin .add (.bin .add (.slc (.var 3) .none (.some (.var 5))) (.lst (.cons (.call 641 (.cons (.var 0) (.cons (.var 1) (.cons (.var 2) (.cons (.idx (.var 3) (.var 5)) .nil))))) .nil))) (.slc (.var 3) (.some (.bin .add (.var 5) (.int 1))) .none))) (.skip))))))))⟩
/-- L_drawn_settings ['_law_bag_here', '_law_looks', '_law_settings', '_law_look'] -/
abbrev n_L_drawn_settings : Nat := 646
def L_drawn_settings : Fn := ⟨2, 4, .seq (.own 2 (.dct)) (.seq (.for_ (.name 3) (.seq (.var 1)) (.seq (.put 2 (.var 3) (.bin .sub (.call 502 (.cons (.var 0) (.cons (.int 15) .nil))) (.int 7))) (.seq (.ite (.cmp .eq (.call 502 (.cons (.var 0) (.cons (.int 5) .nil))) (.int 1)) (.seq (.put 2 (.var 3) (.bin .sub (.call 502 (.cons (.var 0) (.cons (.bin .pow (.int 10) (.int 25)) .nil))) (.bin .mul (.int 5) (.bin .pow (.int 10) (.int 24))))) (.skip)) (.skip)) (.skip)))) (.seq (.ret (.var 2)) (.skip)))⟩
/-- L_drawn_stretches ['_law_bag_here', '_law_lamps', '_law_stretches', '_law_lamp', '_law_low'] -/
abbrev n_L_drawn_stretches : Nat := 647
def L_drawn_stretches : Fn := ⟨2, 5, .seq (.own 2 (.dct)) (.seq (.for_ (.name 3) (.seq (.var 1)) (.seq (.set 4 (.bin .sub (.call 502 (.cons (.var 0) (.cons (.int 15) .nil))) (.int 7))) (.seq (.put 2 (.var 3) (.tup (.cons (.var 4) (.cons (.bin .add (.var 4) (.call 502 (.cons (.var 0) (.cons (.int 9) .nil)))) .nil)))) (.seq (.ite (.cmp .eq (.call 502 (.cons (.var 0) (.cons (.int 4) .nil))) (.int 1)) (.seq (.put 2 (.var 3) (.non)) (.skip)) (.skip)) (.skip))))) (.seq (.ret (.var 2)) (.skip)))⟩
/-- L_moved ['_law_stretches', '_law_by', '_law_found', '_law_lamp'] -/
abbrev n_L_moved : Nat := 648
def L_moved : Fn := ⟨2, 4, .seq (.own 2 (.dct)) (.seq (.for_ (.name 3) (.seq (.var 0)) (.seq (.put 2 (.var 3) (.non)) (.seq (.ite (.cmp .notN (.idx (.var 0) (.var 3)) (.non)) (.seq (.put 2 (.var 3) (.tup (.cons (.bin .add (.idx (.idx (.var 0) (.var 3)) (.int 0)) (.var 1)) (.cons (.bin .add (.idx (.idx (.var 0) (.var 3)) (.int 1)) (.var 1)) .nil)))) (.skip)) (.skip)) (.skip)))) (.seq (.ret (.var 2)) (.skip)))⟩
/-- L_turned_v2 ['_law_stretches', '_law_found', '_law_lamp'] -/
abbrev n_L_turned_v2 : Nat := 649
def L_turned_v2 : Fn := ⟨1, 3, .seq (.own 1 (.dct)) (.seq (.for_ (.name 2) (.seq (.var 0)) (.seq (.put 1 (.var 2) (.non)) (.seq (.ite (.cmp .notN (.idx (.var 0) (.var 2)) (.non)) (.seq (.put 1 (.var 2) (.tup (.cons (.neg (.idx (.idx (.var 0) (.var 2)) (.int 1))) (.cons (.neg (.idx (.idx (.var 0) (.var 2)) (.int 0))) .nil)))) (.skip)) (.skip)) (.skip)))) (.seq (.ret (.var 1)) (.skip)))⟩
/-- L_shifted ['_law_settings', '_law_sign', '_law_by', '_law_found', '_law_look'] -/
abbrev n_L_shifted : Nat := 650
def L_shifted : Fn := ⟨3, 5, .seq (.own 3 (.dct)) (.seq (.for_ (.name 4) (.seq (.var 0)) (.seq (.put 3 (.var 4) (.bin .add (.bin .mul (.var 1) (.idx (.var 0) (.var 4))) (.var 2))) (.skip))) (.seq (.ret (.var 3)) (.skip)))⟩
/-- L_is_made ['_law_made', '_law_settings', '_law_stretches'] -/
abbrev n_L_is_made : Nat := 651
def L_is_made : Fn := ⟨3, 3, .seq (.ret (.and (.isi (.var 0) (.cls 21)) (.and (.cmp .eq (.att (.var 0) "settings") (.var 1)) (.cmp .eq (.att (.var 0) "stretches") (.var 2))))) (.skip)⟩
/-- L_planted_rows_v3 ['_law_bag_here', '_law_lamps', '_law_looks', '_law_settings_here', '_law_look', '_law_ends', '_law_lamp', '_law_low', '_law_rows_here', '_law_k', '_law_j', '_law_shown'] -/
abbrev n_L_planted_rows_v3 : Nat := 654
def L_planted_rows_v3 : Fn := ⟨3, 12, .seq (.own 3 (.lst .nil)) (.seq (.for_ (.name 4) (.seq (.var 2)) (.seq (.app 3 (.call 502 (.cons (.var 0) (.cons (.int 9) .nil)))) (.skip))) (.seq (.own 5 (.lst .nil)) (.seq (.for_ (.name 6) (.seq (.var 1)) (.seq (.set 7 (.call 502 (.cons (.var 0) (.cons (.int 9) .nil)))) (.seq (.app 5 (.tup (.cons (.var 7) (.cons (.bin .sub (.bin .add (.var 7) (.call 502 (.cons (.var 0) (.cons (.int 7) .nil)))) (.int 1)) .nil)))) (.skip)))) (.seq (.own 8 (.lst .nil)) (.seq (.for_ (.name 9) (.rng (.fn1 .len (.var 2))) (.seq (.set 11 (.lc (.idx (.var 1) (.var 10)) 10 (.rng (.fn1 .len (.var 1))) (.some (.and (.cmp .le (.idx (.idx (.var 5) (.var 10)) (.int 0)) (.idx (.var 3) (.var 9))) (.cmp .le (.idx (.var 3) (.var 9)) (.idx (.idx (.var 5) (.var 10)) (.int 1))))))) (.seq (.app 8 (.tup (.cons (.idx (.var 2) (.var 9)) (.cons (.var 11) .nil)))) (.skip)))) (.seq (.ret (.var 8)) (.skip)))))))⟩
/-- L_rows_v2 ['_law_bag_here', '_law_lamps', '_law_looks', '_law_way', '_law_rows_here'] -/
abbrev n_L_rows_v2 : Nat := 655
def L_rows_v2 : Fn := ⟨3, 5, .seq (.set 3 (.call 502 (.cons (.var 0) (.cons (.int 4) .nil)))) (.seq (.ite (.cmp .eq (.var 3) (.int 0)) (.seq (.ret (.call 505 (.cons (.var 0) (.cons (.var 1) (.cons (.var 2) .nil))))) (.skip)) (.skip)) (.seq (.set 4 (.call 654 (.cons (.var 0) (.cons (.var 1) (.cons (.var 2) .nil))))) (.seq (.ite (.cmp .eq (.var 3) (.int 1)) (.seq (.ret (.var 4)) (.skip)) (.skip)) (.seq (.ret (.call 507 (.cons (.var 0) (.cons (.var 1) (.cons (.var 4) .nil))))) (.skip)))))⟩
/-- L_settings ['_law_rows_here', '_law_pairs_here', '_law_order', '_law_settings_here', '_law_now', '_law_shared', '_law_look', '_law_row', '_law_shown', '_law_others'] -/
abbrev n_L_settings : Nat := 656
def L_settings : Fn := ⟨3, 10, .seq (.own 3 (.dct)) (.seq (.set 4 (.int 0)) (.seq (.set 5 (.lst .nil)) (.seq (.for_ (.name 6) (.seq (.var 2)) (.seq (.set 8 (.idx (.lc (.idx (.var 7) (.int 1)) 7 (.seq (.var 0)) (.some (.cmp .eq (.idx (.var 7) (.int 0)) (.var 6)))) (.int 0))) (.seq (.set 9 (.lc (.idx (.var 7) (.int 0)) 7 (.seq (.var 0)) (.some (.and (.cmp .inn (.idx (.var 7) (.int 0)) (.var 5)) (.or (.cmp .ne (.idx (.var 7) (.int 1)) (.var 8)) (.cmp .inn (.tup (.cons (.idx (.var 7) (.int 0)) (.cons (.var 6) .nil))) (.var 1))))))) (.seq (.ite (.or (.cmp .eq (.var 5) (.lst .nil)) (.cmp .ne (.var 9) (.lst .nil))) (.seq (.set 4 (.bin .add (.var 4) (.int 1))) (.seq (.set 5 (.lst .nil)) (.skip))) (.skip)) (.seq (.set 5 (.bin .add (.var 5) (.lst (.cons (.var 6) .nil)))) (.seq (.put 3 (.var 6) (.var 4)) (.skip))))))) (.seq (.ret (.var 3)) (.skip)))))⟩
/-- L_any ['_law_lamps', '_law_rows_here', '_law_pairs_here', '_law_row', '_law_order'] -/
abbrev n_L_any : Nat := 658
def L_any : Fn := ⟨3, 5, .seq (.for_ (.name 4) (.seq (.call 551 (.cons (.lc (.idx (.var 3) (.int 0)) 3 (.seq (.var 1)) .none) .nil))) (.seq (.ite (.and (.call 619 (.cons (.var 2) (.cons (.var 4) .nil))) (.call 573 (.cons (.var 0) (.cons (.var 1) (.cons (.var 4) .nil))))) (.seq (.ret (.bl true)) (.skip)) (.skip)) (.skip))) (.seq (.ret (.bl false)) (.skip))⟩
/-- L_wide ['_law_count', '_law_k', '_law_wide_here', '_law_told', 'e'] -/
abbrev n_L_wide : Nat := 661
def L_wide : Fn := ⟨1, 5, .seq (.set 2 (.new 6 (.cons (.lc (.bin .add (.str "m") (.fn1 .str (.var 1))) 1 (.rng (.var 0)) .none) (.cons (.lst .nil) .nil)))) (.seq (.try1 (.seq (.set 3 (.fn1 .list (.call 143 (.cons (.var 2) .nil)))) (.skip)) 5 4 (.seq (.ret (.and (.cmp .eq (.xat 4 "limit") (.int 6)) (.cmp .gt (.var 0) (.int 6)))) (.skip))) (.seq (.ret (.and (.cmp .le (.var 0) (.int 6)) (.cmp .eq (.fn1 .len (.var 3)) (.bin .pow (.int 2) (.int 6))))) (.skip)))⟩
/-- L_good_v6 ['_law_lamps', '_law_rows', '_law_pairs_here', '_law_found', '_law_row', '_law_order'] -/
abbrev n_L_good_v6 : Nat := 663
def L_good_v6 : Fn := ⟨3, 6, .seq (.own 3 (.lst .nil)) (.seq (.for_ (.name 5) (.seq (.call 551 (.cons (.lc (.idx (.var 4) (.int 0)) 4 (.seq (.var 1)) .none) .nil))) (.seq (.ite (.and (.call 622 (.cons (.var 2) (.cons (.var 5) .nil))) (.call 597 (.cons (.var 0) (.cons (.var 1) (.cons (.var 5) .nil))))) (.seq (.app 3 (.var 5)) (.skip)) (.skip)) (.skip))) (.seq (.ret (.var 3)) (.skip)))⟩
/-- L_run_ok ['_law_rows', '_law_pairs_here', '_law_run', '_law_row', '_law_shown', '_law_one', '_law_pair_here'] -/
abbrev n_L_run_ok : Nat := 666
def L_run_ok : Fn := ⟨3, 7, .seq (.set 4 (.lc (.idx (.var 3) (.int 1)) 3 (.seq (.var 0)) (.some (.cmp .inn (.idx (.var 3) (.int 0)) (.var 2))))) (.seq (.for_ (.name 5) (.seq (.var 4)) (.seq (.ite (.cmp .ne (.var 5) (.idx (.var 4) (.int 0))) (.seq (.ret (.bl false)) (.skip)) (.skip)) (.skip))) (.seq (.for_ (.name 6) (.seq (.var 1)) (.seq (.ite (.and (.cmp .inn (.idx (.var 6) (.int 0)) (.var 2)) (.cmp .inn (.idx (.var 6) (.int 1)) (.var 2))) (.seq (.ret (.bl false)) (.skip)) (.skip)) (.skip))) (.seq (.ret (.bl true)) (.skip))))⟩
/-- L_without ['_law_rows_here', '_law_gone', '_law_row', '_law_lamp'] -/
abbrev n_L_without : Nat := 667
def L_without : Fn := ⟨2, 4, .seq (.ret (.lc (.tup (.cons (.idx (.var 2) (.int 0)) (.cons (.lc (.var 3) 3 (.seq (.idx (.var 2) (.int 1))) (.some (.cmp .notIn (.var 3) (.var 1)))) .nil))) 2 (.seq (.var 0)) .none)) (.skip)⟩
/-- L_fewest ['_law_lamps', '_law_rows_here', '_law_pairs_here', '_law_cut', '_law_size', '_law_found', '_law_gone', '_law_lamp', '_law_left'] -/
abbrev n_L_fewest : Nat := 669
def L_fewest : Fn := ⟨4, 9, .seq (.for_ (.name 4) (.rng (.bin .add (.var 3) (.int 1))) (.seq (.own 5 (.lst .nil)) (.seq (.for_ (.name 6) (.seq (.call 668 (.cons (.var 0) (.cons (.var 4) .nil)))) (.seq (.set 8 (.lc (.var 7) 7 (.seq (.var 0)) (.some (.cmp .notIn (.var 7) (.var 6))))) (.seq (.ite (.call 658 (.cons (.var 8) (.cons (.call 667 (.cons (.var 1) (.cons (.var 6) .nil))) (.cons (.var 2) .nil)))) (.seq (.app 5 (.var 6)) (.skip)) (.skip)) (.skip)))) (.seq (.ite (.cmp .ne (.var 5) (.lst .nil)) (.seq (.ret (.var 5)) (.skip)) (.skip)) (.skip))))) (.seq (.ret (.lst .nil)) (.skip))⟩
/-- L_conflict_ok ['_law_lamps', '_law_rows_here', '_law_pairs_here', '_law_conflict'] -/
abbrev n_L_conflict_ok : Nat := 671
def L_conflict_ok : Fn := ⟨4, 4, .seq (.ite (.or (.not (.isi (.var 3) .tuple)) (.cmp .ne (.fn1 .len (.var 3)) (.int 2))) (.seq (.ret (.bl false)) (.skip)) (.skip)) (.seq (.ite (.cmp .eq (.idx (.var 3) (.int 0)) (.str "bar")) (.seq (.ret (.call 579 (.cons (.var 0) (.cons (.var 1) (.cons (.idx (.var 3) (.int 1)) .nil))))) (.skip)) (.skip)) (.seq (.ret (.and (.cmp .eq (.idx (.var 3) (.int 0)) (.str "ring")) (.call 621 (.cons (.var 0) (.cons (.var 1) (.cons (.var 2) (.cons (.idx (.var 3) (.int 1)) .nil))))))) (.skip)))⟩
/-- L_failure_ok ['_law_lamps', '_law_rows_here', '_law_pairs_here', '_law_cut', '_law_paper', '_law_used_here', '_law_k', '_law_branch', '_law_lamp', '_law_rest'] -/
abbrev n_L_failure_ok : Nat := 673
def L_failure_ok : Fn := ⟨5, 10, .seq (.ite (.or (.not (.isi (.var 4) .tuple)) (.or (.cmp .ne (.fn1 .len (.var 4)) (.int 2)) (.not (.isi (.idx (.var 4) (.int 1)) .list)))) (.seq (.ret (.bl false)) (.skip)) (.skip)) (.seq (.ite (.not (.call 671 (.cons (.var 0) (.cons (.var 1) (.cons (.var 2) (.cons (.idx (.var 4) (.int 0)) .nil)))))) (.seq (.ret (.bl false)) (.skip)) (.skip)) (.seq (.ite (.cmp .eq (.var 3) (.int 0)) (.seq (.ret (.cmp .eq (.idx (.var 4) (.int 1)) (.lst .nil))) (.skip)) (.skip)) (.seq (.set 5 (.call 672 (.cons (.idx (.var 4) (.int 0)) .nil))) (.seq (.ite (.cmp .ne (.fn1 .len (.idx (.var 4) (.int 1))) (.fn1 .len (.var 5))) (.seq (.ret (.bl false)) (.skip)) (.skip)) (.seq (.for_ (.name 6) (.rng (.fn1 .len (.var 5))) (.seq (.set 7 (.idx (.idx (.var 4) (.int 1)) (.var 6))) (.seq (.ite (.or (.not (.isi (.var 7) .tuple)) (.or (.cmp .ne (.fn1 .len (.var 7)) (.int 2)) (.cmp .ne (.idx (.var 7) (.int 0)) (.idx (.var 5) (.var 6))))) (.seq (.ret (.bl false)) (.skip)) (.skip)) (.seq (.set 9 (.lc (.var 8) 8 (.seq (.var 0)) (.some (.cmp .ne (.var 8) (.idx (.var 5) (.var 6)))))) (.seq (.ite (.not (.call 673 (.cons (.var 9) (.cons (.call 667 (.cons (.var 1) (.cons (.lst (.cons (.idx (.var 5) (.var 6)) .nil)) .nil))) (.cons (.var 2) (.cons (.bin .sub (.var 3) (.int 1)) (.cons (.idx (.var 7) (.int 1)) .nil))))))) (.seq (.ret (.bl false)) (.skip)) (.skip)) (.skip)))))) (.seq (.ret (.bl true)) (.skip)))))))⟩
/-- L_right_v2 ['_law_lamps', '_law_rows_here', '_law_pairs_here', '_law_cut', '_law_failure', '_law_due'] -/
abbrev n_L_right_v2 : Nat := 674
def L_right_v2 : Fn := ⟨5, 6, .seq (.set 5 (.call 669 (.cons (.var 0) (.cons (.var 1) (.cons (.var 2) (.cons (.var 3) .nil)))))) (.seq (.ite (.cmp .eq (.var 5) (.lst .nil)) (.seq (.ret (.and (.cmp .isN (.att (.var 4) "lamps") (.non)) (.call 673 (.cons (.var 0) (.cons (.var 1) (.cons (.var 2) (.cons (.var 3) (.cons (.att (.var 4) "paper") .nil)))))))) (.skip)) (.skip)) (.seq (.ite (.or (.not (.isi (.att (.var 4) "lamps") .tuple)) (.cmp .ne (.att (.var 4) "lamps") (.idx (.var 5) (.int 0)))) (.seq (.ret (.bl false)) (.skip)) (.skip)) (.seq (.ite (.cmp .eq (.idx (.var 5) (.int 0)) (.tup .nil)) (.seq (.ret (.cmp .isN (.att (.var 4) "paper") (.non))) (.skip)) (.skip)) (.seq (.ret (.call 673 (.cons (.var 0) (.cons (.var 1) (.cons (.var 2) (.cons (.bin .sub (.fn1 .len (.idx (.var 5) (.int 0))) (.int 1)) (.cons (.att (.var 4) "paper") .nil))))))) (.skip)))))⟩
/-- L_without_v2 ['_law_rows', '_law_gone', '_law_row', '_law_lamp'] -/
abbrev n_L_without_v2 : Nat := 675
def L_without_v2 : Fn := ⟨2, 4, .seq (.ret (.lc (.tup (.cons (.idx (.var 2) (.int 0)) (.cons (.lc (.var 3) 3 (.seq (.idx (.var 2) (.int 1))) (.some (.cmp .notIn (.var 3) (.var 1)))) .nil))) 2 (.seq (.var 0)) .none)) (.skip)⟩
/-- L_conflict_ok_v2 ['_law_lamps', '_law_rows', '_law_pairs_here', '_law_conflict'] -/
abbrev n_L_conflict_ok_v2 : Nat := 676
def L_conflict_ok_v2 : Fn := ⟨4, 4, .seq (.ite (.or (.not (.isi (.var 3) .tuple)) (.cmp .ne (.fn1 .len (.var 3)) (.int 2))) (.seq (.ret (.bl false)) (.skip)) (.skip)) (.seq (.ite (.cmp .eq (.idx (.var 3) (.int 0)) (.str "bar")) (.seq (.ret (.call 606 (.cons (.var 0) (.cons (.var 1) (.cons (.idx (.var 3) (.int 1)) .nil))))) (.skip)) (.skip)) (.seq (.ret (.and (.cmp .eq (.idx (.var 3) (.int 0)) (.str "ring")) (.call 633 (.cons (.var 0) (.cons (.var 1) (.cons (.var 2) (.cons (.idx (.var 3) (.int 1)) .nil))))))) (.skip)))⟩
/-- L_failure_ok_v2 ['_law_lamps', '_law_rows', '_law_pairs_here', '_law_cut', '_law_paper', '_law_used_here', '_law_k', '_law_branch', '_law_lamp', '_law_rest'] -/
abbrev n_L_failure_ok_v2 : Nat := 677
def L_failure_ok_v2 : Fn := ⟨5, 10, .seq (.ite (.or (.not (.isi (.var 4) .tuple)) (.or (.cmp .ne (.fn1 .len (.var 4)) (.int 2)) (.not (.isi (.idx (.var 4) (.int 1)) .list)))) (.seq (.ret (.bl false)) (.skip)) (.skip)) (.seq (.ite (.not (.call 676 (.cons (.var 0) (.cons (.var 1) (.cons (.var 2) (.cons (.idx (.var 4) (.int 0)) .nil)))))) (.seq (.ret (.bl false)) (.skip)) (.skip)) (.seq (.ite (.cmp .eq (.var 3) (.int 0)) (.seq (.ret (.cmp .eq (.idx (.var 4) (.int 1)) (.lst .nil))) (.skip)) (.skip)) (.seq (.set 5 (.call 672 (.cons (.idx (.var 4) (.int 0)) .nil))) (.seq (.ite (.cmp .ne (.fn1 .len (.idx (.var 4) (.int 1))) (.fn1 .len (.var 5))) (.seq (.ret (.bl false)) (.skip)) (.skip)) (.seq (.for_ (.name 6) (.rng (.fn1 .len (.var 5))) (.seq (.set 7 (.idx (.idx (.var 4) (.int 1)) (.var 6))) (.seq (.ite (.or (.not (.isi (.var 7) .tuple)) (.or (.cmp .ne (.fn1 .len (.var 7)) (.int 2)) (.cmp .ne (.idx (.var 7) (.int 0)) (.idx (.var 5) (.var 6))))) (.seq (.ret (.bl false)) (.skip)) (.skip)) (.seq (.set 9 (.lc (.var 8) 8 (.seq (.var 0)) (.some (.cmp .ne (.var 8) (.idx (.var 5) (.var 6)))))) (.seq (.ite (.not (.call 677 (.cons (.var 9) (.cons (.call 675 (.cons (.var 1) (.cons (.lst (.cons (.idx (.var 5) (.var 6)) .nil)) .nil))) (.cons (.var 2) (.cons (.bin .sub (.var 3) (.int 1)) (.cons (.idx (.var 7) (.int 1)) .nil))))))) (.seq (.ret (.bl false)) (.skip)) (.skip)) (.skip)))))) (.seq (.ret (.bl true)) (.skip)))))))⟩
/-- L_conflict_bent ['_law_bag_here', '_law_looks', '_law_lamps', '_law_conflict', '_law_ring', '_law_spot'] -/
abbrev n_L_conflict_bent : Nat := 678
def L_conflict_bent : Fn := ⟨4, 6, .seq (.ite (.cmp .eq (.idx (.var 3) (.int 0)) (.str "bar")) (.seq (.ret (.tup (.cons (.str "bar") (.cons (.call 641 (.cons (.var 0) (.cons (.var 1) (.cons (.var 2) (.cons (.idx (.var 3) (.int 1)) .nil))))) .nil)))) (.skip)) (.skip)) (.seq (.set 4 (.fn1 .list (.idx (.var 3) (.int 1)))) (.seq (.set 5 (.call 502 (.cons (.var 0) (.cons (.bin .add (.fn1 .len (.var 4)) (.int 1)) .nil)))) (.seq (.ite (.cmp .eq (.var 5) (.fn1 .len (.var 4))) (.seq (.ret (.tup (.cons (.str "ring") (.cons (.slc (.var 4) (.some (.int 1)) .none) .nil)))) (.skip)) (.skip)) (.seq (.ret (.tup (.cons (.str "ring") (.cons (.bin .add (.bin .add (.slc (.var 4) .none (.some (.var 5))) (.lst (.cons (.call 641 (.cons (.var 0) (.cons (.var 1) (.cons (.var 2) (.cons (.idx (.var 4) (.var 5)) .nil))))) .nil))) (.slc (.var 4) (.some (.bin .add (.var 5) (.int 1))) .none)) .nil)))) (.skip)))))⟩
/-- L_paper_bent ['_law_bag_here', '_law_looks', '_law_lamps', '_law_paper', '_law_deep', '_law_conflict', '_law_branches', '_law_way', '_law_spot', '_law_branch'] -/
abbrev n_L_paper_bent : Nat := 679
def L_paper_bent : Fn := ⟨5, 10, .seq (.set 5 (.idx (.var 3) (.int 0))) (.seq (.own 6 (.fn1 .list (.idx (.var 3) (.int 1)))) (.seq (.set 7 (.call 502 (.cons (.var 0) (.cons (.int 7) .nil)))) (.seq (.ite (.cmp .eq (.var 7) (.int 0)) (.seq (.ret (.tup (.cons (.call 678 (.cons (.var 0) (.cons (.var 1) (.cons (.var 2) (.cons (.var 5) .nil))))) (.cons (.var 6) .nil)))) (.skip)) (.skip)) (.seq (.ite (.cmp .eq (.var 6) (.lst .nil)) (.seq (.ite (.cmp .eq (.var 7) (.int 6)) (.seq (.app 6 (.tup (.cons (.str "absent9999") (.cons (.var 3) .nil)))) (.skip)) (.skip)) (.seq (.ret (.tup (.cons (.var 5) (.cons (.var 6) .nil)))) (.skip))) (.skip)) (.seq (.set 8 (.call 502 (.cons (.var 0) (.cons (.fn1 .len (.var 6)) .nil)))) (.seq (.set 9 (.idx (.var 6) (.var 8))) (.seq (.ite (.cmp .eq (.var 7) (.int 1)) (.seq (.ret (.tup (.cons (.var 5) (.cons (.bin .add (.slc (.var 6) .none (.some (.var 8))) (.slc (.var 6) (.some (.bin .add (.var 8) (.int 1))) .none)) .nil)))) (.skip)) (.skip)) (.seq (.ite (.cmp .eq (.var 7) (.int 2)) (.seq (.ret (.tup (.cons (.var 5) (.cons (.bin .add (.bin .add (.slc (.var 6) .none (.some (.var 8))) (.lst (.cons (.var 9) .nil))) (.slc (.var 6) (.some (.var 8)) .none)) .nil)))) (.skip)) (.skip)) (.seq (.ite (.cmp .eq (.var 7) (.int 3)) (.seq (.ret (.tup (.cons (.var 5) (.cons (.bin .add (.slc (.var 6) (.some (.var 8)) .none) (.slc (.var 6) .none (.some (.var 8)))) .nil)))) (.skip)) (.skip)) (.seq (.ite (.cmp .eq (.var 7) (.int 4)) (.seq (.set 9 (.tup (.cons (.str "absent9999") (.cons (.idx (.var 9) (.int 1)) .nil)))) (.skip)) (.skip)) (.seq (.ite (.cmp .eq (.var 7) (.int 5)) (.seq (.set 9 (.tup (.cons (.idx (.var 9) (.int 0)) (.cons (.idx (.idx (.var 6) (.bin .sub (.var 8) (.int 1))) (.int 1)) .nil)))) (.skip)) (.skip)) (.seq (.ite (.and (.cmp .eq (.var 7) (.int 6)) (.cmp .gt (.var 4) (.int 0))) (.seq (.set 9 (.tup (.cons (.idx (.var 9) (.int 0)) (.cons (.call 679 (.cons (.var 0) (.cons (.var 1) (.cons (.var 2) (.cons (.idx (.var 9) (.int 1)) (.cons (.bin .sub (.var 4) (.int 1)) .nil)))))) .nil)))) (.skip)) (.skip)) (.seq (.ret (.tup (.cons (.var 5) (.cons (.bin .add (.bin .add (.slc (.var 6) .none (.some (.var 8))) (.lst (.cons (.var 9) .nil))) (.slc (.var 6) (.some (.bin .add (.var 8) (.int 1))) .none)) .nil)))) (.skip))))))))))))))⟩
/-- L_longer ['_law_paper', '_law_steps', '_law_back'] -/
abbrev n_L_longer : Nat := 680
def L_longer : Fn := ⟨1, 3, .seq (.ite (.cmp .ne (.idx (.idx (.var 0) (.int 0)) (.int 0)) (.str "bar")) (.seq (.ret (.var 0)) (.skip)) (.skip)) (.seq (.set 1 (.idx (.idx (.var 0) (.int 0)) (.int 1))) (.seq (.set 2 (.tup (.cons (.idx (.idx (.var 1) (.int 0)) (.int 0)) (.cons (.idx (.idx (.var 1) (.int 0)) (.int 1)) (.cons (.idx (.idx (.var 1) (.int 1)) (.int 2)) .nil))))) (.seq (.ret (.tup (.cons (.tup (.cons (.str "bar") (.cons (.bin .add (.bin .add (.slc (.var 1) .none (.some (.int 2))) (.lst (.cons (.var 2) .nil))) (.slc (.var 1) (.some (.int 1)) .none)) .nil))) (.cons (.idx (.var 0) (.int 1)) .nil)))) (.skip))))⟩
/-- L_split_ok ['_law_lamps', '_law_rows_here', '_law_first', '_law_second', '_law_paper', '_law_side', '_law_lamp'] -/
abbrev n_L_split_ok : Nat := 681
def L_split_ok : Fn := ⟨5, 7, .seq (.ite (.or (.not (.isi (.var 4) .tuple)) (.cmp .lt (.fn1 .len (.var 4)) (.int 3))) (.seq (.ret (.bl false)) (.skip)) (.skip)) (.seq (.ite (.cmp .eq (.idx (.var 4) (.int 0)) (.str "bar")) (.seq (.ite (.or (.cmp .ne (.fn1 .len (.var 4)) (.int 3)) (.or (.cmp .notIn (.idx (.var 4) (.int 1)) (.lst (.cons (.int 1) (.cons (.int 2) .nil)))) (.not (.call 579 (.cons (.var 0) (.cons (.var 1) (.cons (.idx (.var 4) (.int 2)) .nil))))))) (.seq (.ret (.bl false)) (.skip)) (.skip)) (.seq (.set 5 (.var 2)) (.seq (.ite (.cmp .eq (.idx (.var 4) (.int 1)) (.int 2)) (.seq (.set 5 (.var 3)) (.skip)) (.skip)) (.seq (.ret (.cmp .eq (.lc (.var 6) 6 (.seq (.call 602 (.cons (.idx (.var 4) (.int 2)) .nil))) (.some (.cmp .notIn (.var 6) (.var 5)))) (.lst .nil))) (.skip))))) (.skip)) (.seq (.ite (.or (.cmp .ne (.idx (.var 4) (.int 0)) (.str "lamp")) (.or (.cmp .ne (.fn1 .len (.var 4)) (.int 4)) (.cmp .notIn (.idx (.var 4) (.int 1)) (.var 0)))) (.seq (.ret (.bl false)) (.skip)) (.skip)) (.seq (.ite (.or (.cmp .inn (.idx (.var 4) (.int 1)) (.var 2)) (.cmp .inn (.idx (.var 4) (.int 1)) (.var 3))) (.seq (.ret (.bl false)) (.skip)) (.skip)) (.seq (.ite (.not (.call 681 (.cons (.var 0) (.cons (.var 1) (.cons (.bin .add (.var 2) (.lst (.cons (.idx (.var 4) (.int 1)) .nil))) (.cons (.var 3) (.cons (.idx (.var 4) (.int 2)) .nil))))))) (.seq (.ret (.bl false)) (.skip)) (.skip)) (.seq (.ret (.call 681 (.cons (.var 0) (.cons (.var 1) (.cons (.var 2) (.cons (.bin .add (.var 3) (.lst (.cons (.idx (.var 4) (.int 1)) .nil))) (.cons (.idx (.var 4) (.int 3)) .nil))))))) (.skip))))))⟩
/-- L_flags ['_law_rows_here', '_law_lamp', '_law_orders', '_law_order'] -/
abbrev n_L_flags : Nat := 682
def L_flags : Fn := ⟨3, 4, .seq (.ret (.lc (.call 573 (.cons (.lst (.cons (.var 1) .nil)) (.cons (.var 0) (.cons (.var 3) .nil)))) 3 (.seq (.var 2)) .none)) (.skip)⟩
/-- L_first_way ['_law_lamps', '_law_rows_here', '_law_row', '_law_orders', '_law_lamp', '_law_flags_here', '_law_halves', '_law_number', '_law_k', '_law_first', '_law_second'] -/
abbrev n_L_first_way : Nat := 684
def L_first_way : Fn := ⟨2, 11, .seq (.set 3 (.call 551 (.cons (.lc (.idx (.var 2) (.int 0)) 2 (.seq (.var 1)) .none) .nil))) (.seq (.set 5 (.lc (.call 682 (.cons (.var 1) (.cons (.var 4) (.cons (.var 3) .nil)))) 4 (.seq (.var 0)) .none)) (.seq (.set 6 (.lst (.cons (.int 1) (.cons (.int 2) (.cons (.int 4) (.cons (.int 8) (.cons (.int 16) (.cons (.int 32) (.cons (.int 64) .nil))))))))) (.seq (.for_ (.name 7) (.rng (.idx (.var 6) (.fn1 .len (.var 0)))) (.seq (.set 9 (.lc (.var 8) 8 (.rng (.fn1 .len (.var 0))) (.some (.cmp .eq (.bin .mod (.fn1 .int (.bin .fdiv (.var 7) (.idx (.var 6) (.bin .sub (.bin .sub (.fn1 .len (.var 0)) (.int 1)) (.var 8))))) (.int 2)) (.int 0))))) (.seq (.set 10 (.lc (.var 8) 8 (.rng (.fn1 .len (.var 0))) (.some (.cmp .notIn (.var 8) (.var 9))))) (.seq (.ite (.and (.call 683 (.cons (.var 5) (.cons (.var 9) (.cons (.fn1 .len (.var 3)) .nil)))) (.call 683 (.cons (.var 5) (.cons (.var 10) (.cons (.fn1 .len (.var 3)) .nil))))) (.seq (.ret (.tup (.cons (.fn1 .tuple (.lc (.idx (.var 0) (.var 8)) 8 (.seq (.var 9)) .none)) (.cons (.fn1 .tuple (.lc (.idx (.var 0) (.var 8)) 8 (.seq (.var 10)) .none)) .nil)))) (.skip)) (.skip)) (.skip))))) (.seq (.ret (.non)) (.skip)))))⟩
/-- L_split_ok_v2 ['_law_lamps', '_law_rows', '_law_first', '_law_second', '_law_paper', '_law_side', '_law_lamp'] -/
abbrev n_L_split_ok_v2 : Nat := 685
def L_split_ok_v2 : Fn := ⟨5, 7, .seq (.ite (.or (.not (.isi (.var 4) .tuple)) (.cmp .lt (.fn1 .len (.var 4)) (.int 3))) (.seq (.ret (.bl false)) (.skip)) (.skip)) (.seq (.ite (.cmp .eq (.idx (.var 4) (.int 0)) (.str "bar")) (.seq (.ite (.or (.cmp .ne (.fn1 .len (.var 4)) (.int 3)) (.or (.cmp .notIn (.idx (.var 4) (.int 1)) (.lst (.cons (.int 1) (.cons (.int 2) .nil)))) (.not (.call 606 (.cons (.var 0) (.cons (.var 1) (.cons (.idx (.var 4) (.int 2)) .nil))))))) (.seq (.ret (.bl false)) (.skip)) (.skip)) (.seq (.set 5 (.var 2)) (.seq (.ite (.cmp .eq (.idx (.var 4) (.int 1)) (.int 2)) (.seq (.set 5 (.var 3)) (.skip)) (.skip)) (.seq (.ret (.cmp .eq (.lc (.var 6) 6 (.seq (.call 602 (.cons (.idx (.var 4) (.int 2)) .nil))) (.some (.cmp .notIn (.var 6) (.var 5)))) (.lst .nil))) (.skip))))) (.skip)) (.seq (.ite (.or (.cmp .ne (.idx (.var 4) (.int 0)) (.str "lamp")) (.or (.cmp .ne (.fn1 .len (.var 4)) (.int 4)) (.cmp .notIn (.idx (.var 4) (.int 1)) (.var 0)))) (.seq (.ret (.bl false)) (.skip)) (.skip)) (.seq (.ite (.or (.cmp .inn (.idx (.var 4) (.int 1)) (.var 2)) (.cmp .inn (.idx (.var 4) (.int 1)) (.var 3))) (.seq (.ret (.bl false)) (.skip)) (.skip)) (.seq (.ite (.not (.call 685 (.cons (.var 0) (.cons (.var 1) (.cons (.bin .add (.var 2) (.lst (.cons (.idx (.var 4) (.int 1)) .nil))) (.cons (.var 3) (.cons (.idx (.var 4) (.int 2)) .nil))))))) (.seq (.ret (.bl false)) (.skip)) (.skip)) (.seq (.ret (.call 685 (.cons (.var 0) (.cons (.var 1) (.cons (.var 2) (.cons (.bin .add (.var 3) (.lst (.cons (.idx (.var 4) (.int 1)) .nil))) (.cons (.idx (.var 4) (.int 3)) .nil))))))) (.skip))))))⟩
/-- L_paper_bent_v2 ['_law_bag_here', '_law_looks', '_law_lamps', '_law_paper', '_law_deep', '_law_way', '_law_pool'] -/
abbrev n_L_paper_bent_v2 : Nat := 686
def L_paper_bent_v2 : Fn := ⟨5, 7, .seq (.set 5 (.call 502 (.cons (.var 0) (.cons (.int 5) .nil)))) (.seq (.ite (.cmp .eq (.idx (.var 3) (.int 0)) (.str "bar")) (.seq (.ite (.cmp .lt (.var 5) (.int 2)) (.seq (.ret (.tup (.cons (.str "bar") (.cons (.idx (.lst (.cons (.bin .sub (.int 3) (.idx (.var 3) (.int 1))) (.cons (.int 0) .nil))) (.var 5)) (.cons (.idx (.var 3) (.int 2)) .nil))))) (.skip)) (.skip)) (.seq (.ret (.tup (.cons (.str "bar") (.cons (.idx (.var 3) (.int 1)) (.cons (.call 641 (.cons (.var 0) (.cons (.var 1) (.cons (.var 2) (.cons (.idx (.var 3) (.int 2)) .nil))))) .nil))))) (.skip))) (.skip)) (.seq (.ite (.cmp .eq (.var 5) (.int 0)) (.seq (.ret (.tup (.cons (.str "lamp") (.cons (.idx (.var 3) (.int 1)) (.cons (.idx (.var 3) (.int 3)) (.cons (.idx (.var 3) (.int 2)) .nil)))))) (.skip)) (.skip)) (.seq (.ite (.cmp .eq (.var 5) (.int 1)) (.seq (.set 6 (.bin .add (.var 2) (.lst (.cons (.str "absent9999") .nil)))) (.seq (.ret (.tup (.cons (.str "lamp") (.cons (.idx (.var 6) (.call 502 (.cons (.var 0) (.cons (.fn1 .len (.var 6)) .nil)))) (.cons (.idx (.var 3) (.int 2)) (.cons (.idx (.var 3) (.int 3)) .nil)))))) (.skip))) (.skip)) (.seq (.ite (.or (.cmp .eq (.var 5) (.int 2)) (.cmp .eq (.var 4) (.int 0))) (.seq (.ret (.idx (.var 3) (.int 2))) (.skip)) (.skip)) (.seq (.ite (.cmp .eq (.var 5) (.int 3)) (.seq (.ret (.tup (.cons (.str "lamp") (.cons (.idx (.var 3) (.int 1)) (.cons (.call 686 (.cons (.var 0) (.cons (.var 1) (.cons (.var 2) (.cons (.idx (.var 3) (.int 2)) (.cons (.bin .sub (.var 4) (.int 1)) .nil)))))) (.cons (.idx (.var 3) (.int 3)) .nil)))))) (.skip)) (.skip)) (.seq (.ret (.tup (.cons (.str "lamp") (.cons (.idx (.var 3) (.int 1)) (.cons (.idx (.var 3) (.int 2)) (.cons (.call 686 (.cons (.var 0) (.cons (.var 1) (.cons (.var 2) (.cons (.idx (.var 3) (.int 3)) (.cons (.bin .sub (.var 4) (.int 1)) .nil)))))) .nil)))))) (.skip)))))))⟩
/-- L_wide_v2 ['_law_count', '_law_k', '_law_wide_here', '_law_told', 'e'] -/
abbrev n_L_wide_v2 : Nat := 687
def L_wide_v2 : Fn := ⟨1, 5, .seq (.set 2 (.new 6 (.cons (.lc (.bin .add (.str "m") (.fn1 .str (.var 1))) 1 (.rng (.var 0)) .none) (.cons (.lst .nil) .nil)))) (.seq (.try1 (.seq (.set 3 (.call 163 (.cons (.var 2) .nil))) (.skip)) 5 4 (.seq (.ret (.and (.cmp .eq (.xat 4 "limit") (.int 10)) (.cmp .gt (.var 0) (.int 10)))) (.skip))) (.seq (.ret (.and (.cmp .le (.var 0) (.int 10)) (.and (.cmp .eq (.fn1 .len (.att (.var 3) "first")) (.var 0)) (.cmp .eq (.att (.var 3) "second") (.tup .nil))))) (.skip)))⟩
/-- L_exchanged ['_law_rows_here', '_law_first', '_law_second', '_law_begin', '_law_found', '_law_row', '_law_lamp'] -/
abbrev n_L_exchanged : Nat := 689
def L_exchanged : Fn := ⟨4, 7, .seq (.own 4 (.fn1 .list (.slc (.var 0) .none (.some (.var 3))))) (.seq (.for_ (.name 5) (.seq (.slc (.var 0) (.some (.var 3)) .none)) (.seq (.app 4 (.tup (.cons (.idx (.var 5) (.int 0)) (.cons (.lc (.call 535 (.cons (.var 6) (.cons (.var 1) (.cons (.var 2) .nil)))) 6 (.seq (.idx (.var 5) (.int 1))) .none) .nil)))) (.skip))) (.seq (.ret (.var 4)) (.skip)))⟩
/-- L_is_v2 ['_law_value', '_law_due_here'] -/
abbrev n_L_is_v2 : Nat := 691
def L_is_v2 : Fn := ⟨2, 2, .seq (.ret (.and (.isi (.var 0) .bool) (.cmp .eq (.var 0) (.var 1)))) (.skip)⟩
/-- L_pick ['_law_bag_here', '_law_names_here', '_law_pool'] -/
abbrev n_L_pick : Nat := 692
def L_pick : Fn := ⟨2, 3, .seq (.set 2 (.bin .add (.bin .add (.bin .add (.var 1) (.var 1)) (.var 1)) (.lst (.cons (.str "absent9999") (.cons (.str "B c") (.cons (.int 7) .nil)))))) (.seq (.ret (.idx (.var 2) (.call 502 (.cons (.var 0) (.cons (.fn1 .len (.var 2)) .nil))))) (.skip))⟩
/-- L_deed ['_law_bag_here', '_law_lamps', '_law_looks', '_law_words', '_law_word', '_law_deed_here', '_law_k'] -/
abbrev n_L_deed : Nat := 693
def L_deed : Fn := ⟨3, 7, .seq (.set 3 (.lst (.cons (.str "lamp") (.cons (.str "look") (.cons (.str "look") (.cons (.str "lamp") (.cons (.str "note") (.cons (.str "set") (.cons (.str "set") (.cons (.str "unlamp") (.cons (.str "unlook") (.cons (.str "forget") (.cons (.str "undo") (.cons (.str "note") .nil)))))))))))))) (.seq (.set 4 (.idx (.var 3) (.call 502 (.cons (.var 0) (.cons (.int 12) .nil))))) (.seq (.ite (.cmp .inn (.var 4) (.lst (.cons (.str "lamp") (.cons (.str "unlamp") .nil)))) (.seq (.ret (.tup (.cons (.var 4) (.cons (.call 692 (.cons (.var 0) (.cons (.var 1) .nil))) .nil)))) (.skip)) (.skip)) (.seq (.ite (.cmp .eq (.var 4) (.str "unlook")) (.seq (.ret (.tup (.cons (.var 4) (.cons (.call 692 (.cons (.var 0) (.cons (.var 2) .nil))) .nil)))) (.skip)) (.skip)) (.seq (.ite (.cmp .eq (.var 4) (.str "look")) (.seq (.set 5 (.tup (.cons (.var 4) (.cons (.call 692 (.cons (.var 0) (.cons (.var 2) .nil))) .nil)))) (.seq (.for_ (.name 6) (.rng (.call 502 (.cons (.var 0) (.cons (.int 4) .nil)))) (.seq (.set 5 (.bin .add (.var 5) (.tup (.cons (.idx (.var 1) (.call 502 (.cons (.var 0) (.cons (.fn1 .len (.var 1)) .nil)))) .nil)))) (.skip))) (.seq (.ret (.var 5)) (.skip)))) (.skip)) (.seq (.ite (.cmp .eq (.var 4) (.str "set")) (.seq (.ret (.tup (.cons (.var 4) (.cons (.call 692 (.cons (.var 0) (.cons (.var 1) .nil))) (.cons (.call 692 (.cons (.var 0) (.cons (.var 2) .nil))) (.cons (.cmp .eq (.call 502 (.cons (.var 0) (.cons (.int 2) .nil))) (.int 1)) .nil)))))) (.skip)) (.skip)) (.seq (.ite (.cmp .eq (.var 4) (.str "undo")) (.seq (.ret (.tup (.cons (.var 4) .nil))) (.skip)) (.skip)) (.seq (.ret (.tup (.cons (.var 4) (.cons (.call 692 (.cons (.var 0) (.cons (.var 2) .nil))) (.cons (.call 692 (.cons (.var 0) (.cons (.var 2) .nil))) .nil))))) (.skip))))))))⟩
/-- L_fault_of ['_law_state', '_law_deed_here', '_law_lamps', '_law_row', '_law_looks', '_law_name_here'] -/
abbrev n_L_fault_of : Nat := 694
def L_fault_of : Fn := ⟨2, 6, .seq (.set 2 (.idx (.var 0) (.int 0))) (.seq (.set 4 (.lc (.idx (.var 3) (.int 0)) 3 (.seq (.idx (.var 0) (.int 1))) .none)) (.seq (.ite (.and (.cmp .eq (.idx (.var 1) (.int 0)) (.str "lamp")) (.cmp .ne (.call 513 (.cons (.idx (.var 1) (.int 1)) (.cons (.var 2) .nil))) (.str ""))) (.seq (.ret (.tup (.cons (.call 513 (.cons (.idx (.var 1) (.int 1)) (.cons (.var 2) .nil))) (.cons (.idx (.var 1) (.int 1)) .nil)))) (.skip)) (.skip)) (.seq (.ite (.cmp .eq (.idx (.var 1) (.int 0)) (.str "look")) (.seq (.ret (.call 523 (.cons (.var 2) (.cons (.bin .add (.idx (.var 0) (.int 1)) (.lst (.cons (.tup (.cons (.idx (.var 1) (.int 1)) (.cons (.fn1 .list (.slc (.var 1) (.some (.int 2)) .none)) .nil))) .nil))) .nil)))) (.skip)) (.skip)) (.seq (.ite (.and (.cmp .inn (.idx (.var 1) (.int 0)) (.lst (.cons (.str "unlamp") (.cons (.str "set") .nil)))) (.cmp .notIn (.idx (.var 1) (.int 1)) (.var 2))) (.seq (.ret (.tup (.cons (.str "unknown") (.cons (.idx (.var 1) (.int 1)) .nil)))) (.skip)) (.skip)) (.seq (.ite (.and (.cmp .eq (.idx (.var 1) (.int 0)) (.str "set")) (.cmp .notIn (.idx (.var 1) (.int 2)) (.var 4))) (.seq (.ret (.tup (.cons (.str "unknown") (.cons (.idx (.var 1) (.int 2)) .nil)))) (.skip)) (.skip)) (.seq (.ite (.and (.cmp .eq (.idx (.var 1) (.int 0)) (.str "unlook")) (.cmp .notIn (.idx (.var 1) (.int 1)) (.var 4))) (.seq (.ret (.tup (.cons (.str "unknown") (.cons (.idx (.var 1) (.int 1)) .nil)))) (.skip)) (.skip)) (.seq (.ite (.cmp .inn (.idx (.var 1) (.int 0)) (.lst (.cons (.str "note") (.cons (.str "forget") .nil)))) (.seq (.for_ (.name 5) (.seq (.slc (.var 1) (.some (.int 1)) .none)) (.seq (.ite (.cmp .notIn (.var 5) (.var 4)) (.seq (.ret (.tup (.cons (.str "unknown") (.cons (.var 5) .nil)))) (.skip)) (.skip)) (.skip))) (.seq (.ite (.cmp .eq (.idx (.var 1) (.int 1)) (.idx (.var 1) (.int 2))) (.seq (.ret (.tup (.cons (.str "note") (.cons (.tup (.cons (.idx (.var 1) (.int 1)) (.cons (.idx (.var 1) (.int 2)) .nil))) .nil)))) (.skip)) (.skip)) (.skip))) (.skip)) (.seq (.ret (.non)) (.skip)))))))))⟩
/-- L_after ['_law_state', '_law_deed_here', '_law_lamps', '_law_rows', '_law_pairs', '_law_lamp', '_law_left', '_law_row', '_law_pair', '_law_found', '_law_shown', '_law_one'] -/
abbrev n_L_after : Nat := 695
def L_after : Fn := ⟨2, 12, .seq (.set 2 (.idx (.var 0) (.int 0))) (.seq (.set 3 (.idx (.var 0) (.int 1))) (.seq (.set 4 (.idx (.var 0) (.int 2))) (.seq (.ite (.cmp .eq (.idx (.var 1) (.int 0)) (.str "lamp")) (.seq (.ret (.lst (.cons (.bin .add (.var 2) (.lst (.cons (.idx (.var 1) (.int 1)) .nil))) (.cons (.var 3) (.cons (.var 4) .nil))))) (.skip)) (.skip)) (.seq (.ite (.cmp .eq (.idx (.var 1) (.int 0)) (.str "look")) (.seq (.ret (.lst (.cons (.var 2) (.cons (.bin .add (.var 3) (.lst (.cons (.tup (.cons (.idx (.var 1) (.int 1)) (.cons (.lc (.var 5) 5 (.seq (.var 2)) (.some (.cmp .inn (.var 5) (.slc (.var 1) (.some (.int 2)) .none)))) .nil))) .nil))) (.cons (.var 4) .nil))))) (.skip)) (.skip)) (.seq (.ite (.cmp .eq (.idx (.var 1) (.int 0)) (.str "unlamp")) (.seq (.set 6 (.lc (.var 5) 5 (.seq (.var 2)) (.some (.cmp .ne (.var 5) (.idx (.var 1) (.int 1)))))) (.seq (.ret (.lst (.cons (.var 6) (.cons (.lc (.tup (.cons (.idx (.var 7) (.int 0)) (.cons (.lc (.var 5) 5 (.seq (.idx (.var 7) (.int 1))) (.some (.cmp .ne (.var 5) (.idx (.var 1) (.int 1))))) .nil))) 7 (.seq (.var 3)) .none) (.cons (.var 4) .nil))))) (.skip))) (.skip)) (.seq (.ite (.cmp .eq (.idx (.var 1) (.int 0)) (.str "unlook")) (.seq (.ret (.lst (.cons (.var 2) (.cons (.lc (.var 7) 7 (.seq (.var 3)) (.some (.cmp .ne (.idx (.var 7) (.int 0)) (.idx (.var 1) (.int 1))))) (.cons (.lc (.var 8) 8 (.seq (.var 4)) (.some (.cmp .notIn (.idx (.var 1) (.int 1)) (.var 8)))) .nil))))) (.skip)) (.skip)) (.seq (.ite (.cmp .eq (.idx (.var 1) (.int 0)) (.str "set")) (.seq (.own 9 (.lst .nil)) (.seq (.for_ (.name 7) (.seq (.var 3)) (.seq (.set 10 (.idx (.var 7) (.int 1))) (.seq (.ite (.cmp .eq (.idx (.var 7) (.int 0)) (.idx (.var 1) (.int 2))) (.seq (.set 10 (.lc (.var 11) 11 (.seq (.var 2)) (.some (.or (.and (.cmp .inn (.var 11) (.idx (.var 7) (.int 1))) (.cmp .ne (.var 11) (.idx (.var 1) (.int 1)))) (.and (.cmp .eq (.var 11) (.idx (.var 1) (.int 1))) (.idx (.var 1) (.int 3))))))) (.skip)) (.skip)) (.seq (.app 9 (.tup (.cons (.idx (.var 7) (.int 0)) (.cons (.var 10) .nil)))) (.skip))))) (.seq (.ret (.lst (.cons (.var 2) (.cons (.var 9) (.cons (.var 4) .nil))))) (.skip)))) (.skip)) (.seq (.set 4 (.lc (.var 8) 8 (.seq (.var 4)) (.some (.cmp .ne (.var 8) (.tup (.cons (.idx (.var 1) (.int 1)) (.cons (.idx (.var 1) (.int 2)) .nil))))))) (.seq (.ite (.cmp .eq (.idx (.var 1) (.int 0)) (.str "note")) (.seq (.set 4 (.bin .add (.var 4) (.lst (.cons (.tup (.cons (.idx (.var 1) (.int 1)) (.cons (.idx (.var 1) (.int 2)) .nil))) .nil)))) (.skip)) (.skip)) (.seq (.ret (.lst (.cons (.var 2) (.cons (.var 3) (.cons (.var 4) .nil))))) (.skip)))))))))))⟩
/-- L_add_look ['_law_hall', '_law_deed_here'] -/
abbrev n_L_add_look : Nat := 696
def L_add_look : Fn := ⟨2, 2, .seq (.ite (.cmp .eq (.fn1 .len (.var 1)) (.int 2)) (.seq (.ret (.meth (.var 0) "add_look" (.cons (.idx (.var 1) (.int 1)) .nil))) (.skip)) (.skip)) (.seq (.ite (.cmp .eq (.fn1 .len (.var 1)) (.int 3)) (.seq (.ret (.meth (.var 0) "add_look" (.cons (.idx (.var 1) (.int 1)) (.cons (.idx (.var 1) (.int 2)) .nil)))) (.skip)) (.skip)) (.seq (.ite (.cmp .eq (.fn1 .len (.var 1)) (.int 4)) (.seq (.ret (.meth (.var 0) "add_look" (.cons (.idx (.var 1) (.int 1)) (.cons (.idx (.var 1) (.int 2)) (.cons (.idx (.var 1) (.int 3)) .nil))))) (.skip)) (.skip)) (.seq (.ret (.meth (.var 0) "add_look" (.cons (.idx (.var 1) (.int 1)) (.cons (.idx (.var 1) (.int 2)) (.cons (.idx (.var 1) (.int 3)) (.cons (.idx (.var 1) (.int 4)) .nil)))))) (.skip))))⟩
/-- L_make ['_law_hall', '_law_deed_here'] -/
abbrev n_L_make : Nat := 697
def L_make : Fn := ⟨2, 2, .seq (.ite (.cmp .eq (.idx (.var 1) (.int 0)) (.str "lamp")) (.seq (.ret (.meth (.var 0) "add_lamp" (.cons (.idx (.var 1) (.int 1)) .nil))) (.skip)) (.skip)) (.seq (.ite (.cmp .eq (.idx (.var 1) (.int 0)) (.str "look")) (.seq (.ret (.call 696 (.cons (.var 0) (.cons (.var 1) .nil)))) (.skip)) (.skip)) (.seq (.ite (.cmp .eq (.idx (.var 1) (.int 0)) (.str "unlamp")) (.seq (.ret (.meth (.var 0) "remove_lamp" (.cons (.idx (.var 1) (.int 1)) .nil))) (.skip)) (.skip)) (.seq (.ite (.cmp .eq (.idx (.var 1) (.int 0)) (.str "unlook")) (.seq (.ret (.meth (.var 0) "remove_look" (.cons (.idx (.var 1) (.int 1)) .nil))) (.skip)) (.skip)) (.seq (.ite (.cmp .eq (.idx (.var 1) (.int 0)) (.str "note")) (.seq (.ret (.meth (.var 0) "note" (.cons (.idx (.var 1) (.int 1)) (.cons (.idx (.var 1) (.int 2)) .nil)))) (.skip)) (.skip)) (.seq (.ite (.cmp .eq (.idx (.var 1) (.int 0)) (.str "forget")) (.seq (.ret (.meth (.var 0) "forget" (.cons (.idx (.var 1) (.int 1)) (.cons (.idx (.var 1) (.int 2)) .nil)))) (.skip)) (.skip)) (.seq (.put 0 (.tup (.cons (.idx (.var 1) (.int 1)) (.cons (.idx (.var 1) (.int 2)) .nil))) (.idx (.var 1) (.int 3))) (.seq (.ret (.non)) (.skip))))))))⟩
/-- L_batch ['_law_bag_here', '_law_state', '_law_lamps', '_law_looks', '_law_count', '_law_deeds', '_law_due_here', '_law_turn', '_law_deed_here', '_law_odd'] -/
abbrev n_L_batch : Nat := 700
def L_batch : Fn := ⟨5, 10, .seq (.own 5 (.lst .nil)) (.seq (.set 6 (.non)) (.seq (.for_ (.name 7) (.rng (.var 4)) (.seq (.set 8 (.call 693 (.cons (.var 0) (.cons (.var 2) (.cons (.var 3) .nil))))) (.seq (.set 9 (.cmp .eq (.call 502 (.cons (.var 0) (.cons (.int 8) .nil))) (.int 1))) (.seq (.ite (.or (.cmp .eq (.idx (.var 8) (.int 0)) (.str "set")) (.cmp .eq (.idx (.var 8) (.int 0)) (.str "undo"))) (.seq (.set 8 (.tup (.cons (.str "note") (.cons (.idx (.var 3) (.var 7)) (.cons (.idx (.var 3) (.bin .sub (.var 7) (.int 1))) .nil))))) (.skip)) (.skip)) (.seq (.ite (.var 9) (.seq (.set 8 (.tup (.cons (.idx (.lst (.cons (.str "lamps") (.cons (.str "undo") (.cons (.str "set") (.cons (.str "on") (.cons (.str "") (.cons (.int 5) (.cons (.non) .nil)))))))) (.call 502 (.cons (.var 0) (.cons (.int 7) .nil)))) (.cons (.idx (.var 2) (.int 0)) .nil)))) (.skip)) (.skip)) (.seq (.ite (.cmp .isN (.var 6) (.non)) (.seq (.ite (.var 9) (.seq (.set 6 (.tup (.cons (.str "unknown") (.cons (.idx (.var 8) (.int 0)) .nil)))) (.skip)) (.seq (.set 6 (.call 694 (.cons (.var 1) (.cons (.var 8) .nil)))) (.skip))) (.seq (.ite (.cmp .isN (.var 6) (.non)) (.seq (.set 1 (.call 695 (.cons (.var 1) (.cons (.var 8) .nil)))) (.skip)) (.skip)) (.skip))) (.skip)) (.seq (.app 5 (.var 8)) (.skip)))))))) (.seq (.ret (.lst (.cons (.var 5) (.cons (.var 6) (.cons (.var 1) .nil))))) (.skip))))⟩
/-- L_filled ['_law_bag_here', '_law_hall', '_law_lamps', '_law_looks', '_law_state', '_law_many', '_law_k', '_law_deed_here'] -/
abbrev n_L_filled : Nat := 701
def L_filled : Fn := ⟨4, 8, .seq (.set 4 (.lst (.cons (.lst .nil) (.cons (.lst .nil) (.cons (.lst .nil) .nil))))) (.seq (.set 5 (.int 0)) (.seq (.for_ (.name 6) (.rng (.fn1 .len (.var 2))) (.seq (.set 4 (.call 695 (.cons (.var 4) (.cons (.tup (.cons (.str "lamp") (.cons (.idx (.var 2) (.var 6)) .nil))) .nil)))) (.seq (.expr (.meth (.var 1) "add_lamp" (.cons (.idx (.var 2) (.var 6)) .nil))) (.seq (.set 5 (.bin .add (.var 5) (.int 1))) (.skip))))) (.seq (.for_ (.name 6) (.rng (.fn1 .len (.var 3))) (.seq (.set 7 (.tup (.cons (.str "look") (.cons (.idx (.var 3) (.var 6)) .nil)))) (.seq (.ite (.and (.cmp .ne (.var 2) (.lst .nil)) (.cmp .eq (.call 502 (.cons (.var 0) (.cons (.int 2) .nil))) (.int 1))) (.seq (.set 7 (.bin .add (.var 7) (.tup (.cons (.idx (.var 2) (.call 502 (.cons (.var 0) (.cons (.fn1 .len (.var 2)) .nil)))) .nil)))) (.skip)) (.skip)) (.seq (.set 4 (.call 695 (.cons (.var 4) (.cons (.var 7) .nil)))) (.seq (.expr (.call 696 (.cons (.var 1) (.cons (.var 7) .nil)))) (.seq (.set 5 (.bin .add (.var 5) (.int 1))) (.skip))))))) (.seq (.ret (.lst (.cons (.var 4) (.cons (.var 5) .nil)))) (.skip)))))⟩
/-- L_eight ['_law_hall', '_law_many', '_law_before', '_law_k', '_law_names_here', '_law_name_here', '_law_adds', '_law_told'] -/
abbrev n_L_eight : Nat := 703
def L_eight : Fn := ⟨2, 8, .seq (.set 2 (.fn1 .list (.att (.att (.var 0) "table") "lamps"))) (.seq (.set 4 (.lc (.bin .add (.str "eight") (.fn1 .str (.var 3))) 3 (.rng (.int 8)) .none)) (.seq (.set 6 (.lc (.tup (.cons (.str "lamp") (.cons (.var 5) .nil))) 5 (.seq (.var 4)) .none)) (.seq (.set 7 (.meth (.var 0) "change" (.cons (.idx (.var 6) (.int 0)) (.cons (.idx (.var 6) (.int 1)) (.cons (.idx (.var 6) (.int 2)) (.cons (.idx (.var 6) (.int 3)) (.cons (.idx (.var 6) (.int 4)) (.cons (.idx (.var 6) (.int 5)) (.cons (.idx (.var 6) (.int 6)) (.cons (.fn1 .list (.idx (.var 6) (.int 7))) .nil)))))))))) (.seq (.ite (.or (.cmp .notN (.var 7) (.non)) (.or (.cmp .ne (.fn1 .list (.att (.att (.var 0) "table") "lamps")) (.bin .add (.var 2) (.var 4))) (.cmp .ne (.att (.var 0) "changes") (.bin .add (.var 1) (.int 1))))) (.seq (.ret (.bl false)) (.skip)) (.skip)) (.seq (.expr (.meth (.var 0) "undo" .nil)) (.seq (.ret (.and (.cmp .eq (.fn1 .list (.att (.att (.var 0) "table") "lamps")) (.var 2)) (.cmp .eq (.att (.var 0) "changes") (.var 1)))) (.skip)))))))⟩
/-- L_odd_words ['_law_hall', '_law_state', '_law_many', '_law_word'] -/
abbrev n_L_odd_words : Nat := 704
def L_odd_words : Fn := ⟨3, 4, .seq (.for_ (.name 3) (.seq (.lst (.cons (.lst (.cons (.str "lamp") .nil)) (.cons (.lst .nil) .nil)))) (.seq (.ite (.cmp .ne (.call 702 (.cons (.var 0) (.cons (.lst (.cons (.tup (.cons (.var 3) (.cons (.str "fresh9999") .nil))) .nil)) .nil))) (.tup (.cons (.str "unknown") (.cons (.var 3) .nil)))) (.seq (.ret (.bl false)) (.skip)) (.skip)) (.seq (.ite (.cmp .ne (.call 702 (.cons (.var 0) (.cons (.lst (.cons (.tup (.cons (.str "lamp") (.cons (.str "fresh9999") .nil))) (.cons (.tup (.cons (.var 3) (.cons (.str "fresh9999") .nil))) .nil))) .nil))) (.tup (.cons (.str "unknown") (.cons (.var 3) .nil)))) (.seq (.ret (.bl false)) (.skip)) (.skip)) (.seq (.ite (.cmp .ne (.call 702 (.cons (.var 0) (.cons (.lst (.cons (.tup (.cons (.str "look") (.cons (.str "fresh9999") .nil))) (.cons (.tup (.cons (.str "lamp") (.cons (.var 3) .nil))) .nil))) .nil))) (.tup (.cons (.str "invalid") (.cons (.var 3) .nil)))) (.seq (.ret (.bl false)) (.skip)) (.skip)) (.seq (.ite (.cmp .ne (.call 702 (.cons (.var 0) (.cons (.lst (.cons (.lst (.cons (.str "unlamp") (.cons (.var 3) .nil))) .nil)) .nil))) (.tup (.cons (.str "unknown") (.cons (.var 3) .nil)))) (.seq (.ret (.bl false)) (.skip)) (.skip)) (.seq (.ite (.not (.call 699 (.cons (.var 0) (.cons (.var 1) (.cons (.var 2) .nil))))) (.seq (.ret (.bl false)) (.skip)) (.skip)) (.skip))))))) (.seq (.ret (.bl true)) (.skip))⟩
/-- L_tried_ok ['_law_hall', '_law_deeds', '_law_due_here', '_law_state', '_law_got'] -/
abbrev n_L_tried_ok : Nat := 706
def L_tried_ok : Fn := ⟨4, 5, .seq (.set 4 (.call 705 (.cons (.var 0) (.cons (.var 1) .nil)))) (.seq (.ite (.cmp .notN (.var 2) (.non)) (.seq (.ret (.cmp .eq (.var 4) (.var 2))) (.skip)) (.skip)) (.seq (.ret (.and (.cmp .eq (.idx (.var 4) (.int 0)) (.str "solution")) (.call 707 (.cons (.var 3) (.cons (.idx (.var 4) (.int 1)) .nil))))) (.skip)))⟩
/-- L_ring_ok_v4 ['_law_lamps', '_law_rows', '_law_pairs', '_law_ring', '_law_steps', '_law_k'] -/
abbrev n_L_ring_ok_v4 : Nat := 709
def L_ring_ok_v4 : Fn := ⟨4, 6, .seq (.ite (.or (.not (.isi (.var 3) .list)) (.cmp .eq (.var 3) (.lst .nil))) (.seq (.ret (.bl false)) (.skip)) (.skip)) (.seq (.for_ (.name 4) (.seq (.var 3)) (.seq (.ite (.or (.not (.call 605 (.cons (.var 0) (.cons (.var 1) (.cons (.var 4) .nil))))) (.cmp .notIn (.slc (.idx (.var 4) (.int 0)) .none (.some (.int 2))) (.var 2))) (.seq (.ret (.bl false)) (.skip)) (.skip)) (.skip))) (.seq (.for_ (.name 5) (.rng (.fn1 .len (.var 3))) (.seq (.ite (.cmp .ne (.idx (.idx (.idx (.var 3) (.bin .sub (.var 5) (.int 1))) (.neg (.int 1))) (.int 1)) (.idx (.idx (.idx (.var 3) (.var 5)) (.neg (.int 1))) (.int 0))) (.seq (.ret (.bl false)) (.skip)) (.skip)) (.skip))) (.seq (.ret (.bl true)) (.skip))))⟩
/-- L_conflict_ok_v3 ['_law_lamps', '_law_rows', '_law_pairs', '_law_conflict'] -/
abbrev n_L_conflict_ok_v3 : Nat := 710
def L_conflict_ok_v3 : Fn := ⟨4, 4, .seq (.ite (.or (.not (.isi (.var 3) .tuple)) (.cmp .ne (.fn1 .len (.var 3)) (.int 2))) (.seq (.ret (.bl false)) (.skip)) (.skip)) (.seq (.ite (.cmp .eq (.idx (.var 3) (.int 0)) (.str "bar")) (.seq (.ret (.call 606 (.cons (.var 0) (.cons (.var 1) (.cons (.idx (.var 3) (.int 1)) .nil))))) (.skip)) (.skip)) (.seq (.ret (.and (.cmp .eq (.idx (.var 3) (.int 0)) (.str "ring")) (.call 709 (.cons (.var 0) (.cons (.var 1) (.cons (.var 2) (.cons (.idx (.var 3) (.int 1)) .nil))))))) (.skip)))⟩
/-- L_failure_ok_v3 ['_law_lamps', '_law_rows', '_law_pairs', '_law_cut', '_law_paper', '_law_used_here', '_law_k', '_law_branch', '_law_lamp', '_law_rest'] -/
abbrev n_L_failure_ok_v3 : Nat := 711
def L_failure_ok_v3 : Fn := ⟨5, 10, .seq (.ite (.or (.not (.isi (.var 4) .tuple)) (.or (.cmp .ne (.fn1 .len (.var 4)) (.int 2)) (.not (.isi (.idx (.var 4) (.int 1)) .list)))) (.seq (.ret (.bl false)) (.skip)) (.skip)) (.seq (.ite (.not (.call 710 (.cons (.var 0) (.cons (.var 1) (.cons (.var 2) (.cons (.idx (.var 4) (.int 0)) .nil)))))) (.seq (.ret (.bl false)) (.skip)) (.skip)) (.seq (.ite (.cmp .eq (.var 3) (.int 0)) (.seq (.ret (.cmp .eq (.idx (.var 4) (.int 1)) (.lst .nil))) (.skip)) (.skip)) (.seq (.set 5 (.call 672 (.cons (.idx (.var 4) (.int 0)) .nil))) (.seq (.ite (.cmp .ne (.fn1 .len (.idx (.var 4) (.int 1))) (.fn1 .len (.var 5))) (.seq (.ret (.bl false)) (.skip)) (.skip)) (.seq (.for_ (.name 6) (.rng (.fn1 .len (.var 5))) (.seq (.set 7 (.idx (.idx (.var 4) (.int 1)) (.var 6))) (.seq (.ite (.or (.not (.isi (.var 7) .tuple)) (.or (.cmp .ne (.fn1 .len (.var 7)) (.int 2)) (.cmp .ne (.idx (.var 7) (.int 0)) (.idx (.var 5) (.var 6))))) (.seq (.ret (.bl false)) (.skip)) (.skip)) (.seq (.set 9 (.lc (.var 8) 8 (.seq (.var 0)) (.some (.cmp .ne (.var 8) (.idx (.var 5) (.var 6)))))) (.seq (.ite (.not (.call 711 (.cons (.var 9) (.cons (.call 675 (.cons (.var 1) (.cons (.lst (.cons (.idx (.var 5) (.var 6)) .nil)) .nil))) (.cons (.var 2) (.cons (.bin .sub (.var 3) (.int 1)) (.cons (.idx (.var 7) (.int 1)) .nil))))))) (.seq (.ret (.bl false)) (.skip)) (.skip)) (.skip)))))) (.seq (.ret (.bl true)) (.skip)))))))⟩
/-- L_any_v2 ['_law_lamps', '_law_rows', '_law_pairs', '_law_row', '_law_order'] -/
abbrev n_L_any_v2 : Nat := 712
def L_any_v2 : Fn := ⟨3, 5, .seq (.for_ (.name 4) (.seq (.call 551 (.cons (.lc (.idx (.var 3) (.int 0)) 3 (.seq (.var 1)) .none) .nil))) (.seq (.ite (.and (.call 574 (.cons (.var 2) (.cons (.var 4) .nil))) (.call 597 (.cons (.var 0) (.cons (.var 1) (.cons (.var 4) .nil))))) (.seq (.ret (.bl true)) (.skip)) (.skip)) (.skip))) (.seq (.ret (.bl false)) (.skip))⟩
/-- L_fewest_v2 ['_law_lamps', '_law_rows', '_law_pairs', '_law_cut', '_law_size', '_law_found', '_law_gone', '_law_lamp', '_law_left'] -/
abbrev n_L_fewest_v2 : Nat := 713
def L_fewest_v2 : Fn := ⟨4, 9, .seq (.for_ (.name 4) (.rng (.bin .add (.var 3) (.int 1))) (.seq (.own 5 (.lst .nil)) (.seq (.for_ (.name 6) (.seq (.call 668 (.cons (.var 0) (.cons (.var 4) .nil)))) (.seq (.set 8 (.lc (.var 7) 7 (.seq (.var 0)) (.some (.cmp .notIn (.var 7) (.var 6))))) (.seq (.ite (.call 712 (.cons (.var 8) (.cons (.call 675 (.cons (.var 1) (.cons (.var 6) .nil))) (.cons (.var 2) .nil)))) (.seq (.app 5 (.var 6)) (.skip)) (.skip)) (.skip)))) (.seq (.ite (.cmp .ne (.var 5) (.lst .nil)) (.seq (.ret (.var 5)) (.skip)) (.skip)) (.skip))))) (.seq (.ret (.lst .nil)) (.skip))⟩
/-- L_error_ok ['_law_state', '_law_e'] -/
abbrev n_L_error_ok : Nat := 714
def L_error_ok : Fn := ⟨2, 2, .seq (.ite (.cmp .eq (.cmp .isN (.att (.var 1) "bar") (.non)) (.cmp .isN (.att (.var 1) "ring") (.non))) (.seq (.ret (.bl false)) (.skip)) (.skip)) (.seq (.ite (.cmp .notN (.att (.var 1) "bar") (.non)) (.seq (.ret (.call 606 (.cons (.idx (.var 0) (.int 0)) (.cons (.idx (.var 0) (.int 1)) (.cons (.att (.var 1) "bar") .nil))))) (.skip)) (.skip)) (.seq (.ret (.call 709 (.cons (.idx (.var 0) (.int 0)) (.cons (.idx (.var 0) (.int 1)) (.cons (.idx (.var 0) (.int 2)) (.cons (.att (.var 1) "ring") .nil)))))) (.skip)))⟩
/-- L_refuses ['_law_hall', '_law_state', '_law_looks', '_law_many', '_law_e'] -/
abbrev n_L_refuses : Nat := 715
def L_refuses : Fn := ⟨3, 5, .seq (.set 3 (.int 0)) (.seq (.try1 (.seq (.expr (.meth (.var 0) "best_order" .nil)) (.skip)) 13 4 (.seq (.set 3 (.bin .add (.var 3) (.fn1 .int (.call 714 (.cons (.var 1) (.cons (.var 4) .nil)))))) (.skip))) (.seq (.try1 (.seq (.expr (.meth (.var 0) "relation" (.cons (.idx (.var 2) (.int 0)) (.cons (.idx (.var 2) (.int 1)) .nil)))) (.skip)) 13 4 (.seq (.set 3 (.bin .add (.var 3) (.fn1 .int (.call 714 (.cons (.var 1) (.cons (.var 4) .nil)))))) (.skip))) (.seq (.ret (.cmp .eq (.var 3) (.int 2))) (.skip))))⟩
/-- L_failed_ok ['_law_state', '_law_cut', '_law_failure', '_law_due'] -/
abbrev n_L_failed_ok : Nat := 716
def L_failed_ok : Fn := ⟨3, 4, .seq (.set 3 (.call 713 (.cons (.idx (.var 0) (.int 0)) (.cons (.idx (.var 0) (.int 1)) (.cons (.idx (.var 0) (.int 2)) (.cons (.var 1) .nil)))))) (.seq (.ite (.cmp .eq (.var 3) (.lst .nil)) (.seq (.ret (.and (.cmp .isN (.att (.var 2) "lamps") (.non)) (.call 711 (.cons (.idx (.var 0) (.int 0)) (.cons (.idx (.var 0) (.int 1)) (.cons (.idx (.var 0) (.int 2)) (.cons (.var 1) (.cons (.att (.var 2) "paper") .nil)))))))) (.skip)) (.skip)) (.seq (.ite (.cmp .ne (.att (.var 2) "lamps") (.idx (.var 3) (.int 0))) (.seq (.ret (.bl false)) (.skip)) (.skip)) (.seq (.ite (.cmp .eq (.idx (.var 3) (.int 0)) (.tup .nil)) (.seq (.ret (.cmp .isN (.att (.var 2) "paper") (.non))) (.skip)) (.skip)) (.seq (.ret (.call 711 (.cons (.idx (.var 0) (.int 0)) (.cons (.idx (.var 0) (.int 1)) (.cons (.idx (.var 0) (.int 2)) (.cons (.bin .sub (.fn1 .len (.idx (.var 3) (.int 0))) (.int 1)) (.cons (.att (.var 2) "paper") .nil))))))) (.skip)))))⟩
/-- L_fails ['_law_hall', '_law_one', '_law_two', '_law_many', '_law_e'] -/
abbrev n_L_fails : Nat := 718
def L_fails : Fn := ⟨3, 5, .seq (.set 3 (.int 0)) (.seq (.try1 (.seq (.expr (.meth (.var 0) "change" (.cons (.tup (.cons (.str "note") (.cons (.var 1) (.cons (.var 2) .nil)))) (.cons (.tup (.cons (.str "lamp") (.cons (.str "B c") .nil))) .nil)))) (.skip)) 1 4 (.seq (.set 3 (.bin .add (.var 3) (.fn1 .int (.cmp .eq (.xat 4 "name") (.str "B c"))))) (.skip))) (.seq (.try1 (.seq (.expr (.meth (.new 23 (.cons (.var 0) .nil)) "run" (.cons (.bin .add (.bin .add (.bin .add (.bin .add (.str "order\nnote ") (.var 1)) (.str " ")) (.var 2)) (.str "\ncount\nwrong")) .nil))) (.skip)) 4 4 (.seq (.set 3 (.bin .add (.var 3) (.fn1 .int (.cmp .eq (.xat 4 "line") (.int 4))))) (.skip))) (.seq (.ret (.cmp .eq (.var 3) (.int 2))) (.skip))))⟩
/-- L_moved_v2 ['_law_bag_here', '_law_hall', '_law_state', '_law_way', '_law_one', '_law_two', '_law_lamps', '_law_rows', '_law_pair', '_law_pairs', '_law_lamp', '_law_row', '_law_shown', '_law_name_here'] -/
abbrev n_L_moved_v2 : Nat := 719
def L_moved_v2 : Fn := ⟨6, 14, .seq (.set 6 (.idx (.var 2) (.int 0))) (.seq (.set 7 (.idx (.var 2) (.int 1))) (.seq (.set 9 (.lc (.var 8) 8 (.seq (.idx (.var 2) (.int 2))) (.some (.cmp .ne (.var 8) (.tup (.cons (.var 4) (.cons (.var 5) .nil))))))) (.seq (.ite (.cmp .eq (.var 3) (.int 0)) (.seq (.set 10 (.idx (.var 6) (.call 502 (.cons (.var 0) (.cons (.int 3) .nil))))) (.seq (.put 1 (.tup (.cons (.var 10) (.cons (.var 4) .nil))) (.bl true)) (.seq (.set 12 (.idx (.lc (.idx (.var 11) (.int 1)) 11 (.seq (.var 7)) (.some (.cmp .eq (.idx (.var 11) (.int 0)) (.var 4)))) (.int 0))) (.seq (.set 12 (.lc (.var 13) 13 (.seq (.var 6)) (.some (.or (.cmp .inn (.var 13) (.var 12)) (.cmp .eq (.var 13) (.var 10)))))) (.seq (.ret (.lst (.cons (.var 6) (.cons (.lc (.tup (.cons (.idx (.var 11) (.int 0)) (.cons (.idx (.lst (.cons (.idx (.var 11) (.int 1)) (.cons (.var 12) .nil))) (.fn1 .int (.cmp .eq (.idx (.var 11) (.int 0)) (.var 4)))) .nil))) 11 (.seq (.var 7)) .none) (.cons (.idx (.var 2) (.int 2)) .nil))))) (.skip)))))) (.skip)) (.seq (.ite (.cmp .eq (.var 3) (.int 1)) (.seq (.expr (.meth (.var 1) "note" (.cons (.var 4) (.cons (.var 5) .nil)))) (.seq (.ret (.lst (.cons (.var 6) (.cons (.var 7) (.cons (.bin .add (.var 9) (.lst (.cons (.tup (.cons (.var 4) (.cons (.var 5) .nil))) .nil))) .nil))))) (.skip))) (.skip)) (.seq (.ite (.cmp .eq (.var 3) (.int 2)) (.seq (.expr (.meth (.var 1) "forget" (.cons (.var 4) (.cons (.var 5) .nil)))) (.seq (.ret (.lst (.cons (.var 6) (.cons (.var 7) (.cons (.var 9) .nil))))) (.skip))) (.skip)) (.seq (.expr (.meth (.var 1) "remove_look" (.cons (.var 4) .nil))) (.seq (.ret (.lst (.cons (.var 6) (.cons (.lc (.var 11) 11 (.seq (.var 7)) (.some (.cmp .ne (.idx (.var 11) (.int 0)) (.var 4)))) (.cons (.lc (.var 8) 8 (.seq (.idx (.var 2) (.int 2))) (.some (.cmp .notIn (.var 4) (.var 8)))) .nil))))) (.skip))))))))⟩
/-- L_changed ['_law_hall', '_law_state', '_law_number', '_law_lamps', '_law_rows', '_law_row', '_law_looks', '_law_pair', '_law_lamp', '_law_left', '_law_bare'] -/
abbrev n_L_changed : Nat := 720
def L_changed : Fn := ⟨3, 11, .seq (.set 3 (.idx (.var 1) (.int 0))) (.seq (.set 4 (.idx (.var 1) (.int 1))) (.seq (.set 6 (.lc (.idx (.var 5) (.int 0)) 5 (.seq (.var 4)) .none)) (.seq (.ite (.cmp .eq (.var 2) (.int 0)) (.seq (.expr (.meth (.var 0) "change" (.cons (.tup (.cons (.str "note") (.cons (.idx (.var 6) (.int 0)) (.cons (.idx (.var 6) (.neg (.int 1))) .nil)))) (.cons (.lst (.cons (.str "note") (.cons (.idx (.var 6) (.neg (.int 1))) (.cons (.idx (.var 6) (.int 0)) .nil)))) .nil)))) (.seq (.ret (.lst (.cons (.var 3) (.cons (.var 4) (.cons (.bin .add (.idx (.var 1) (.int 2)) (.lst (.cons (.tup (.cons (.idx (.var 6) (.int 0)) (.cons (.idx (.var 6) (.neg (.int 1))) .nil))) (.cons (.tup (.cons (.idx (.var 6) (.neg (.int 1))) (.cons (.idx (.var 6) (.int 0)) .nil))) .nil)))) .nil))))) (.skip))) (.skip)) (.seq (.ite (.cmp .eq (.var 2) (.int 1)) (.seq (.expr (.meth (.var 0) "change" (.cons (.tup (.cons (.str "forget") (.cons (.idx (.var 6) (.neg (.int 1))) (.cons (.idx (.var 6) (.int 0)) .nil)))) (.cons (.tup (.cons (.str "lamp") (.cons (.str "more9999") .nil))) .nil)))) (.seq (.ret (.lst (.cons (.bin .add (.var 3) (.lst (.cons (.str "more9999") .nil))) (.cons (.var 4) (.cons (.lc (.var 7) 7 (.seq (.idx (.var 1) (.int 2))) (.some (.cmp .ne (.var 7) (.tup (.cons (.idx (.var 6) (.neg (.int 1))) (.cons (.idx (.var 6) (.int 0)) .nil)))))) .nil))))) (.skip))) (.skip)) (.seq (.ite (.cmp .eq (.var 2) (.int 2)) (.seq (.put 0 (.tup (.cons (.str "more9999") (.cons (.idx (.var 6) (.int 0)) .nil))) (.bl true)) (.seq (.ret (.lst (.cons (.var 3) (.cons (.bin .add (.lst (.cons (.tup (.cons (.idx (.var 6) (.int 0)) (.cons (.bin .add (.idx (.idx (.var 4) (.int 0)) (.int 1)) (.lst (.cons (.str "more9999") .nil))) .nil))) .nil)) (.slc (.var 4) (.some (.int 1)) .none)) (.cons (.idx (.var 1) (.int 2)) .nil))))) (.skip))) (.skip)) (.seq (.ite (.cmp .eq (.var 2) (.int 3)) (.seq (.put 0 (.tup (.cons (.idx (.var 3) (.int 0)) (.cons (.idx (.var 6) (.neg (.int 1))) .nil))) (.bl false)) (.seq (.set 9 (.lc (.var 8) 8 (.seq (.idx (.idx (.var 4) (.neg (.int 1))) (.int 1))) (.some (.cmp .ne (.var 8) (.idx (.var 3) (.int 0)))))) (.seq (.ret (.lst (.cons (.var 3) (.cons (.bin .add (.slc (.var 4) .none (.some (.neg (.int 1)))) (.lst (.cons (.tup (.cons (.idx (.var 6) (.neg (.int 1))) (.cons (.var 9) .nil))) .nil))) (.cons (.idx (.var 1) (.int 2)) .nil))))) (.skip)))) (.skip)) (.seq (.ite (.cmp .eq (.var 2) (.int 4)) (.seq (.expr (.meth (.var 0) "add_look" (.cons (.str "fresh9999") (.cons (.str "more9999") .nil)))) (.seq (.ret (.lst (.cons (.var 3) (.cons (.bin .add (.var 4) (.lst (.cons (.tup (.cons (.str "fresh9999") (.cons (.lst (.cons (.str "more9999") .nil)) .nil))) .nil))) (.cons (.idx (.var 1) (.int 2)) .nil))))) (.skip))) (.skip)) (.seq (.expr (.meth (.var 0) "remove_lamp" (.cons (.str "more9999") .nil))) (.seq (.set 10 (.lc (.tup (.cons (.idx (.var 5) (.int 0)) (.cons (.lc (.var 8) 8 (.seq (.idx (.var 5) (.int 1))) (.some (.cmp .ne (.var 8) (.str "more9999")))) .nil))) 5 (.seq (.var 4)) .none)) (.seq (.ret (.lst (.cons (.slc (.var 3) .none (.some (.neg (.int 1)))) (.cons (.var 10) (.cons (.idx (.var 1) (.int 2)) .nil))))) (.skip)))))))))))⟩
/-- L_after_v2 ['_law_state', '_law_deed_here', '_law_lamps', '_law_rows', '_law_pairs_here', '_law_lamp', '_law_left', '_law_row', '_law_pair', '_law_found', '_law_shown', '_law_one'] -/
abbrev n_L_after_v2 : Nat := 722
def L_after_v2 : Fn := ⟨2, 12, .seq (.set 2 (.idx (.var 0) (.int 0))) (.seq (.set 3 (.idx (.var 0) (.int 1))) (.seq (.set 4 (.idx (.var 0) (.int 2))) (.seq (.ite (.cmp .eq (.idx (.var 1) (.int 0)) (.str "lamp")) (.seq (.ret (.lst (.cons (.bin .add (.var 2) (.lst (.cons (.idx (.var 1) (.int 1)) .nil))) (.cons (.var 3) (.cons (.var 4) .nil))))) (.skip)) (.skip)) (.seq (.ite (.cmp .eq (.idx (.var 1) (.int 0)) (.str "look")) (.seq (.ret (.lst (.cons (.var 2) (.cons (.bin .add (.var 3) (.lst (.cons (.tup (.cons (.idx (.var 1) (.int 1)) (.cons (.lc (.var 5) 5 (.seq (.var 2)) (.some (.cmp .inn (.var 5) (.slc (.var 1) (.some (.int 2)) .none)))) .nil))) .nil))) (.cons (.var 4) .nil))))) (.skip)) (.skip)) (.seq (.ite (.cmp .eq (.idx (.var 1) (.int 0)) (.str "unlamp")) (.seq (.set 6 (.lc (.var 5) 5 (.seq (.var 2)) (.some (.cmp .ne (.var 5) (.idx (.var 1) (.int 1)))))) (.seq (.ret (.lst (.cons (.var 6) (.cons (.lc (.tup (.cons (.idx (.var 7) (.int 0)) (.cons (.lc (.var 5) 5 (.seq (.idx (.var 7) (.int 1))) (.some (.cmp .ne (.var 5) (.idx (.var 1) (.int 1))))) .nil))) 7 (.seq (.var 3)) .none) (.cons (.var 4) .nil))))) (.skip))) (.skip)) (.seq (.ite (.cmp .eq (.idx (.var 1) (.int 0)) (.str "unlook")) (.seq (.ret (.lst (.cons (.var 2) (.cons (.lc (.var 7) 7 (.seq (.var 3)) (.some (.cmp .ne (.idx (.var 7) (.int 0)) (.idx (.var 1) (.int 1))))) (.cons (.lc (.var 8) 8 (.seq (.var 4)) (.some (.cmp .notIn (.idx (.var 1) (.int 1)) (.var 8)))) .nil))))) (.skip)) (.skip)) (.seq (.ite (.cmp .eq (.idx (.var 1) (.int 0)) (.str "set")) (.seq (.own 9 (.lst .nil)) (.seq (.for_ (.name 7) (.seq (.var 3)) (.seq (.set 10 (.idx (.var 7) (.int 1))) (.seq (.ite (.cmp .eq (.idx (.var 7) (.int 0)) (.idx (.var 1) (.int 2))) (.seq (.set 10 (.lc (.var 11) 11 (.seq (.var 2)) (.some (.or (.and (.cmp .inn (.var 11) (.idx (.var 7) (.int 1))) (.cmp .ne (.var 11) (.idx (.var 1) (.int 1)))) (.and (.cmp .eq (.var 11) (.idx (.var 1) (.int 1))) (.idx (.var 1) (.int 3))))))) (.skip)) (.skip)) (.seq (.app 9 (.tup (.cons (.idx (.var 7) (.int 0)) (.cons (.var 10) .nil)))) (.skip))))) (.seq (.ret (.lst (.cons (.var 2) (.cons (.var 9) (.cons (.var 4) .nil))))) (.skip)))) (.skip)) (.seq (.set 4 (.lc (.var 8) 8 (.seq (.var 4)) (.some (.cmp .ne (.var 8) (.tup (.cons (.idx (.var 1) (.int 1)) (.cons (.idx (.var 1) (.int 2)) .nil))))))) (.seq (.ite (.cmp .eq (.idx (.var 1) (.int 0)) (.str "note")) (.seq (.set 4 (.bin .add (.var 4) (.lst (.cons (.tup (.cons (.idx (.var 1) (.int 1)) (.cons (.idx (.var 1) (.int 2)) .nil))) .nil)))) (.skip)) (.skip)) (.seq (.ret (.lst (.cons (.var 2) (.cons (.var 3) (.cons (.var 4) .nil))))) (.skip)))))))))))⟩
/-- L_order_ok ['_law_hall', '_law_state', '_law_good_here'] -/
abbrev n_L_order_ok : Nat := 724
def L_order_ok : Fn := ⟨2, 3, .seq (.set 2 (.call 725 (.cons (.idx (.var 1) (.int 0)) (.cons (.idx (.var 1) (.int 1)) (.cons (.idx (.var 1) (.int 2)) .nil))))) (.seq (.ite (.cmp .eq (.var 2) (.lst .nil)) (.seq (.ret (.cmp .isN (.att (.meth (.var 0) "solution" .nil) "order") (.non))) (.skip)) (.skip)) (.seq (.ret (.and (.cmp .eq (.att (.meth (.var 0) "solution" .nil) "order") (.idx (.var 2) (.int 0))) (.cmp .eq (.meth (.var 0) "best_order" .nil) (.idx (.var 2) (.int 0))))) (.skip)))⟩
/-- L_good_v7 ['_law_lamps', '_law_rows', '_law_pairs_here', '_law_found', '_law_row', '_law_order'] -/
abbrev n_L_good_v7 : Nat := 725
def L_good_v7 : Fn := ⟨3, 6, .seq (.own 3 (.lst .nil)) (.seq (.for_ (.name 5) (.seq (.call 551 (.cons (.lc (.idx (.var 4) (.int 0)) 4 (.seq (.var 1)) .none) .nil))) (.seq (.ite (.and (.call 619 (.cons (.var 2) (.cons (.var 5) .nil))) (.call 597 (.cons (.var 0) (.cons (.var 1) (.cons (.var 5) .nil))))) (.seq (.app 3 (.var 5)) (.skip)) (.skip)) (.skip))) (.seq (.ret (.var 3)) (.skip)))⟩
/-- L_set ['_law_hall', '_law_value', 'e'] -/
abbrev n_L_set : Nat := 726
def L_set : Fn := ⟨2, 3, .seq (.try1 (.seq (.ite (.cmp .notN (.meth (.var 0) "set_most" (.cons (.var 1) .nil)) (.non)) (.seq (.ret (.str "answer")) (.skip)) (.skip)) (.skip)) 5 2 (.seq (.ite (.and (.cmp .eq (.xat 2 "limit") (.int 3)) (.isi (.var 2) (.cls 0))) (.seq (.ret (.str "many")) (.skip)) (.skip)) (.seq (.ret (.str "wrong")) (.skip)))) (.seq (.ret (.str "")) (.skip))⟩
/-- L_worded ['_law_deed_here', '_law_word'] -/
abbrev n_L_worded : Nat := 728
def L_worded : Fn := ⟨1, 2, .seq (.ite (.cmp .eq (.idx (.var 0) (.int 0)) (.str "set")) (.seq (.ret (.tup (.cons (.idx (.var 0) (.int 0)) (.cons (.fn1 .str (.idx (.var 0) (.int 1))) (.cons (.fn1 .str (.idx (.var 0) (.int 2))) (.cons (.idx (.var 0) (.int 3)) .nil)))))) (.skip)) (.skip)) (.seq (.ret (.fn1 .tuple (.lc (.fn1 .str (.var 1)) 1 (.seq (.var 0)) .none))) (.skip))⟩
/-- L_run_v2 ['_law_desk', '_law_text', '_law_told', 'e'] -/
abbrev n_L_run_v2 : Nat := 731
def L_run_v2 : Fn := ⟨2, 4, .seq (.try1 (.seq (.set 2 (.meth (.var 0) "run" (.cons (.var 1) .nil))) (.skip)) 4 3 (.seq (.ite (.or (.not (.isi (.var 3) (.cls 0))) (.not (.call 511 (.cons (.xat 3 "line") .nil)))) (.seq (.ret (.lst (.cons (.lst .nil) (.cons (.neg (.int 1)) .nil)))) (.skip)) (.skip)) (.seq (.ret (.lst (.cons (.lst .nil) (.cons (.xat 3 "line") .nil)))) (.skip)))) (.seq (.ret (.lst (.cons (.var 2) (.cons (.int 0) .nil)))) (.skip))⟩
/-- L_add ['_law_hall', '_law_way', '_law_name', 'e'] -/
abbrev n_L_add : Nat := 740
def L_add : Fn := ⟨3, 4, .seq (.try1 (.seq (.ite (.cmp .eq (.var 1) (.int 0)) (.seq (.expr (.meth (.var 0) "add_lamp" (.cons (.var 2) .nil))) (.skip)) (.seq (.expr (.meth (.var 0) "add_look" (.cons (.var 2) .nil))) (.skip))) (.skip)) 5 3 (.seq (.ret (.xat 3 "limit")) (.skip))) (.seq (.ret (.int 0)) (.skip))⟩
/-- L_sizes ['_law_hall', '_law_way', '_law_table'] -/
abbrev n_L_sizes : Nat := 741
def L_sizes : Fn := ⟨2, 3, .seq (.set 2 (.att (.var 0) "table")) (.seq (.ite (.cmp .eq (.var 1) (.int 0)) (.seq (.ret (.lst (.cons (.fn1 .len (.att (.var 2) "lamps")) (.cons (.fn1 .len (.att (.var 2) "looks")) (.cons (.att (.var 0) "changes") .nil))))) (.skip)) (.skip)) (.seq (.ret (.lst (.cons (.fn1 .len (.att (.var 2) "looks")) (.cons (.fn1 .len (.att (.var 2) "lamps")) (.cons (.att (.var 0) "changes") .nil))))) (.skip)))⟩
/-- L_run_v3 ['_law_desk', '_law_text', 'e'] -/
abbrev n_L_run_v3 : Nat := 742
def L_run_v3 : Fn := ⟨2, 3, .seq (.try1 (.seq (.expr (.meth (.var 0) "run" (.cons (.var 1) .nil))) (.skip)) 4 2 (.seq (.ret (.xat 2 "line")) (.skip))) (.seq (.ret (.int 0)) (.skip))⟩
/-- L_two ['_law_hall', '_law_word', '_law_many', 'e'] -/
abbrev n_L_two : Nat := 743
def L_two : Fn := ⟨2, 4, .seq (.set 2 (.int 0)) (.seq (.try1 (.seq (.expr (.meth (.var 0) "change" (.cons (.tup (.cons (.var 1) (.cons (.str "one") .nil))) (.cons (.tup (.cons (.var 1) (.cons (.str "two") .nil))) .nil)))) (.skip)) 5 3 (.seq (.set 2 (.bin .add (.var 2) (.fn1 .int (.cmp .eq (.xat 3 "limit") (.int 24))))) (.skip))) (.seq (.try1 (.seq (.expr (.meth (.var 0) "tried" (.cons (.tup (.cons (.var 1) (.cons (.str "one") .nil))) (.cons (.tup (.cons (.var 1) (.cons (.str "two") .nil))) .nil)))) (.skip)) 5 3 (.seq (.set 2 (.bin .add (.var 2) (.fn1 .int (.cmp .eq (.xat 3 "limit") (.int 24))))) (.skip))) (.seq (.ret (.var 2)) (.skip))))⟩
/-- L_refused_v3 ['_law_table', '_law_order', 'e'] -/
abbrev n_L_refused_v3 : Nat := 745
def L_refused_v3 : Fn := ⟨2, 3, .seq (.try1 (.seq (.expr (.call 175 (.cons (.var 0) (.cons (.var 1) .nil)))) (.skip)) 24 2 (.seq (.ret (.isi (.var 2) (.cls 0))) (.skip))) (.seq (.ret (.bl false)) (.skip))⟩
/-- L_raise ['_law_way', '_law_name_here', '_law_other', '_law_number'] -/
abbrev n_L_raise : Nat := 746
def L_raise : Fn := ⟨4, 4, .seq (.ite (.cmp .eq (.var 0) (.int 0)) (.seq (.raise 1 (.cons (.var 1) .nil)) (.skip)) (.skip)) (.seq (.ite (.cmp .eq (.var 0) (.int 1)) (.seq (.raise 2 (.cons (.var 1) .nil)) (.skip)) (.skip)) (.seq (.ite (.cmp .eq (.var 0) (.int 2)) (.seq (.raise 3 (.cons (.var 1) .nil)) (.skip)) (.skip)) (.seq (.ite (.cmp .eq (.var 0) (.int 3)) (.seq (.raise 12 (.cons (.var 1) (.cons (.var 2) .nil))) (.skip)) (.skip)) (.seq (.ite (.cmp .eq (.var 0) (.int 4)) (.seq (.raise 4 (.cons (.var 3) .nil)) (.skip)) (.skip)) (.seq (.ite (.cmp .eq (.var 0) (.int 5)) (.seq (.raise 5 (.cons (.var 3) .nil)) (.skip)) (.skip)) (.seq (.ite (.cmp .eq (.var 0) (.int 6)) (.seq (.raise 13 (.cons (.lst (.cons (.tup (.cons (.var 1) (.cons (.var 2) (.cons (.non) .nil)))) .nil)) (.cons (.non) .nil))) (.skip)) (.skip)) (.seq (.expr (.call 175 (.cons (.new 6 (.cons (.lst .nil) (.cons (.lst .nil) .nil))) (.cons (.lst (.cons (.var 1) .nil)) .nil)))) (.skip))))))))⟩
/-- L_ring_ok_v5 ['_law_lamps', '_law_rows', '_law_pairs_here', '_law_ring', '_law_steps', '_law_k'] -/
abbrev n_L_ring_ok_v5 : Nat := 748
def L_ring_ok_v5 : Fn := ⟨4, 6, .seq (.ite (.or (.not (.isi (.var 3) .list)) (.cmp .eq (.var 3) (.lst .nil))) (.seq (.ret (.bl false)) (.skip)) (.skip)) (.seq (.for_ (.name 4) (.seq (.var 3)) (.seq (.ite (.or (.not (.call 610 (.cons (.var 0) (.cons (.var 1) (.cons (.var 4) .nil))))) (.cmp .notIn (.slc (.idx (.var 4) (.int 0)) .none (.some (.int 2))) (.var 2))) (.seq (.ret (.bl false)) (.skip)) (.skip)) (.skip))) (.seq (.for_ (.name 5) (.rng (.fn1 .len (.var 3))) (.seq (.ite (.cmp .ne (.idx (.idx (.idx (.var 3) (.bin .sub (.var 5) (.int 1))) (.neg (.int 1))) (.int 1)) (.idx (.idx (.idx (.var 3) (.var 5)) (.neg (.int 1))) (.int 0))) (.seq (.ret (.bl false)) (.skip)) (.skip)) (.skip))) (.seq (.ret (.bl true)) (.skip))))⟩
/-- L_idle ['_law_bag_here', '_law_names_here', '_law_looks', '_law_found', '_law_name_here', '_law_way'] -/
abbrev n_L_idle : Nat := 750
def L_idle : Fn := ⟨3, 6, .seq (.own 3 (.lst .nil)) (.seq (.for_ (.name 4) (.seq (.var 1)) (.seq (.set 5 (.call 502 (.cons (.var 0) (.cons (.int 3) .nil)))) (.seq (.app 3 (.idx (.lst (.cons (.lst .nil) (.cons (.var 2) (.cons (.lst (.cons (.idx (.var 2) (.call 502 (.cons (.var 0) (.cons (.fn1 .len (.var 2)) .nil)))) .nil)) .nil)))) (.var 5))) (.skip)))) (.seq (.ret (.var 3)) (.skip)))⟩
/-- L_wide_rows ['_law_rows_here', '_law_names_here', '_law_found', '_law_front', '_law_wide', '_law_row', '_law_k', '_law_idle_here', '_law_name_here', '_law_first'] -/
abbrev n_L_wide_rows : Nat := 751
def L_wide_rows : Fn := ⟨4, 10, .seq (.own 4 (.lst .nil)) (.seq (.for_ (.name 5) (.seq (.var 0)) (.seq (.set 7 (.lc (.idx (.var 1) (.var 6)) 6 (.rng (.fn1 .len (.var 1))) (.some (.cmp .inn (.idx (.var 5) (.int 0)) (.idx (.var 2) (.var 6)))))) (.seq (.set 9 (.lc (.var 8) 8 (.seq (.var 7)) (.some (.cmp .inn (.var 8) (.slc (.var 1) .none (.some (.var 3))))))) (.seq (.app 4 (.tup (.cons (.idx (.var 5) (.int 0)) (.cons (.bin .add (.bin .add (.var 9) (.idx (.var 5) (.int 1))) (.lc (.var 8) 8 (.seq (.var 7)) (.some (.cmp .notIn (.var 8) (.var 9))))) .nil)))) (.skip))))) (.seq (.ret (.var 4)) (.skip)))⟩
/-- L_pairs_v2 ['_law_bag_here', '_law_looks', '_law_count_here', '_law_pairs_here', '_law_k', '_law_first', '_law_second'] -/
abbrev n_L_pairs_v2 : Nat := 752
def L_pairs_v2 : Fn := ⟨3, 7, .seq (.own 3 (.lst .nil)) (.seq (.ite (.cmp .lt (.fn1 .len (.var 1)) (.int 2)) (.seq (.ret (.var 3)) (.skip)) (.skip)) (.seq (.for_ (.name 4) (.rng (.var 2)) (.seq (.set 5 (.call 502 (.cons (.var 0) (.cons (.fn1 .len (.var 1)) .nil)))) (.seq (.set 6 (.bin .mod (.fn1 .int (.bin .add (.bin .add (.var 5) (.int 1)) (.call 502 (.cons (.var 0) (.cons (.bin .sub (.fn1 .len (.var 1)) (.int 1)) .nil))))) (.fn1 .len (.var 1)))) (.seq (.app 3 (.tup (.cons (.idx (.var 1) (.var 5)) (.cons (.idx (.var 1) (.var 6)) .nil)))) (.skip))))) (.seq (.ret (.var 3)) (.skip))))⟩
/-- L_wrong_line ['_law_desk', '_law_text', 'e'] -/
abbrev n_L_wrong_line : Nat := 757
def L_wrong_line : Fn := ⟨2, 3, .seq (.try1 (.seq (.expr (.meth (.var 0) "run" (.cons (.var 1) .nil))) (.skip)) 4 2 (.seq (.ret (.xat 2 "line")) (.skip))) (.seq (.ret (.int 0)) (.skip))⟩
/-- L_hall_itself ['_law_hall', '_law_desks', '_law_state', '_law_deed_here'] -/
abbrev n_L_hall_itself : Nat := 760
def L_hall_itself : Fn := ⟨3, 4, .seq (.ite (.not (.call 759 (.cons (.idx (.var 1) (.int 0)) (.cons (.var 2) .nil)))) (.seq (.ret (.bl false)) (.skip)) (.skip)) (.seq (.set 3 (.tup (.cons (.str "lamp") (.cons (.str "later9999") .nil)))) (.seq (.ite (.cmp .lt (.fn1 .len (.idx (.var 2) (.int 1))) (.int 4)) (.seq (.set 3 (.tup (.cons (.str "look") (.cons (.str "later9999") .nil)))) (.seq (.expr (.meth (.var 0) "add_look" (.cons (.str "later9999") .nil))) (.skip))) (.seq (.expr (.meth (.var 0) "add_lamp" (.cons (.str "later9999") .nil))) (.skip))) (.seq (.ite (.not (.call 759 (.cons (.idx (.var 1) (.int 0)) (.cons (.call 695 (.cons (.var 2) (.cons (.var 3) .nil))) .nil)))) (.seq (.ret (.bl false)) (.skip)) (.skip)) (.seq (.expr (.meth (.var 0) "undo" .nil)) (.seq (.ret (.call 759 (.cons (.idx (.var 1) (.int 0)) (.cons (.var 2) .nil)))) (.skip))))))⟩
/-- L_widened ['_law_table', '_law_name_here', '_law_shown'] -/
abbrev n_L_widened : Nat := 761
def L_widened : Fn := ⟨3, 3, .seq (.ite (.cmp .eq (.var 2) (.lst .nil)) (.seq (.ret (.meth (.var 0) "with_look" (.cons (.var 1) .nil))) (.skip)) (.skip)) (.seq (.ite (.cmp .eq (.fn1 .len (.var 2)) (.int 1)) (.seq (.ret (.meth (.var 0) "with_look" (.cons (.var 1) (.cons (.idx (.var 2) (.int 0)) .nil)))) (.skip)) (.skip)) (.seq (.ite (.cmp .eq (.fn1 .len (.var 2)) (.int 2)) (.seq (.ret (.meth (.var 0) "with_look" (.cons (.var 1) (.cons (.idx (.var 2) (.int 0)) (.cons (.idx (.var 2) (.int 1)) .nil))))) (.skip)) (.skip)) (.seq (.ret (.meth (.var 0) "with_look" (.cons (.var 1) (.cons (.idx (.var 2) (.int 0)) (.cons (.idx (.var 2) (.int 1)) (.cons (.idx (.var 2) (.int 2)) .nil)))))) (.skip))))⟩
/-- L_good_v8 ['_law_lamps', '_law_rows_here', '_law_pairs_here', '_law_found', '_law_row', '_law_order'] -/
abbrev n_L_good_v8 : Nat := 764
def L_good_v8 : Fn := ⟨3, 6, .seq (.own 3 (.lst .nil)) (.seq (.for_ (.name 5) (.seq (.call 763 (.cons (.lc (.idx (.var 4) (.int 0)) 4 (.seq (.var 1)) .none) .nil))) (.seq (.ite (.and (.call 619 (.cons (.var 2) (.cons (.var 5) .nil))) (.call 573 (.cons (.var 0) (.cons (.var 1) (.cons (.var 5) .nil))))) (.seq (.app 3 (.var 5)) (.skip)) (.skip)) (.skip))) (.seq (.ret (.var 3)) (.skip)))⟩
/-- L_any_v3 ['_law_lamps', '_law_rows_here', '_law_pairs_here', '_law_row', '_law_order'] -/
abbrev n_L_any_v3 : Nat := 765
def L_any_v3 : Fn := ⟨3, 5, .seq (.for_ (.name 4) (.seq (.call 763 (.cons (.lc (.idx (.var 3) (.int 0)) 3 (.seq (.var 1)) .none) .nil))) (.seq (.ite (.and (.call 619 (.cons (.var 2) (.cons (.var 4) .nil))) (.call 573 (.cons (.var 0) (.cons (.var 1) (.cons (.var 4) .nil))))) (.seq (.ret (.bl true)) (.skip)) (.skip)) (.skip))) (.seq (.ret (.bl false)) (.skip))⟩
/-- L_fewest_v3 ['_law_lamps', '_law_rows_here', '_law_pairs_here', '_law_cut', '_law_size', '_law_found', '_law_gone', '_law_lamp', '_law_left'] -/
abbrev n_L_fewest_v3 : Nat := 766
def L_fewest_v3 : Fn := ⟨4, 9, .seq (.for_ (.name 4) (.rng (.bin .add (.var 3) (.int 1))) (.seq (.own 5 (.lst .nil)) (.seq (.for_ (.name 6) (.seq (.call 668 (.cons (.var 0) (.cons (.var 4) .nil)))) (.seq (.set 8 (.lc (.var 7) 7 (.seq (.var 0)) (.some (.cmp .notIn (.var 7) (.var 6))))) (.seq (.ite (.call 765 (.cons (.var 8) (.cons (.call 667 (.cons (.var 1) (.cons (.var 6) .nil))) (.cons (.var 2) .nil)))) (.seq (.app 5 (.var 6)) (.skip)) (.skip)) (.skip)))) (.seq (.ite (.cmp .ne (.var 5) (.lst .nil)) (.seq (.ret (.var 5)) (.skip)) (.skip)) (.skip))))) (.seq (.ret (.lst .nil)) (.skip))⟩
/-- L_held ['_law_pairs_here', '_law_held_here', '_law_pair'] -/
abbrev n_L_held : Nat := 769
def L_held : Fn := ⟨1, 3, .seq (.set 1 (.new 15 .nil)) (.seq (.for_ (.name 2) (.seq (.var 0)) (.seq (.set 1 (.bin .add (.var 1) (.new 15 (.cons (.var 2) .nil)))) (.skip))) (.seq (.ret (.var 1)) (.skip)))⟩
/-- L_least ['_law_good_here'] -/
abbrev n_L_least : Nat := 770
def L_least : Fn := ⟨1, 1, .seq (.ite (.cmp .eq (.var 0) (.lst .nil)) (.seq (.ret (.non)) (.skip)) (.skip)) (.seq (.ret (.idx (.var 0) (.int 0))) (.skip))⟩
/-- L_refuted ['_law_table', '_law_lamps', '_law_rows', '_law_pairs_here', '_law_paper'] -/
abbrev n_L_refuted : Nat := 778
def L_refuted : Fn := ⟨4, 5, .seq (.set 4 (.call 97 (.cons (.var 0) (.cons (.call 613 (.cons (.var 3) .nil)) .nil)))) (.seq (.ite (.or (.cmp .notN (.att (.var 4) "order") (.non)) (.cmp .notN (.att (.var 4) "bar") (.non))) (.seq (.ret (.bl false)) (.skip)) (.skip)) (.seq (.ret (.call 633 (.cons (.var 1) (.cons (.var 2) (.cons (.var 3) (.cons (.att (.var 4) "ring") .nil)))))) (.skip)))⟩
/-- L_given_v3 ['_law_rows_here', '_law_row'] -/
abbrev n_L_given_v3 : Nat := 779
def L_given_v3 : Fn := ⟨1, 2, .seq (.ret (.lc (.tup (.cons (.idx (.var 1) (.int 0)) (.cons (.fn1 .list (.idx (.var 1) (.int 1))) .nil))) 1 (.seq (.var 0)) .none)) (.skip)⟩
/-- L_failure_ok_v4 ['_law_lamps', '_law_rows_here', '_law_pairs_here', '_law_cut', '_law_paper', '_law_used_here', '_law_k', '_law_branch', '_law_lamp', '_law_rest'] -/
abbrev n_L_failure_ok_v4 : Nat := 782
def L_failure_ok_v4 : Fn := ⟨5, 10, .seq (.ite (.or (.not (.isi (.var 4) .tuple)) (.or (.cmp .ne (.fn1 .len (.var 4)) (.int 2)) (.not (.isi (.idx (.var 4) (.int 1)) .list)))) (.seq (.ret (.bl false)) (.skip)) (.skip)) (.seq (.ite (.not (.call 671 (.cons (.var 0) (.cons (.var 1) (.cons (.var 2) (.cons (.idx (.var 4) (.int 0)) .nil)))))) (.seq (.ret (.bl false)) (.skip)) (.skip)) (.seq (.ite (.cmp .eq (.var 3) (.int 0)) (.seq (.ret (.cmp .eq (.idx (.var 4) (.int 1)) (.lst .nil))) (.skip)) (.skip)) (.seq (.set 5 (.call 781 (.cons (.idx (.var 4) (.int 0)) .nil))) (.seq (.ite (.cmp .ne (.fn1 .len (.idx (.var 4) (.int 1))) (.fn1 .len (.var 5))) (.seq (.ret (.bl false)) (.skip)) (.skip)) (.seq (.for_ (.name 6) (.rng (.fn1 .len (.var 5))) (.seq (.set 7 (.idx (.idx (.var 4) (.int 1)) (.var 6))) (.seq (.ite (.or (.not (.isi (.var 7) .tuple)) (.or (.cmp .ne (.fn1 .len (.var 7)) (.int 2)) (.cmp .ne (.idx (.var 7) (.int 0)) (.idx (.var 5) (.var 6))))) (.seq (.ret (.bl false)) (.skip)) (.skip)) (.seq (.set 9 (.lc (.var 8) 8 (.seq (.var 0)) (.some (.cmp .ne (.var 8) (.idx (.var 5) (.var 6)))))) (.seq (.ite (.not (.call 782 (.cons (.var 9) (.cons (.call 667 (.cons (.var 1) (.cons (.lst (.cons (.idx (.var 5) (.var 6)) .nil)) .nil))) (.cons (.var 2) (.cons (.bin .sub (.var 3) (.int 1)) (.cons (.idx (.var 7) (.int 1)) .nil))))))) (.seq (.ret (.bl false)) (.skip)) (.skip)) (.skip)))))) (.seq (.ret (.bl true)) (.skip)))))))⟩
/-- L_table ['_law_state'] -/
abbrev n_L_table : Nat := 783
def L_table : Fn := ⟨1, 1, .seq (.ret (.new 6 (.cons (.fn1 .list (.idx (.var 0) (.int 0))) (.cons (.call 779 (.cons (.idx (.var 0) (.int 1)) .nil)) .nil)))) (.skip)⟩
/-- L_bar_stays ['_law_whole', '_law_wide', '_law_steps', '_law_part_here', '_law_small', '_law_paper', '_law_told'] -/
abbrev n_L_bar_stays : Nat := 787
def L_bar_stays : Fn := ⟨3, 7, .seq (.ite (.not (.call 579 (.cons (.idx (.var 0) (.int 0)) (.cons (.idx (.var 0) (.int 1)) (.cons (.var 2) .nil))))) (.seq (.ret (.bl false)) (.skip)) (.skip)) (.seq (.set 3 (.call 785 (.cons (.var 0) (.cons (.var 2) .nil)))) (.seq (.set 4 (.call 97 (.cons (.call 783 (.cons (.var 3) .nil)) (.cons (.call 613 (.cons (.lst .nil) .nil)) .nil)))) (.seq (.ite (.or (.cmp .notN (.att (.var 4) "order") (.non)) (.or (.cmp .notN (.att (.var 4) "ring") (.non)) (.not (.call 579 (.cons (.idx (.var 3) (.int 0)) (.cons (.idx (.var 3) (.int 1)) (.cons (.att (.var 4) "bar") .nil))))))) (.seq (.ret (.bl false)) (.skip)) (.skip)) (.seq (.ite (.or (.cmp .ne (.fn1 .len (.att (.var 4) "bar")) (.fn1 .len (.var 2))) (.not (.call 500 (.cons (.call 154 (.cons (.call 783 (.cons (.var 3) .nil)) (.cons (.var 2) .nil))) (.cons (.bl true) .nil))))) (.seq (.ret (.bl false)) (.skip)) (.skip)) (.seq (.for_ (.name 5) (.seq (.lst (.cons (.var 2) (.cons (.att (.var 4) "bar") .nil)))) (.seq (.ite (.not (.call 500 (.cons (.call 154 (.cons (.call 783 (.cons (.var 1) .nil)) (.cons (.var 5) .nil))) (.cons (.bl true) .nil)))) (.seq (.ret (.bl false)) (.skip)) (.skip)) (.skip))) (.seq (.set 6 (.call 97 (.cons (.call 783 (.cons (.var 1) .nil)) (.cons (.call 613 (.cons (.idx (.var 1) (.int 2)) .nil)) .nil)))) (.seq (.ite (.or (.cmp .notN (.att (.var 6) "order") (.non)) (.not (.call 579 (.cons (.idx (.var 1) (.int 0)) (.cons (.idx (.var 1) (.int 1)) (.cons (.att (.var 6) "bar") .nil)))))) (.seq (.ret (.bl false)) (.skip)) (.skip)) (.seq (.ret (.cmp .le (.fn1 .len (.att (.var 6) "bar")) (.fn1 .len (.var 2)))) (.skip)))))))))⟩
/-- L_ring_stays ['_law_whole', '_law_wide', '_law_ring', '_law_part_here', '_law_steps', '_law_held', '_law_small', '_law_paper'] -/
abbrev n_L_ring_stays : Nat := 788
def L_ring_stays : Fn := ⟨3, 8, .seq (.ite (.not (.call 621 (.cons (.idx (.var 0) (.int 0)) (.cons (.idx (.var 0) (.int 1)) (.cons (.idx (.var 0) (.int 2)) (.cons (.var 2) .nil)))))) (.seq (.ret (.bl false)) (.skip)) (.skip)) (.seq (.set 3 (.call 785 (.cons (.var 0) (.cons (.call 786 (.cons (.var 2) .nil)) .nil)))) (.seq (.set 5 (.lc (.slc (.idx (.var 4) (.int 0)) .none (.some (.int 2))) 4 (.seq (.var 2)) .none)) (.seq (.set 6 (.call 97 (.cons (.call 783 (.cons (.var 3) .nil)) (.cons (.call 613 (.cons (.var 5) .nil)) .nil)))) (.seq (.ite (.or (.cmp .notN (.att (.var 6) "order") (.non)) (.or (.cmp .notN (.att (.var 6) "bar") (.non)) (.not (.call 621 (.cons (.idx (.var 3) (.int 0)) (.cons (.idx (.var 3) (.int 1)) (.cons (.var 5) (.cons (.att (.var 6) "ring") .nil)))))))) (.seq (.ret (.bl false)) (.skip)) (.skip)) (.seq (.ite (.not (.call 500 (.cons (.call 155 (.cons (.call 783 (.cons (.var 3) .nil)) (.cons (.call 613 (.cons (.var 5) .nil)) (.cons (.var 2) .nil)))) (.cons (.bl true) .nil)))) (.seq (.ret (.bl false)) (.skip)) (.skip)) (.seq (.for_ (.name 7) (.seq (.lst (.cons (.var 2) (.cons (.att (.var 6) "ring") .nil)))) (.seq (.ite (.not (.call 500 (.cons (.call 155 (.cons (.call 783 (.cons (.var 1) .nil)) (.cons (.call 613 (.cons (.idx (.var 1) (.int 2)) .nil)) (.cons (.var 7) .nil)))) (.cons (.bl true) .nil)))) (.seq (.ret (.bl false)) (.skip)) (.skip)) (.skip))) (.seq (.ret (.call 500 (.cons (.call 98 (.cons (.call 783 (.cons (.var 1) .nil)) (.cons (.call 613 (.cons (.idx (.var 1) (.int 2)) .nil)) .nil))) (.cons (.bl false) .nil)))) (.skip))))))))⟩
/-- L_conflict_stays ['_law_whole', '_law_wide', '_law_told'] -/
abbrev n_L_conflict_stays : Nat := 789
def L_conflict_stays : Fn := ⟨2, 3, .seq (.set 2 (.call 97 (.cons (.call 783 (.cons (.var 0) .nil)) (.cons (.call 613 (.cons (.idx (.var 0) (.int 2)) .nil)) .nil)))) (.seq (.ite (.cmp .notN (.att (.var 2) "order") (.non)) (.seq (.ret (.call 780 (.cons (.idx (.var 0) (.int 0)) (.cons (.idx (.var 0) (.int 1)) (.cons (.idx (.var 0) (.int 2)) (.cons (.att (.var 2) "order") .nil)))))) (.skip)) (.skip)) (.seq (.ite (.cmp .notN (.att (.var 2) "bar") (.non)) (.seq (.ret (.call 787 (.cons (.var 0) (.cons (.var 1) (.cons (.att (.var 2) "bar") .nil))))) (.skip)) (.skip)) (.seq (.ret (.call 788 (.cons (.var 0) (.cons (.var 1) (.cons (.att (.var 2) "ring") .nil))))) (.skip))))⟩
/-- L_split_steps ['_law_paper'] -/
abbrev n_L_split_steps : Nat := 792
def L_split_steps : Fn := ⟨1, 1, .seq (.ite (.cmp .eq (.idx (.var 0) (.int 0)) (.str "bar")) (.seq (.ret (.fn1 .list (.idx (.var 0) (.int 2)))) (.skip)) (.skip)) (.seq (.ret (.bin .add (.bin .add (.lst (.cons (.tup (.cons (.str "") (.cons (.str "") (.cons (.idx (.var 0) (.int 1)) .nil)))) .nil)) (.call 792 (.cons (.idx (.var 0) (.int 2)) .nil))) (.call 792 (.cons (.idx (.var 0) (.int 3)) .nil)))) (.skip))⟩
/-- L_given_v4 ['_law_rows', '_law_row'] -/
abbrev n_L_given_v4 : Nat := 794
def L_given_v4 : Fn := ⟨1, 2, .seq (.ret (.lc (.tup (.cons (.idx (.var 1) (.int 0)) (.cons (.fn1 .list (.idx (.var 1) (.int 1))) .nil))) 1 (.seq (.var 0)) .none)) (.skip)⟩
/-- L_bar_ok_v4 ['_law_lamps', '_law_rows', '_law_steps'] -/
abbrev n_L_bar_ok_v4 : Nat := 797
def L_bar_ok_v4 : Fn := ⟨3, 3, .seq (.ite (.not (.call 610 (.cons (.var 0) (.cons (.var 1) (.cons (.var 2) .nil))))) (.seq (.ret (.bl false)) (.skip)) (.skip)) (.seq (.ret (.and (.cmp .eq (.idx (.idx (.var 2) (.int 0)) (.int 0)) (.idx (.idx (.var 2) (.neg (.int 1))) (.int 1))) (.cmp .eq (.idx (.idx (.var 2) (.int 0)) (.int 1)) (.idx (.idx (.var 2) (.neg (.int 1))) (.int 0))))) (.skip))⟩
/-- L_table_v2 ['_law_state'] -/
abbrev n_L_table_v2 : Nat := 798
def L_table_v2 : Fn := ⟨1, 1, .seq (.ret (.new 6 (.cons (.fn1 .list (.idx (.var 0) (.int 0))) (.cons (.call 794 (.cons (.idx (.var 0) (.int 1)) .nil)) .nil)))) (.skip)⟩
/-- L_less ['_law_bag_here', '_law_lamps', '_law_rows', '_law_pairs_here', '_law_way', '_law_gone', '_law_row', '_law_lamp', '_law_left', '_law_pair_here', '_law_one', '_law_look'] -/
abbrev n_L_less : Nat := 799
def L_less : Fn := ⟨4, 12, .seq (.set 4 (.call 502 (.cons (.var 0) (.cons (.int 3) .nil)))) (.seq (.ite (.cmp .eq (.var 4) (.int 1)) (.seq (.set 5 (.idx (.var 1) (.call 502 (.cons (.var 0) (.cons (.fn1 .len (.var 1)) .nil))))) (.seq (.set 8 (.lc (.tup (.cons (.idx (.var 6) (.int 0)) (.cons (.lc (.var 7) 7 (.seq (.idx (.var 6) (.int 1))) (.some (.cmp .ne (.var 7) (.var 5)))) .nil))) 6 (.seq (.var 2)) .none)) (.seq (.ret (.lst (.cons (.lc (.var 7) 7 (.seq (.var 1)) (.some (.cmp .ne (.var 7) (.var 5)))) (.cons (.var 8) (.cons (.var 3) .nil))))) (.skip)))) (.skip)) (.seq (.ite (.and (.cmp .eq (.var 4) (.int 2)) (.cmp .ne (.var 3) (.lst .nil))) (.seq (.set 9 (.idx (.var 3) (.call 502 (.cons (.var 0) (.cons (.fn1 .len (.var 3)) .nil))))) (.seq (.ret (.lst (.cons (.var 1) (.cons (.var 2) (.cons (.lc (.var 10) 10 (.seq (.var 3)) (.some (.cmp .ne (.var 10) (.var 9)))) .nil))))) (.skip))) (.skip)) (.seq (.set 11 (.idx (.idx (.var 2) (.call 502 (.cons (.var 0) (.cons (.fn1 .len (.var 2)) .nil)))) (.int 0))) (.seq (.ret (.lst (.cons (.var 1) (.cons (.lc (.var 6) 6 (.seq (.var 2)) (.some (.cmp .ne (.idx (.var 6) (.int 0)) (.var 11)))) (.cons (.lc (.var 10) 10 (.seq (.var 3)) (.some (.cmp .notIn (.var 11) (.var 10)))) .nil))))) (.skip)))))⟩
/-- L_orders_grow ['_law_less_here', '_law_more', '_law_small', '_law_large', '_law_row', '_law_looks', '_law_look', '_law_kept'] -/
abbrev n_L_orders_grow : Nat := 800
def L_orders_grow : Fn := ⟨4, 8, .seq (.ite (.cmp .isN (.att (.var 3) "order") (.non)) (.seq (.ret (.bl true)) (.skip)) (.skip)) (.seq (.set 5 (.lc (.idx (.var 4) (.int 0)) 4 (.seq (.idx (.var 0) (.int 1))) .none)) (.seq (.set 7 (.fn1 .tuple (.lc (.var 6) 6 (.seq (.att (.var 3) "order")) (.some (.cmp .inn (.var 6) (.var 5)))))) (.seq (.ite (.or (.not (.call 795 (.cons (.idx (.var 1) (.int 0)) (.cons (.idx (.var 1) (.int 1)) (.cons (.idx (.var 1) (.int 2)) (.cons (.att (.var 3) "order") .nil)))))) (.not (.call 795 (.cons (.idx (.var 0) (.int 0)) (.cons (.idx (.var 0) (.int 1)) (.cons (.idx (.var 0) (.int 2)) (.cons (.var 7) .nil))))))) (.seq (.ret (.bl false)) (.skip)) (.skip)) (.seq (.ret (.and (.call 795 (.cons (.idx (.var 0) (.int 0)) (.cons (.idx (.var 0) (.int 1)) (.cons (.idx (.var 0) (.int 2)) (.cons (.att (.var 2) "order") .nil))))) (.cmp .le (.att (.var 2) "order") (.var 7)))) (.skip)))))⟩
/-- L_words_stay ['_law_less_here', '_law_more', '_law_pair_here', '_law_words', '_law_state', '_law_table_here', '_law_notes_here', '_law_found', '_law_lamp'] -/
abbrev n_L_words_stay : Nat := 801
def L_words_stay : Fn := ⟨3, 9, .seq (.own 3 (.lst .nil)) (.seq (.for_ (.name 4) (.seq (.lst (.cons (.var 0) (.cons (.var 1) .nil)))) (.seq (.set 5 (.call 798 (.cons (.var 4) .nil))) (.seq (.set 6 (.call 626 (.cons (.idx (.var 4) (.int 2)) .nil))) (.seq (.set 7 (.lst (.cons (.call 106 (.cons (.var 5) (.cons (.var 6) (.cons (.idx (.var 2) (.int 0)) (.cons (.idx (.var 2) (.int 1)) .nil))))) (.cons (.call 109 (.cons (.var 5) (.cons (.var 6) (.cons (.idx (.var 2) (.int 0)) (.cons (.idx (.var 2) (.int 1)) .nil))))) .nil)))) (.seq (.app 3 (.bin .add (.var 7) (.lst (.cons (.call 108 (.cons (.var 5) (.cons (.var 6) (.cons (.idx (.var 2) (.int 0)) (.cons (.idx (.var 2) (.int 1)) .nil))))) .nil)))) (.skip)))))) (.seq (.ite (.or (.cmp .notIn (.idx (.idx (.var 3) (.int 0)) (.int 0)) (.lst (.cons (.str "before") (.cons (.str "after") (.cons (.str "open") .nil))))) (.cmp .notIn (.idx (.idx (.var 3) (.int 1)) (.int 0)) (.lst (.cons (.str "before") (.cons (.str "after") (.cons (.str "open") .nil)))))) (.seq (.ret (.bl false)) (.skip)) (.skip)) (.seq (.ite (.and (.cmp .ne (.idx (.idx (.var 3) (.int 0)) (.int 0)) (.str "open")) (.cmp .ne (.idx (.idx (.var 3) (.int 1)) (.int 0)) (.idx (.idx (.var 3) (.int 0)) (.int 0)))) (.seq (.ret (.bl false)) (.skip)) (.skip)) (.seq (.ite (.or (.not (.isi (.idx (.idx (.var 3) (.int 0)) (.int 1)) .bool)) (.not (.isi (.idx (.idx (.var 3) (.int 1)) (.int 1)) .bool))) (.seq (.ret (.bl false)) (.skip)) (.skip)) (.seq (.ite (.and (.idx (.idx (.var 3) (.int 1)) (.int 1)) (.not (.idx (.idx (.var 3) (.int 0)) (.int 1)))) (.seq (.ret (.bl false)) (.skip)) (.skip)) (.seq (.for_ (.name 8) (.seq (.idx (.var 0) (.int 0))) (.seq (.ite (.cmp .notIn (.idx (.idx (.idx (.var 3) (.int 0)) (.int 2)) (.var 8)) (.lst (.cons (.str "on") (.cons (.str "off") (.cons (.str "open") .nil))))) (.seq (.ret (.bl false)) (.skip)) (.skip)) (.seq (.ite (.and (.cmp .ne (.idx (.idx (.idx (.var 3) (.int 0)) (.int 2)) (.var 8)) (.str "open")) (.cmp .ne (.idx (.idx (.idx (.var 3) (.int 1)) (.int 2)) (.var 8)) (.idx (.idx (.idx (.var 3) (.int 0)) (.int 2)) (.var 8)))) (.seq (.ret (.bl false)) (.skip)) (.skip)) (.skip)))) (.seq (.ret (.cmp .eq (.fn1 .list (.idx (.idx (.var 3) (.int 1)) (.int 2))) (.idx (.var 1) (.int 0)))) (.skip))))))))⟩
/-- L_exchanges_shrink ['_law_less_here', '_law_more', '_law_before', '_law_row', '_law_looks', '_law_triple'] -/
abbrev n_L_exchanges_shrink : Nat := 803
def L_exchanges_shrink : Fn := ⟨2, 6, .seq (.set 2 (.call 144 (.cons (.call 798 (.cons (.var 0) .nil)) (.cons (.call 626 (.cons (.idx (.var 0) (.int 2)) .nil)) .nil)))) (.seq (.set 4 (.lc (.idx (.var 3) (.int 0)) 3 (.seq (.idx (.var 0) (.int 1))) .none)) (.seq (.for_ (.name 5) (.seq (.call 144 (.cons (.call 798 (.cons (.var 1) .nil)) (.cons (.call 626 (.cons (.idx (.var 1) (.int 2)) .nil)) .nil)))) (.seq (.ite (.and (.cmp .inn (.idx (.var 5) (.int 0)) (.idx (.var 0) (.int 0))) (.and (.cmp .inn (.idx (.var 5) (.int 1)) (.idx (.var 0) (.int 0))) (.and (.cmp .inn (.idx (.var 5) (.int 2)) (.var 4)) (.cmp .notIn (.var 5) (.var 2))))) (.seq (.ret (.bl false)) (.skip)) (.skip)) (.skip))) (.seq (.ret (.bl true)) (.skip))))⟩
/-- L_failed_grow ['_law_less_here', '_law_more', '_law_before', '_law_after', '_law_lamps', '_law_lamp', '_law_left'] -/
abbrev n_L_failed_grow : Nat := 804
def L_failed_grow : Fn := ⟨2, 7, .seq (.set 2 (.call 112 (.cons (.call 798 (.cons (.var 0) .nil)) (.cons (.call 626 (.cons (.idx (.var 0) (.int 2)) .nil)) .nil)))) (.seq (.set 3 (.call 112 (.cons (.call 798 (.cons (.var 1) .nil)) (.cons (.call 626 (.cons (.idx (.var 1) (.int 2)) .nil)) .nil)))) (.seq (.ite (.and (.cmp .ne (.var 3) (.lst .nil)) (.cmp .eq (.var 2) (.lst .nil))) (.seq (.ret (.bl false)) (.skip)) (.skip)) (.seq (.for_ (.name 4) (.seq (.var 3)) (.seq (.set 6 (.fn1 .tuple (.lc (.var 5) 5 (.seq (.var 4)) (.some (.cmp .inn (.var 5) (.idx (.var 0) (.int 0))))))) (.seq (.ite (.or (.cmp .lt (.fn1 .len (.var 6)) (.fn1 .len (.idx (.var 2) (.int 0)))) (.and (.cmp .eq (.fn1 .len (.var 6)) (.fn1 .len (.idx (.var 2) (.int 0)))) (.cmp .notIn (.var 6) (.var 2)))) (.seq (.ret (.bl false)) (.skip)) (.skip)) (.skip)))) (.seq (.ret (.bl true)) (.skip)))))⟩
/-- L_chains_stay ['_law_bag_here', '_law_less_here', '_law_more', '_law_pair_here', '_law_table_here', '_law_wide', '_law_told', '_law_again', '_law_one', '_law_end', '_law_steps', '_law_old', '_law_new'] -/
abbrev n_L_chains_stay : Nat := 805
def L_chains_stay : Fn := ⟨4, 13, .seq (.set 4 (.call 798 (.cons (.var 1) .nil))) (.seq (.set 5 (.call 798 (.cons (.var 2) .nil))) (.seq (.set 6 (.call 76 (.cons (.var 4) (.cons (.var 3) .nil)))) (.seq (.set 7 (.call 76 (.cons (.var 5) (.cons (.var 3) .nil)))) (.seq (.for_ (.name 8) (.seq (.var 6)) (.seq (.ite (.cmp .notIn (.var 8) (.var 7)) (.seq (.ret (.bl false)) (.skip)) (.skip)) (.skip))) (.seq (.set 9 (.idx (.var 6) (.call 502 (.cons (.var 0) (.cons (.fn1 .len (.var 6)) .nil))))) (.seq (.set 10 (.call 53 (.cons (.var 5) (.cons (.var 3) (.cons (.var 9) .nil))))) (.seq (.ite (.or (.not (.call 610 (.cons (.idx (.var 2) (.int 0)) (.cons (.idx (.var 2) (.int 1)) (.cons (.var 10) .nil))))) (.or (.cmp .ne (.slc (.idx (.var 10) (.int 0)) .none (.some (.int 2))) (.var 3)) (.cmp .ne (.slc (.idx (.var 10) (.neg (.int 1))) .none (.some (.int 2))) (.var 9)))) (.seq (.ret (.bl false)) (.skip)) (.skip)) (.seq (.ite (.cmp .gt (.fn1 .len (.var 10)) (.fn1 .len (.call 53 (.cons (.var 4) (.cons (.var 3) (.cons (.var 9) .nil)))))) (.seq (.ret (.bl false)) (.skip)) (.skip)) (.seq (.set 11 (.call 54 (.cons (.var 4) .nil))) (.seq (.set 12 (.call 54 (.cons (.var 5) .nil))) (.seq (.ret (.or (.cmp .isN (.var 11) (.non)) (.and (.call 797 (.cons (.idx (.var 2) (.int 0)) (.cons (.idx (.var 2) (.int 1)) (.cons (.var 12) .nil)))) (.cmp .le (.fn1 .len (.var 12)) (.fn1 .len (.var 11)))))) (.skip))))))))))))⟩
/-- L_flipped_v3 ['_law_bag_here', '_law_lamps', '_law_rows', '_law_spot', '_law_lamp', '_law_old', '_law_one', '_law_new_here'] -/
abbrev n_L_flipped_v3 : Nat := 806
def L_flipped_v3 : Fn := ⟨3, 8, .seq (.ite (.or (.cmp .eq (.var 1) (.lst .nil)) (.cmp .eq (.var 2) (.lst .nil))) (.seq (.ret (.var 2)) (.skip)) (.skip)) (.seq (.set 3 (.call 502 (.cons (.var 0) (.cons (.fn1 .len (.var 2)) .nil)))) (.seq (.set 4 (.idx (.var 1) (.call 502 (.cons (.var 0) (.cons (.fn1 .len (.var 1)) .nil))))) (.seq (.set 5 (.idx (.idx (.var 2) (.var 3)) (.int 1))) (.seq (.set 7 (.lc (.var 6) 6 (.seq (.var 1)) (.some (.cmp .ne (.cmp .inn (.var 6) (.var 5)) (.cmp .eq (.var 6) (.var 4)))))) (.seq (.ret (.bin .add (.bin .add (.slc (.var 2) .none (.some (.var 3))) (.lst (.cons (.tup (.cons (.idx (.idx (.var 2) (.var 3)) (.int 0)) (.cons (.var 7) .nil))) .nil))) (.slc (.var 2) (.some (.bin .add (.var 3) (.int 1))) .none))) (.skip))))))⟩
/-- L_deed_v2 ['_law_bag_here', '_law_lamps', '_law_looks', '_law_words_here', '_law_word', '_law_deed_here', '_law_k'] -/
abbrev n_L_deed_v2 : Nat := 807
def L_deed_v2 : Fn := ⟨3, 7, .seq (.set 3 (.lst (.cons (.str "lamp") (.cons (.str "look") (.cons (.str "look") (.cons (.str "lamp") (.cons (.str "note") (.cons (.str "set") (.cons (.str "set") (.cons (.str "unlamp") (.cons (.str "unlook") (.cons (.str "forget") (.cons (.str "undo") (.cons (.str "note") .nil)))))))))))))) (.seq (.set 4 (.idx (.var 3) (.call 502 (.cons (.var 0) (.cons (.int 12) .nil))))) (.seq (.ite (.cmp .inn (.var 4) (.lst (.cons (.str "lamp") (.cons (.str "unlamp") .nil)))) (.seq (.ret (.tup (.cons (.var 4) (.cons (.call 692 (.cons (.var 0) (.cons (.var 1) .nil))) .nil)))) (.skip)) (.skip)) (.seq (.ite (.cmp .eq (.var 4) (.str "unlook")) (.seq (.ret (.tup (.cons (.var 4) (.cons (.call 692 (.cons (.var 0) (.cons (.var 2) .nil))) .nil)))) (.skip)) (.skip)) (.seq (.ite (.cmp .eq (.var 4) (.str "look")) (.seq (.set 5 (.tup (.cons (.var 4) (.cons (.call 692 (.cons (.var 0) (.cons (.var 2) .nil))) .nil)))) (.seq (.for_ (.name 6) (.rng (.call 502 (.cons (.var 0) (.cons (.int 4) .nil)))) (.seq (.set 5 (.bin .add (.var 5) (.tup (.cons (.idx (.var 1) (.call 502 (.cons (.var 0) (.cons (.fn1 .len (.var 1)) .nil)))) .nil)))) (.skip))) (.seq (.ret (.var 5)) (.skip)))) (.skip)) (.seq (.ite (.cmp .eq (.var 4) (.str "set")) (.seq (.ret (.tup (.cons (.var 4) (.cons (.call 692 (.cons (.var 0) (.cons (.var 1) .nil))) (.cons (.call 692 (.cons (.var 0) (.cons (.var 2) .nil))) (.cons (.cmp .eq (.call 502 (.cons (.var 0) (.cons (.int 2) .nil))) (.int 1)) .nil)))))) (.skip)) (.skip)) (.seq (.ite (.cmp .eq (.var 4) (.str "undo")) (.seq (.ret (.tup (.cons (.var 4) .nil))) (.skip)) (.skip)) (.seq (.ret (.tup (.cons (.var 4) (.cons (.call 692 (.cons (.var 0) (.cons (.var 2) .nil))) (.cons (.call 692 (.cons (.var 0) (.cons (.var 2) .nil))) .nil))))) (.skip))))))))⟩
/-- L_other_deed ['_law_deed_here', '_law_lamps', '_law_looks', '_law_lamp', '_law_look'] -/
abbrev n_L_other_deed : Nat := 809
def L_other_deed : Fn := ⟨3, 5, .seq (.ite (.cmp .inn (.idx (.var 0) (.int 0)) (.lst (.cons (.str "lamp") (.cons (.str "unlamp") .nil)))) (.seq (.ret (.tup (.cons (.idx (.var 0) (.int 0)) (.cons (.call 808 (.cons (.idx (.var 0) (.int 1)) (.cons (.var 1) .nil))) .nil)))) (.skip)) (.skip)) (.seq (.ite (.cmp .eq (.idx (.var 0) (.int 0)) (.str "set")) (.seq (.ret (.tup (.cons (.idx (.var 0) (.int 0)) (.cons (.call 808 (.cons (.idx (.var 0) (.int 1)) (.cons (.var 1) .nil))) (.cons (.call 808 (.cons (.idx (.var 0) (.int 2)) (.cons (.var 2) .nil))) (.cons (.idx (.var 0) (.int 3)) .nil)))))) (.skip)) (.skip)) (.seq (.ite (.cmp .eq (.idx (.var 0) (.int 0)) (.str "look")) (.seq (.ret (.bin .add (.tup (.cons (.idx (.var 0) (.int 0)) (.cons (.call 808 (.cons (.idx (.var 0) (.int 1)) (.cons (.var 2) .nil))) .nil))) (.fn1 .tuple (.lc (.call 808 (.cons (.var 3) (.cons (.var 1) .nil))) 3 (.seq (.slc (.var 0) (.some (.int 2)) .none)) .none)))) (.skip)) (.skip)) (.seq (.ret (.bin .add (.tup (.cons (.idx (.var 0) (.int 0)) .nil)) (.fn1 .tuple (.lc (.call 808 (.cons (.var 4) (.cons (.var 2) .nil))) 4 (.seq (.slc (.var 0) (.some (.int 1)) .none)) .none)))) (.skip))))⟩
/-- L_trees_alike ['_law_one', '_law_two', '_law_looks'] -/
abbrev n_L_trees_alike : Nat := 813
def L_trees_alike : Fn := ⟨3, 3, .seq (.ite (.or (.cmp .eq (.var 0) (.str "()")) (.cmp .eq (.var 0) (.str "none"))) (.seq (.ret (.cmp .eq (.var 1) (.var 0))) (.skip)) (.skip)) (.seq (.ret (.cmp .eq (.var 1) (.call 550 (.cons (.call 812 (.cons (.call 811 (.cons (.var 0) .nil)) (.cons (.var 2) .nil))) .nil)))) (.skip))⟩
/-- L_twin ['_law_pair_here', '_law_looks'] -/
abbrev n_L_twin : Nat := 817
def L_twin : Fn := ⟨2, 2, .seq (.ret (.tup (.cons (.call 808 (.cons (.idx (.var 0) (.int 0)) (.cons (.var 1) .nil))) (.cons (.call 808 (.cons (.idx (.var 0) (.int 1)) (.cons (.var 1) .nil))) .nil)))) (.skip)⟩
/-- L_words_alike ['_law_bag_here', '_law_halls', '_law_lamps', '_law_looks', '_law_names_here', '_law_pair_here', '_law_one', '_law_two', '_law_lamp', '_law_due'] -/
abbrev n_L_words_alike : Nat := 820
def L_words_alike : Fn := ⟨4, 10, .seq (.set 4 (.fn1 .list (.att (.att (.idx (.var 1) (.int 0)) "table") "looks"))) (.seq (.ite (.cmp .lt (.fn1 .len (.var 4)) (.int 2)) (.seq (.ret (.bl true)) (.skip)) (.skip)) (.seq (.set 5 (.call 588 (.cons (.var 0) (.cons (.var 4) .nil)))) (.seq (.set 6 (.call 819 (.cons (.idx (.var 1) (.int 0)) (.cons (.var 5) .nil)))) (.seq (.set 7 (.call 819 (.cons (.idx (.var 1) (.int 1)) (.cons (.call 817 (.cons (.var 5) (.cons (.var 3) .nil))) .nil)))) (.seq (.ite (.or (.cmp .isN (.var 6) (.non)) (.cmp .isN (.var 7) (.non))) (.seq (.ret (.and (.cmp .isN (.var 6) (.non)) (.cmp .isN (.var 7) (.non)))) (.skip)) (.skip)) (.seq (.set 9 (.lc (.tup (.cons (.call 808 (.cons (.var 8) (.cons (.var 2) .nil))) (.cons (.idx (.idx (.var 6) (.int 2)) (.var 8)) .nil))) 8 (.seq (.fn1 .list (.idx (.var 6) (.int 2)))) .none)) (.seq (.ret (.and (.cmp .eq (.slc (.var 6) .none (.some (.int 2))) (.slc (.var 7) .none (.some (.int 2)))) (.cmp .eq (.lc (.tup (.cons (.var 8) (.cons (.idx (.idx (.var 7) (.int 2)) (.var 8)) .nil))) 8 (.seq (.fn1 .list (.idx (.var 7) (.int 2)))) .none) (.var 9)))) (.skip))))))))⟩
/-- L_splits_alike ['_law_halls', '_law_lamps', '_law_one', '_law_two', '_law_lamp'] -/
abbrev n_L_splits_alike : Nat := 823
def L_splits_alike : Fn := ⟨2, 5, .seq (.set 2 (.call 163 (.cons (.att (.idx (.var 0) (.int 0)) "table") .nil))) (.seq (.set 3 (.call 163 (.cons (.att (.idx (.var 0) (.int 1)) "table") .nil))) (.seq (.ite (.or (.cmp .isN (.att (.var 2) "first") (.non)) (.cmp .isN (.att (.var 3) "first") (.non))) (.seq (.ret (.and (.cmp .isN (.att (.var 2) "first") (.non)) (.cmp .isN (.att (.var 3) "first") (.non)))) (.skip)) (.skip)) (.seq (.ite (.cmp .ne (.att (.var 3) "first") (.fn1 .tuple (.lc (.call 808 (.cons (.var 4) (.cons (.var 1) .nil))) 4 (.seq (.att (.var 2) "first")) .none))) (.seq (.ret (.bl false)) (.skip)) (.skip)) (.seq (.ret (.cmp .eq (.att (.var 3) "second") (.fn1 .tuple (.lc (.call 808 (.cons (.var 4) (.cons (.var 1) .nil))) 4 (.seq (.att (.var 2) "second")) .none)))) (.skip)))))⟩
/-- L_lists_alike ['_law_bag_here', '_law_halls', '_law_lamps', '_law_looks', '_law_door', '_law_one'] -/
abbrev n_L_lists_alike : Nat := 824
def L_lists_alike : Fn := ⟨4, 6, .seq (.set 4 (.call 502 (.cons (.var 0) (.cons (.int 6) .nil)))) (.seq (.ite (.cmp .eq (.var 4) (.int 1)) (.seq (.ret (.call 820 (.cons (.var 0) (.cons (.var 1) (.cons (.var 2) (.cons (.var 3) .nil)))))) (.skip)) (.skip)) (.seq (.ite (.cmp .eq (.var 4) (.int 2)) (.seq (.set 5 (.call 112 (.cons (.att (.idx (.var 1) (.int 0)) "table") (.cons (.att (.idx (.var 1) (.int 0)) "known") .nil)))) (.seq (.ret (.call 821 (.cons (.var 5) (.cons (.call 112 (.cons (.att (.idx (.var 1) (.int 1)) "table") (.cons (.att (.idx (.var 1) (.int 1)) "known") .nil))) (.cons (.var 2) .nil))))) (.skip))) (.skip)) (.seq (.ite (.cmp .eq (.var 4) (.int 3)) (.seq (.set 5 (.fn1 .list (.call 143 (.cons (.att (.idx (.var 1) (.int 0)) "table") (.cons (.att (.idx (.var 1) (.int 0)) "known") .nil))))) (.seq (.ret (.call 821 (.cons (.var 5) (.cons (.fn1 .list (.call 143 (.cons (.att (.idx (.var 1) (.int 1)) "table") (.cons (.att (.idx (.var 1) (.int 1)) "known") .nil)))) (.cons (.var 2) .nil))))) (.skip))) (.skip)) (.seq (.ite (.cmp .eq (.var 4) (.int 4)) (.seq (.ret (.call 822 (.cons (.var 1) (.cons (.var 2) (.cons (.var 3) .nil))))) (.skip)) (.skip)) (.seq (.ite (.cmp .eq (.var 4) (.int 5)) (.seq (.ret (.call 823 (.cons (.var 1) (.cons (.var 2) .nil)))) (.skip)) (.skip)) (.seq (.ret (.call 818 (.cons (.var 0) (.cons (.lst (.cons (.att (.idx (.var 1) (.int 0)) "table") (.cons (.att (.idx (.var 1) (.int 1)) "table") .nil))) (.cons (.var 3) .nil))))) (.skip)))))))⟩
/-- L_question ['_law_bag_here', '_law_looks', '_law_word'] -/
abbrev n_L_question : Nat := 825
def L_question : Fn := ⟨2, 3, .seq (.set 2 (.idx (.lst (.cons (.str "order") (.cons (.str "tree") (.cons (.str "failed") (.cons (.str "table") (.cons (.str "relation") (.cons (.str "count") .nil))))))) (.call 502 (.cons (.var 0) (.cons (.int 6) .nil))))) (.seq (.ite (.and (.cmp .eq (.var 2) (.str "count")) (.cmp .gt (.fn1 .len (.var 1)) (.int 3))) (.seq (.set 2 (.str "tree")) (.skip)) (.skip)) (.seq (.ite (.cmp .eq (.var 2) (.str "relation")) (.seq (.ret (.tup (.cons (.var 2) (.cons (.fn1 .str (.call 692 (.cons (.var 0) (.cons (.var 1) .nil)))) (.cons (.fn1 .str (.call 692 (.cons (.var 0) (.cons (.var 1) .nil)))) .nil))))) (.skip)) (.skip)) (.seq (.ret (.tup (.cons (.var 2) .nil))) (.skip))))⟩
/-- L_preamble ['_law_bag_here', '_law_lamps', '_law_looks', '_law_rows', '_law_lamp', '_law_row', '_law_deeds', '_law_pair_here'] -/
abbrev n_L_preamble : Nat := 826
def L_preamble : Fn := ⟨3, 8, .seq (.set 3 (.call 593 (.cons (.var 0) (.cons (.var 1) (.cons (.var 2) .nil))))) (.seq (.ite (.cmp .eq (.call 502 (.cons (.var 0) (.cons (.int 3) .nil))) (.int 1)) (.seq (.set 3 (.call 806 (.cons (.var 0) (.cons (.var 1) (.cons (.var 3) .nil))))) (.skip)) (.skip)) (.seq (.set 6 (.bin .add (.lc (.tup (.cons (.str "lamp") (.cons (.var 4) .nil))) 4 (.seq (.var 1)) .none) (.lc (.fn1 .tuple (.bin .add (.lst (.cons (.str "look") (.cons (.idx (.var 5) (.int 0)) .nil))) (.idx (.var 5) (.int 1)))) 5 (.seq (.var 3)) .none))) (.seq (.ret (.bin .add (.var 6) (.lc (.tup (.cons (.str "note") (.cons (.idx (.var 7) (.int 0)) (.cons (.idx (.var 7) (.int 1)) .nil)))) 7 (.seq (.call 612 (.cons (.var 0) (.cons (.var 2) (.cons (.call 502 (.cons (.var 0) (.cons (.int 4) .nil))) .nil))))) .none))) (.skip))))⟩
/-- L_rule ['_law_bag_here', '_law_lamps', '_law_rows', '_law_first', '_law_second', '_law_one', '_law_two', '_law_way', '_law_look'] -/
abbrev n_L_rule : Nat := 827
def L_rule : Fn := ⟨3, 9, .seq (.set 3 (.call 502 (.cons (.var 0) (.cons (.fn1 .len (.var 1)) .nil)))) (.seq (.set 4 (.bin .mod (.fn1 .int (.bin .add (.bin .add (.var 3) (.int 1)) (.call 502 (.cons (.var 0) (.cons (.bin .sub (.fn1 .len (.var 1)) (.int 1)) .nil))))) (.fn1 .len (.var 1)))) (.seq (.set 5 (.call 595 (.cons (.var 2) (.cons (.idx (.var 1) (.var 3)) .nil)))) (.seq (.set 6 (.call 595 (.cons (.var 2) (.cons (.idx (.var 1) (.var 4)) .nil)))) (.seq (.set 7 (.call 502 (.cons (.var 0) (.cons (.int 3) .nil)))) (.seq (.ite (.and (.cmp .eq (.var 7) (.int 1)) (.cmp .eq (.lc (.var 8) 8 (.seq (.var 5)) (.some (.cmp .inn (.var 8) (.var 6)))) (.lst .nil))) (.seq (.set 7 (.int 0)) (.skip)) (.skip)) (.seq (.ite (.and (.cmp .eq (.var 7) (.int 2)) (.cmp .eq (.lc (.var 8) 8 (.seq (.var 6)) (.some (.cmp .notIn (.var 8) (.var 5)))) (.lst .nil))) (.seq (.set 7 (.int 0)) (.skip)) (.skip)) (.seq (.ret (.lst (.cons (.idx (.var 1) (.var 3)) (.cons (.idx (.var 1) (.var 4)) (.cons (.var 7) .nil))))) (.skip))))))))⟩
/-- L_glows ['_law_rule_here', '_law_shown'] -/
abbrev n_L_glows : Nat := 828
def L_glows : Fn := ⟨2, 2, .seq (.ite (.cmp .eq (.idx (.var 0) (.int 2)) (.int 0)) (.seq (.ret (.and (.cmp .inn (.idx (.var 0) (.int 0)) (.var 1)) (.cmp .inn (.idx (.var 0) (.int 1)) (.var 1)))) (.skip)) (.skip)) (.seq (.ite (.cmp .eq (.idx (.var 0) (.int 2)) (.int 1)) (.seq (.ret (.or (.cmp .inn (.idx (.var 0) (.int 0)) (.var 1)) (.cmp .inn (.idx (.var 0) (.int 1)) (.var 1)))) (.skip)) (.skip)) (.seq (.ret (.and (.cmp .inn (.idx (.var 0) (.int 0)) (.var 1)) (.cmp .notIn (.idx (.var 0) (.int 1)) (.var 1)))) (.skip)))⟩
/-- L_followed ['_law_rule_here', '_law_name_here', '_law_shown'] -/
abbrev n_L_followed : Nat := 829
def L_followed : Fn := ⟨3, 3, .seq (.ite (.call 828 (.cons (.var 0) (.cons (.var 2) .nil))) (.seq (.ret (.bin .add (.var 2) (.lst (.cons (.var 1) .nil)))) (.skip)) (.skip)) (.seq (.ret (.var 2)) (.skip))⟩
/-- L_papers_alike ['_law_state', '_law_wide', '_law_one', '_law_two', '_law_table_here'] -/
abbrev n_L_papers_alike : Nat := 832
def L_papers_alike : Fn := ⟨4, 5, .seq (.set 4 (.call 798 (.cons (.var 1) .nil))) (.seq (.ite (.cmp .notN (.att (.var 2) "bar") (.non)) (.seq (.ite (.or (.cmp .isN (.att (.var 3) "bar") (.non)) (.cmp .gt (.fn1 .len (.att (.var 3) "bar")) (.fn1 .len (.att (.var 2) "bar")))) (.seq (.ret (.bl false)) (.skip)) (.skip)) (.seq (.ret (.and (.call 797 (.cons (.idx (.var 1) (.int 0)) (.cons (.idx (.var 1) (.int 1)) (.cons (.att (.var 3) "bar") .nil)))) (.call 500 (.cons (.call 154 (.cons (.var 4) (.cons (.att (.var 2) "bar") .nil))) (.cons (.bl true) .nil))))) (.skip))) (.skip)) (.seq (.ite (.or (.cmp .notN (.att (.var 3) "bar") (.non)) (.not (.call 748 (.cons (.idx (.var 0) (.int 0)) (.cons (.idx (.var 0) (.int 1)) (.cons (.idx (.var 0) (.int 2)) (.cons (.att (.var 2) "ring") .nil))))))) (.seq (.ret (.bl false)) (.skip)) (.skip)) (.seq (.ite (.not (.call 748 (.cons (.idx (.var 1) (.int 0)) (.cons (.idx (.var 1) (.int 1)) (.cons (.idx (.var 1) (.int 2)) (.cons (.att (.var 3) "ring") .nil)))))) (.seq (.ret (.bl false)) (.skip)) (.skip)) (.seq (.ret (.call 500 (.cons (.call 155 (.cons (.var 4) (.cons (.call 626 (.cons (.idx (.var 1) (.int 2)) .nil)) (.cons (.att (.var 2) "ring") .nil)))) (.cons (.bl true) .nil)))) (.skip)))))⟩
/-- L_words_alike_v2 ['_law_bag_here', '_law_state', '_law_wide', '_law_row', '_law_pair_here', '_law_tables', '_law_notes_here', '_law_table_here', '_law_words', '_law_told', '_law_lamp'] -/
abbrev n_L_words_alike_v2 : Nat := 833
def L_words_alike_v2 : Fn := ⟨3, 11, .seq (.set 4 (.call 588 (.cons (.var 0) (.cons (.lc (.idx (.var 3) (.int 0)) 3 (.seq (.idx (.var 1) (.int 1))) .none) .nil)))) (.seq (.set 5 (.lst (.cons (.call 798 (.cons (.var 1) .nil)) (.cons (.call 798 (.cons (.var 2) .nil)) .nil)))) (.seq (.set 6 (.call 626 (.cons (.idx (.var 1) (.int 2)) .nil))) (.seq (.set 8 (.lc (.call 106 (.cons (.var 7) (.cons (.var 6) (.cons (.idx (.var 4) (.int 0)) (.cons (.idx (.var 4) (.int 1)) .nil))))) 7 (.seq (.var 5)) .none)) (.seq (.ite (.or (.cmp .ne (.idx (.var 8) (.int 0)) (.idx (.var 8) (.int 1))) (.cmp .notIn (.idx (.var 8) (.int 0)) (.lst (.cons (.str "before") (.cons (.str "after") (.cons (.str "open") .nil)))))) (.seq (.ret (.bl false)) (.skip)) (.skip)) (.seq (.set 9 (.lc (.call 108 (.cons (.var 7) (.cons (.var 6) (.cons (.idx (.var 4) (.int 0)) (.cons (.idx (.var 4) (.int 1)) .nil))))) 7 (.seq (.var 5)) .none)) (.seq (.for_ (.name 10) (.seq (.idx (.var 1) (.int 0))) (.seq (.ite (.cmp .ne (.idx (.idx (.var 9) (.int 0)) (.var 10)) (.idx (.idx (.var 9) (.int 1)) (.var 10))) (.seq (.ret (.bl false)) (.skip)) (.skip)) (.skip))) (.seq (.ret (.and (.cmp .eq (.fn1 .list (.idx (.var 9) (.int 1))) (.idx (.var 2) (.int 0))) (.cmp .eq (.call 76 (.cons (.idx (.var 5) (.int 0)) (.cons (.var 4) .nil))) (.call 76 (.cons (.idx (.var 5) (.int 1)) (.cons (.var 4) .nil)))))) (.skip))))))))⟩
end DL.Fx
end
section
set_option Elab.async false
set_option linter.all false
set_option maxRecDepth 100000
/-! Pl: reasoning about the small language's meaning, no program in sight. -/
namespace DL
open PySem
def Out.wp {α : Type} (o : Out α) (Q : α → List D → Prop) (E : Exc → List D → Prop) : Prop := match o with
  | .ok a p => Q a p
  | .exc x p => E x p
  | .bad => False
def So.wp {α : Type} (o : So α) (Q : α → S → Prop) (E : Exc → S → Prop) : Prop := match o with
  | .ok a s => Q a s
  | .exc x s => E x s
  | .bad => False
section
variable {α β : Type} {Q : α → List D → Prop} {E : Exc → List D → Prop} {Z : α → S → Prop} {Y : Exc → S → Prop} {p : List D} {s : S}
@[simp ↓] theorem owp_ok {a : α} : (Out.ok a p).wp Q E = Q a p := rfl
@[simp ↓] theorem owp_exc {x : Exc} : (Out.exc x p).wp Q E = E x p := rfl
@[simp ↓] theorem owp_bad : (Out.bad : Out α).wp Q E = False := rfl
@[simp ↓] theorem swp_ok {a : α} : (So.ok a s).wp Z Y = Z a s := rfl
@[simp ↓] theorem swp_exc {x : Exc} : (So.exc x s).wp Z Y = Y x s := rfl
@[simp ↓] theorem swp_bad : (So.bad : So α).wp Z Y = False := rfl
@[simp ↓] theorem owp_bind {m : P β} {f : β → P α} : (P.bind m f p).wp Q E = (m p).wp (fun a p' => (f a p').wp Q E) E := by
  unfold P.bind
  cases m p <;> rfl
@[simp ↓] theorem owp_ret {a : α} : (P.ret a p).wp Q E = Q a p := rfl
@[simp ↓] theorem owp_pbad : (P.bad p : Out α).wp Q E = False := rfl
@[simp ↓] theorem owp_opt {o : Option α} : (P.opt o p).wp Q E = ∃ a, o = some a ∧ Q a p := by
  cases o with
  | none => simp [P.opt, P.bad]
  | some a => simp [P.opt, P.ret]
@[simp ↓] theorem swp_bind {m : M β} {f : β → M α} : (M.bind m f s).wp Z Y = (m s).wp (fun a s' => (f a s').wp Z Y) Y := by
  unfold M.bind
  cases m s <;> rfl
@[simp ↓] theorem swp_ret {a : α} : (M.ret a s).wp Z Y = Z a s := rfl
@[simp ↓] theorem swp_mbad : (M.bad s : So α).wp Z Y = False := rfl
@[simp ↓] theorem swp_held {is : List Nat} {m : Env → P D} {Z : D → S → Prop} : (held is m s).wp Z Y = (m s.env s.per).wp (fun d p => Z d (if d.flat then ⟨s.env, p⟩ else ⟨frzS is s.env, p⟩)) (fun x p => Y x ⟨frzX x s.env, p⟩) := by
  unfold held
  cases m s.env s.per <;> rfl
@[simp ↓] theorem swp_asked {m : Env → P α} : (asked m s).wp Z Y = (m s.env s.per).wp (fun d p => Z d ⟨s.env, p⟩) (fun x p => Y x ⟨frzX x s.env, p⟩) := by
  unfold asked
  cases m s.env s.per <;> rfl
theorem Out.wp.mono {o : Out α} {Q' : α → List D → Prop} {E' : Exc → List D → Prop} (h : o.wp Q E) (hQ : ∀ a p, Q a p → Q' a p) (hE : ∀ x p, E x p → E' x p) : o.wp Q' E' := by
  cases o with
  | ok a p => exact hQ _ _ h
  | exc x p => exact hE _ _ h
  | bad => exact h
theorem So.wp.mono {o : So α} {Z' : α → S → Prop} {Y' : Exc → S → Prop} (h : o.wp Z Y) (hQ : ∀ a p, Z a p → Z' a p) (hE : ∀ x p, Y x p → Y' x p) : o.wp Z' Y' := by
  cases o with
  | ok a p => exact hQ _ _ h
  | exc x p => exact hE _ _ h
  | bad => exact h
theorem Out.wp.eq {o : Out α} {a : α} {p : List D} (h : o.wp (fun b q => b = a ∧ q = p) fun _ _ => False) : o = .ok a p := by
  cases o with
  | ok b q => obtain ⟨rfl, rfl⟩ := h; rfl
  | exc x q => exact h.elim
  | bad => exact h.elim
theorem Out.wp.eqx {o : Out α} {x : Exc} {p : List D} (h : o.wp (fun _ _ => False) fun y q => y = x ∧ q = p) : o = .exc x p := by
  cases o with
  | ok b q => exact h.elim
  | exc x q => obtain ⟨rfl, rfl⟩ := h; rfl
  | bad => exact h.elim
theorem Out.wp.of {o : Out α} {a : α} {p : List D} (h : o = .ok a p) (hq : Q a p) : o.wp Q E := by rw [h]; exact hq
theorem Out.wp.ofx {o : Out α} {x : Exc} {p : List D} (h : o = .exc x p) (hq : E x p) : o.wp Q E := by rw [h]; exact hq
end
/-- a loop by its invariant: I rest s ahead of each turn -/
theorem forL_wp {f : D → M Ctl} {Z : Ctl → S → Prop} {Y : Exc → S → Prop} (I : List D → S → Prop)
    (step : ∀ d ds s, I (d :: ds) s → (f d s).wp (fun c s' => match c with
      | .nx => I ds s'
      | .ct => I ds s'
      | .brk => Z .nx s'
      | .ret v => Z (.ret v) s') Y) : ∀ (ds : List D) (s : S), I ds s → (∀ s', I [] s' → Z .nx s') → (forL f ds s).wp Z Y
  | [], s, h, hz => hz s h
  | d :: ds, s, h, hz => by
    unfold forL
    rw [swp_bind]
    refine (step d ds s h).mono (fun c s' hc => ?_) fun _ _ h => h
    cases c with
    | nx => exact forL_wp I step ds s' hc hz
    | ct => exact forL_wp I step ds s' hc hz
    | brk => exact hc
    | ret v => exact hc
theorem callBy_wp {run : St → M Ctl} {fn : Fn} {args : List D} {p : List D} {Q : D → List D → Prop} {E : Exc → List D → Prop} (hl : args.length = fn.np)
    (h : (run fn.body ⟨entry fn.ns (args.map fun d => some (.dat d)), p⟩).wp (fun c s => match c with
      | .nx => Q .non s.per
      | .ret d => Q d s.per
      | _ => False) fun x s => E x s.per) : (callBy run fn args p).wp Q E := by
  unfold callBy
  rw [if_pos hl]
  cases q : run fn.body ⟨entry fn.ns (args.map fun d => some (.dat d)), p⟩ with
  | bad => rw [q] at h; exact h
  | exc x s => rw [q] at h; exact h
  | ok c s =>
    rw [q] at h
    cases c with
    | nx => exact h
    | ret d => exact h
    | brk => exact h
    | ct => exact h
theorem call_wp {T : Tab} {n f : Nat} {fn : Fn} {args : List D} {p : List D} {Q : D → List D → Prop} {E : Exc → List D → Prop} (hf : T.fn f = some fn) (hl : args.length = fn.np)
    (h : (evSt T (lev T n) fn.body ⟨entry fn.ns (args.map fun d => some (.dat d)), p⟩).wp (fun c s => match c with
      | .nx => Q .non s.per
      | .ret d => Q d s.per
      | _ => False) fun x s => E x s.per) : ((lev T (n + 1)).call f args p).wp Q E := by
  simp only [lev, hf]
  exact callBy_wp hl h
theorem make_wp {T : Tab} {n c : Nat} {cl : Cl} {fn : Fn} {args : List D} {p : List D} {Q : D → List D → Prop} {E : Exc → List D → Prop} (hc : T.cl c = some cl) (hf : T.fn cl.init = some fn) (hl : args.length + 1 = fn.np)
    (h : (evSt T (lev T n) fn.body ⟨entry fn.ns (some (.own (.ins c [])) :: args.map fun d => some (.dat d)), p⟩).wp (fun k s => match k with
      | .nx => ∃ sl, s.env[0]? = some (some sl) ∧ sl.d.isExn = false ∧ Q sl.d s.per
      | _ => False) fun x s => E x s.per) : ((lev T (n + 1)).make c args p).wp Q E := by
  simp only [lev, hc, Option.bind_some, hf]
  unfold makeBy
  rw [if_pos hl]
  cases q : evSt T (lev T n) fn.body ⟨entry fn.ns (some (.own (.ins c [])) :: args.map fun d => some (.dat d)), p⟩ with
  | bad => rw [q] at h; exact h
  | exc x s => rw [q] at h; exact h
  | ok k s =>
    rw [q] at h
    cases k with
    | nx =>
      obtain ⟨sl, e1, e2, e3⟩ := h
      simp [e1, e2, e3]
    | ret d => exact h
    | brk => exact h
    | ct => exact h
end DL
end
section
set_option Elab.async false
set_option linter.all false
set_option maxRecDepth 100000
/-! Pl2: symbolic execution by simp: only what runs first is rewritten. -/
namespace DL
open PySem
/-- an optional value, then -/
def oq {α : Type} (o : Option α) (Q : α → Prop) : Prop := ∃ a, o = some a ∧ Q a
/-- a test, then -/
def iq (k : Bool) (A B : Prop) : Prop := (k = true → A) ∧ (k = false → B)
theorem owp_congr {α : Type} {o o' : Out α} {Q : α → List D → Prop} {E : Exc → List D → Prop} (h : o = o') : o.wp Q E = o'.wp Q E := by rw [h]
theorem swp_congr {α : Type} {o o' : So α} {Q : α → S → Prop} {E : Exc → S → Prop} (h : o = o') : o.wp Q E = o'.wp Q E := by rw [h]
theorem oq_congr {α : Type} {o o' : Option α} {Q : α → Prop} (h : o = o') : oq o Q = oq o' Q := by rw [h]
theorem iq_congr {k k' : Bool} {A B : Prop} (h : k = k') : iq k A B = iq k' A B := by rw [h]
@[simp ↓] theorem oq_some {α : Type} {a : α} {Q : α → Prop} : oq (some a) Q = Q a := by simp [oq]
@[simp ↓] theorem oq_none {α : Type} {Q : α → Prop} : oq (none : Option α) Q = False := by simp [oq]
@[simp ↓] theorem iq_true {A B : Prop} : iq true A B = A := by simp [iq]
@[simp ↓] theorem iq_false {A B : Prop} : iq false A B = B := by simp [iq]
theorem iq_of {k : Bool} {A B : Prop} (h1 : k = true → A) (h2 : k = false → B) : iq k A B := ⟨h1, h2⟩
@[simp ↓] theorem oq_ite {α : Type} {c : Prop} [Decidable c] {a b : Option α} {Q : α → Prop} : oq (if c then a else b) Q = iq (decide c) (oq a Q) (oq b Q) := by
  by_cases h : c <;> simp [h]
@[simp ↓] theorem oq_map {α β : Type} {o : Option α} {f : α → β} {Q : β → Prop} : oq (o.map f) Q = oq o fun a => Q (f a) := by
  cases o <;> simp
@[simp ↓] theorem oq_bind {α β : Type} {o : Option α} {f : α → Option β} {Q : β → Prop} : oq (o.bind f) Q = oq o fun a => oq (f a) Q := by
  cases o <;> simp
def slotO (env : Env) (i : Nat) : Option D := match env[i]? with
  | some (some sl) => if sl.d.isExn then none else some sl.d
  | _ => none
/-- an own or a plain slot's value -/
@[simp ↓] theorem slotO_dat {env : Env} {i : Nat} {d : D} (h : env[i]? = some (some (.dat d))) (hx : d.isExn = false) : slotO env i = some d := by
  simp [slotO, h, Slot.d, hx]
section
variable {T : Tab} {R : Rec} {env : Env} {p : List D} {Q : D → List D → Prop} {B : Bool → List D → Prop} {E : Exc → List D → Prop} {a b c : Ex} {i : Nat}
@[simp ↓] theorem wv_var : ((ev T R (.var i)).v env p).wp Q E = oq (slotO env i) fun d => Q d p := by
  simp only [ev, Mean.of, slotD, slotO]
  cases env[i]? with
  | none => simp
  | some o =>
    cases o with
    | none => simp
    | some sl => cases h : sl.d.isExn <;> simp [h]
@[simp ↓] theorem wv_non : ((ev T R .non).v env p).wp Q E = Q .non p := rfl
@[simp ↓] theorem wv_bl {b : Bool} : ((ev T R (.bl b)).v env p).wp Q E = Q (.bl b) p := rfl
@[simp ↓] theorem wv_int {n : Int} : ((ev T R (.int n)).v env p).wp Q E = Q (.int n) p := rfl
@[simp ↓] theorem wv_str {x : Str} : ((ev T R (.str x)).v env p).wp Q E = Q (.str x) p := rfl
@[simp ↓] theorem wv_glo {x : Str} {d : D} : ((ev T R (.glo x d)).v env p).wp Q E = Q d p := rfl
@[simp ↓] theorem wv_dct : ((ev T R .dct).v env p).wp Q E = Q (.dic []) p := rfl
def derefO (d : D) (p : List D) : Option D := match d with
  | .per i => p[i]?
  | d => some d
@[simp ↓] theorem deref_wp {d : D} : (deref d p).wp Q E = oq (derefO d p) fun x => Q x p := by
  cases d <;> simp [deref, derefO]
  split <;> simp_all
@[simp ↓] theorem wv_bin {op : Bop} : ((ev T R (.bin op a b)).v env p).wp Q E = ((ev T R a).v env p).wp (fun x p => ((ev T R b).v env p).wp (fun y p => oq (derefO x p) fun x => oq (derefO y p) fun y => oq (bop op x y) fun d => Q d p) E) E := by
  simp [ev, Mean.of, oq]
@[simp ↓] theorem wv_neg : ((ev T R (.neg a)).v env p).wp Q E = ((ev T R a).v env p).wp (fun x p => match x with
    | .int i => Q (.int (-i)) p
    | _ => False) E := by
  simp only [ev, Mean.of, owp_bind]
  congr 1
  funext x p
  cases x <;> simp
@[simp ↓] theorem wv_not : ((ev T R (.not a)).v env p).wp Q E = ((ev T R a).v env p).wp (fun x p => match x with
    | .bl k => Q (.bl (!k)) p
    | _ => False) E := by
  simp only [ev, owp_bind]
  congr 1
  funext x p
  cases x <;> simp
@[simp ↓] theorem wt_not : ((ev T R (.not a)).t env p).wp B E = ((ev T R a).t env p).wp (fun k p => B (!k) p) E := by simp [ev]
@[simp ↓] theorem wv_cmp {op : Cop} : ((ev T R (.cmp op a b)).v env p).wp Q E = ((ev T R a).v env p).wp (fun x p => ((ev T R b).v env p).wp (fun y p => oq (derefO x p) fun x => oq (derefO y p) fun y => oq (cop op x y) fun k => Q (.bl k) p) E) E := by
  simp [ev, oq]
@[simp ↓] theorem wt_cmp {op : Cop} : ((ev T R (.cmp op a b)).t env p).wp B E = ((ev T R a).v env p).wp (fun x p => ((ev T R b).v env p).wp (fun y p => oq (derefO x p) fun x => oq (derefO y p) fun y => oq (cop op x y) fun k => B k p) E) E := by
  simp [ev, oq]
@[simp ↓] theorem wv_and : ((ev T R (.and a b)).v env p).wp Q E = ((ev T R a).v env p).wp (fun x p => match x with
    | .bl k => iq k (((ev T R b).v env p).wp Q E) (Q (.bl false) p)
    | _ => False) E := by
  simp only [ev, owp_bind]
  congr 1
  funext x p
  cases x with
  | bl k => cases k <;> simp
  | _ => simp
@[simp ↓] theorem wt_and : ((ev T R (.and a b)).t env p).wp B E = ((ev T R a).t env p).wp (fun k p => iq k (((ev T R b).t env p).wp B E) (B false p)) E := by
  simp only [ev, owp_bind]
  congr 1
  funext k p
  cases k <;> simp
@[simp ↓] theorem wv_or : ((ev T R (.or a b)).v env p).wp Q E = ((ev T R a).v env p).wp (fun x p => match x with
    | .bl k => iq k (Q (.bl true) p) (((ev T R b).v env p).wp Q E)
    | _ => False) E := by
  simp only [ev, owp_bind]
  congr 1
  funext x p
  cases x with
  | bl k => cases k <;> simp
  | _ => simp
@[simp ↓] theorem wt_or : ((ev T R (.or a b)).t env p).wp B E = ((ev T R a).t env p).wp (fun k p => iq k (B true p) (((ev T R b).t env p).wp B E)) E := by
  simp only [ev, owp_bind]
  congr 1
  funext k p
  cases k <;> simp
@[simp ↓] theorem wv_ite : ((ev T R (.ite c a b)).v env p).wp Q E = ((ev T R c).t env p).wp (fun k p => iq k (((ev T R a).v env p).wp Q E) (((ev T R b).v env p).wp Q E)) E := by
  simp only [ev, owp_bind]
  congr 1
  funext k p
  cases k <;> simp
@[simp ↓] theorem wv_tup {es : Exs} : ((ev T R (.tup es)).v env p).wp Q E = (evs T R es env p).wp (fun xs p => iq (decide (xs.length ≤ sizeLine)) (Q (.tup xs) p) False) E := by
  simp only [ev, Mean.of, owp_bind]
  congr 1
  funext xs p
  by_cases h : xs.length ≤ sizeLine <;> simp [h]
@[simp ↓] theorem wv_lst {es : Exs} : ((ev T R (.lst es)).v env p).wp Q E = (evs T R es env p).wp (fun xs p => iq (decide (xs.length ≤ sizeLine)) (Q (.lst xs) p) False) E := by
  simp only [ev, Mean.of, owp_bind]
  congr 1
  funext xs p
  by_cases h : xs.length ≤ sizeLine <;> simp [h]
@[simp ↓] theorem wv_idx : ((ev T R (.idx a b)).v env p).wp Q E = ((ev T R a).v env p).wp (fun x p => ((ev T R b).v env p).wp (fun y p => oq (derefO x p) fun x => oq (idxD x y) fun d => Q d p) E) E := by
  simp [ev, Mean.of, oq]
@[simp ↓] theorem wv_slc {lo hi : Oex} : ((ev T R (.slc a lo hi)).v env p).wp Q E = ((ev T R a).v env p).wp (fun x p => (evo T R lo env p).wp (fun l p => (evo T R hi env p).wp (fun h p => oq (derefO x p) fun x => oq (slcD l h x) fun d => Q d p) E) E) E := by
  simp [ev, Mean.of, oq]
@[simp ↓] theorem wv_att {f : Str} : ((ev T R (.att a f)).v env p).wp Q E = ((ev T R a).v env p).wp (fun x p => oq (derefO x p) fun x => oq (attD T f x) fun d => Q d p) E := by
  simp [ev, Mean.of, oq]
@[simp ↓] theorem wv_call {f : Nat} {es : Exs} : ((ev T R (.call f es)).v env p).wp Q E = (evs T R es env p).wp (fun xs p => (R.call f xs p).wp Q E) E := by
  simp [ev, Mean.of]
@[simp ↓] theorem wv_new {f : Nat} {es : Exs} : ((ev T R (.new f es)).v env p).wp Q E = (evs T R es env p).wp (fun xs p => (R.make f xs p).wp Q E) E := by
  simp [ev, Mean.of]
def methO (T : Tab) (m : Str) : D → Option Nat
  | .ins c fs => methD T c fs m
  | _ => none
@[simp ↓] theorem wv_meth {m : Str} {es : Exs} : ((ev T R (.meth a m es)).v env p).wp Q E = ((ev T R a).v env p).wp (fun x p => oq (derefO x p) fun y => oq (methO T m y) fun f => (evs T R es env p).wp (fun xs p => (R.call f (x :: xs) p).wp Q E) E) E := by
  simp only [ev, Mean.of, owp_bind, deref_wp]
  congr 1
  funext x p
  congr 1
  funext y
  cases y with
  | ins c fs => cases h : methD T c fs m <;> simp [methO, h]
  | _ => simp [methO]
@[simp ↓] theorem wv_fn1 {f : Fop} : ((ev T R (.fn1 f a)).v env p).wp Q E = ((ev T R a).v env p).wp (fun x p => oq (derefO x p) fun x => oq (fop f x) fun d => Q d p) E := by
  simp [ev, Mean.of, oq]
@[simp ↓] theorem wv_isi {t : Ty} : ((ev T R (.isi a t)).v env p).wp Q E = ((ev T R a).v env p).wp (fun x p => oq (derefO x p) fun x => oq (isTy T t x) fun k => Q (.bl k) p) E := by
  simp [ev, Mean.of, oq]
@[simp ↓] theorem wv_xat {f : Str} : ((ev T R (.xat i f)).v env p).wp Q E = (exnF T env i f p).wp Q E := by
  simp [ev, Mean.of]
/-- a test of a value -/
def plainT : Ex → Bool
  | .not _ | .cmp .. | .and .. | .or .. | .ite .. => false
  | _ => true
theorem wt_val (h : plainT a = true) : ((ev T R a).t env p).wp B E = ((ev T R a).v env p).wp (fun x p => oq (derefO x p) fun x => oq (truth x) fun k => B k p) E := by
  cases a <;> simp [plainT] at h <;> simp only [ev, Mean.of, owp_bind, deref_wp, owp_opt, oq]
@[simp ↓] theorem wt_var : ((ev T R (.var i)).t env p).wp B E = ((ev T R (.var i)).v env p).wp (fun x p => oq (derefO x p) fun x => oq (truth x) fun k => B k p) E := wt_val rfl
@[simp ↓] theorem wt_bl {k : Bool} : ((ev T R (.bl k)).t env p).wp B E = B k p := by cases k <;> simp [ev, Mean.of, derefO, truth, oq]
@[simp ↓] theorem wt_call {f : Nat} {es : Exs} : ((ev T R (.call f es)).t env p).wp B E = ((ev T R (.call f es)).v env p).wp (fun x p => oq (derefO x p) fun x => oq (truth x) fun k => B k p) E := wt_val rfl
@[simp ↓] theorem wt_meth {m : Str} {es : Exs} : ((ev T R (.meth a m es)).t env p).wp B E = ((ev T R (.meth a m es)).v env p).wp (fun x p => oq (derefO x p) fun x => oq (truth x) fun k => B k p) E := wt_val rfl
@[simp ↓] theorem wt_isi {t : Ty} : ((ev T R (.isi a t)).t env p).wp B E = ((ev T R (.isi a t)).v env p).wp (fun x p => oq (derefO x p) fun x => oq (truth x) fun k => B k p) E := wt_val rfl
@[simp ↓] theorem wt_att {f : Str} : ((ev T R (.att a f)).t env p).wp B E = ((ev T R (.att a f)).v env p).wp (fun x p => oq (derefO x p) fun x => oq (truth x) fun k => B k p) E := wt_val rfl
@[simp ↓] theorem wt_idx : ((ev T R (.idx a b)).t env p).wp B E = ((ev T R (.idx a b)).v env p).wp (fun x p => oq (derefO x p) fun x => oq (truth x) fun k => B k p) E := wt_val rfl
@[simp ↓] theorem ws_nil {Q : List D → List D → Prop} : (evs T R .nil env p).wp Q E = Q [] p := rfl
@[simp ↓] theorem ws_cons {e : Ex} {es : Exs} {Q : List D → List D → Prop} : (evs T R (.cons e es) env p).wp Q E = ((ev T R e).v env p).wp (fun x p => (evs T R es env p).wp (fun xs p => Q (x :: xs) p) E) E := by
  simp [evs]
@[simp ↓] theorem wo_none {Q : Option Int → List D → Prop} : (evo T R .none env p).wp Q E = Q none p := rfl
@[simp ↓] theorem wo_some {e : Ex} {Q : Option Int → List D → Prop} : (evo T R (.some e) env p).wp Q E = ((ev T R e).v env p).wp (fun x p => match x with
    | .int i => Q (some i) p
    | _ => False) E := by
  simp only [evo, owp_bind]
  congr 1
  funext x p
  cases x <;> simp
@[simp ↓] theorem wi_seq {e : Ex} {Q : List D → List D → Prop} : (evi T R (.seq e) env p).wp Q E = ((ev T R e).v env p).wp (fun x p => oq x.items fun xs => Q xs p) E := by
  simp [evi, oq]
@[simp ↓] theorem wi_rng {e : Ex} {Q : List D → List D → Prop} : (evi T R (.rng e) env p).wp Q E = ((ev T R e).v env p).wp (fun x p => oq (rngD x) fun xs => Q xs p) E := by
  simp [evi, oq]
@[simp ↓] theorem wv_lc {e : Ex} {v : Nat} {it : It} {k : Oex} : ((ev T R (.lc e v it k)).v env p).wp Q E = (evi T R it env p).wp (fun ds p => (calm (lcL v (evc T R k) (ev T R e).v env ds) p).wp (fun xs p => iq (decide (xs.length ≤ sizeLine)) (Q (.lst xs) p) False) E) E := by
  simp only [ev, Mean.of, owp_bind]
  congr 1
  funext ds p
  congr 1
  funext xs p
  by_cases h : xs.length ≤ sizeLine <;> simp [h]
end
section
variable {T : Tab} {R : Rec} {s : S} {Z : Ctl → S → Prop} {Y : Exc → S → Prop} {a b : St} {e : Ex} {i : Nat}
/-- behind a statement -/
def thenS (T : Tab) (R : Rec) (b : St) (Z : Ctl → S → Prop) (Y : Exc → S → Prop) (c : Ctl) (s : S) : Prop := match c with
  | .nx => (evSt T R b s).wp Z Y
  | c => Z c s
@[simp ↓] theorem thenS_nx : thenS T R b Z Y .nx s = (evSt T R b s).wp Z Y := rfl
@[simp ↓] theorem thenS_ret {d : D} : thenS T R b Z Y (.ret d) s = Z (.ret d) s := rfl
@[simp ↓] theorem thenS_brk : thenS T R b Z Y .brk s = Z .brk s := rfl
@[simp ↓] theorem thenS_ct : thenS T R b Z Y .ct s = Z .ct s := rfl
@[simp ↓] theorem wp_skip : (evSt T R .skip s).wp Z Y = Z .nx s := rfl
@[simp ↓] theorem wp_seq : (evSt T R (.seq a b) s).wp Z Y = (evSt T R a s).wp (thenS T R b Z Y) Y := by
  simp only [evSt, swp_bind]
  congr 1
  funext c s
  cases c <;> simp [thenS]
/-- a value of an expression in a statement: what it may hold is frozen -/
def heldE (is : List Nat) (env : Env) (d : D) : Env := if d.flat then env else frzS is env
@[simp ↓] theorem wp_expr : (evSt T R (.expr e) s).wp Z Y = ((ev T R e).v s.env s.per).wp (fun d p => Z .nx ⟨heldE (esc e) s.env d, p⟩) (fun x p => Y x ⟨frzX x s.env, p⟩) := by
  simp only [evSt, swp_bind, swp_held, swp_ret]
  congr 1
  funext d p
  unfold heldE
  split <;> rfl
def setE (i : Nat) (sl : Slot) (env : Env) : Option Env := if i < env.length then some (env.set i (some sl)) else none
@[simp ↓] theorem wp_set : (evSt T R (.set i e) s).wp Z Y = ((ev T R e).v s.env s.per).wp (fun d p => oq (setE i (.dat d) (heldE (esc e) s.env d)) fun env => Z .nx ⟨env, p⟩) (fun x p => Y x ⟨frzX x s.env, p⟩) := by
  simp only [evSt, swp_bind, swp_held, swp_ret]
  congr 1
  funext d p
  unfold heldE setSlot setE
  split <;> split <;> simp_all
@[simp ↓] theorem wp_own : (evSt T R (.own i e) s).wp Z Y = iq (fresh e) (((ev T R e).v s.env s.per).wp (fun d p => iq d.box (oq (setE i (.own d) (heldE (esc e) s.env d)) fun env => Z .nx ⟨env, p⟩) False) (fun x p => Y x ⟨frzX x s.env, p⟩)) False := by
  simp only [evSt]
  cases h : fresh e with
  | false => simp [M.bad]
  | true =>
    simp only [if_true, swp_bind, swp_held, swp_ret, iq_true]
    congr 1
    funext d p
    cases hb : d.box with
    | false => simp [M.bad]
    | true =>
      simp only [if_true, swp_bind, swp_ret, iq_true]
      unfold heldE setSlot setE
      split <;> split <;> simp_all
@[simp ↓] theorem wp_ret : (evSt T R (.ret e) s).wp Z Y = ((ev T R e).v s.env s.per).wp (fun d p => Z (.ret d) ⟨s.env, p⟩) (fun x p => Y x ⟨frzX x s.env, p⟩) := by
  simp only [evSt, swp_bind, swp_asked, swp_ret]
@[simp ↓] theorem wp_ite : (evSt T R (.ite e a b) s).wp Z Y = ((ev T R e).t s.env s.per).wp (fun k p => iq k ((evSt T R a ⟨s.env, p⟩).wp Z Y) ((evSt T R b ⟨s.env, p⟩).wp Z Y)) (fun x p => Y x ⟨frzX x s.env, p⟩) := by
  simp only [evSt, swp_bind, swp_asked]
  congr 1
  funext k p
  cases k <;> simp
/-- one turn -/
def turn (T : Tab) (R : Rec) (t : Tg) (b : St) (d : D) : M Ctl := M.bind (setTg t d) fun _ => evSt T R b
@[simp ↓] theorem wp_for {t : Tg} {it : It} : (evSt T R (.for_ t it b) s).wp Z Y = (evi T R it s.env s.per).wp (fun ds p => (forL (turn T R t b) ds ⟨frzS (it.slot ++ esci it) s.env, p⟩).wp Z Y) (fun x p => Y x ⟨frzX x s.env, p⟩) := by
  simp only [evSt]
  cases evi T R it s.env s.per <;> rfl
@[simp ↓] theorem turn_name {d : D} : (turn T R (.name i) b d s).wp Z Y = oq (setE i (.dat d) s.env) fun env => (evSt T R b ⟨env, s.per⟩).wp Z Y := by
  simp only [turn, swp_bind, setTg, setSlot, setE]
  split <;> simp
def setAllE : List Nat → List D → Env → Option Env
  | [], [], env => some env
  | i :: is, d :: ds, env => (setE i (.dat d) env).bind (setAllE is ds)
  | _, _, _ => none
theorem setAll_wp {Z : Unit → S → Prop} : ∀ {is : List Nat} {ds : List D} {s : S}, (setAll is ds s).wp Z Y = oq (setAllE is ds s.env) fun env => Z () ⟨env, s.per⟩
  | [], [], s => by simp [setAll, setAllE]
  | [], _ :: _, s => by simp [setAll, setAllE]
  | _ :: _, [], s => by simp [setAll, setAllE]
  | i :: is, d :: ds, s => by
    simp only [setAll, setAllE, swp_bind, setSlot, setE]
    split
    · simp [setAll_wp]
    · simp
@[simp ↓] theorem turn_tup {is : List Nat} {ds : List D} : (turn T R (.tup is) b (.tup ds) s).wp Z Y = oq (setAllE is ds s.env) fun env => (evSt T R b ⟨env, s.per⟩).wp Z Y := by
  simp only [turn, swp_bind, setTg, setAll_wp]
@[simp ↓] theorem wp_raise {c : Nat} {es : Exs} : (evSt T R (.raise c es) s).wp Z Y = (evs T R es s.env s.per).wp (fun xs p => oq (T.cl c) fun cl => iq (decide (xs.length = cl.flds.length)) (Y ⟨c, cl.flds.zip xs⟩ ⟨frzX ⟨c, cl.flds.zip xs⟩ s.env, p⟩) False) (fun x p => Y x ⟨frzX x s.env, p⟩) := by
  simp only [evSt]
  cases evs T R es s.env s.per with
  | ok xs p =>
    simp only [owp_ok]
    cases T.cl c with
    | none => simp
    | some cl => by_cases h : xs.length = cl.flds.length <;> simp [h]
  | exc x p => rfl
  | bad => rfl
/-- a slot's object is changed -/
def chgS {α : Type} (i : Nat) (f : D → Option (α × D)) (s : S) : Option (α × S) := match s.env[i]? with
  | some (some (.own d)) => (f d).map fun q => (q.1, { s with env := s.env.set i (some (.own q.2)) })
  | some (some (.dat (.per k))) => (s.per[k]?).bind fun d => (f d).map fun q => (q.1, { s with per := s.per.set k q.2 })
  | _ => none
theorem chg_wp {α : Type} {i : Nat} {f : D → Option (α × D)} {Z : α → S → Prop} : (chg i f s).wp Z Y = oq (chgS i f s) fun q => Z q.1 q.2 := by
  unfold chg chgS
  generalize s.env[i]? = o
  rcases o with _ | _ | d | d
  · simp
  · simp
  · cases h : f d <;> simp [h]
  · cases d with
    | per k =>
      cases h : s.per[k]? with
      | none => simp [h]
      | some d => cases h2 : f d <;> simp [h, h2]
    | _ => simp
/-- what may be put into a slot's object -/
def fitB (i : Nat) (v : D) (s : S) : Bool := match s.env[i]? with
  | some (some (.own _)) => true
  | _ => v.imm
theorem fitsIn_wp {v : D} {Z : Unit → S → Prop} : (fitsIn i v s).wp Z Y = iq (fitB i v s) (Z () s) False := by
  unfold fitsIn fitB
  generalize s.env[i]? = o
  rcases o with _ | _ | d | d <;> cases h : v.imm <;> simp
def lstB (i : Nat) (s : S) : Bool := match s.env[i]? with
  | some (some (.own (.lst _))) => true
  | some (some (.dat (.per k))) => decide (k < s.per.length)
  | _ => false
theorem lstAt_wp {Z : Unit → S → Prop} : (lstAt i s).wp Z Y = iq (lstB i s) (Z () s) False := by
  unfold lstAt lstB
  generalize s.env[i]? = o
  rcases o with _ | _ | d | d
  · simp
  · simp
  · cases d <;> simp
  · cases d with
    | per k => by_cases h : k < s.per.length <;> simp [h]
    | _ => simp
def boxB (i : Nat) (s : S) : Bool := match s.env[i]? with
  | some (some (.own _)) => true
  | some (some (.dat (.per _))) => true
  | _ => false
theorem boxAt_wp {Z : Unit → S → Prop} : (boxAt i s).wp Z Y = iq (boxB i s) (Z () s) False := by
  unfold boxAt boxB
  generalize s.env[i]? = o
  rcases o with _ | _ | d | d
  · simp
  · simp
  · simp
  · cases d <;> simp
theorem held_eq {is : List Nat} {env : Env} {d : D} {p : List D} : (if d.flat then (⟨env, p⟩ : S) else ⟨frzS is env, p⟩) = ⟨heldE is env d, p⟩ := by
  unfold heldE
  split <;> rfl
@[simp ↓] theorem wp_app : (evSt T R (.app i e) s).wp Z Y = iq (lstB i s) (((ev T R e).v s.env s.per).wp (fun v p => iq (fitB i v ⟨heldE (esc e) s.env v, p⟩) (oq (chgS i (appD v) ⟨heldE (esc e) s.env v, p⟩) fun q => Z .nx q.2) False) (fun x p => Y x ⟨frzX x s.env, p⟩)) False := by
  simp only [evSt, swp_bind, swp_held, swp_ret, lstAt_wp, fitsIn_wp, chg_wp, held_eq]
@[simp ↓] theorem wp_put {k : Ex} : (evSt T R (.put i k e) s).wp Z Y = ((ev T R e).v s.env s.per).wp (fun v p => iq (boxB i ⟨heldE (esc e) s.env v, p⟩) (((ev T R k).v (heldE (esc e) s.env v) p).wp (fun kv p => iq kv.flat (iq (fitB i v ⟨heldE (esc e) s.env v, p⟩) (oq (chgS i (putD kv v) ⟨heldE (esc e) s.env v, p⟩) fun q => Z .nx q.2) False) False) (fun x p => Y x ⟨frzX x (heldE (esc e) s.env v), p⟩)) False) (fun x p => Y x ⟨frzX x s.env, p⟩) := by
  simp only [evSt, swp_bind, swp_held, swp_ret, boxAt_wp, held_eq, swp_asked]
  congr 1
  funext v p
  congr 1
  congr 1
  funext kv p
  cases h : kv.flat <;> simp [fitsIn_wp, chg_wp]
@[simp ↓] theorem wp_popAt {j : Nat} : (evSt T R (.popAt j i e) s).wp Z Y = iq (lstB i s) (((ev T R e).v s.env s.per).wp (fun kv p => iq kv.flat (oq (chgS i (popD kv) ⟨s.env, p⟩) fun q => oq (setE j (.dat q.1) q.2.env) fun env => Z .nx ⟨env, q.2.per⟩) False) (fun x p => Y x ⟨frzX x s.env, p⟩)) False := by
  simp only [evSt, swp_bind, swp_ret, lstAt_wp, swp_asked]
  congr 1
  congr 1
  funext kv p
  cases h : kv.flat
  · simp
  · simp only [chg_wp, swp_bind, swp_ret, Bool.not_true, iq_true]
    show (M.bind _ _ _).wp Z Y = _
    simp only [swp_bind, chg_wp, swp_ret]
    congr 1
    funext q
    unfold setSlot setE
    split <;> simp
@[simp ↓] theorem wp_fld {f : Str} : (evSt T R (.fld i f e) s).wp Z Y = ((ev T R e).v s.env s.per).wp (fun v p => iq (fitB i v ⟨heldE (esc e) s.env v, p⟩) (oq (chgS i (fldD T f v) ⟨heldE (esc e) s.env v, p⟩) fun q => Z .nx q.2) False) (fun x p => Y x ⟨frzX x s.env, p⟩) := by
  simp only [evSt, swp_bind, swp_held, swp_ret, fitsIn_wp, chg_wp, held_eq]
def perOk : D → Bool
  | .lst xs => D.imms xs
  | _ => false
@[simp ↓] theorem wp_rkp : (evSt T R (.rkp e) s).wp Z Y = iq (fresh e) (((ev T R e).v s.env s.per).wp (fun d p => iq (perOk d) (Z (.ret (.per p.length)) ⟨heldE (esc e) s.env d, p ++ [d]⟩) False) (fun x p => Y x ⟨frzX x s.env, p⟩)) False := by
  simp only [evSt]
  cases h : fresh e with
  | false => simp
  | true =>
    simp only [if_true, swp_bind, swp_held, swp_ret, iq_true, held_eq]
    congr 1
    funext d p
    cases d with
    | lst xs => cases hi : D.imms xs <;> simp [addPer, perOk, hi]
    | _ => simp [addPer, perOk]
@[simp ↓] theorem wp_keep : (evSt T R (.keep i e) s).wp Z Y = iq (fresh e) (((ev T R e).v s.env s.per).wp (fun d p => iq (perOk d) (oq (setE i (.dat (.per p.length)) (heldE (esc e) s.env d)) fun env => Z .nx ⟨env, p ++ [d]⟩) False) (fun x p => Y x ⟨frzX x s.env, p⟩)) False := by
  simp only [evSt]
  cases h : fresh e with
  | false => simp
  | true =>
    simp only [if_true, swp_bind, swp_held, swp_ret, iq_true, held_eq]
    congr 1
    funext d p
    cases d with
    | lst xs =>
      cases hi : D.imms xs
      · simp [addPer, perOk, hi]
      · simp only [addPer, perOk, hi, if_true, swp_ok, iq_true]
        unfold setSlot setE
        split <;> simp
    | _ => simp [addPer, perOk]
/-- what a handler's suite sees -/
def handle (T : Tab) (R : Rec) (c i : Nat) (h : St) (Z : Ctl → S → Prop) (Y : Exc → S → Prop) (x : Exc) (s : S) : Prop :=
  oq (T.cl x.c) fun cl => iq (cl.exc && excAt T c) (iq (cl.sups.contains c) (oq (setE i (.dat (.exn x.c x.fs)) s.env) fun env => (evSt T R h ⟨env, s.per⟩).wp (fun r s => iq ((s.env.set i none).any exnSl) False (Z r ⟨s.env.set i none, s.per⟩)) fun _ _ => False) (Y x s)) False
@[simp ↓] theorem wp_try1 {c : Nat} {h : St} : (evSt T R (.try1 b c i h) s).wp Z Y = (evSt T R b s).wp Z (handle T R c i h Z Y) := by
  simp only [evSt]
  cases q : evSt T R b s with
  | ok k s1 => rfl
  | bad => rfl
  | exc x s1 =>
    simp only [swp_exc, handle]
    cases T.cl x.c with
    | none => simp
    | some cl =>
      simp only [oq_some]
      cases h1 : cl.exc && excAt T c with
      | false => simp
      | true =>
        simp only [if_true, iq_true]
        cases h2 : cl.sups.contains c with
        | false => simp
        | true =>
          simp only [if_true, iq_true]
          unfold mild M.bind setSlot setE
          by_cases h3 : i < s1.env.length
          · simp only [h3, if_true, oq_some]
            cases h4 : evSt T R h ⟨s1.env.set i (some (.dat (.exn x.c x.fs))), s1.per⟩ with
            | bad => simp
            | exc y s2 => simp
            | ok r s2 =>
              simp only [swp_ok]
              unfold wipeSlot M.ret
              cases h5 : (s2.env.set i none).any exnSl <;> simp
          · simp [h3]
end
/-! ### by constructors -/
theorem isExn_non  : D.isExn .non = false := rfl
theorem flat_non  : D.flat .non = true := rfl
theorem deref_non  {p : List D} : derefO .non p = some .non := rfl
theorem imm_non  : D.imm .non = true := rfl
theorem box_non  : D.box .non = false := rfl
theorem isExn_bl {b : Bool} : D.isExn (.bl b) = false := rfl
theorem flat_bl {b : Bool} : D.flat (.bl b) = true := rfl
theorem deref_bl {b : Bool} {p : List D} : derefO (.bl b) p = some (.bl b) := rfl
theorem imm_bl {b : Bool} : D.imm (.bl b) = true := rfl
theorem box_bl {b : Bool} : D.box (.bl b) = false := rfl
theorem isExn_int {i : Int} : D.isExn (.int i) = false := rfl
theorem flat_int {i : Int} : D.flat (.int i) = true := rfl
theorem deref_int {i : Int} {p : List D} : derefO (.int i) p = some (.int i) := rfl
theorem imm_int {i : Int} : D.imm (.int i) = true := rfl
theorem box_int {i : Int} : D.box (.int i) = false := rfl
theorem isExn_str {x : Str} : D.isExn (.str x) = false := rfl
theorem flat_str {x : Str} : D.flat (.str x) = true := rfl
theorem deref_str {x : Str} {p : List D} : derefO (.str x) p = some (.str x) := rfl
theorem imm_str {x : Str} : D.imm (.str x) = true := rfl
theorem box_str {x : Str} : D.box (.str x) = false := rfl
theorem isExn_tup {xs : List D} : D.isExn (.tup xs) = false := rfl
theorem flat_tup {xs : List D} : D.flat (.tup xs) = false := rfl
theorem deref_tup {xs : List D} {p : List D} : derefO (.tup xs) p = some (.tup xs) := rfl
theorem box_tup {xs : List D} : D.box (.tup xs) = false := rfl
theorem isExn_lst {xs : List D} : D.isExn (.lst xs) = false := rfl
theorem flat_lst {xs : List D} : D.flat (.lst xs) = false := rfl
theorem deref_lst {xs : List D} {p : List D} : derefO (.lst xs) p = some (.lst xs) := rfl
theorem imm_lst {xs : List D} : D.imm (.lst xs) = false := rfl
theorem box_lst {xs : List D} : D.box (.lst xs) = true := rfl
theorem isExn_dic {kvs : List (D × D)} : D.isExn (.dic kvs) = false := rfl
theorem flat_dic {kvs : List (D × D)} : D.flat (.dic kvs) = false := rfl
theorem deref_dic {kvs : List (D × D)} {p : List D} : derefO (.dic kvs) p = some (.dic kvs) := rfl
theorem imm_dic {kvs : List (D × D)} : D.imm (.dic kvs) = false := rfl
theorem box_dic {kvs : List (D × D)} : D.box (.dic kvs) = true := rfl
theorem isExn_ins {c : Nat} {fs : List (Str × D)} : D.isExn (.ins c fs) = false := rfl
theorem flat_ins {c : Nat} {fs : List (Str × D)} : D.flat (.ins c fs) = false := rfl
theorem deref_ins {c : Nat} {fs : List (Str × D)} {p : List D} : derefO (.ins c fs) p = some (.ins c fs) := rfl
theorem imm_ins {c : Nat} {fs : List (Str × D)} : D.imm (.ins c fs) = false := rfl
theorem box_ins {c : Nat} {fs : List (Str × D)} : D.box (.ins c fs) = false := rfl
theorem isExn_per {k : Nat} : D.isExn (.per k) = false := rfl
theorem flat_per {k : Nat} : D.flat (.per k) = true := rfl
theorem imm_per {k : Nat} : D.imm (.per k) = true := rfl
theorem box_per {k : Nat} : D.box (.per k) = false := rfl
theorem isExn_scr {ns : List Int} : D.isExn (.scr ns) = false := rfl
theorem flat_scr {ns : List Int} : D.flat (.scr ns) = false := rfl
theorem deref_scr {ns : List Int} {p : List D} : derefO (.scr ns) p = some (.scr ns) := rfl
theorem imm_scr {ns : List Int} : D.imm (.scr ns) = false := rfl
theorem box_scr {ns : List Int} : D.box (.scr ns) = false := rfl
theorem deref_per {k : Nat} {p : List D} : derefO (.per k) p = p[k]? := rfl
theorem imm_tup {xs : List D} : D.imm (.tup xs) = D.imms xs := by simp only [D.imm]
theorem imms_nil : D.imms [] = true := by simp only [D.imms]
theorem imms_cons {d : D} {ds : List D} : D.imms (d :: ds) = (d.imm && D.imms ds) := by simp only [D.imms]
theorem sd_own {d : D} : Slot.d (.own d) = d := rfl
theorem sd_dat {d : D} : Slot.d (.dat d) = d := rfl
theorem sfrz_own {d : D} : Slot.frz (some (.own d)) = some (.dat d) := rfl
theorem sfrz_dat {d : D} : Slot.frz (some (.dat d)) = some (.dat d) := rfl
theorem sfrz_none : Slot.frz none = none := rfl
end DL
end
section
set_option Elab.async false
set_option linter.all false
set_option maxRecDepth 100000
set_option maxHeartbeats 2000000
/-! PlTab: what the functions of tables.py compute. -/
namespace DL
open PySem
def SG : Str := "abcdefghijklmnopqrstuvwxyz0123456789"
/-- a valid name's letters -/
def goodCh (c : Nat) : Bool := decide (c ∈ SG.cps.toList)
def vStr (x : Str) : Bool := !(x == ("" : Str)) && decide (x.length ≤ 12) && x.cps.toList.all goodCh
def vName : D → Bool
  | .str x => vStr x
  | _ => false
/-- what isinstance knows -/
def D.known : D → Bool
  | .bl _ | .non | .int _ | .tup _ | .lst _ => true
  | .str x => decide (x.length ≤ sizeLine)
  | _ => false
def xInv (d : D) : Exc := ⟨1, [("name", d)]⟩
def xDup (d : D) : Exc := ⟨2, [("name", d)]⟩
def xUnk (d : D) : Exc := ⟨3, [("name", d)]⟩
def xMany (n : Int) : Exc := ⟨5, [("limit", .int n)]⟩
def cInv : Cl := ⟨"InvalidName", true, 0, [], [], ["name"], [1, 0]⟩
def cDup : Cl := ⟨"DuplicateName", true, 0, [], [], ["name"], [2, 0]⟩
def cUnk : Cl := ⟨"UnknownName", true, 0, [], [], ["name"], [3, 0]⟩
def cMany : Cl := ⟨"TooMany", true, 0, [], [], ["limit"], [5, 0]⟩
theorem isIn_one {x : Str} {c : Nat} : isIn (.str ⟨#[c]⟩) (.str x) = some (decide (c ∈ x.cps.toList)) := by
  simp only [isIn]
  rw [StrLaws.found_one]
theorem check_name_str {T : Tab} {n : Nat} {x : Str} {p : List D} (hf : T.fn 1 = some Fx.check_name) (hc : T.cl 1 = some cInv) (hl : x.length ≤ sizeLine) :
   (lev T (n+1)).call 1 [.str x] p = if vStr x then .ok .non p else .exc (xInv (.str x)) p := by
  have key : ((lev T (n+1)).call 1 [.str x] p).wp (fun d q => d = .non ∧ q = p ∧ vStr x = true) (fun e q => e = xInv (.str x) ∧ q = p ∧ vStr x = false) := by
    refine call_wp hf rfl ?_
    simp [Fx.check_name, entry, slotO, Slot.d, D.isExn, isTy, derefO, cop, eqOk, D.plain, D.depth, fop, D.eqv, truth, hl, hc, cInv, xInv, D.items, frzS, It.slot, esci, escR]
    refine iq_of (fun h => ?_) fun h0 => iq_of (fun h => ?_) fun h1 => ?_
    · simp [vStr, h]
    · have : ¬ x.length ≤ 12 := by
        have := of_decide_eq_true h
        omega
      simp [vStr, this]
    · have h2 : x.length ≤ 12 := by
        have := of_decide_eq_false h1
        omega
      refine forL_wp (fun ds s => s.per = p ∧ (∃ o, s.env = [some (.dat (.str x)), o]) ∧ ∃ cs : List Nat, ds = cs.map (fun c => D.str ⟨#[c]⟩) ∧ vStr x = cs.all goodCh) ?_ _ _ ?_ ?_
      · rintro d ds ⟨env, per⟩ ⟨rfl, ⟨o, rfl⟩, cs, e1, e2⟩
        cases cs with
        | nil => cases e1
        | cons c cs =>
          cases e1
          simp [setE, slotO, Slot.d, D.isExn, derefO, cop, isIn_one]
          refine iq_of (fun h => ?_) fun h => ?_
          · simp at h
            simp [hc, cInv]
            rw [e2]
            simp [goodCh, SG, h]
          · simp at h
            refine ⟨cs, rfl, ?_⟩
            rw [e2]
            simp [goodCh, SG, h]
      · refine ⟨rfl, ⟨_, rfl⟩, x.cps.toList, by simp [chars], ?_⟩
        simp [vStr, h0, h2]
      · rintro ⟨env, per⟩ ⟨rfl, _, cs, e1, e2⟩
        have : cs = [] := by
          cases cs with
          | nil => rfl
          | cons => cases e1
        subst this
        simp [e2]
  cases h : (lev T (n+1)).call 1 [.str x] p with
  | ok a q => rw [h] at key; obtain ⟨rfl, rfl, e⟩ := key; simp [e]
  | exc a q => rw [h] at key; obtain ⟨rfl, rfl, e⟩ := key; simp [e]
  | bad => rw [h] at key; exact key.elim
/-- the program's functions and classes that the tables need -/
structure HasTab (T : Tab) : Prop where
  f1 : T.fn 1 = some Fx.check_name
  f2 : T.fn 2 = some Fx.check_new
  f3 : T.fn 3 = some Fx.check_known
  f4 : T.fn 4 = some Fx.checked_names
  f8 : T.fn 8 = some Fx.Table___init__
  c1 : T.cl 1 = some cInv
  c2 : T.cl 2 = some cDup
  c3 : T.cl 3 = some cUnk
  c5 : T.cl 5 = some cMany
section
variable {T : Tab} {n : Nat} {x : Str} {p : List D} {Q : D → List D → Prop} {E : Exc → List D → Prop}
theorem check_name_wp (h : HasTab T) (hl : x.length ≤ sizeLine) (h1 : vStr x = true → Q .non p) (h2 : vStr x = false → E (xInv (.str x)) p) : ((lev T (n+1)).call 1 [.str x] p).wp Q E := by
  rw [check_name_str h.f1 h.c1 hl]
  cases hv : vStr x
  · exact h2 hv
  · exact h1 hv
theorem check_new_wp (h : HasTab T) (hl : x.length ≤ sizeLine) {tk tk' : D} {k : Bool} (hx : tk.isExn = false) (hd : derefO tk p = some tk') (hi : isIn (.str x) tk' = some k) (h1 : vStr x = true → k = false → Q .non p) (h2 : vStr x = true → k = true → E (xDup (.str x)) p) (h3 : vStr x = false → E (xInv (.str x)) p) : ((lev T (n+2)).call 2 [.str x, tk] p).wp Q E := by
  refine call_wp h.f2 rfl ?_
  have e0 : slotO [some (.dat (.str x)), some (.dat tk)] 1 = some tk := by simp [slotO, Slot.d, hx]
  have e1 : slotO [some (.dat (.str x)), some (.dat tk)] 0 = some (.str x) := rfl
  have e2 : derefO (.str x) p = some (.str x) := rfl
  have e3 : cop .inn (.str x) tk' = some k := hi
  simp only [Fx.check_new, ↓owp_ok, ↓owp_exc, ↓owp_bad, ↓swp_ok, ↓swp_exc, ↓swp_bad, ↓owp_ret, ↓owp_pbad, ↓swp_ret, ↓oq_some, ↓oq_none, ↓iq_true, ↓iq_false, ↓oq_map, ↓oq_bind, ↓wv_var, ↓wv_non, ↓wv_bl, ↓wv_int, ↓wv_str, ↓wv_glo, ↓wv_dct, ↓wv_bin, ↓wv_neg, ↓wv_not, ↓wt_not, ↓wv_cmp, ↓wt_cmp, ↓wv_and, ↓wt_and, ↓wv_or, ↓wt_or, ↓wv_ite, ↓wv_tup, ↓wv_lst, ↓wv_idx, ↓wv_slc, ↓wv_att, ↓wv_call, ↓wv_new, ↓wv_meth, ↓wv_fn1, ↓wv_isi, ↓wv_xat, ↓wt_var, ↓wt_bl, ↓wt_call, ↓wt_meth, ↓wt_isi, ↓wt_att, ↓wt_idx, ↓ws_nil, ↓ws_cons, ↓wo_none, ↓wo_some, ↓wi_seq, ↓wi_rng, ↓wv_lc, ↓thenS_nx, ↓thenS_ret, ↓thenS_brk, ↓thenS_ct, ↓wp_skip, ↓wp_seq, ↓wp_expr, ↓wp_set, ↓wp_own, ↓wp_ret, ↓wp_ite, ↓wp_for, ↓turn_name, ↓turn_tup, ↓wp_raise, ↓wp_app, ↓wp_put, ↓wp_popAt, ↓wp_fld, ↓wp_rkp, ↓wp_keep, ↓wp_try1, entry, List.map_cons, List.map_nil, List.length_cons, List.length_nil, List.replicate, Nat.reduceAdd, Nat.reduceSub, List.append_nil, e0, e1]
  refine check_name_wp h hl (fun hv => ?_) fun hv => ?_
  · simp only [↓owp_ok, ↓owp_exc, ↓owp_bad, ↓swp_ok, ↓swp_exc, ↓swp_bad, ↓owp_ret, ↓owp_pbad, ↓swp_ret, ↓oq_some, ↓oq_none, ↓iq_true, ↓iq_false, ↓oq_map, ↓oq_bind, ↓wv_var, ↓wv_non, ↓wv_bl, ↓wv_int, ↓wv_str, ↓wv_glo, ↓wv_dct, ↓wv_bin, ↓wv_neg, ↓wv_not, ↓wt_not, ↓wv_cmp, ↓wt_cmp, ↓wv_and, ↓wt_and, ↓wv_or, ↓wt_or, ↓wv_ite, ↓wv_tup, ↓wv_lst, ↓wv_idx, ↓wv_slc, ↓wv_att, ↓wv_call, ↓wv_new, ↓wv_meth, ↓wv_fn1, ↓wv_isi, ↓wv_xat, ↓wt_var, ↓wt_bl, ↓wt_call, ↓wt_meth, ↓wt_isi, ↓wt_att, ↓wt_idx, ↓ws_nil, ↓ws_cons, ↓wo_none, ↓wo_some, ↓wi_seq, ↓wi_rng, ↓wv_lc, ↓thenS_nx, ↓thenS_ret, ↓thenS_brk, ↓thenS_ct, ↓wp_skip, ↓wp_seq, ↓wp_expr, ↓wp_set, ↓wp_own, ↓wp_ret, ↓wp_ite, ↓wp_for, ↓turn_name, ↓turn_tup, ↓wp_raise, ↓wp_app, ↓wp_put, ↓wp_popAt, ↓wp_fld, ↓wp_rkp, ↓wp_keep, ↓wp_try1, heldE, D.flat, if_true, e0, e1, e2, hd, e3]
    refine iq_of (fun hk => ?_) fun hk => ?_
    · simp only [↓owp_ok, ↓owp_exc, ↓owp_bad, ↓swp_ok, ↓swp_exc, ↓swp_bad, ↓owp_ret, ↓owp_pbad, ↓swp_ret, ↓oq_some, ↓oq_none, ↓iq_true, ↓iq_false, ↓oq_map, ↓oq_bind, ↓wv_var, ↓wv_non, ↓wv_bl, ↓wv_int, ↓wv_str, ↓wv_glo, ↓wv_dct, ↓wv_bin, ↓wv_neg, ↓wv_not, ↓wt_not, ↓wv_cmp, ↓wt_cmp, ↓wv_and, ↓wt_and, ↓wv_or, ↓wt_or, ↓wv_ite, ↓wv_tup, ↓wv_lst, ↓wv_idx, ↓wv_slc, ↓wv_att, ↓wv_call, ↓wv_new, ↓wv_meth, ↓wv_fn1, ↓wv_isi, ↓wv_xat, ↓wt_var, ↓wt_bl, ↓wt_call, ↓wt_meth, ↓wt_isi, ↓wt_att, ↓wt_idx, ↓ws_nil, ↓ws_cons, ↓wo_none, ↓wo_some, ↓wi_seq, ↓wi_rng, ↓wv_lc, ↓thenS_nx, ↓thenS_ret, ↓thenS_brk, ↓thenS_ct, ↓wp_skip, ↓wp_seq, ↓wp_expr, ↓wp_set, ↓wp_own, ↓wp_ret, ↓wp_ite, ↓wp_for, ↓turn_name, ↓turn_tup, ↓wp_raise, ↓wp_app, ↓wp_put, ↓wp_popAt, ↓wp_fld, ↓wp_rkp, ↓wp_keep, ↓wp_try1, h.c2, cDup, List.length_cons, List.length_nil, decide_true]
      exact h2 hv hk
    · exact h1 hv hk
  · exact h3 hv
theorem check_known_wp (h : HasTab T) {d kn : D} {k : Bool} (hx : d.isExn = false) (hx2 : kn.isExn = false) (hd : derefO d p = some d) (hd2 : derefO kn p = some kn) (hi : isIn d kn = some k) (h1 : k = true → Q .non p) (h2 : k = false → E (xUnk d) p) : ((lev T (n+1)).call 3 [d, kn] p).wp Q E := by
  refine call_wp h.f3 rfl ?_
  have e0 : slotO [some (.dat d), some (.dat kn)] 0 = some d := by simp [slotO, Slot.d, hx]
  have e1 : slotO [some (.dat d), some (.dat kn)] 1 = some kn := by simp [slotO, Slot.d, hx2]
  have e3 : cop .notIn d kn = some (!k) := by simp [cop, hi]
  simp only [Fx.check_known, ↓owp_ok, ↓owp_exc, ↓owp_bad, ↓swp_ok, ↓swp_exc, ↓swp_bad, ↓owp_ret, ↓owp_pbad, ↓swp_ret, ↓oq_some, ↓oq_none, ↓iq_true, ↓iq_false, ↓oq_map, ↓oq_bind, ↓wv_var, ↓wv_non, ↓wv_bl, ↓wv_int, ↓wv_str, ↓wv_glo, ↓wv_dct, ↓wv_bin, ↓wv_neg, ↓wv_not, ↓wt_not, ↓wv_cmp, ↓wt_cmp, ↓wv_and, ↓wt_and, ↓wv_or, ↓wt_or, ↓wv_ite, ↓wv_tup, ↓wv_lst, ↓wv_idx, ↓wv_slc, ↓wv_att, ↓wv_call, ↓wv_new, ↓wv_meth, ↓wv_fn1, ↓wv_isi, ↓wv_xat, ↓wt_var, ↓wt_bl, ↓wt_call, ↓wt_meth, ↓wt_isi, ↓wt_att, ↓wt_idx, ↓ws_nil, ↓ws_cons, ↓wo_none, ↓wo_some, ↓wi_seq, ↓wi_rng, ↓wv_lc, ↓thenS_nx, ↓thenS_ret, ↓thenS_brk, ↓thenS_ct, ↓wp_skip, ↓wp_seq, ↓wp_expr, ↓wp_set, ↓wp_own, ↓wp_ret, ↓wp_ite, ↓wp_for, ↓turn_name, ↓turn_tup, ↓wp_raise, ↓wp_app, ↓wp_put, ↓wp_popAt, ↓wp_fld, ↓wp_rkp, ↓wp_keep, ↓wp_try1, entry, List.map_cons, List.map_nil, List.length_cons, List.length_nil, List.replicate, Nat.reduceAdd, Nat.reduceSub, List.append_nil, e0, e1, hd, hd2, e3]
  refine iq_of (fun hk => ?_) fun hk => ?_
  · simp only [↓owp_ok, ↓owp_exc, ↓owp_bad, ↓swp_ok, ↓swp_exc, ↓swp_bad, ↓owp_ret, ↓owp_pbad, ↓swp_ret, ↓oq_some, ↓oq_none, ↓iq_true, ↓iq_false, ↓oq_map, ↓oq_bind, ↓wv_var, ↓wv_non, ↓wv_bl, ↓wv_int, ↓wv_str, ↓wv_glo, ↓wv_dct, ↓wv_bin, ↓wv_neg, ↓wv_not, ↓wt_not, ↓wv_cmp, ↓wt_cmp, ↓wv_and, ↓wt_and, ↓wv_or, ↓wt_or, ↓wv_ite, ↓wv_tup, ↓wv_lst, ↓wv_idx, ↓wv_slc, ↓wv_att, ↓wv_call, ↓wv_new, ↓wv_meth, ↓wv_fn1, ↓wv_isi, ↓wv_xat, ↓wt_var, ↓wt_bl, ↓wt_call, ↓wt_meth, ↓wt_isi, ↓wt_att, ↓wt_idx, ↓ws_nil, ↓ws_cons, ↓wo_none, ↓wo_some, ↓wi_seq, ↓wi_rng, ↓wv_lc, ↓thenS_nx, ↓thenS_ret, ↓thenS_brk, ↓thenS_ct, ↓wp_skip, ↓wp_seq, ↓wp_expr, ↓wp_set, ↓wp_own, ↓wp_ret, ↓wp_ite, ↓wp_for, ↓turn_name, ↓turn_tup, ↓wp_raise, ↓wp_app, ↓wp_put, ↓wp_popAt, ↓wp_fld, ↓wp_rkp, ↓wp_keep, ↓wp_try1, h.c3, cUnk, List.length_cons, List.length_nil, decide_true, e0]
    exact h2 (by simpa using hk)
  · exact h1 (by simpa using hk)
/-- a name among texts -/
theorem isIn_strs {l : List Str} (hl : l.length ≤ 1000) : isIn (.str x) (.lst (l.map .str)) = some (decide (x ∈ l)) := by
  have h1 : D.plains (l.map .str) = true := by
    induction l with
    | nil => rfl
    | cons a l ih => exact ih (by simp at hl; omega)
  have h2 : D.depths (l.map .str) ≤ 60 := by
    have : D.depths (l.map .str) = 0 := by
      clear hl h1
      induction l with
      | nil => rfl
      | cons a l ih => simp [D.depths, D.depth, ih]
    omega
  have h3 : (l.map D.str).any (fun y => D.eqv y (.str x)) = decide (x ∈ l) := by
    clear hl h1 h2
    induction l with
    | nil => rfl
    | cons a l ih =>
      simp only [List.map_cons, List.any_cons, ih, D.eqv]
      by_cases e : a = x
      · subst e; simp
      · have e' : ¬ x = a := fun h => e h.symm
        have b : (a == x) = false := by simpa using e
        simp [b, e']
  simp [isIn, D.plain, h1, h2, h3]
theorem isIn_tstrs {l : List Str} (hl : l.length ≤ 1000) : isIn (.str x) (.tup (l.map .str)) = some (decide (x ∈ l)) := isIn_strs hl
theorem lcL_filter {v : Nat} {c : Env → P Bool} {e : Env → P D} {env : Env} {f : D → D} {k : D → Bool} : ∀ {ds : List D}, (∀ d ∈ ds, c (env.set v (some (.dat d))) p = .ok (k d) p ∧ (k d = true → e (env.set v (some (.dat d))) p = .ok (f d) p)) → lcL v c e env ds p = .ok ((ds.filter k).map f) p
  | [], _ => rfl
  | d :: ds, h => by
    obtain ⟨h1, h2⟩ := h d (by simp)
    unfold lcL
    cases hk : k d with
    | false =>
      simp only [P.bind, h1, hk, Bool.false_eq_true, if_false, lcL_filter fun d hd => h d (List.mem_cons_of_mem _ hd), List.filter_cons]
    | true =>
      simp only [P.bind, h1, hk, h2 hk, if_true, lcL_filter fun d hd => h d (List.mem_cons_of_mem _ hd), P.ret, List.map_cons, List.filter_cons]
/-! ### names -/
def namesBad (taken : List Str) : List Str → Option Exc
  | [] => none
  | x :: r => if vStr x then (if x ∈ taken then some (xDup (.str x)) else namesBad (taken ++ [x]) r) else some (xInv (.str x))
/-- short texts, few of them -/
def okStr (x : Str) : Prop := x.length ≤ sizeLine
theorem checked_names_wp (h : HasTab T) {d : D} {l : List Str} (hx : d.isExn = false) (hd : derefO d p = some d) (hi : d.items = some (l.map .str)) (hlen : fop .len d = some (.int l.length)) (hs : ∀ x ∈ l, okStr x)
    (h0 : 24 < l.length → E (xMany 24) p) (h1 : ∀ e, l.length ≤ 24 → namesBad [] l = some e → E e p) (h2 : l.length ≤ 24 → namesBad [] l = none → Q (.tup (l.map .str)) p) : ((lev T (n+3)).call 4 [d] p).wp Q E := by
  refine call_wp h.f4 rfl ?_
  have e0 : ∀ a b, slotO [some (.dat d), a, b] 0 = some d := fun a b => by simp [slotO, Slot.d, hx]
  have g1 : cop .gt (.int l.length) (.int 24) = some (decide ((24 : Int) < l.length)) := rfl
  have eE : entry 3 [some (Slot.dat d)] = [some (.dat d), none, none] := rfl
  have d24 : derefO (.int 24) p = some (.int 24) := rfl
  have dl : derefO (.int l.length) p = some (.int l.length) := rfl
  simp only [Fx.checked_names, ↓owp_ok, ↓owp_exc, ↓owp_bad, ↓swp_ok, ↓swp_exc, ↓swp_bad, ↓owp_ret, ↓owp_pbad, ↓swp_ret, ↓oq_some, ↓oq_none, ↓iq_true, ↓iq_false, ↓oq_map, ↓oq_bind, ↓wv_var, ↓wv_non, ↓wv_bl, ↓wv_int, ↓wv_str, ↓wv_glo, ↓wv_dct, ↓wv_bin, ↓wv_neg, ↓wv_not, ↓wt_not, ↓wv_cmp, ↓wt_cmp, ↓wv_and, ↓wt_and, ↓wv_or, ↓wt_or, ↓wv_ite, ↓wv_tup, ↓wv_lst, ↓wv_idx, ↓wv_slc, ↓wv_att, ↓wv_call, ↓wv_new, ↓wv_meth, ↓wv_fn1, ↓wv_isi, ↓wv_xat, ↓wt_var, ↓wt_bl, ↓wt_call, ↓wt_meth, ↓wt_isi, ↓wt_att, ↓wt_idx, ↓ws_nil, ↓ws_cons, ↓wo_none, ↓wo_some, ↓wi_seq, ↓wi_rng, ↓wv_lc, ↓thenS_nx, ↓thenS_ret, ↓thenS_brk, ↓thenS_ct, ↓wp_skip, ↓wp_seq, ↓wp_expr, ↓wp_set, ↓wp_own, ↓wp_ret, ↓wp_ite, ↓wp_for, ↓turn_name, ↓turn_tup, ↓wp_raise, ↓wp_app, ↓wp_put, ↓wp_popAt, ↓wp_fld, ↓wp_rkp, ↓wp_keep, ↓wp_try1, List.map_cons, List.map_nil, eE, e0, hd, hlen, g1, d24, dl]
  refine iq_of (fun hk => ?_) fun hk => ?_
  · simp only [↓owp_ok, ↓owp_exc, ↓owp_bad, ↓swp_ok, ↓swp_exc, ↓swp_bad, ↓owp_ret, ↓owp_pbad, ↓swp_ret, ↓oq_some, ↓oq_none, ↓iq_true, ↓iq_false, ↓oq_map, ↓oq_bind, ↓wv_var, ↓wv_non, ↓wv_bl, ↓wv_int, ↓wv_str, ↓wv_glo, ↓wv_dct, ↓wv_bin, ↓wv_neg, ↓wv_not, ↓wt_not, ↓wv_cmp, ↓wt_cmp, ↓wv_and, ↓wt_and, ↓wv_or, ↓wt_or, ↓wv_ite, ↓wv_tup, ↓wv_lst, ↓wv_idx, ↓wv_slc, ↓wv_att, ↓wv_call, ↓wv_new, ↓wv_meth, ↓wv_fn1, ↓wv_isi, ↓wv_xat, ↓wt_var, ↓wt_bl, ↓wt_call, ↓wt_meth, ↓wt_isi, ↓wt_att, ↓wt_idx, ↓ws_nil, ↓ws_cons, ↓wo_none, ↓wo_some, ↓wi_seq, ↓wi_rng, ↓wv_lc, ↓thenS_nx, ↓thenS_ret, ↓thenS_brk, ↓thenS_ct, ↓wp_skip, ↓wp_seq, ↓wp_expr, ↓wp_set, ↓wp_own, ↓wp_ret, ↓wp_ite, ↓wp_for, ↓turn_name, ↓turn_tup, ↓wp_raise, ↓wp_app, ↓wp_put, ↓wp_popAt, ↓wp_fld, ↓wp_rkp, ↓wp_keep, ↓wp_try1, h.c5, cMany, List.length_cons, List.length_nil, decide_true]
    exact h0 (by have := of_decide_eq_true hk; omega)
  · have hle : l.length ≤ 24 := by have := of_decide_eq_false hk; omega
    have s0 : decide (0 ≤ sizeLine) = true := by decide
    simp only [↓owp_ok, ↓owp_exc, ↓owp_bad, ↓swp_ok, ↓swp_exc, ↓swp_bad, ↓owp_ret, ↓owp_pbad, ↓swp_ret, ↓oq_some, ↓oq_none, ↓iq_true, ↓iq_false, ↓oq_map, ↓oq_bind, ↓wv_var, ↓wv_non, ↓wv_bl, ↓wv_int, ↓wv_str, ↓wv_glo, ↓wv_dct, ↓wv_bin, ↓wv_neg, ↓wv_not, ↓wt_not, ↓wv_cmp, ↓wt_cmp, ↓wv_and, ↓wt_and, ↓wv_or, ↓wt_or, ↓wv_ite, ↓wv_tup, ↓wv_lst, ↓wv_idx, ↓wv_slc, ↓wv_att, ↓wv_call, ↓wv_new, ↓wv_meth, ↓wv_fn1, ↓wv_isi, ↓wv_xat, ↓wt_var, ↓wt_bl, ↓wt_call, ↓wt_meth, ↓wt_isi, ↓wt_att, ↓wt_idx, ↓ws_nil, ↓ws_cons, ↓wo_none, ↓wo_some, ↓wi_seq, ↓wi_rng, ↓wv_lc, ↓thenS_nx, ↓thenS_ret, ↓thenS_brk, ↓thenS_ct, ↓wp_skip, ↓wp_seq, ↓wp_expr, ↓wp_set, ↓wp_own, ↓wp_ret, ↓wp_ite, ↓wp_for, ↓turn_name, ↓turn_tup, ↓wp_raise, ↓wp_app, ↓wp_put, ↓wp_popAt, ↓wp_fld, ↓wp_rkp, ↓wp_keep, ↓wp_try1, List.length_nil, s0, fresh, D.box, heldE, D.flat, esc, escs, frzS, setE, List.length_cons, Nat.reduceAdd, Nat.reduceLT, if_true, Bool.false_eq_true, if_false, List.set_cons_succ, List.set_cons_zero, e0, hi, It.slot, esci, escR, List.append_nil, List.modify_zero_cons, Slot.frz]
    refine forL_wp (fun ds s => ∃ (tk r : List Str) (o : Option Slot), s = ⟨[some (.dat d), some (.own (.lst (tk.map .str))), o], p⟩ ∧ ds = r.map .str ∧ tk ++ r = l ∧ namesBad [] l = namesBad tk r) ?_ _ _ ⟨[], l, none, rfl, rfl, rfl, rfl⟩ ?_
    · rintro d1 ds s ⟨tk, r, o, rfl, e1, e2, e3⟩
      cases r with
      | nil => cases e1
      | cons x r =>
        cases e1
        have hxs : okStr x := hs x (by rw [← e2]; simp)
        have htk : tk.length ≤ 1000 := by have := congrArg List.length e2; simp at this; omega
        simp only [↓owp_ok, ↓owp_exc, ↓owp_bad, ↓swp_ok, ↓swp_exc, ↓swp_bad, ↓owp_ret, ↓owp_pbad, ↓swp_ret, ↓oq_some, ↓oq_none, ↓iq_true, ↓iq_false, ↓oq_map, ↓oq_bind, ↓wv_var, ↓wv_non, ↓wv_bl, ↓wv_int, ↓wv_str, ↓wv_glo, ↓wv_dct, ↓wv_bin, ↓wv_neg, ↓wv_not, ↓wt_not, ↓wv_cmp, ↓wt_cmp, ↓wv_and, ↓wt_and, ↓wv_or, ↓wt_or, ↓wv_ite, ↓wv_tup, ↓wv_lst, ↓wv_idx, ↓wv_slc, ↓wv_att, ↓wv_call, ↓wv_new, ↓wv_meth, ↓wv_fn1, ↓wv_isi, ↓wv_xat, ↓wt_var, ↓wt_bl, ↓wt_call, ↓wt_meth, ↓wt_isi, ↓wt_att, ↓wt_idx, ↓ws_nil, ↓ws_cons, ↓wo_none, ↓wo_some, ↓wi_seq, ↓wi_rng, ↓wv_lc, ↓thenS_nx, ↓thenS_ret, ↓thenS_brk, ↓thenS_ct, ↓wp_skip, ↓wp_seq, ↓wp_expr, ↓wp_set, ↓wp_own, ↓wp_ret, ↓wp_ite, ↓wp_for, ↓turn_name, ↓turn_tup, ↓wp_raise, ↓wp_app, ↓wp_put, ↓wp_popAt, ↓wp_fld, ↓wp_rkp, ↓wp_keep, ↓wp_try1, isExn_non, flat_non, deref_non, imm_non, box_non, isExn_bl, flat_bl, deref_bl, imm_bl, box_bl, isExn_int, flat_int, deref_int, imm_int, box_int, isExn_str, flat_str, deref_str, imm_str, box_str, isExn_tup, flat_tup, deref_tup, box_tup, isExn_lst, flat_lst, deref_lst, imm_lst, box_lst, isExn_dic, flat_dic, deref_dic, imm_dic, box_dic, isExn_ins, flat_ins, deref_ins, imm_ins, box_ins, isExn_per, flat_per, imm_per, box_per, isExn_scr, flat_scr, deref_scr, imm_scr, box_scr, deref_per, imm_tup, imms_nil, imms_cons, sd_own, sd_dat, sfrz_own, sfrz_dat, sfrz_none, entry, slotO, setE, heldE, boxB, fitB, lstB, chgS, fresh, esc, escs, escR, esci, It.slot, frzS, perOk, List.getElem?_cons_zero, List.getElem?_cons_succ, List.set_cons_zero, List.set_cons_succ, List.length_cons, List.length_nil, List.map_cons, List.map_nil, List.replicate, List.append_eq, List.cons_append, List.nil_append, List.length_map, List.length_replicate, Option.map_some, Option.bind_some, if_true, if_false, ite_true, ite_false, reduceIte, Bool.not_true, Bool.not_false, Bool.false_eq_true, decide_true, decide_false, Nat.reduceAdd, Nat.reduceLT, Nat.reduceLeDiff, Nat.reduceSub, Nat.reduceEqDiff, Nat.add_one_sub_one, List.modify_zero_cons, List.modify_succ_cons]
        refine check_new_wp h hxs rfl rfl (isIn_strs htk) (fun hv hk => ?_) (fun hv hk => ?_) fun hv => ?_
        · have hsz : tk.length < sizeLine := by
            have : (16777216 : Nat) = sizeLine := by decide
            omega
          simp only [↓owp_ok, ↓owp_exc, ↓owp_bad, ↓swp_ok, ↓swp_exc, ↓swp_bad, ↓owp_ret, ↓owp_pbad, ↓swp_ret, ↓oq_some, ↓oq_none, ↓iq_true, ↓iq_false, ↓oq_map, ↓oq_bind, ↓wv_var, ↓wv_non, ↓wv_bl, ↓wv_int, ↓wv_str, ↓wv_glo, ↓wv_dct, ↓wv_bin, ↓wv_neg, ↓wv_not, ↓wt_not, ↓wv_cmp, ↓wt_cmp, ↓wv_and, ↓wt_and, ↓wv_or, ↓wt_or, ↓wv_ite, ↓wv_tup, ↓wv_lst, ↓wv_idx, ↓wv_slc, ↓wv_att, ↓wv_call, ↓wv_new, ↓wv_meth, ↓wv_fn1, ↓wv_isi, ↓wv_xat, ↓wt_var, ↓wt_bl, ↓wt_call, ↓wt_meth, ↓wt_isi, ↓wt_att, ↓wt_idx, ↓ws_nil, ↓ws_cons, ↓wo_none, ↓wo_some, ↓wi_seq, ↓wi_rng, ↓wv_lc, ↓thenS_nx, ↓thenS_ret, ↓thenS_brk, ↓thenS_ct, ↓wp_skip, ↓wp_seq, ↓wp_expr, ↓wp_set, ↓wp_own, ↓wp_ret, ↓wp_ite, ↓wp_for, ↓turn_name, ↓turn_tup, ↓wp_raise, ↓wp_app, ↓wp_put, ↓wp_popAt, ↓wp_fld, ↓wp_rkp, ↓wp_keep, ↓wp_try1, isExn_non, flat_non, deref_non, imm_non, box_non, isExn_bl, flat_bl, deref_bl, imm_bl, box_bl, isExn_int, flat_int, deref_int, imm_int, box_int, isExn_str, flat_str, deref_str, imm_str, box_str, isExn_tup, flat_tup, deref_tup, box_tup, isExn_lst, flat_lst, deref_lst, imm_lst, box_lst, isExn_dic, flat_dic, deref_dic, imm_dic, box_dic, isExn_ins, flat_ins, deref_ins, imm_ins, box_ins, isExn_per, flat_per, imm_per, box_per, isExn_scr, flat_scr, deref_scr, imm_scr, box_scr, deref_per, imm_tup, imms_nil, imms_cons, sd_own, sd_dat, sfrz_own, sfrz_dat, sfrz_none, entry, slotO, setE, heldE, boxB, fitB, lstB, chgS, fresh, esc, escs, escR, esci, It.slot, frzS, perOk, List.getElem?_cons_zero, List.getElem?_cons_succ, List.set_cons_zero, List.set_cons_succ, List.length_cons, List.length_nil, List.map_cons, List.map_nil, List.replicate, List.append_eq, List.cons_append, List.nil_append, List.length_map, List.length_replicate, Option.map_some, Option.bind_some, if_true, if_false, ite_true, ite_false, reduceIte, Bool.not_true, Bool.not_false, Bool.false_eq_true, decide_true, decide_false, Nat.reduceAdd, Nat.reduceLT, Nat.reduceLeDiff, Nat.reduceSub, Nat.reduceEqDiff, Nat.add_one_sub_one, List.modify_zero_cons, List.modify_succ_cons, appD, hsz]
          have hk2 : ¬ x ∈ tk := of_decide_eq_false hk
          refine ⟨tk ++ [x], r, _, by rw [List.map_append]; rfl, rfl, by rw [← e2]; simp, ?_⟩
          rw [e3]
          simp [namesBad, hv, hk2]
        · have hk2 : x ∈ tk := of_decide_eq_true hk
          exact h1 _ hle (by rw [e3]; simp [namesBad, hv, hk2])
        · exact h1 _ hle (by rw [e3]; simp [namesBad, hv])
    · rintro s ⟨tk, r, o, rfl, e1, e2, e3⟩
      cases r with
      | cons x r => cases e1
      | nil =>
        have e4 : tk = l := by rw [← e2]; simp
        subst e4
        simp only [↓owp_ok, ↓owp_exc, ↓owp_bad, ↓swp_ok, ↓swp_exc, ↓swp_bad, ↓owp_ret, ↓owp_pbad, ↓swp_ret, ↓oq_some, ↓oq_none, ↓iq_true, ↓iq_false, ↓oq_map, ↓oq_bind, ↓wv_var, ↓wv_non, ↓wv_bl, ↓wv_int, ↓wv_str, ↓wv_glo, ↓wv_dct, ↓wv_bin, ↓wv_neg, ↓wv_not, ↓wt_not, ↓wv_cmp, ↓wt_cmp, ↓wv_and, ↓wt_and, ↓wv_or, ↓wt_or, ↓wv_ite, ↓wv_tup, ↓wv_lst, ↓wv_idx, ↓wv_slc, ↓wv_att, ↓wv_call, ↓wv_new, ↓wv_meth, ↓wv_fn1, ↓wv_isi, ↓wv_xat, ↓wt_var, ↓wt_bl, ↓wt_call, ↓wt_meth, ↓wt_isi, ↓wt_att, ↓wt_idx, ↓ws_nil, ↓ws_cons, ↓wo_none, ↓wo_some, ↓wi_seq, ↓wi_rng, ↓wv_lc, ↓thenS_nx, ↓thenS_ret, ↓thenS_brk, ↓thenS_ct, ↓wp_skip, ↓wp_seq, ↓wp_expr, ↓wp_set, ↓wp_own, ↓wp_ret, ↓wp_ite, ↓wp_for, ↓turn_name, ↓turn_tup, ↓wp_raise, ↓wp_app, ↓wp_put, ↓wp_popAt, ↓wp_fld, ↓wp_rkp, ↓wp_keep, ↓wp_try1, isExn_non, flat_non, deref_non, imm_non, box_non, isExn_bl, flat_bl, deref_bl, imm_bl, box_bl, isExn_int, flat_int, deref_int, imm_int, box_int, isExn_str, flat_str, deref_str, imm_str, box_str, isExn_tup, flat_tup, deref_tup, box_tup, isExn_lst, flat_lst, deref_lst, imm_lst, box_lst, isExn_dic, flat_dic, deref_dic, imm_dic, box_dic, isExn_ins, flat_ins, deref_ins, imm_ins, box_ins, isExn_per, flat_per, imm_per, box_per, isExn_scr, flat_scr, deref_scr, imm_scr, box_scr, deref_per, imm_tup, imms_nil, imms_cons, sd_own, sd_dat, sfrz_own, sfrz_dat, sfrz_none, entry, slotO, setE, heldE, boxB, fitB, lstB, chgS, fresh, esc, escs, escR, esci, It.slot, frzS, perOk, List.getElem?_cons_zero, List.getElem?_cons_succ, List.set_cons_zero, List.set_cons_succ, List.length_cons, List.length_nil, List.map_cons, List.map_nil, List.replicate, List.append_eq, List.cons_append, List.nil_append, List.length_map, List.length_replicate, Option.map_some, Option.bind_some, if_true, if_false, ite_true, ite_false, reduceIte, Bool.not_true, Bool.not_false, Bool.false_eq_true, decide_true, decide_false, Nat.reduceAdd, Nat.reduceLT, Nat.reduceLeDiff, Nat.reduceSub, Nat.reduceEqDiff, Nat.add_one_sub_one, List.modify_zero_cons, List.modify_succ_cons, fop]
        exact h2 hle (by rw [e3]; rfl)
/-! ### rows -/
def glBad (lamps : List Str) (taken : List Str) : List Str → Option Exc
  | [] => none
  | x :: r => if x ∈ lamps then (if vStr x then (if x ∈ taken then some (xDup (.str x)) else glBad lamps (taken ++ [x]) r) else some (xInv (.str x))) else some (xUnk (.str x))
def rowsBad (lamps : List Str) (done : List Str) : List (Str × List Str) → Option Exc
  | [] => none
  | (x, g) :: r => if vStr x then (if x ∈ done then some (xDup (.str x)) else match glBad lamps [] g with
    | some e => some e
    | none => rowsBad lamps (done ++ [x]) r) else some (xInv (.str x))
def cellsD (cells : List (Str × List Str)) : List (D × D) := cells.map fun q => (.str q.1, .tup (q.2.map .str))
def tableD (lamps : List Str) (cells : List (Str × List Str)) : D := .ins 6 [("lamps", .tup (lamps.map .str)), ("looks", .tup (cells.map fun q => .str q.1)), ("cells", .dic (cellsD cells))]
def rowCells (lamps : List Str) (rows : List (Str × List Str)) : List (Str × List Str) := rows.map fun q => (q.1, lamps.filter fun l => decide (l ∈ q.2))
theorem look_cells {cells : List (Str × List Str)} : (look (.str x) (cellsD cells)).isSome = decide (x ∈ cells.map (·.1)) := by
  induction cells with
  | nil => rfl
  | cons q r ih =>
    obtain ⟨y, g⟩ := q
    simp only [cellsD, List.map_cons, look, D.eqv]
    by_cases e : y = x
    · subst e; simp
    · have b : (y == x) = false := by simpa using e
      have e' : ¬ x = y := fun h => e h.symm
      simp only [b, Bool.false_eq_true, if_false]
      rw [show look (.str x) (List.map (fun q : Str × List Str => (D.str q.1, D.tup (q.2.map .str))) r) = look (.str x) (cellsD r) from rfl, ih]
      simp [e']
theorem store_cells {cells : List (Str × List Str)} {g : List Str} (hn : ¬ x ∈ cells.map (·.1)) : store (.str x) (.tup (g.map .str)) (cellsD cells) = cellsD (cells ++ [(x, g)]) := by
  unfold store
  have : (cellsD cells).any (fun p => D.eqv p.1 (.str x)) = false := by
    rw [List.any_eq_false]
    intro q hq
    obtain ⟨c, hc, rfl⟩ := List.mem_map.mp hq
    simp only [D.eqv]
    intro e
    have : c.1 = x := by simpa using e
    exact hn (by rw [← this]; exact List.mem_map_of_mem hc)
  rw [this]
  simp [cellsD]
end
end DL
end
section
set_option Elab.async false
set_option linter.all false
set_option maxRecDepth 100000
set_option maxHeartbeats 2000000
/-! PlTab2: Table(lamps, looks). -/
namespace DL
open PySem
/-- a class of tables, as a law's table has it -/
def TabCl (cl : Cl) : Prop := cl.name = "Table" ∧ cl.exc = false ∧ cl.init = 8 ∧ cl.consts = [] ∧ cl.flds = ([("lamps" : Str), ("looks" : Str), ("cells" : Str)] : List Str)
/-- a row of looks as data -/
def RowD (q : Str × List Str) (d : D) : Prop := ∃ g, d = .tup [.str q.1, g] ∧ g.isExn = false ∧ g.items = some (q.2.map .str)
inductive RowsD : List (Str × List Str) → List D → Prop where
  | nil : RowsD [] []
  | cons {q : Str × List Str} {r : List (Str × List Str)} {d : D} {ds : List D} : RowD q d → RowsD r ds → RowsD (q :: r) (d :: ds)
theorem RowsD.length {r : List (Str × List Str)} {ds : List D} (h : RowsD r ds) : ds.length = r.length := by
  induction h with
  | nil => rfl
  | cons _ _ ih => simp [ih]
section
variable {T : Tab} {n : Nat} {p : List D} {Q : D → List D → Prop} {E : Exc → List D → Prop}
theorem att_lamps {cl : Cl} {v : D} {r : List (Str × D)} (hc : T.cl 6 = some cl) (ht : TabCl cl) : attD T "lamps" (.ins 6 (("lamps", v) :: r)) = some v := by
  obtain ⟨_, h2, _, h4, h5⟩ := ht
  simp [attD, hc, h2, h5]
def memS (tk : List Str) : D → Bool
  | .str y => decide (y ∈ tk)
  | _ => false
theorem filter_strs {tk l : List Str} : (l.map D.str).filter (memS tk) = (l.filter fun y => decide (y ∈ tk)).map .str := by
  rw [List.filter_map]
  rfl
theorem table_wp (h : HasTab T) {cl : Cl} (hc : T.cl 6 = some cl) (ht : TabCl cl) {dl dk : D} {lamps : List Str} {rows : List (Str × List Str)} {ds : List D}
    (hl1 : dl.isExn = false) (hl2 : derefO dl p = some dl) (hl3 : dl.items = some (lamps.map .str)) (hl4 : fop .len dl = some (.int lamps.length)) (hl5 : ∀ x ∈ lamps, okStr x)
    (hk1 : dk.isExn = false) (hk2 : derefO dk p = some dk) (hk3 : dk.items = some ds) (hk4 : fop .len dk = some (.int rows.length)) (hr : RowsD rows ds) (hk5 : ∀ q ∈ rows, okStr q.1 ∧ q.2.length ≤ 1000 ∧ ∀ x ∈ q.2, okStr x)
    (h0 : (24 < lamps.length ∨ 24 < rows.length) → E (xMany 24) p) (h1 : ∀ e, lamps.length ≤ 24 → rows.length ≤ 24 → namesBad [] lamps = some e → E e p)
    (h2 : ∀ e, lamps.length ≤ 24 → rows.length ≤ 24 → namesBad [] lamps = none → rowsBad lamps [] rows = some e → E e p)
    (h3 : lamps.length ≤ 24 → rows.length ≤ 24 → namesBad [] lamps = none → rowsBad lamps [] rows = none → Q (tableD lamps (rowCells lamps rows)) p) : ((lev T (n+4)).make 6 [dl, dk] p).wp Q E := by
  obtain ⟨t1, t2, t3, t4, t5⟩ := ht
  refine make_wp hc (by rw [t3]; exact h.f8) rfl ?_
  have e1 : ∀ a b c d e f g, slotO [a, some (.dat dl), b, c, d, e, f, g] 1 = some dl := fun a b c d e f g => by simp [slotO, Slot.d, hl1]
  have e2 : ∀ a b c d e f g, slotO [a, b, some (.dat dk), c, d, e, f, g] 2 = some dk := fun a b c d e f g => by simp [slotO, Slot.d, hk1]
  have g1 : ∀ k : Nat, cop .gt (.int k) (.int 24) = some (decide ((24 : Int) < k)) := fun k => rfl
  have eE : entry 8 [some (Slot.own (D.ins 6 [])), some (.dat dl), some (.dat dk)] = [some (.own (.ins 6 [])), some (.dat dl), some (.dat dk), none, none, none, none, none] := rfl
  have d24 : derefO (.int 24) p = some (.int 24) := rfl
  have dI : ∀ k : Nat, derefO (.int k) p = some (.int k) := fun k => rfl
  have att : ∀ r, attD T "lamps" (.ins 6 (("lamps", .tup (lamps.map .str)) :: r)) = some (.tup (lamps.map .str)) := fun r => by simp [attD, hc, t2, t5]
  have many : ∀ q : List D, q = p → (24 < lamps.length ∨ 24 < rows.length) → E (xMany 24) q := fun q e hq => e ▸ h0 hq
  simp only [Fx.Table___init__, ↓owp_ok, ↓owp_exc, ↓owp_bad, ↓swp_ok, ↓swp_exc, ↓swp_bad, ↓owp_ret, ↓owp_pbad, ↓swp_ret, ↓oq_some, ↓oq_none, ↓iq_true, ↓iq_false, ↓oq_map, ↓oq_bind, ↓wv_var, ↓wv_non, ↓wv_bl, ↓wv_int, ↓wv_str, ↓wv_glo, ↓wv_dct, ↓wv_bin, ↓wv_neg, ↓wv_not, ↓wt_not, ↓wv_cmp, ↓wt_cmp, ↓wv_and, ↓wt_and, ↓wv_or, ↓wt_or, ↓wv_ite, ↓wv_tup, ↓wv_lst, ↓wv_idx, ↓wv_slc, ↓wv_att, ↓wv_call, ↓wv_new, ↓wv_meth, ↓wv_fn1, ↓wv_isi, ↓wv_xat, ↓wt_var, ↓wt_bl, ↓wt_call, ↓wt_meth, ↓wt_isi, ↓wt_att, ↓wt_idx, ↓ws_nil, ↓ws_cons, ↓wo_none, ↓wo_some, ↓wi_seq, ↓wi_rng, ↓wv_lc, ↓thenS_nx, ↓thenS_ret, ↓thenS_brk, ↓thenS_ct, ↓wp_skip, ↓wp_seq, ↓wp_expr, ↓wp_set, ↓wp_own, ↓wp_ret, ↓wp_ite, ↓wp_for, ↓turn_name, ↓turn_tup, ↓wp_raise, ↓wp_app, ↓wp_put, ↓wp_popAt, ↓wp_fld, ↓wp_rkp, ↓wp_keep, ↓wp_try1, List.map_cons, List.map_nil, eE, e1, e2, hl2, hk2, hl4, hk4, g1, d24, dI]
  refine iq_of (fun hk => ?_) fun hk => ?_
  · simp only [↓owp_ok, ↓owp_exc, ↓owp_bad, ↓swp_ok, ↓swp_exc, ↓swp_bad, ↓owp_ret, ↓owp_pbad, ↓swp_ret, ↓oq_some, ↓oq_none, ↓iq_true, ↓iq_false, ↓oq_map, ↓oq_bind, ↓wv_var, ↓wv_non, ↓wv_bl, ↓wv_int, ↓wv_str, ↓wv_glo, ↓wv_dct, ↓wv_bin, ↓wv_neg, ↓wv_not, ↓wt_not, ↓wv_cmp, ↓wt_cmp, ↓wv_and, ↓wt_and, ↓wv_or, ↓wt_or, ↓wv_ite, ↓wv_tup, ↓wv_lst, ↓wv_idx, ↓wv_slc, ↓wv_att, ↓wv_call, ↓wv_new, ↓wv_meth, ↓wv_fn1, ↓wv_isi, ↓wv_xat, ↓wt_var, ↓wt_bl, ↓wt_call, ↓wt_meth, ↓wt_isi, ↓wt_att, ↓wt_idx, ↓ws_nil, ↓ws_cons, ↓wo_none, ↓wo_some, ↓wi_seq, ↓wi_rng, ↓wv_lc, ↓thenS_nx, ↓thenS_ret, ↓thenS_brk, ↓thenS_ct, ↓wp_skip, ↓wp_seq, ↓wp_expr, ↓wp_set, ↓wp_own, ↓wp_ret, ↓wp_ite, ↓wp_for, ↓turn_name, ↓turn_tup, ↓wp_raise, ↓wp_app, ↓wp_put, ↓wp_popAt, ↓wp_fld, ↓wp_rkp, ↓wp_keep, ↓wp_try1, h.c5, cMany, List.length_cons, List.length_nil, decide_true]
    exact h0 (.inl (by have := of_decide_eq_true hk; omega))
  have hle : lamps.length ≤ 24 := by have := of_decide_eq_false hk; omega
  clear hk
  refine iq_of (fun hk => ?_) fun hk => ?_
  · simp only [↓owp_ok, ↓owp_exc, ↓owp_bad, ↓swp_ok, ↓swp_exc, ↓swp_bad, ↓owp_ret, ↓owp_pbad, ↓swp_ret, ↓oq_some, ↓oq_none, ↓iq_true, ↓iq_false, ↓oq_map, ↓oq_bind, ↓wv_var, ↓wv_non, ↓wv_bl, ↓wv_int, ↓wv_str, ↓wv_glo, ↓wv_dct, ↓wv_bin, ↓wv_neg, ↓wv_not, ↓wt_not, ↓wv_cmp, ↓wt_cmp, ↓wv_and, ↓wt_and, ↓wv_or, ↓wt_or, ↓wv_ite, ↓wv_tup, ↓wv_lst, ↓wv_idx, ↓wv_slc, ↓wv_att, ↓wv_call, ↓wv_new, ↓wv_meth, ↓wv_fn1, ↓wv_isi, ↓wv_xat, ↓wt_var, ↓wt_bl, ↓wt_call, ↓wt_meth, ↓wt_isi, ↓wt_att, ↓wt_idx, ↓ws_nil, ↓ws_cons, ↓wo_none, ↓wo_some, ↓wi_seq, ↓wi_rng, ↓wv_lc, ↓thenS_nx, ↓thenS_ret, ↓thenS_brk, ↓thenS_ct, ↓wp_skip, ↓wp_seq, ↓wp_expr, ↓wp_set, ↓wp_own, ↓wp_ret, ↓wp_ite, ↓wp_for, ↓turn_name, ↓turn_tup, ↓wp_raise, ↓wp_app, ↓wp_put, ↓wp_popAt, ↓wp_fld, ↓wp_rkp, ↓wp_keep, ↓wp_try1, h.c5, cMany, List.length_cons, List.length_nil, decide_true]
    exact h0 (.inr (by have := of_decide_eq_true hk; omega))
  have hlr : rows.length ≤ 24 := by have := of_decide_eq_false hk; omega
  clear hk
  refine checked_names_wp h hl1 hl2 hl3 hl4 hl5 (fun hq => by omega) (fun e _ he => h1 e hle hlr he) fun _ hn => ?_
  have fl : fldD T "lamps" (.tup (lamps.map .str)) (.ins 6 []) = some ((), .ins 6 [("lamps", .tup (lamps.map .str))]) := by
    simp [fldD, hc, t2, t5, putF]
  simp only [↓owp_ok, ↓owp_exc, ↓owp_bad, ↓swp_ok, ↓swp_exc, ↓swp_bad, ↓owp_ret, ↓owp_pbad, ↓swp_ret, ↓oq_some, ↓oq_none, ↓iq_true, ↓iq_false, ↓oq_map, ↓oq_bind, ↓wv_var, ↓wv_non, ↓wv_bl, ↓wv_int, ↓wv_str, ↓wv_glo, ↓wv_dct, ↓wv_bin, ↓wv_neg, ↓wv_not, ↓wt_not, ↓wv_cmp, ↓wt_cmp, ↓wv_and, ↓wt_and, ↓wv_or, ↓wt_or, ↓wv_ite, ↓wv_tup, ↓wv_lst, ↓wv_idx, ↓wv_slc, ↓wv_att, ↓wv_call, ↓wv_new, ↓wv_meth, ↓wv_fn1, ↓wv_isi, ↓wv_xat, ↓wt_var, ↓wt_bl, ↓wt_call, ↓wt_meth, ↓wt_isi, ↓wt_att, ↓wt_idx, ↓ws_nil, ↓ws_cons, ↓wo_none, ↓wo_some, ↓wi_seq, ↓wi_rng, ↓wv_lc, ↓thenS_nx, ↓thenS_ret, ↓thenS_brk, ↓thenS_ct, ↓wp_skip, ↓wp_seq, ↓wp_expr, ↓wp_set, ↓wp_own, ↓wp_ret, ↓wp_ite, ↓wp_for, ↓turn_name, ↓turn_tup, ↓wp_raise, ↓wp_app, ↓wp_put, ↓wp_popAt, ↓wp_fld, ↓wp_rkp, ↓wp_keep, ↓wp_try1, isExn_non, flat_non, deref_non, imm_non, box_non, isExn_bl, flat_bl, deref_bl, imm_bl, box_bl, isExn_int, flat_int, deref_int, imm_int, box_int, isExn_str, flat_str, deref_str, imm_str, box_str, isExn_tup, flat_tup, deref_tup, box_tup, isExn_lst, flat_lst, deref_lst, imm_lst, box_lst, isExn_dic, flat_dic, deref_dic, imm_dic, box_dic, isExn_ins, flat_ins, deref_ins, imm_ins, box_ins, isExn_per, flat_per, imm_per, box_per, isExn_scr, flat_scr, deref_scr, imm_scr, box_scr, deref_per, imm_tup, imms_nil, imms_cons, sd_own, sd_dat, sfrz_own, sfrz_dat, sfrz_none, entry, slotO, setE, heldE, boxB, fitB, lstB, chgS, fresh, esc, escs, escR, esci, It.slot, frzS, perOk, List.getElem?_cons_zero, List.getElem?_cons_succ, List.set_cons_zero, List.set_cons_succ, List.length_cons, List.length_nil, List.map_cons, List.map_nil, List.replicate, List.append_eq, List.cons_append, List.nil_append, List.length_map, List.length_replicate, Option.map_some, Option.bind_some, if_true, if_false, ite_true, ite_false, reduceIte, Bool.not_true, Bool.not_false, Bool.false_eq_true, decide_true, decide_false, Nat.reduceAdd, Nat.reduceLT, Nat.reduceLeDiff, Nat.reduceSub, Nat.reduceEqDiff, Nat.add_one_sub_one, List.modify_zero_cons, List.modify_succ_cons, fl, hk1, hk3]
  refine forL_wp (fun es s => ∃ (done : List (Str × List Str)) (r : List (Str × List Str)) (o4 o5 o6 o7 : Option Slot), s = ⟨[some (.own (.ins 6 [("lamps", .tup (lamps.map .str))])), some (.dat dl), some (.dat dk), some (.own (.dic (cellsD (rowCells lamps done)))), o4, o5, o6, o7], p⟩ ∧ RowsD r es ∧ done ++ r = rows ∧ rowsBad lamps [] rows = rowsBad lamps (done.map (·.1)) r) ?_ _ _ ⟨[], rows, none, none, none, none, rfl, hr, rfl, rfl⟩ ?_
  · rintro d1 es s ⟨done, r, o4, o5, o6, o7, rfl, q1, q2, q3⟩
    cases q1 with
    | cons q1 q4 =>
    rename_i q r
    obtain ⟨x, gl⟩ := q
    obtain ⟨g, rfl, hg1, hg2⟩ := q1
    have hm : (x, gl) ∈ rows := by rw [← q2]; simp
    obtain ⟨hx, hgz, hgl⟩ := hk5 _ hm
    dsimp only at hx hgz hgl hg2
    have look1 : isIn (.str x) (.dic (cellsD (rowCells lamps done))) = some (decide (x ∈ done.map (·.1))) := by
      simp only [isIn, D.key, look_cells, rowCells, List.map_map]
      rfl
    simp only [↓owp_ok, ↓owp_exc, ↓owp_bad, ↓swp_ok, ↓swp_exc, ↓swp_bad, ↓owp_ret, ↓owp_pbad, ↓swp_ret, ↓oq_some, ↓oq_none, ↓iq_true, ↓iq_false, ↓oq_map, ↓oq_bind, ↓wv_var, ↓wv_non, ↓wv_bl, ↓wv_int, ↓wv_str, ↓wv_glo, ↓wv_dct, ↓wv_bin, ↓wv_neg, ↓wv_not, ↓wt_not, ↓wv_cmp, ↓wt_cmp, ↓wv_and, ↓wt_and, ↓wv_or, ↓wt_or, ↓wv_ite, ↓wv_tup, ↓wv_lst, ↓wv_idx, ↓wv_slc, ↓wv_att, ↓wv_call, ↓wv_new, ↓wv_meth, ↓wv_fn1, ↓wv_isi, ↓wv_xat, ↓wt_var, ↓wt_bl, ↓wt_call, ↓wt_meth, ↓wt_isi, ↓wt_att, ↓wt_idx, ↓ws_nil, ↓ws_cons, ↓wo_none, ↓wo_some, ↓wi_seq, ↓wi_rng, ↓wv_lc, ↓thenS_nx, ↓thenS_ret, ↓thenS_brk, ↓thenS_ct, ↓wp_skip, ↓wp_seq, ↓wp_expr, ↓wp_set, ↓wp_own, ↓wp_ret, ↓wp_ite, ↓wp_for, ↓turn_name, ↓turn_tup, ↓wp_raise, ↓wp_app, ↓wp_put, ↓wp_popAt, ↓wp_fld, ↓wp_rkp, ↓wp_keep, ↓wp_try1, isExn_non, flat_non, deref_non, imm_non, box_non, isExn_bl, flat_bl, deref_bl, imm_bl, box_bl, isExn_int, flat_int, deref_int, imm_int, box_int, isExn_str, flat_str, deref_str, imm_str, box_str, isExn_tup, flat_tup, deref_tup, box_tup, isExn_lst, flat_lst, deref_lst, imm_lst, box_lst, isExn_dic, flat_dic, deref_dic, imm_dic, box_dic, isExn_ins, flat_ins, deref_ins, imm_ins, box_ins, isExn_per, flat_per, imm_per, box_per, isExn_scr, flat_scr, deref_scr, imm_scr, box_scr, deref_per, imm_tup, imms_nil, imms_cons, sd_own, sd_dat, sfrz_own, sfrz_dat, sfrz_none, entry, slotO, setE, heldE, boxB, fitB, lstB, chgS, fresh, esc, escs, escR, esci, It.slot, frzS, perOk, List.getElem?_cons_zero, List.getElem?_cons_succ, List.set_cons_zero, List.set_cons_succ, List.length_cons, List.length_nil, List.map_cons, List.map_nil, List.replicate, List.append_eq, List.cons_append, List.nil_append, List.length_map, List.length_replicate, Option.map_some, Option.bind_some, if_true, if_false, ite_true, ite_false, reduceIte, Bool.not_true, Bool.not_false, Bool.false_eq_true, decide_true, decide_false, Nat.reduceAdd, Nat.reduceLT, Nat.reduceLeDiff, Nat.reduceSub, Nat.reduceEqDiff, Nat.add_one_sub_one, List.modify_zero_cons, List.modify_succ_cons, setAllE]
    refine check_new_wp h hx rfl rfl look1 (fun hv hk => ?_) (fun hv hk => ?_) fun hv => ?_
    · have hk2 : ¬ x ∈ done.map (·.1) := of_decide_eq_false hk
      have s0 : decide (0 ≤ sizeLine) = true := by decide
      have eg : ∀ a b c d e f g', slotO [a, b, c, d, e, some (.dat g), f, g'] 5 = some g := fun a b c d e f g' => by simp [slotO, Slot.d, hg1]
      simp only [↓owp_ok, ↓owp_exc, ↓owp_bad, ↓swp_ok, ↓swp_exc, ↓swp_bad, ↓owp_ret, ↓owp_pbad, ↓swp_ret, ↓oq_some, ↓oq_none, ↓iq_true, ↓iq_false, ↓oq_map, ↓oq_bind, ↓wv_var, ↓wv_non, ↓wv_bl, ↓wv_int, ↓wv_str, ↓wv_glo, ↓wv_dct, ↓wv_bin, ↓wv_neg, ↓wv_not, ↓wt_not, ↓wv_cmp, ↓wt_cmp, ↓wv_and, ↓wt_and, ↓wv_or, ↓wt_or, ↓wv_ite, ↓wv_tup, ↓wv_lst, ↓wv_idx, ↓wv_slc, ↓wv_att, ↓wv_call, ↓wv_new, ↓wv_meth, ↓wv_fn1, ↓wv_isi, ↓wv_xat, ↓wt_var, ↓wt_bl, ↓wt_call, ↓wt_meth, ↓wt_isi, ↓wt_att, ↓wt_idx, ↓ws_nil, ↓ws_cons, ↓wo_none, ↓wo_some, ↓wi_seq, ↓wi_rng, ↓wv_lc, ↓thenS_nx, ↓thenS_ret, ↓thenS_brk, ↓thenS_ct, ↓wp_skip, ↓wp_seq, ↓wp_expr, ↓wp_set, ↓wp_own, ↓wp_ret, ↓wp_ite, ↓wp_for, ↓turn_name, ↓turn_tup, ↓wp_raise, ↓wp_app, ↓wp_put, ↓wp_popAt, ↓wp_fld, ↓wp_rkp, ↓wp_keep, ↓wp_try1, isExn_non, flat_non, deref_non, imm_non, box_non, isExn_bl, flat_bl, deref_bl, imm_bl, box_bl, isExn_int, flat_int, deref_int, imm_int, box_int, isExn_str, flat_str, deref_str, imm_str, box_str, isExn_tup, flat_tup, deref_tup, box_tup, isExn_lst, flat_lst, deref_lst, imm_lst, box_lst, isExn_dic, flat_dic, deref_dic, imm_dic, box_dic, isExn_ins, flat_ins, deref_ins, imm_ins, box_ins, isExn_per, flat_per, imm_per, box_per, isExn_scr, flat_scr, deref_scr, imm_scr, box_scr, deref_per, imm_tup, imms_nil, imms_cons, sd_own, sd_dat, sfrz_own, sfrz_dat, sfrz_none, entry, slotO, setE, heldE, boxB, fitB, lstB, chgS, fresh, esc, escs, escR, esci, It.slot, frzS, perOk, List.getElem?_cons_zero, List.getElem?_cons_succ, List.set_cons_zero, List.set_cons_succ, List.length_cons, List.length_nil, List.map_cons, List.map_nil, List.replicate, List.append_eq, List.cons_append, List.nil_append, List.length_map, List.length_replicate, Option.map_some, Option.bind_some, if_true, if_false, ite_true, ite_false, reduceIte, Bool.not_true, Bool.not_false, Bool.false_eq_true, decide_true, decide_false, Nat.reduceAdd, Nat.reduceLT, Nat.reduceLeDiff, Nat.reduceSub, Nat.reduceEqDiff, Nat.add_one_sub_one, List.modify_zero_cons, List.modify_succ_cons, s0, hg1, hg2]
      refine forL_wp (fun es s => ∃ (tk r : List Str) (o7 : Option Slot), s = ⟨[some (.own (.ins 6 [("lamps", .tup (lamps.map .str))])), some (.dat dl), some (.dat dk), some (.own (.dic (cellsD (rowCells lamps done)))), some (.dat (.str x)), some (.dat g), some (.own (.lst (tk.map .str))), o7], p⟩ ∧ es = r.map .str ∧ tk ++ r = gl ∧ glBad lamps [] gl = glBad lamps tk r) ?_ _ _ ⟨[], gl, o7, rfl, rfl, rfl, rfl⟩ ?_
      · rintro d2 es2 s ⟨tk, r2, o, rfl, w1, w2, w3⟩
        cases r2 with
        | nil => cases w1
        | cons y r2 =>
          cases w1
          have hy : okStr y := hgl y (by rw [← w2]; simp)
          have htk : tk.length ≤ 1000 := by have := congrArg List.length w2; simp at this; omega
          have hsz : tk.length < sizeLine := by
            have : (16777216 : Nat) = sizeLine := by decide
            omega
          have bad : ∀ e, glBad lamps tk (y :: r2) = some e → E e p := fun e he => by
            refine h2 e hle hlr hn ?_
            rw [q3]
            simp only [rowsBad, hv, hk2, if_true, if_false, w3, he]
          simp only [↓owp_ok, ↓owp_exc, ↓owp_bad, ↓swp_ok, ↓swp_exc, ↓swp_bad, ↓owp_ret, ↓owp_pbad, ↓swp_ret, ↓oq_some, ↓oq_none, ↓iq_true, ↓iq_false, ↓oq_map, ↓oq_bind, ↓wv_var, ↓wv_non, ↓wv_bl, ↓wv_int, ↓wv_str, ↓wv_glo, ↓wv_dct, ↓wv_bin, ↓wv_neg, ↓wv_not, ↓wt_not, ↓wv_cmp, ↓wt_cmp, ↓wv_and, ↓wt_and, ↓wv_or, ↓wt_or, ↓wv_ite, ↓wv_tup, ↓wv_lst, ↓wv_idx, ↓wv_slc, ↓wv_att, ↓wv_call, ↓wv_new, ↓wv_meth, ↓wv_fn1, ↓wv_isi, ↓wv_xat, ↓wt_var, ↓wt_bl, ↓wt_call, ↓wt_meth, ↓wt_isi, ↓wt_att, ↓wt_idx, ↓ws_nil, ↓ws_cons, ↓wo_none, ↓wo_some, ↓wi_seq, ↓wi_rng, ↓wv_lc, ↓thenS_nx, ↓thenS_ret, ↓thenS_brk, ↓thenS_ct, ↓wp_skip, ↓wp_seq, ↓wp_expr, ↓wp_set, ↓wp_own, ↓wp_ret, ↓wp_ite, ↓wp_for, ↓turn_name, ↓turn_tup, ↓wp_raise, ↓wp_app, ↓wp_put, ↓wp_popAt, ↓wp_fld, ↓wp_rkp, ↓wp_keep, ↓wp_try1, isExn_non, flat_non, deref_non, imm_non, box_non, isExn_bl, flat_bl, deref_bl, imm_bl, box_bl, isExn_int, flat_int, deref_int, imm_int, box_int, isExn_str, flat_str, deref_str, imm_str, box_str, isExn_tup, flat_tup, deref_tup, box_tup, isExn_lst, flat_lst, deref_lst, imm_lst, box_lst, isExn_dic, flat_dic, deref_dic, imm_dic, box_dic, isExn_ins, flat_ins, deref_ins, imm_ins, box_ins, isExn_per, flat_per, imm_per, box_per, isExn_scr, flat_scr, deref_scr, imm_scr, box_scr, deref_per, imm_tup, imms_nil, imms_cons, sd_own, sd_dat, sfrz_own, sfrz_dat, sfrz_none, entry, slotO, setE, heldE, boxB, fitB, lstB, chgS, fresh, esc, escs, escR, esci, It.slot, frzS, perOk, List.getElem?_cons_zero, List.getElem?_cons_succ, List.set_cons_zero, List.set_cons_succ, List.length_cons, List.length_nil, List.map_cons, List.map_nil, List.replicate, List.append_eq, List.cons_append, List.nil_append, List.length_map, List.length_replicate, Option.map_some, Option.bind_some, if_true, if_false, ite_true, ite_false, reduceIte, Bool.not_true, Bool.not_false, Bool.false_eq_true, decide_true, decide_false, Nat.reduceAdd, Nat.reduceLT, Nat.reduceLeDiff, Nat.reduceSub, Nat.reduceEqDiff, Nat.add_one_sub_one, List.modify_zero_cons, List.modify_succ_cons, att]
          refine check_known_wp h rfl rfl rfl rfl (isIn_tstrs (by omega)) (fun hm2 => ?_) fun hm2 => ?_
          · have hm3 : y ∈ lamps := of_decide_eq_true hm2
            simp only [↓owp_ok, ↓owp_exc, ↓owp_bad, ↓swp_ok, ↓swp_exc, ↓swp_bad, ↓owp_ret, ↓owp_pbad, ↓swp_ret, ↓oq_some, ↓oq_none, ↓iq_true, ↓iq_false, ↓oq_map, ↓oq_bind, ↓wv_var, ↓wv_non, ↓wv_bl, ↓wv_int, ↓wv_str, ↓wv_glo, ↓wv_dct, ↓wv_bin, ↓wv_neg, ↓wv_not, ↓wt_not, ↓wv_cmp, ↓wt_cmp, ↓wv_and, ↓wt_and, ↓wv_or, ↓wt_or, ↓wv_ite, ↓wv_tup, ↓wv_lst, ↓wv_idx, ↓wv_slc, ↓wv_att, ↓wv_call, ↓wv_new, ↓wv_meth, ↓wv_fn1, ↓wv_isi, ↓wv_xat, ↓wt_var, ↓wt_bl, ↓wt_call, ↓wt_meth, ↓wt_isi, ↓wt_att, ↓wt_idx, ↓ws_nil, ↓ws_cons, ↓wo_none, ↓wo_some, ↓wi_seq, ↓wi_rng, ↓wv_lc, ↓thenS_nx, ↓thenS_ret, ↓thenS_brk, ↓thenS_ct, ↓wp_skip, ↓wp_seq, ↓wp_expr, ↓wp_set, ↓wp_own, ↓wp_ret, ↓wp_ite, ↓wp_for, ↓turn_name, ↓turn_tup, ↓wp_raise, ↓wp_app, ↓wp_put, ↓wp_popAt, ↓wp_fld, ↓wp_rkp, ↓wp_keep, ↓wp_try1, isExn_non, flat_non, deref_non, imm_non, box_non, isExn_bl, flat_bl, deref_bl, imm_bl, box_bl, isExn_int, flat_int, deref_int, imm_int, box_int, isExn_str, flat_str, deref_str, imm_str, box_str, isExn_tup, flat_tup, deref_tup, box_tup, isExn_lst, flat_lst, deref_lst, imm_lst, box_lst, isExn_dic, flat_dic, deref_dic, imm_dic, box_dic, isExn_ins, flat_ins, deref_ins, imm_ins, box_ins, isExn_per, flat_per, imm_per, box_per, isExn_scr, flat_scr, deref_scr, imm_scr, box_scr, deref_per, imm_tup, imms_nil, imms_cons, sd_own, sd_dat, sfrz_own, sfrz_dat, sfrz_none, entry, slotO, setE, heldE, boxB, fitB, lstB, chgS, fresh, esc, escs, escR, esci, It.slot, frzS, perOk, List.getElem?_cons_zero, List.getElem?_cons_succ, List.set_cons_zero, List.set_cons_succ, List.length_cons, List.length_nil, List.map_cons, List.map_nil, List.replicate, List.append_eq, List.cons_append, List.nil_append, List.length_map, List.length_replicate, Option.map_some, Option.bind_some, if_true, if_false, ite_true, ite_false, reduceIte, Bool.not_true, Bool.not_false, Bool.false_eq_true, decide_true, decide_false, Nat.reduceAdd, Nat.reduceLT, Nat.reduceLeDiff, Nat.reduceSub, Nat.reduceEqDiff, Nat.add_one_sub_one, List.modify_zero_cons, List.modify_succ_cons]
            refine check_new_wp h hy rfl rfl (isIn_strs htk) (fun hv2 hk3 => ?_) (fun hv2 hk3 => ?_) fun hv2 => ?_
            · have hk4 : ¬ y ∈ tk := of_decide_eq_false hk3
              simp only [↓owp_ok, ↓owp_exc, ↓owp_bad, ↓swp_ok, ↓swp_exc, ↓swp_bad, ↓owp_ret, ↓owp_pbad, ↓swp_ret, ↓oq_some, ↓oq_none, ↓iq_true, ↓iq_false, ↓oq_map, ↓oq_bind, ↓wv_var, ↓wv_non, ↓wv_bl, ↓wv_int, ↓wv_str, ↓wv_glo, ↓wv_dct, ↓wv_bin, ↓wv_neg, ↓wv_not, ↓wt_not, ↓wv_cmp, ↓wt_cmp, ↓wv_and, ↓wt_and, ↓wv_or, ↓wt_or, ↓wv_ite, ↓wv_tup, ↓wv_lst, ↓wv_idx, ↓wv_slc, ↓wv_att, ↓wv_call, ↓wv_new, ↓wv_meth, ↓wv_fn1, ↓wv_isi, ↓wv_xat, ↓wt_var, ↓wt_bl, ↓wt_call, ↓wt_meth, ↓wt_isi, ↓wt_att, ↓wt_idx, ↓ws_nil, ↓ws_cons, ↓wo_none, ↓wo_some, ↓wi_seq, ↓wi_rng, ↓wv_lc, ↓thenS_nx, ↓thenS_ret, ↓thenS_brk, ↓thenS_ct, ↓wp_skip, ↓wp_seq, ↓wp_expr, ↓wp_set, ↓wp_own, ↓wp_ret, ↓wp_ite, ↓wp_for, ↓turn_name, ↓turn_tup, ↓wp_raise, ↓wp_app, ↓wp_put, ↓wp_popAt, ↓wp_fld, ↓wp_rkp, ↓wp_keep, ↓wp_try1, isExn_non, flat_non, deref_non, imm_non, box_non, isExn_bl, flat_bl, deref_bl, imm_bl, box_bl, isExn_int, flat_int, deref_int, imm_int, box_int, isExn_str, flat_str, deref_str, imm_str, box_str, isExn_tup, flat_tup, deref_tup, box_tup, isExn_lst, flat_lst, deref_lst, imm_lst, box_lst, isExn_dic, flat_dic, deref_dic, imm_dic, box_dic, isExn_ins, flat_ins, deref_ins, imm_ins, box_ins, isExn_per, flat_per, imm_per, box_per, isExn_scr, flat_scr, deref_scr, imm_scr, box_scr, deref_per, imm_tup, imms_nil, imms_cons, sd_own, sd_dat, sfrz_own, sfrz_dat, sfrz_none, entry, slotO, setE, heldE, boxB, fitB, lstB, chgS, fresh, esc, escs, escR, esci, It.slot, frzS, perOk, List.getElem?_cons_zero, List.getElem?_cons_succ, List.set_cons_zero, List.set_cons_succ, List.length_cons, List.length_nil, List.map_cons, List.map_nil, List.replicate, List.append_eq, List.cons_append, List.nil_append, List.length_map, List.length_replicate, Option.map_some, Option.bind_some, if_true, if_false, ite_true, ite_false, reduceIte, Bool.not_true, Bool.not_false, Bool.false_eq_true, decide_true, decide_false, Nat.reduceAdd, Nat.reduceLT, Nat.reduceLeDiff, Nat.reduceSub, Nat.reduceEqDiff, Nat.add_one_sub_one, List.modify_zero_cons, List.modify_succ_cons, appD, hsz]
              refine ⟨tk ++ [y], r2, _, by rw [List.map_append]; rfl, rfl, by rw [← w2]; simp, ?_⟩
              rw [w3]
              simp only [glBad, hm3, hv2, hk4, if_true, if_false]
            · have hk4 : y ∈ tk := of_decide_eq_true hk3
              exact bad _ (by simp only [glBad, hm3, hv2, hk4, if_true])
            · exact bad _ (by simp only [glBad, hm3, hv2, if_true, Bool.false_eq_true, if_false])
          · have hm3 : ¬ y ∈ lamps := of_decide_eq_false hm2
            exact bad _ (by simp only [glBad, hm3, if_false])
      · rintro s ⟨tk, r2, o, rfl, w1, w2, w3⟩
        cases r2 with
        | cons y r2 => cases w1
        | nil =>
          have e4 : tk = gl := by rw [← w2]; simp
          subst e4
          have hsz : tk.length ≤ 1000 := hgz
          have hm2 : (rowCells lamps done).length < sizeLine := by
            have : (16777216 : Nat) = sizeLine := by decide
            have := congrArg List.length q2
            simp [rowCells] at this ⊢
            omega
          have lc : lcL 7 (evc T (lev T (n + 3)) (Oex.some (Ex.cmp Cop.inn (Ex.var 7) (Ex.var 6)))) (ev T (lev T (n + 3)) (Ex.var 7)).v [some (Slot.own (D.ins 6 [("lamps", D.tup (List.map D.str lamps))])), some (Slot.dat dl), some (Slot.dat dk), some (Slot.own (D.dic (cellsD (rowCells lamps done)))), some (Slot.dat (D.str x)), some (Slot.dat g), some (Slot.own (D.lst (List.map D.str tk))), o] (List.map D.str lamps) p = .ok ((lamps.filter fun l => decide (l ∈ tk)).map .str) p := by
            have z := lcL_filter (p := p) (v := 7) (c := evc T (lev T (n + 3)) (Oex.some (Ex.cmp Cop.inn (Ex.var 7) (Ex.var 6)))) (e := (ev T (lev T (n + 3)) (Ex.var 7)).v) (env := [some (Slot.own (D.ins 6 [("lamps", D.tup (List.map D.str lamps))])), some (Slot.dat dl), some (Slot.dat dk), some (Slot.own (D.dic (cellsD (rowCells lamps done)))), some (Slot.dat (D.str x)), some (Slot.dat g), some (Slot.own (D.lst (List.map D.str tk))), o]) (f := id) (k := memS tk) (ds := lamps.map .str) (fun d hd => by
              obtain ⟨y, _, rfl⟩ := List.mem_map.mp hd
              refine ⟨?_, fun _ => rfl⟩
              refine Out.wp.eq ?_
              have cc : cop .inn (.str y) (.lst (tk.map .str)) = some (decide (y ∈ tk)) := isIn_strs hsz
              simp only [evc, ↓owp_ok, ↓owp_exc, ↓owp_bad, ↓swp_ok, ↓swp_exc, ↓swp_bad, ↓owp_ret, ↓owp_pbad, ↓swp_ret, ↓oq_some, ↓oq_none, ↓iq_true, ↓iq_false, ↓oq_map, ↓oq_bind, ↓wv_var, ↓wv_non, ↓wv_bl, ↓wv_int, ↓wv_str, ↓wv_glo, ↓wv_dct, ↓wv_bin, ↓wv_neg, ↓wv_not, ↓wt_not, ↓wv_cmp, ↓wt_cmp, ↓wv_and, ↓wt_and, ↓wv_or, ↓wt_or, ↓wv_ite, ↓wv_tup, ↓wv_lst, ↓wv_idx, ↓wv_slc, ↓wv_att, ↓wv_call, ↓wv_new, ↓wv_meth, ↓wv_fn1, ↓wv_isi, ↓wv_xat, ↓wt_var, ↓wt_bl, ↓wt_call, ↓wt_meth, ↓wt_isi, ↓wt_att, ↓wt_idx, ↓ws_nil, ↓ws_cons, ↓wo_none, ↓wo_some, ↓wi_seq, ↓wi_rng, ↓wv_lc, ↓thenS_nx, ↓thenS_ret, ↓thenS_brk, ↓thenS_ct, ↓wp_skip, ↓wp_seq, ↓wp_expr, ↓wp_set, ↓wp_own, ↓wp_ret, ↓wp_ite, ↓wp_for, ↓turn_name, ↓turn_tup, ↓wp_raise, ↓wp_app, ↓wp_put, ↓wp_popAt, ↓wp_fld, ↓wp_rkp, ↓wp_keep, ↓wp_try1, isExn_non, flat_non, deref_non, imm_non, box_non, isExn_bl, flat_bl, deref_bl, imm_bl, box_bl, isExn_int, flat_int, deref_int, imm_int, box_int, isExn_str, flat_str, deref_str, imm_str, box_str, isExn_tup, flat_tup, deref_tup, box_tup, isExn_lst, flat_lst, deref_lst, imm_lst, box_lst, isExn_dic, flat_dic, deref_dic, imm_dic, box_dic, isExn_ins, flat_ins, deref_ins, imm_ins, box_ins, isExn_per, flat_per, imm_per, box_per, isExn_scr, flat_scr, deref_scr, imm_scr, box_scr, deref_per, imm_tup, imms_nil, imms_cons, sd_own, sd_dat, sfrz_own, sfrz_dat, sfrz_none, entry, slotO, setE, heldE, boxB, fitB, lstB, chgS, fresh, esc, escs, escR, esci, It.slot, frzS, perOk, List.getElem?_cons_zero, List.getElem?_cons_succ, List.set_cons_zero, List.set_cons_succ, List.length_cons, List.length_nil, List.map_cons, List.map_nil, List.replicate, List.append_eq, List.cons_append, List.nil_append, List.length_map, List.length_replicate, Option.map_some, Option.bind_some, if_true, if_false, ite_true, ite_false, reduceIte, Bool.not_true, Bool.not_false, Bool.false_eq_true, decide_true, decide_false, Nat.reduceAdd, Nat.reduceLT, Nat.reduceLeDiff, Nat.reduceSub, Nat.reduceEqDiff, Nat.add_one_sub_one, List.modify_zero_cons, List.modify_succ_cons, cc, memS, and_self])
            rw [z, List.map_id, filter_strs]
          have st := store_cells (x := x) (cells := rowCells lamps done) (g := lamps.filter fun l => decide (l ∈ tk)) (by simpa [rowCells] using hk2)
          have fsz : decide ((lamps.filter fun l => decide (l ∈ tk)).length ≤ sizeLine) = true := decide_eq_true (by
            have : (16777216 : Nat) = sizeLine := by decide
            have := List.length_filter_le (fun l => decide (l ∈ tk)) lamps
            omega)
          have csz : (cellsD (rowCells lamps done)).length < sizeLine := by simpa [cellsD] using hm2
          simp only [↓owp_ok, ↓owp_exc, ↓owp_bad, ↓swp_ok, ↓swp_exc, ↓swp_bad, ↓owp_ret, ↓owp_pbad, ↓swp_ret, ↓oq_some, ↓oq_none, ↓iq_true, ↓iq_false, ↓oq_map, ↓oq_bind, ↓wv_var, ↓wv_non, ↓wv_bl, ↓wv_int, ↓wv_str, ↓wv_glo, ↓wv_dct, ↓wv_bin, ↓wv_neg, ↓wv_not, ↓wt_not, ↓wv_cmp, ↓wt_cmp, ↓wv_and, ↓wt_and, ↓wv_or, ↓wt_or, ↓wv_ite, ↓wv_tup, ↓wv_lst, ↓wv_idx, ↓wv_slc, ↓wv_att, ↓wv_call, ↓wv_new, ↓wv_meth, ↓wv_fn1, ↓wv_isi, ↓wv_xat, ↓wt_var, ↓wt_bl, ↓wt_call, ↓wt_meth, ↓wt_isi, ↓wt_att, ↓wt_idx, ↓ws_nil, ↓ws_cons, ↓wo_none, ↓wo_some, ↓wi_seq, ↓wi_rng, ↓wv_lc, ↓thenS_nx, ↓thenS_ret, ↓thenS_brk, ↓thenS_ct, ↓wp_skip, ↓wp_seq, ↓wp_expr, ↓wp_set, ↓wp_own, ↓wp_ret, ↓wp_ite, ↓wp_for, ↓turn_name, ↓turn_tup, ↓wp_raise, ↓wp_app, ↓wp_put, ↓wp_popAt, ↓wp_fld, ↓wp_rkp, ↓wp_keep, ↓wp_try1, isExn_non, flat_non, deref_non, imm_non, box_non, isExn_bl, flat_bl, deref_bl, imm_bl, box_bl, isExn_int, flat_int, deref_int, imm_int, box_int, isExn_str, flat_str, deref_str, imm_str, box_str, isExn_tup, flat_tup, deref_tup, box_tup, isExn_lst, flat_lst, deref_lst, imm_lst, box_lst, isExn_dic, flat_dic, deref_dic, imm_dic, box_dic, isExn_ins, flat_ins, deref_ins, imm_ins, box_ins, isExn_per, flat_per, imm_per, box_per, isExn_scr, flat_scr, deref_scr, imm_scr, box_scr, deref_per, imm_tup, imms_nil, imms_cons, sd_own, sd_dat, sfrz_own, sfrz_dat, sfrz_none, entry, slotO, setE, heldE, boxB, fitB, lstB, chgS, fresh, esc, escs, escR, esci, It.slot, frzS, perOk, List.getElem?_cons_zero, List.getElem?_cons_succ, List.set_cons_zero, List.set_cons_succ, List.length_cons, List.length_nil, List.map_cons, List.map_nil, List.replicate, List.append_eq, List.cons_append, List.nil_append, List.length_map, List.length_replicate, Option.map_some, Option.bind_some, if_true, if_false, ite_true, ite_false, reduceIte, Bool.not_true, Bool.not_false, Bool.false_eq_true, decide_true, decide_false, Nat.reduceAdd, Nat.reduceLT, Nat.reduceLeDiff, Nat.reduceSub, Nat.reduceEqDiff, Nat.add_one_sub_one, List.modify_zero_cons, List.modify_succ_cons, att, D.items, calm, lc, fsz, fop, putD, D.key, csz, st]
          refine ⟨done ++ [(x, tk)], r, some (.dat (.str x)), some (.dat g), some (.own (.lst (tk.map .str))), Slot.frz o, by simp [rowCells], q4, by rw [← q2]; simp, ?_⟩
          rw [q3]
          simp [rowsBad, hv, hk2, w3, glBad]
    · have hk2 : x ∈ done.map (·.1) := of_decide_eq_true hk
      refine h2 _ hle hlr hn ?_
      rw [q3]
      simp only [rowsBad, hv, hk2, if_true]
    · refine h2 _ hle hlr hn ?_
      rw [q3]
      simp only [rowsBad, hv, Bool.false_eq_true, if_false]
  · rintro s ⟨done, r, o4, o5, o6, o7, rfl, q1, q2, q3⟩
    cases q1
    have e4 : done = rows := by rw [← q2]; simp
    subst e4
    have f1 : fop .list (.dic (cellsD (rowCells lamps done))) = some (.lst ((rowCells lamps done).map fun q => .str q.1)) := by simp [fop, cellsD]
    have n1 : ¬ (("lamps" : Str) = "looks") := by decide +kernel
    have n2 : ¬ (("lamps" : Str) = "cells") := by decide +kernel
    have n3 : ¬ (("looks" : Str) = "cells") := by decide +kernel
    have f2 : ∀ v, fldD T "looks" v (.ins 6 [("lamps", .tup (lamps.map .str))]) = some ((), .ins 6 [("lamps", .tup (lamps.map .str)), ("looks", v)]) := fun v => by
      simp [fldD, hc, t2, t5, putF, n1]
    have f3 : ∀ u v, fldD T "cells" v (.ins 6 [("lamps", .tup (lamps.map .str)), ("looks", u)]) = some ((), .ins 6 [("lamps", .tup (lamps.map .str)), ("looks", u), ("cells", v)]) := fun u v => by
      simp [fldD, hc, t2, t5, putF, n2, n3]
    simp only [↓owp_ok, ↓owp_exc, ↓owp_bad, ↓swp_ok, ↓swp_exc, ↓swp_bad, ↓owp_ret, ↓owp_pbad, ↓swp_ret, ↓oq_some, ↓oq_none, ↓iq_true, ↓iq_false, ↓oq_map, ↓oq_bind, ↓wv_var, ↓wv_non, ↓wv_bl, ↓wv_int, ↓wv_str, ↓wv_glo, ↓wv_dct, ↓wv_bin, ↓wv_neg, ↓wv_not, ↓wt_not, ↓wv_cmp, ↓wt_cmp, ↓wv_and, ↓wt_and, ↓wv_or, ↓wt_or, ↓wv_ite, ↓wv_tup, ↓wv_lst, ↓wv_idx, ↓wv_slc, ↓wv_att, ↓wv_call, ↓wv_new, ↓wv_meth, ↓wv_fn1, ↓wv_isi, ↓wv_xat, ↓wt_var, ↓wt_bl, ↓wt_call, ↓wt_meth, ↓wt_isi, ↓wt_att, ↓wt_idx, ↓ws_nil, ↓ws_cons, ↓wo_none, ↓wo_some, ↓wi_seq, ↓wi_rng, ↓wv_lc, ↓thenS_nx, ↓thenS_ret, ↓thenS_brk, ↓thenS_ct, ↓wp_skip, ↓wp_seq, ↓wp_expr, ↓wp_set, ↓wp_own, ↓wp_ret, ↓wp_ite, ↓wp_for, ↓turn_name, ↓turn_tup, ↓wp_raise, ↓wp_app, ↓wp_put, ↓wp_popAt, ↓wp_fld, ↓wp_rkp, ↓wp_keep, ↓wp_try1, isExn_non, flat_non, deref_non, imm_non, box_non, isExn_bl, flat_bl, deref_bl, imm_bl, box_bl, isExn_int, flat_int, deref_int, imm_int, box_int, isExn_str, flat_str, deref_str, imm_str, box_str, isExn_tup, flat_tup, deref_tup, box_tup, isExn_lst, flat_lst, deref_lst, imm_lst, box_lst, isExn_dic, flat_dic, deref_dic, imm_dic, box_dic, isExn_ins, flat_ins, deref_ins, imm_ins, box_ins, isExn_per, flat_per, imm_per, box_per, isExn_scr, flat_scr, deref_scr, imm_scr, box_scr, deref_per, imm_tup, imms_nil, imms_cons, sd_own, sd_dat, sfrz_own, sfrz_dat, sfrz_none, entry, slotO, setE, heldE, boxB, fitB, lstB, chgS, fresh, esc, escs, escR, esci, It.slot, frzS, perOk, List.getElem?_cons_zero, List.getElem?_cons_succ, List.set_cons_zero, List.set_cons_succ, List.length_cons, List.length_nil, List.map_cons, List.map_nil, List.replicate, List.append_eq, List.cons_append, List.nil_append, List.length_map, List.length_replicate, Option.map_some, Option.bind_some, if_true, if_false, ite_true, ite_false, reduceIte, Bool.not_true, Bool.not_false, Bool.false_eq_true, decide_true, decide_false, Nat.reduceAdd, Nat.reduceLT, Nat.reduceLeDiff, Nat.reduceSub, Nat.reduceEqDiff, Nat.add_one_sub_one, List.modify_zero_cons, List.modify_succ_cons, f1, fop, f2, f3]
    refine ⟨_, rfl, rfl, ?_⟩
    have e5 : (cellsD (rowCells lamps done)).map (fun x => x.1) = (rowCells lamps done).map fun q => D.str q.1 := by simp [cellsD]
    rw [e5]
    exact h3 hle hlr hn (by rw [q3]; rfl)
end
end DL
end
section
set_option Elab.async false
set_option linter.all false
set_option maxRecDepth 100000
set_option maxHeartbeats 2000000
/-! PlLaw: what the laws' own helpers compute. -/
namespace DL
open PySem
structure Bag where
  s : Int
  t : Int
  r : List Int
  hs : 0 ≤ s
  hs2 : s < 2147483647
  ht : 0 ≤ t
  hr : ∀ z ∈ r, 0 ≤ z
def Bag.d (b : Bag) : D := .lst (.int b.s :: .int b.t :: b.r.map .int)
@[simp] theorem idx0 {a : D} {l : List D} : idxD (.lst (a :: l)) (.int 0) = some a := by
  have h : (0 : Int) < ((a :: l).length : Nat) := by simp
  simp only [idxD, L2.atI, L2.ixN]
  rw [if_pos (by decide), if_pos h]
  rfl
@[simp] theorem idx1 {a b : D} {l : List D} : idxD (.lst (a :: b :: l)) (.int 1) = some b := by
  have h : (1 : Int) < ((a :: b :: l).length : Nat) := by simp; omega
  simp only [idxD, L2.atI, L2.ixN]
  rw [if_pos (by decide), if_pos h]
  rfl
@[simp] theorem put0 {a v : D} {l : List D} : putD (.int 0) v (.lst (a :: l)) = some ((), .lst (v :: l)) := by
  have h : (0 : Int) < ((a :: l).length : Nat) := by simp
  simp only [putD, L2.ixN]
  rw [if_pos (by decide), if_pos h]
  rfl
@[simp] theorem put1 {a b v : D} {l : List D} : putD (.int 1) v (.lst (a :: b :: l)) = some ((), .lst (a :: v :: l)) := by
  have h : (1 : Int) < ((a :: b :: l).length : Nat) := by simp; omega
  simp only [putD, L2.ixN]
  rw [if_pos (by decide), if_pos h]
  rfl
@[simp] theorem pop2 {a b c : D} {l : List D} : popD (.int 2) (.lst (a :: b :: c :: l)) = some (c, .lst (a :: b :: l)) := by
  have h : (2 : Int) < ((a :: b :: c :: l).length : Nat) := by simp; omega
  simp only [popD]
  rw [if_pos ⟨by decide, h, by decide⟩]
  rfl
theorem mul_ok {i j : Int} {k l : Nat} (hi : i.natAbs < 2 ^ k) (hj : j.natAbs < 2 ^ l) (h : k + l ≤ 999000) : bop .mul (.int i) (.int j) = some (.int (i * j)) := by
  have a : i.natAbs.log2 ≤ k := by
    by_cases h0 : i.natAbs = 0
    · rw [h0]; simp
    · exact Nat.le_of_lt ((Nat.log2_lt h0).mpr hi)
  have b : j.natAbs.log2 ≤ l := by
    by_cases h0 : j.natAbs = 0
    · rw [h0]; simp
    · exact Nat.le_of_lt ((Nat.log2_lt h0).mpr hj)
  show (if i.natAbs.log2 + j.natAbs.log2 < 1000000 then some (D.int (i * j)) else none) = _
  rw [if_pos (by omega)]
theorem take_wp' {T : Tab} {n : Nat} {b : Bag} {q : List D} {z : Int} {Q : D → List D → Prop} {E : Exc → List D → Prop} (hf : T.fn 502 = some Fx.L_take) (hz : 0 < z) (hl : z.natAbs.log2 < 9000)
    (hQ : ∀ (v : Int) (b' : Bag), 0 ≤ v → v < z → Q (.int v) (b'.d :: q)) : ((lev T (n+1)).call 502 [.per 0, .int z] (b.d :: q)).wp Q E := by
  obtain ⟨s, t, r, hs, hs2, ht, hr⟩ := b
  refine call_wp hf rfl ?_
  have p1 : bop .pow (.int 10) (.int 18) = some (.int 1000000000000000000) := by rfl
  have m1 : ∀ i : Int, 0 ≤ i → i < 2147483647 → bop .mul (.int i) (.int 48271) = some (.int (i * 48271)) := fun i h1 h2 => mul_ok (k := 31) (l := 16) (by omega) (by decide) (by decide)
  have m2 : ∀ i : Int, 0 ≤ i → i < 2147483647 → bop .mul (.int i) (.int 16807) = some (.int (i * 16807)) := fun i h1 h2 => mul_ok (k := 31) (l := 16) (by omega) (by decide) (by decide)
  have m3 : ∀ i : Int, 0 ≤ i → i < 1000000000000000000 → bop .mul (.int i) (.int 69621) = some (.int (i * 69621)) := fun i h1 h2 => mul_ok (k := 60) (l := 17) (by omega) (by decide) (by decide)
  have d1 : ∀ i : Int, bop .fdiv (.int i) (.int 16) = some (.int (i / 16)) := fun i => by
    show (if (0 : Int) < 16 ∧ (16 : Int).natAbs.log2 < 9000 then some (D.int (i / 16)) else none) = _
    rw [if_pos ⟨by decide, by decide +kernel⟩]
  have d2 : ∀ i : Int, bop .fdiv (.int i) (.int z) = some (.int (i / z)) := fun i => by simp [bop, hz, hl]
  have e1 : ∀ i : Int, bop .mod (.int i) (.int 2147483647) = some (.int (i % 2147483647)) := fun i => by simp [bop]
  have e2 : ∀ i : Int, bop .mod (.int i) (.int z) = some (.int (i % z)) := fun i => by simp [bop, hz]
  have a1 : ∀ i j : Int, bop .add (.int i) (.int j) = some (.int (i + j)) := fun i j => rfl
  have g1 : ∀ i j : Int, cop .gt (.int i) (.int j) = some (decide (j < i)) := fun i j => rfl
  have g2 : ∀ i j : Int, cop .ge (.int i) (.int j) = some (decide (j ≤ i)) := fun i j => rfl
  have g3 : ∀ i j : Int, cop .eq (.int i) (.int j) = some (i == j) := fun i j => rfl
  have f1 : ∀ i : Int, fop .int (.int i) = some (.int i) := fun i => rfl
  have f2 : ∀ l : List D, fop .len (.lst l) = some (.int l.length) := fun i => rfl
  have r1 : ∀ i : Int, 0 ≤ i % 2147483647 ∧ i % 2147483647 < 2147483647 := fun i => ⟨Int.emod_nonneg _ (by decide), Int.emod_lt_of_pos _ (by decide)⟩
  have r2 : ∀ i : Int, 0 ≤ i % z ∧ i % z < z := fun i => ⟨Int.emod_nonneg _ (by omega), Int.emod_lt_of_pos _ hz⟩
  have r3 : ∀ i : Int, bop .mul (.int (i % 2147483647)) (.int 16807) = some (.int (i % 2147483647 * 16807)) := fun i => m2 _ (r1 i).1 (r1 i).2
  by_cases t0 : t = 0
  · subst t0
    cases r with
    | nil =>
      simp [Fx.L_take, ↓owp_ok, ↓owp_exc, ↓owp_bad, ↓swp_ok, ↓swp_exc, ↓swp_bad, ↓owp_ret, ↓owp_pbad, ↓swp_ret, ↓oq_some, ↓oq_none, ↓iq_true, ↓iq_false, ↓oq_map, ↓oq_bind, ↓wv_var, ↓wv_non, ↓wv_bl, ↓wv_int, ↓wv_str, ↓wv_glo, ↓wv_dct, ↓wv_bin, ↓wv_neg, ↓wv_not, ↓wt_not, ↓wv_cmp, ↓wt_cmp, ↓wv_and, ↓wt_and, ↓wv_or, ↓wt_or, ↓wv_ite, ↓wv_tup, ↓wv_lst, ↓wv_idx, ↓wv_slc, ↓wv_att, ↓wv_call, ↓wv_new, ↓wv_meth, ↓wv_fn1, ↓wv_isi, ↓wv_xat, ↓wt_var, ↓wt_bl, ↓wt_call, ↓wt_meth, ↓wt_isi, ↓wt_att, ↓wt_idx, ↓ws_nil, ↓ws_cons, ↓wo_none, ↓wo_some, ↓wi_seq, ↓wi_rng, ↓wv_lc, ↓thenS_nx, ↓thenS_ret, ↓thenS_brk, ↓thenS_ct, ↓wp_skip, ↓wp_seq, ↓wp_expr, ↓wp_set, ↓wp_own, ↓wp_ret, ↓wp_ite, ↓wp_for, ↓turn_name, ↓turn_tup, ↓wp_raise, ↓wp_app, ↓wp_put, ↓wp_popAt, ↓wp_fld, ↓wp_rkp, ↓wp_keep, ↓wp_try1, isExn_non, flat_non, deref_non, imm_non, box_non, isExn_bl, flat_bl, deref_bl, imm_bl, box_bl, isExn_int, flat_int, deref_int, imm_int, box_int, isExn_str, flat_str, deref_str, imm_str, box_str, isExn_tup, flat_tup, deref_tup, box_tup, isExn_lst, flat_lst, deref_lst, imm_lst, box_lst, isExn_dic, flat_dic, deref_dic, imm_dic, box_dic, isExn_ins, flat_ins, deref_ins, imm_ins, box_ins, isExn_per, flat_per, imm_per, box_per, isExn_scr, flat_scr, deref_scr, imm_scr, box_scr, deref_per, imm_tup, imms_nil, imms_cons, sd_own, sd_dat, sfrz_own, sfrz_dat, sfrz_none, entry, slotO, setE, heldE, boxB, fitB, lstB, chgS, fresh, esc, escs, escR, esci, It.slot, frzS, perOk, List.getElem?_cons_zero, List.getElem?_cons_succ, List.set_cons_zero, List.set_cons_succ, List.length_cons, List.length_nil, List.map_cons, List.map_nil, List.replicate, List.append_eq, List.cons_append, List.nil_append, List.length_map, List.length_replicate, Option.map_some, Option.bind_some, if_true, if_false, ite_true, ite_false, reduceIte, Bool.not_true, Bool.not_false, Bool.false_eq_true, decide_true, decide_false, Nat.reduceAdd, Nat.reduceLT, Nat.reduceLeDiff, Nat.reduceSub, Nat.reduceEqDiff, Nat.add_one_sub_one, List.modify_zero_cons, List.modify_succ_cons, Bag.d, p1, m1 s hs hs2, d1, e1, e2, a1, g1, g2, g3, f1, f2, heldE, D.flat, boxB, fitB, D.imm, chgS]
      exact hQ _ ⟨s * 48271 % 2147483647, 0, [], (r1 _).1, (r1 _).2, by omega, by simp⟩ (r2 _).1 (r2 _).2
    | cons c r =>
      have hc := hr c (by simp)
      have hr' : ∀ z ∈ r, 0 ≤ z := fun z hz => hr z (by simp [hz])
      have hlen : (2 : Int) < (r.length : Int) + 1 + 1 + 1 := by omega
      by_cases hb : 1000000000000000000 ≤ c
      · have hc2 : 0 < c := by omega
        simp [Fx.L_take, ↓owp_ok, ↓owp_exc, ↓owp_bad, ↓swp_ok, ↓swp_exc, ↓swp_bad, ↓owp_ret, ↓owp_pbad, ↓swp_ret, ↓oq_some, ↓oq_none, ↓iq_true, ↓iq_false, ↓oq_map, ↓oq_bind, ↓wv_var, ↓wv_non, ↓wv_bl, ↓wv_int, ↓wv_str, ↓wv_glo, ↓wv_dct, ↓wv_bin, ↓wv_neg, ↓wv_not, ↓wt_not, ↓wv_cmp, ↓wt_cmp, ↓wv_and, ↓wt_and, ↓wv_or, ↓wt_or, ↓wv_ite, ↓wv_tup, ↓wv_lst, ↓wv_idx, ↓wv_slc, ↓wv_att, ↓wv_call, ↓wv_new, ↓wv_meth, ↓wv_fn1, ↓wv_isi, ↓wv_xat, ↓wt_var, ↓wt_bl, ↓wt_call, ↓wt_meth, ↓wt_isi, ↓wt_att, ↓wt_idx, ↓ws_nil, ↓ws_cons, ↓wo_none, ↓wo_some, ↓wi_seq, ↓wi_rng, ↓wv_lc, ↓thenS_nx, ↓thenS_ret, ↓thenS_brk, ↓thenS_ct, ↓wp_skip, ↓wp_seq, ↓wp_expr, ↓wp_set, ↓wp_own, ↓wp_ret, ↓wp_ite, ↓wp_for, ↓turn_name, ↓turn_tup, ↓wp_raise, ↓wp_app, ↓wp_put, ↓wp_popAt, ↓wp_fld, ↓wp_rkp, ↓wp_keep, ↓wp_try1, isExn_non, flat_non, deref_non, imm_non, box_non, isExn_bl, flat_bl, deref_bl, imm_bl, box_bl, isExn_int, flat_int, deref_int, imm_int, box_int, isExn_str, flat_str, deref_str, imm_str, box_str, isExn_tup, flat_tup, deref_tup, box_tup, isExn_lst, flat_lst, deref_lst, imm_lst, box_lst, isExn_dic, flat_dic, deref_dic, imm_dic, box_dic, isExn_ins, flat_ins, deref_ins, imm_ins, box_ins, isExn_per, flat_per, imm_per, box_per, isExn_scr, flat_scr, deref_scr, imm_scr, box_scr, deref_per, imm_tup, imms_nil, imms_cons, sd_own, sd_dat, sfrz_own, sfrz_dat, sfrz_none, entry, slotO, setE, heldE, boxB, fitB, lstB, chgS, fresh, esc, escs, escR, esci, It.slot, frzS, perOk, List.getElem?_cons_zero, List.getElem?_cons_succ, List.set_cons_zero, List.set_cons_succ, List.length_cons, List.length_nil, List.map_cons, List.map_nil, List.replicate, List.append_eq, List.cons_append, List.nil_append, List.length_map, List.length_replicate, Option.map_some, Option.bind_some, if_true, if_false, ite_true, ite_false, reduceIte, Bool.not_true, Bool.not_false, Bool.false_eq_true, decide_true, decide_false, Nat.reduceAdd, Nat.reduceLT, Nat.reduceLeDiff, Nat.reduceSub, Nat.reduceEqDiff, Nat.add_one_sub_one, List.modify_zero_cons, List.modify_succ_cons, Bag.d, p1, m1 s hs hs2, d1, d2, e1, e2, a1, g1, g2, g3, f1, f2, heldE, D.flat, boxB, fitB, D.imm, chgS, hlen, lstB, hb, hc2, setE]
        exact hQ _ ⟨s, c / z, r, hs, hs2, Int.ediv_nonneg hc (by omega), hr'⟩ (r2 _).1 (r2 _).2
      · simp [Fx.L_take, ↓owp_ok, ↓owp_exc, ↓owp_bad, ↓swp_ok, ↓swp_exc, ↓swp_bad, ↓owp_ret, ↓owp_pbad, ↓swp_ret, ↓oq_some, ↓oq_none, ↓iq_true, ↓iq_false, ↓oq_map, ↓oq_bind, ↓wv_var, ↓wv_non, ↓wv_bl, ↓wv_int, ↓wv_str, ↓wv_glo, ↓wv_dct, ↓wv_bin, ↓wv_neg, ↓wv_not, ↓wt_not, ↓wv_cmp, ↓wt_cmp, ↓wv_and, ↓wt_and, ↓wv_or, ↓wt_or, ↓wv_ite, ↓wv_tup, ↓wv_lst, ↓wv_idx, ↓wv_slc, ↓wv_att, ↓wv_call, ↓wv_new, ↓wv_meth, ↓wv_fn1, ↓wv_isi, ↓wv_xat, ↓wt_var, ↓wt_bl, ↓wt_call, ↓wt_meth, ↓wt_isi, ↓wt_att, ↓wt_idx, ↓ws_nil, ↓ws_cons, ↓wo_none, ↓wo_some, ↓wi_seq, ↓wi_rng, ↓wv_lc, ↓thenS_nx, ↓thenS_ret, ↓thenS_brk, ↓thenS_ct, ↓wp_skip, ↓wp_seq, ↓wp_expr, ↓wp_set, ↓wp_own, ↓wp_ret, ↓wp_ite, ↓wp_for, ↓turn_name, ↓turn_tup, ↓wp_raise, ↓wp_app, ↓wp_put, ↓wp_popAt, ↓wp_fld, ↓wp_rkp, ↓wp_keep, ↓wp_try1, isExn_non, flat_non, deref_non, imm_non, box_non, isExn_bl, flat_bl, deref_bl, imm_bl, box_bl, isExn_int, flat_int, deref_int, imm_int, box_int, isExn_str, flat_str, deref_str, imm_str, box_str, isExn_tup, flat_tup, deref_tup, box_tup, isExn_lst, flat_lst, deref_lst, imm_lst, box_lst, isExn_dic, flat_dic, deref_dic, imm_dic, box_dic, isExn_ins, flat_ins, deref_ins, imm_ins, box_ins, isExn_per, flat_per, imm_per, box_per, isExn_scr, flat_scr, deref_scr, imm_scr, box_scr, deref_per, imm_tup, imms_nil, imms_cons, sd_own, sd_dat, sfrz_own, sfrz_dat, sfrz_none, entry, slotO, setE, heldE, boxB, fitB, lstB, chgS, fresh, esc, escs, escR, esci, It.slot, frzS, perOk, List.getElem?_cons_zero, List.getElem?_cons_succ, List.set_cons_zero, List.set_cons_succ, List.length_cons, List.length_nil, List.map_cons, List.map_nil, List.replicate, List.append_eq, List.cons_append, List.nil_append, List.length_map, List.length_replicate, Option.map_some, Option.bind_some, if_true, if_false, ite_true, ite_false, reduceIte, Bool.not_true, Bool.not_false, Bool.false_eq_true, decide_true, decide_false, Nat.reduceAdd, Nat.reduceLT, Nat.reduceLeDiff, Nat.reduceSub, Nat.reduceEqDiff, Nat.add_one_sub_one, List.modify_zero_cons, List.modify_succ_cons, Bag.d, p1, m1 s hs hs2, m3 c hc (by omega), r3, d1, d2, e1, e2, a1, g1, g2, g3, f1, f2, heldE, D.flat, boxB, fitB, D.imm, chgS, hlen, lstB, hb, setE]
        exact hQ _ ⟨_, 0, r, (r1 _).1, (r1 _).2, by omega, hr'⟩ (r2 _).1 (r2 _).2
  · have t1 : 0 < t := by omega
    have tb : (t == 0) = false := by simpa using t0
    simp [Fx.L_take, ↓owp_ok, ↓owp_exc, ↓owp_bad, ↓swp_ok, ↓swp_exc, ↓swp_bad, ↓owp_ret, ↓owp_pbad, ↓swp_ret, ↓oq_some, ↓oq_none, ↓iq_true, ↓iq_false, ↓oq_map, ↓oq_bind, ↓wv_var, ↓wv_non, ↓wv_bl, ↓wv_int, ↓wv_str, ↓wv_glo, ↓wv_dct, ↓wv_bin, ↓wv_neg, ↓wv_not, ↓wt_not, ↓wv_cmp, ↓wt_cmp, ↓wv_and, ↓wt_and, ↓wv_or, ↓wt_or, ↓wv_ite, ↓wv_tup, ↓wv_lst, ↓wv_idx, ↓wv_slc, ↓wv_att, ↓wv_call, ↓wv_new, ↓wv_meth, ↓wv_fn1, ↓wv_isi, ↓wv_xat, ↓wt_var, ↓wt_bl, ↓wt_call, ↓wt_meth, ↓wt_isi, ↓wt_att, ↓wt_idx, ↓ws_nil, ↓ws_cons, ↓wo_none, ↓wo_some, ↓wi_seq, ↓wi_rng, ↓wv_lc, ↓thenS_nx, ↓thenS_ret, ↓thenS_brk, ↓thenS_ct, ↓wp_skip, ↓wp_seq, ↓wp_expr, ↓wp_set, ↓wp_own, ↓wp_ret, ↓wp_ite, ↓wp_for, ↓turn_name, ↓turn_tup, ↓wp_raise, ↓wp_app, ↓wp_put, ↓wp_popAt, ↓wp_fld, ↓wp_rkp, ↓wp_keep, ↓wp_try1, isExn_non, flat_non, deref_non, imm_non, box_non, isExn_bl, flat_bl, deref_bl, imm_bl, box_bl, isExn_int, flat_int, deref_int, imm_int, box_int, isExn_str, flat_str, deref_str, imm_str, box_str, isExn_tup, flat_tup, deref_tup, box_tup, isExn_lst, flat_lst, deref_lst, imm_lst, box_lst, isExn_dic, flat_dic, deref_dic, imm_dic, box_dic, isExn_ins, flat_ins, deref_ins, imm_ins, box_ins, isExn_per, flat_per, imm_per, box_per, isExn_scr, flat_scr, deref_scr, imm_scr, box_scr, deref_per, imm_tup, imms_nil, imms_cons, sd_own, sd_dat, sfrz_own, sfrz_dat, sfrz_none, entry, slotO, setE, heldE, boxB, fitB, lstB, chgS, fresh, esc, escs, escR, esci, It.slot, frzS, perOk, List.getElem?_cons_zero, List.getElem?_cons_succ, List.set_cons_zero, List.set_cons_succ, List.length_cons, List.length_nil, List.map_cons, List.map_nil, List.replicate, List.append_eq, List.cons_append, List.nil_append, List.length_map, List.length_replicate, Option.map_some, Option.bind_some, if_true, if_false, ite_true, ite_false, reduceIte, Bool.not_true, Bool.not_false, Bool.false_eq_true, decide_true, decide_false, Nat.reduceAdd, Nat.reduceLT, Nat.reduceLeDiff, Nat.reduceSub, Nat.reduceEqDiff, Nat.add_one_sub_one, List.modify_zero_cons, List.modify_succ_cons, Bag.d, d1, d2, e1, e2, a1, g1, g2, g3, f1, f2, heldE, D.flat, boxB, fitB, D.imm, chgS, tb, t1, setE]
    exact hQ _ ⟨s, t / z, r, hs, hs2, Int.ediv_nonneg ht (by omega), hr⟩ (r2 _).1 (r2 _).2
theorem take_ex {T : Tab} {n : Nat} {b : Bag} {q : List D} {z : Int} (hf : T.fn 502 = some Fx.L_take) (hz : 0 < z) (hl : z.natAbs.log2 < 9000) :
    ∃ (v : Int) (b' : Bag), 0 ≤ v ∧ v < z ∧ (lev T (n+1)).call 502 [.per 0, .int z] (b.d :: q) = .ok (.int v) (b'.d :: q) := by
  have key : ((lev T (n+1)).call 502 [.per 0, .int z] (b.d :: q)).wp (fun d p => ∃ (v : Int) (b' : Bag), 0 ≤ v ∧ v < z ∧ d = .int v ∧ p = b'.d :: q) (fun _ _ => False) :=
    take_wp' hf hz hl fun v b' h1 h2 => ⟨v, b', h1, h2, rfl, rfl⟩
  cases h : (lev T (n+1)).call 502 [.per 0, .int z] (b.d :: q) with
  | ok a p => rw [h] at key; obtain ⟨v, b', h1, h2, rfl, rfl⟩ := key; exact ⟨v, b', h1, h2, rfl⟩
  | exc a q => rw [h] at key; exact key.elim
  | bad => rw [h] at key; exact key.elim
theorem lcL_pure {v : Nat} {c : Env → P Bool} {e : Env → P D} {env : Env} {p : List D} {f : D → D} : ∀ {ds : List D}, (∀ d ∈ ds, c (env.set v (some (.dat d))) p = .ok true p ∧ e (env.set v (some (.dat d))) p = .ok (f d) p) → lcL v c e env ds p = .ok (ds.map f) p
  | [], _ => rfl
  | d :: ds, h => by
    obtain ⟨h1, h2⟩ := h d (by simp)
    unfold lcL
    simp only [P.bind, h1, h2, if_true, lcL_pure fun d hd => h d (List.mem_cons_of_mem _ hd), P.ret, List.map_cons]
def absD : D → D
  | .int i => .int (if i < 0 then -i else i)
  | d => d
/-- the law's bag of the script -/
theorem bag_wp {T : Tab} {n : Nat} {ns : List Int} {Q : D → List D → Prop} {E : Exc → List D → Prop} (hf : T.fn 501 = some Fx.L_bag) (hn : ns.length ≤ 63)
    (hQ : ∀ b : Bag, Q (.per 0) [b.d]) : ((lev T (n+1)).call 501 [.scr ns] []).wp Q E := by
  refine call_wp hf rfl ?_
  have e : lcL 1 (evc T (lev T n) Oex.none) (ev T (lev T n) (Ex.fn1 Fop.abs (Ex.var 1))).v [some (Slot.dat (D.scr ns)), none] (List.map D.int (cut ns none (some 63))) [] = .ok ((List.map D.int (cut ns none (some 63))).map absD) [] := by
    refine lcL_pure fun d hd => ?_
    obtain ⟨i, _, rfl⟩ := List.mem_map.mp hd
    exact ⟨rfl, rfl⟩
  have hlen : (cut ns none (some 63)).length ≤ 63 := by
    unfold cut
    rw [List.length_take, List.length_drop]
    omega
  have hs : sizeLine = 16777216 := by decide
  have im : D.imms ((List.map D.int (cut ns none (some 63))).map absD) = true := by
    rw [List.map_map]
    generalize cut ns none (some 63) = l
    induction l with
    | nil => rfl
    | cons a l ih => exact ih
  have el : ((List.map D.int (cut ns none (some 63))).map absD).length = (cut ns none (some 63)).length := by simp
  have b1 : bop .add (.lst [.int 0, .int 0]) (.lst ((List.map D.int (cut ns none (some 63))).map absD)) = some (.lst ([.int 0, .int 0] ++ ((List.map D.int (cut ns none (some 63))).map absD))) := by
    simp only [bop, el]
    rw [if_pos (by simp; omega)]
  have le1 : decide (2 ≤ sizeLine) = true := by decide
  have le2 : decide ((cut ns none (some 63)).length ≤ sizeLine) = true := decide_eq_true (by omega)
  simp only [Fx.L_bag, ↓owp_ok, ↓owp_exc, ↓owp_bad, ↓swp_ok, ↓swp_exc, ↓swp_bad, ↓owp_ret, ↓owp_pbad, ↓swp_ret, ↓oq_some, ↓oq_none, ↓iq_true, ↓iq_false, ↓oq_map, ↓oq_bind, ↓wv_var, ↓wv_non, ↓wv_bl, ↓wv_int, ↓wv_str, ↓wv_glo, ↓wv_dct, ↓wv_bin, ↓wv_neg, ↓wv_not, ↓wt_not, ↓wv_cmp, ↓wt_cmp, ↓wv_and, ↓wt_and, ↓wv_or, ↓wt_or, ↓wv_ite, ↓wv_tup, ↓wv_lst, ↓wv_idx, ↓wv_slc, ↓wv_att, ↓wv_call, ↓wv_new, ↓wv_meth, ↓wv_fn1, ↓wv_isi, ↓wv_xat, ↓wt_var, ↓wt_bl, ↓wt_call, ↓wt_meth, ↓wt_isi, ↓wt_att, ↓wt_idx, ↓ws_nil, ↓ws_cons, ↓wo_none, ↓wo_some, ↓wi_seq, ↓wi_rng, ↓wv_lc, ↓thenS_nx, ↓thenS_ret, ↓thenS_brk, ↓thenS_ct, ↓wp_skip, ↓wp_seq, ↓wp_expr, ↓wp_set, ↓wp_own, ↓wp_ret, ↓wp_ite, ↓wp_for, ↓turn_name, ↓turn_tup, ↓wp_raise, ↓wp_app, ↓wp_put, ↓wp_popAt, ↓wp_fld, ↓wp_rkp, ↓wp_keep, ↓wp_try1, isExn_non, flat_non, deref_non, imm_non, box_non, isExn_bl, flat_bl, deref_bl, imm_bl, box_bl, isExn_int, flat_int, deref_int, imm_int, box_int, isExn_str, flat_str, deref_str, imm_str, box_str, isExn_tup, flat_tup, deref_tup, box_tup, isExn_lst, flat_lst, deref_lst, imm_lst, box_lst, isExn_dic, flat_dic, deref_dic, imm_dic, box_dic, isExn_ins, flat_ins, deref_ins, imm_ins, box_ins, isExn_per, flat_per, imm_per, box_per, isExn_scr, flat_scr, deref_scr, imm_scr, box_scr, deref_per, imm_tup, imms_nil, imms_cons, sd_own, sd_dat, sfrz_own, sfrz_dat, sfrz_none, entry, slotO, setE, heldE, boxB, fitB, lstB, chgS, fresh, esc, escs, escR, esci, It.slot, frzS, perOk, List.getElem?_cons_zero, List.getElem?_cons_succ, List.set_cons_zero, List.set_cons_succ, List.length_cons, List.length_nil, List.map_cons, List.map_nil, List.replicate, List.append_eq, List.cons_append, List.nil_append, List.length_map, List.length_replicate, Option.map_some, Option.bind_some, if_true, if_false, ite_true, ite_false, reduceIte, Bool.not_true, Bool.not_false, Bool.false_eq_true, decide_true, decide_false, Nat.reduceAdd, Nat.reduceLT, Nat.reduceLeDiff, Nat.reduceSub, Nat.reduceEqDiff, Nat.add_one_sub_one, List.modify_zero_cons, List.modify_succ_cons, slcD, D.items, calm, e, le1, el, le2, b1, im, Bool.and_self, Bool.and_true, Nat.zero_add]
  rw [List.map_map]
  have hz : ∀ z ∈ (cut ns none (some 63)).map fun i => if i < 0 then -i else i, 0 ≤ z := by
    intro z hz
    obtain ⟨i, _, rfl⟩ := List.mem_map.mp hz
    split <;> omega
  have := hQ ⟨0, 0, (cut ns none (some 63)).map fun i => if i < 0 then -i else i, by decide, by decide, by decide, hz⟩
  unfold Bag.d at this
  rw [List.map_map] at this
  exact this
end DL
end
section
set_option Elab.async false
set_option linter.all false
set_option maxRecDepth 100000
set_option maxHeartbeats 2000000
/-! PlStr: texts. -/
namespace DL
open PySem
theorem str_len_append {x y : Str} : (x ++ y).length = x.length + y.length := by
  show (x.cps ++ y.cps).size = _
  rw [Array.size_append]
  rfl
theorem str_chars_append {x y : Str} : (x ++ y).cps.toList = x.cps.toList ++ y.cps.toList := by
  show (x.cps ++ y.cps).toList = _
  rw [Array.toList_append]
theorem str_len {x : Str} : x.cps.toList.length = x.length := by simp [Str.length]
theorem add_strs {x y : Str} (h : x.length + y.length ≤ sizeLine) : bop .add (.str x) (.str y) = some (.str (x ++ y)) := by
  show (if x.length + y.length ≤ sizeLine then some (D.str (x ++ y)) else none) = _
  rw [if_pos h]
theorem idx_str {x : Str} {v : Int} (h0 : 0 ≤ v) (h1 : v < x.length) (h2 : x.length ≤ sizeLine) : ∃ c ∈ x.cps.toList, idxD (.str x) (.int v) = some (.str ⟨#[c]⟩) := by
  have hl : v.toNat < x.cps.toList.length := by rw [str_len]; omega
  refine ⟨x.cps.toList[v.toNat], List.getElem_mem hl, ?_⟩
  show (if x.length ≤ sizeLine then (L2.atI x.cps.toList v).map fun c => D.str ⟨#[c]⟩ else none) = _
  rw [if_pos h2]
  unfold L2.atI L2.ixN
  rw [if_pos h0, if_pos (by rw [str_len]; exact h1)]
  simp only [Option.bind_some, List.getElem?_eq_getElem hl, Option.map_some]
theorem slc_str {x : Str} {lo hi : Option Int} (h : x.length ≤ sizeLine) : slcD lo hi (.str x) = some (.str (L2.cutS x lo hi)) := by
  show (if x.length ≤ sizeLine then some (D.str (L2.cutS x lo hi)) else none) = _
  rw [if_pos h]
theorem cutS_len {x : Str} {lo hi : Option Int} : (L2.cutS x lo hi).length ≤ x.length := by
  unfold L2.cutS
  show (List.toArray _).size ≤ _
  rw [List.size_toArray, List.length_take, List.length_drop, str_len]
  omega
theorem one_len {c : Nat} : (⟨#[c]⟩ : Str).length = 1 := rfl
theorem vStr_bad {x : Str} {c : Nat} (hc : c ∈ x.cps.toList) (hb : goodCh c = false) : vStr x = false := by
  unfold vStr
  have : x.cps.toList.all goodCh = false := by
    rw [List.all_eq_false]
    exact ⟨c, hc, by simp [hb]⟩
  rw [this, Bool.and_false]
theorem vStr_good {x : Str} (h : ∀ c ∈ x.cps.toList, goodCh c = true) : vStr x = (!(x == ("" : Str)) && decide (x.length ≤ 12)) := by
  unfold vStr
  rw [List.all_eq_true.mpr h, Bool.and_true]
theorem ne_strs {x y : Str} : cop .ne (.str x) (.str y) = some (!(x == y)) := by simp [cop, eqOk, D.plain, D.depth, D.eqv]
theorem eq_strs {x y : Str} : cop .eq (.str x) (.str y) = some (x == y) := by simp [cop, eqOk, D.plain, D.depth, D.eqv]
theorem rng_ok {v : Int} (h0 : 0 ≤ v) (h1 : v < 1000000) : rngD (.int v) = some ((List.range v.toNat).map fun k => .int (k : Nat)) := by
  show (if v < 4611686018427387904 ∧ -4611686018427387904 ≤ v then _ else none) = _
  rw [if_pos (by omega)]
theorem empty_len {x : Str} (h : (x == ("" : Str)) = false) : 0 < x.length := by
  rcases Nat.eq_zero_or_pos x.length with e | e
  · exfalso
    obtain ⟨c⟩ := x
    have e2 : c = #[] := Array.size_eq_zero_iff.mp e
    subst e2
    revert h
    decide +kernel
  · exact e
end DL
end
section
set_option Elab.async false
set_option linter.all false
set_option maxRecDepth 100000
set_option maxHeartbeats 0
/-! the table of law_k03_valid_names (printed by gen.py) -/
namespace DL.K03
open PySem PySem.W L2 PyProof.Rows He

abbrev PR : Program := PySem.Challenge.pw_dimmerlog_k03_valid_names

/-- law ['_law_script', '_law_bag_here', '_law_signs', '_law_others', '_law_name', '_law_k', '_law_valid', '_law_spot', '_law_one', '_law_two', '_law_due'] -/
def law : Fn := ⟨1, 11, .seq (.set 1 (.call 501 (.cons (.var 0) .nil))) (.seq (.set 2 (.str "abcdefghijklmnopqrstuvwxyz0123456789")) (.seq (.set 3 (.str " !\"#$&'()*+,-./:;<=>?@ABCDEFGHIJKLMNOPQRSTUVWXYZ[\\]^_`{|}~\n\t")) (.seq (.set 4 (.str "")) (.seq (.for_ (.name 5) (.rng (.call 502 (.cons (.var 1) (.cons (.int 15) .nil)))) (.seq (.set 4 (.bin .add (.var 4) (.idx (.var 2) (.call 502 (.cons (.var 1) (.cons (.int 36) .nil)))))) (.skip))) (.seq (.set 6 (.and (.cmp .ne (.var 4) (.str "")) (.cmp .le (.fn1 .len (.var 4)) (.int 12)))) (.seq (.ite (.and (.cmp .eq (.call 502 (.cons (.var 1) (.cons (.int 3) .nil))) (.int 1)) (.cmp .ne (.var 4) (.str ""))) (.seq (.set 7 (.call 502 (.cons (.var 1) (.cons (.fn1 .len (.var 4)) .nil)))) (.seq (.set 4 (.bin .add (.bin .add (.slc (.var 4) .none (.some (.var 7))) (.idx (.var 3) (.call 502 (.cons (.var 1) (.cons (.fn1 .len (.var 3)) .nil))))) (.slc (.var 4) (.some (.bin .add (.var 7) (.int 1))) .none))) (.seq (.set 6 (.bl false)) (.skip)))) (.skip)) (.seq (.set 8 (.call 521 (.cons (.lst (.cons (.var 4) .nil)) (.cons (.lst .nil) (.cons (.var 4) .nil))))) (.seq (.set 9 (.call 521 (.cons (.lst .nil) (.cons (.lst (.cons (.tup (.cons (.var 4) (.cons (.lst .nil) .nil))) .nil)) (.cons (.var 4) .nil))))) (.seq (.set 10 (.idx (.lst (.cons (.str "refused") (.cons (.str "good") .nil))) (.fn1 .int (.var 6)))) (.seq (.ret (.and (.cmp .eq (.var 8) (.var 10)) (.cmp .eq (.var 9) (.var 10)))) (.skip)))))))))))⟩

def c_DimmerError : DL.Cl := ⟨"DimmerError", true, 0, [], [], [], [0]⟩

def c_InvalidName : DL.Cl := ⟨"InvalidName", true, 0, [], [], ["name"], [1, 0]⟩

def c_DuplicateName : DL.Cl := ⟨"DuplicateName", true, 0, [], [], ["name"], [2, 0]⟩

def c_UnknownName : DL.Cl := ⟨"UnknownName", true, 0, [], [], ["name"], [3, 0]⟩

def c_InvalidLine : DL.Cl := ⟨"InvalidLine", true, 0, [], [], ["line"], [4, 0]⟩

def c_TooMany : DL.Cl := ⟨"TooMany", true, 0, [], [], ["limit"], [5, 0]⟩

def c_Table : DL.Cl := ⟨"Table", false, 8, [], [], ["lamps", "looks", "cells"], [6]⟩

def T : DL.Tab := ⟨[(0, law), (501, Fx.L_bag), (502, Fx.L_take), (521, Fx.L_accepts), (8, Fx.Table___init__), (4, Fx.checked_names), (2, Fx.check_new), (3, Fx.check_known), (1, Fx.check_name)], [(0, c_DimmerError), (1, c_InvalidName), (2, c_DuplicateName), (3, c_UnknownName), (4, c_InvalidLine), (5, c_TooMany), (6, c_Table)]⟩

def L : Nms := ⟨[(0, "law"), (501, "_law_bag"), (502, "_law_take"), (521, "_law_accepts"), (4, "checked_names"), (2, "check_new"), (3, "check_known"), (1, "check_name")], [("LIMIT", .int 24), ("LENGTH", .int 12), ("SIGNS", .str "abcdefghijklmnopqrstuvwxyz0123456789")]⟩

def ds : List (Nat × FDs) := [
  (0, ⟨("law", none), "law", "law", 21, none, ["_law_script", "_law_bag_here", "_law_signs", "_law_others", "_law_name", "_law_k", "_law_valid", "_law_spot", "_law_one", "_law_two", "_law_due"], false⟩),
  (501, ⟨("_law_bag", none), "_law_bag", "_law_bag", 18, none, ["_law_script", "_law_cell"], false⟩),
  (502, ⟨("_law_take", none), "_law_take", "_law_take", 19, none, ["_law_bag_here", "_law_size", "_law_cell", "_law_digit"], false⟩),
  (521, ⟨("_law_accepts", none), "_law_accepts", "_law_accepts", 20, none, ["_law_lamps", "_law_looks", "_law_name", "_law_table", "e", "_law_look"], false⟩),
  (8, ⟨("Table", some "__init__"), "__init__", "Table.__init__", 16, some 0, ["self", "lamps", "looks", "cells", "look", "glowing", "taken", "lamp"], true⟩),
  (4, ⟨("checked_names", none), "checked_names", "checked_names", 15, none, ["names", "taken", "name"], false⟩),
  (2, ⟨("check_new", none), "check_new", "check_new", 13, none, ["name", "taken"], false⟩),
  (3, ⟨("check_known", none), "check_known", "check_known", 14, none, ["name", "known"], false⟩),
  (1, ⟨("check_name", none), "check_name", "check_name", 12, none, ["name", "sign"], false⟩)]

def loose : List Str := ["__name__", "_wall", "check_name", "check_new", "check_known", "checked_names", "_law_bag", "_law_take", "_law_accepts", "DimmerError", "InvalidName", "DuplicateName", "UnknownName", "InvalidLine", "TooMany", "Table", "LIMIT", "LENGTH", "SIGNS"]

def lawAt : Nat := 21

theorem txt : txtAll PR T L ds = true := by decide +kernel

end DL.K03
end
section
set_option Elab.async false
set_option linter.all false
set_option maxRecDepth 100000
set_option maxHeartbeats 4000000
/-! K03A: _law_accepts of k03. -/
namespace DL.K03
open PySem DL
theorem has : HasTab T := ⟨rfl, rfl, rfl, rfl, rfl, rfl, rfl, rfl, rfl⟩
theorem tcl : TabCl c_Table := ⟨rfl, rfl, rfl, rfl, rfl⟩
section
variable {n : Nat} {x : Str} {p : List D} {Q : D → List D → Prop} {E : Exc → List D → Prop}
theorem str_ne {x : Str} : D.eqv (.str x) (.str x) = true := by simp [D.eqv]
def answer (x : Str) : D := .str (if vStr x then "good" else "refused")
theorem at1 {a b c : D} : attD T "lamps" (.ins 6 [("lamps", a), ("looks", b), ("cells", c)]) = some a := rfl
theorem at2 {a b c : D} : attD T "looks" (.ins 6 [("lamps", a), ("looks", b), ("cells", c)]) = some b := rfl
theorem refused {h1 h2 : D} {Z : Ctl → S → Prop} {Y : Exc → S → Prop} (hQ : ∀ env, Z (.ret (.str "refused")) ⟨env, p⟩) (k1 : h1.isExn = false) (k2 : h2.isExn = false) : handle T (lev T n) 1 4 (.seq (.ite (.cmp .ne (.xat 4 "name") (.var 2)) (.seq (.ret (.str "wrong")) (.skip)) (.skip)) (.seq (.ret (.str "refused")) (.skip)))
    Z Y (xInv (.str x)) ⟨frzX (xInv (.str x)) [some (.dat h1), some (.dat h2), some (.dat (.str x)), none, none, none], p⟩ := by
  have c1 : T.cl 1 = some cInv := rfl
  have e0 : frzX (xInv (.str x)) [some (.dat h1), some (.dat h2), some (.dat (.str x)), none, none, none] = [some (.dat h1), some (.dat h2), some (.dat (.str x)), none, none, none] := rfl
  rw [e0]
  have e1 : (List.contains [1, 0] 1) = true := rfl
  have e3 : exnF T [some (.dat h1), some (.dat h2), some (.dat (.str x)), none, some (.dat (.exn 1 [("name", .str x)])), none] 4 "name" p = .ok (.str x) p := rfl
  have e4 : cop .ne (.str x) (.str x) = some false := by simp [cop, eqOk, D.plain, D.depth, D.eqv]
  have e5 : ([some (.dat h1), some (.dat h2), some (.dat (.str x)), none, none, none] : List (Option Slot)).any exnSl = false := by
    cases h1 <;> cases h2 <;> simp_all [exnSl, D.isExn]
  simp only [handle, xInv, ↓owp_ok, ↓owp_exc, ↓owp_bad, ↓swp_ok, ↓swp_exc, ↓swp_bad, ↓owp_ret, ↓owp_pbad, ↓swp_ret, ↓oq_some, ↓oq_none, ↓iq_true, ↓iq_false, ↓oq_map, ↓oq_bind, ↓wv_var, ↓wv_non, ↓wv_bl, ↓wv_int, ↓wv_str, ↓wv_glo, ↓wv_dct, ↓wv_bin, ↓wv_neg, ↓wv_not, ↓wt_not, ↓wv_cmp, ↓wt_cmp, ↓wv_and, ↓wt_and, ↓wv_or, ↓wt_or, ↓wv_ite, ↓wv_tup, ↓wv_lst, ↓wv_idx, ↓wv_slc, ↓wv_att, ↓wv_call, ↓wv_new, ↓wv_meth, ↓wv_fn1, ↓wv_isi, ↓wv_xat, ↓wt_var, ↓wt_bl, ↓wt_call, ↓wt_meth, ↓wt_isi, ↓wt_att, ↓wt_idx, ↓ws_nil, ↓ws_cons, ↓wo_none, ↓wo_some, ↓wi_seq, ↓wi_rng, ↓wv_lc, ↓thenS_nx, ↓thenS_ret, ↓thenS_brk, ↓thenS_ct, ↓wp_skip, ↓wp_seq, ↓wp_expr, ↓wp_set, ↓wp_own, ↓wp_ret, ↓wp_ite, ↓wp_for, ↓turn_name, ↓turn_tup, ↓wp_raise, ↓wp_app, ↓wp_put, ↓wp_popAt, ↓wp_fld, ↓wp_rkp, ↓wp_keep, ↓wp_try1, isExn_non, flat_non, deref_non, imm_non, box_non, isExn_bl, flat_bl, deref_bl, imm_bl, box_bl, isExn_int, flat_int, deref_int, imm_int, box_int, isExn_str, flat_str, deref_str, imm_str, box_str, isExn_tup, flat_tup, deref_tup, box_tup, isExn_lst, flat_lst, deref_lst, imm_lst, box_lst, isExn_dic, flat_dic, deref_dic, imm_dic, box_dic, isExn_ins, flat_ins, deref_ins, imm_ins, box_ins, isExn_per, flat_per, imm_per, box_per, isExn_scr, flat_scr, deref_scr, imm_scr, box_scr, deref_per, imm_tup, imms_nil, imms_cons, sd_own, sd_dat, sfrz_own, sfrz_dat, sfrz_none, entry, slotO, setE, heldE, boxB, fitB, lstB, chgS, fresh, esc, escs, escR, esci, It.slot, frzS, perOk, List.getElem?_cons_zero, List.getElem?_cons_succ, List.set_cons_zero, List.set_cons_succ, List.length_cons, List.length_nil, List.map_cons, List.map_nil, List.replicate, List.append_eq, List.cons_append, List.nil_append, List.length_map, List.length_replicate, Option.map_some, Option.bind_some, if_true, if_false, ite_true, ite_false, reduceIte, Bool.not_true, Bool.not_false, Bool.false_eq_true, decide_true, decide_false, Nat.reduceAdd, Nat.reduceLT, Nat.reduceLeDiff, Nat.reduceSub, Nat.reduceEqDiff, Nat.add_one_sub_one, List.modify_zero_cons, List.modify_succ_cons, c1, cInv, e1, excAt, Bool.and_self, e3, e4, e5]
  exact hQ _
theorem accepts1 (hx : okStr x) (hQ : Q (answer x) p) : ((lev T (n+5)).call 521 [.lst [.str x], .lst [], .str x] p).wp Q E := by
  refine call_wp (fn := Fx.L_accepts) rfl rfl ?_
  simp only [Fx.L_accepts, ↓owp_ok, ↓owp_exc, ↓owp_bad, ↓swp_ok, ↓swp_exc, ↓swp_bad, ↓owp_ret, ↓owp_pbad, ↓swp_ret, ↓oq_some, ↓oq_none, ↓iq_true, ↓iq_false, ↓oq_map, ↓oq_bind, ↓wv_var, ↓wv_non, ↓wv_bl, ↓wv_int, ↓wv_str, ↓wv_glo, ↓wv_dct, ↓wv_bin, ↓wv_neg, ↓wv_not, ↓wt_not, ↓wv_cmp, ↓wt_cmp, ↓wv_and, ↓wt_and, ↓wv_or, ↓wt_or, ↓wv_ite, ↓wv_tup, ↓wv_lst, ↓wv_idx, ↓wv_slc, ↓wv_att, ↓wv_call, ↓wv_new, ↓wv_meth, ↓wv_fn1, ↓wv_isi, ↓wv_xat, ↓wt_var, ↓wt_bl, ↓wt_call, ↓wt_meth, ↓wt_isi, ↓wt_att, ↓wt_idx, ↓ws_nil, ↓ws_cons, ↓wo_none, ↓wo_some, ↓wi_seq, ↓wi_rng, ↓wv_lc, ↓thenS_nx, ↓thenS_ret, ↓thenS_brk, ↓thenS_ct, ↓wp_skip, ↓wp_seq, ↓wp_expr, ↓wp_set, ↓wp_own, ↓wp_ret, ↓wp_ite, ↓wp_for, ↓turn_name, ↓turn_tup, ↓wp_raise, ↓wp_app, ↓wp_put, ↓wp_popAt, ↓wp_fld, ↓wp_rkp, ↓wp_keep, ↓wp_try1, isExn_non, flat_non, deref_non, imm_non, box_non, isExn_bl, flat_bl, deref_bl, imm_bl, box_bl, isExn_int, flat_int, deref_int, imm_int, box_int, isExn_str, flat_str, deref_str, imm_str, box_str, isExn_tup, flat_tup, deref_tup, box_tup, isExn_lst, flat_lst, deref_lst, imm_lst, box_lst, isExn_dic, flat_dic, deref_dic, imm_dic, box_dic, isExn_ins, flat_ins, deref_ins, imm_ins, box_ins, isExn_per, flat_per, imm_per, box_per, isExn_scr, flat_scr, deref_scr, imm_scr, box_scr, deref_per, imm_tup, imms_nil, imms_cons, sd_own, sd_dat, sfrz_own, sfrz_dat, sfrz_none, entry, slotO, setE, heldE, boxB, fitB, lstB, chgS, fresh, esc, escs, escR, esci, It.slot, frzS, perOk, List.getElem?_cons_zero, List.getElem?_cons_succ, List.set_cons_zero, List.set_cons_succ, List.length_cons, List.length_nil, List.map_cons, List.map_nil, List.replicate, List.append_eq, List.cons_append, List.nil_append, List.length_map, List.length_replicate, Option.map_some, Option.bind_some, if_true, if_false, ite_true, ite_false, reduceIte, Bool.not_true, Bool.not_false, Bool.false_eq_true, decide_true, decide_false, Nat.reduceAdd, Nat.reduceLT, Nat.reduceLeDiff, Nat.reduceSub, Nat.reduceEqDiff, Nat.add_one_sub_one, List.modify_zero_cons, List.modify_succ_cons]
  refine table_wp has (cl := c_Table) rfl tcl (lamps := [x]) (rows := []) (ds := []) rfl rfl rfl rfl (by simpa using hx) rfl rfl rfl rfl .nil (by simp) (fun h => by simp at h) (fun e _ _ he => ?_) (fun e _ _ _ he => by simp [rowsBad] at he) (fun _ _ hn _ => ?_)
  · have hv : vStr x = false := by
      cases hv : vStr x with
      | false => rfl
      | true => simp [namesBad, hv] at he
    have he2 : e = xInv (.str x) := by
      simp [namesBad, hv] at he
      exact he.symm
    subst he2
    refine refused (fun env => ?_) rfl rfl
    simpa [answer, hv] using hQ
  · have hv : vStr x = true := by
      cases hv : vStr x with
      | true => rfl
      | false => simp [namesBad, hv] at hn
    have e4 : cop .ne (.lst [.str x]) (.lst [.str x]) = some false := by simp [cop, eqOk, D.plain, D.plains, D.depth, D.depths, D.eqv, D.eqvs]
    have e5 : cop .ne (.lst []) (.lst []) = some false := by simp [cop, eqOk, D.plain, D.plains, D.depth, D.depths, D.eqv, D.eqvs]
    have s0 : decide (0 ≤ sizeLine) = true := by decide
    simp only [↓owp_ok, ↓owp_exc, ↓owp_bad, ↓swp_ok, ↓swp_exc, ↓swp_bad, ↓owp_ret, ↓owp_pbad, ↓swp_ret, ↓oq_some, ↓oq_none, ↓iq_true, ↓iq_false, ↓oq_map, ↓oq_bind, ↓wv_var, ↓wv_non, ↓wv_bl, ↓wv_int, ↓wv_str, ↓wv_glo, ↓wv_dct, ↓wv_bin, ↓wv_neg, ↓wv_not, ↓wt_not, ↓wv_cmp, ↓wt_cmp, ↓wv_and, ↓wt_and, ↓wv_or, ↓wt_or, ↓wv_ite, ↓wv_tup, ↓wv_lst, ↓wv_idx, ↓wv_slc, ↓wv_att, ↓wv_call, ↓wv_new, ↓wv_meth, ↓wv_fn1, ↓wv_isi, ↓wv_xat, ↓wt_var, ↓wt_bl, ↓wt_call, ↓wt_meth, ↓wt_isi, ↓wt_att, ↓wt_idx, ↓ws_nil, ↓ws_cons, ↓wo_none, ↓wo_some, ↓wi_seq, ↓wi_rng, ↓wv_lc, ↓thenS_nx, ↓thenS_ret, ↓thenS_brk, ↓thenS_ct, ↓wp_skip, ↓wp_seq, ↓wp_expr, ↓wp_set, ↓wp_own, ↓wp_ret, ↓wp_ite, ↓wp_for, ↓turn_name, ↓turn_tup, ↓wp_raise, ↓wp_app, ↓wp_put, ↓wp_popAt, ↓wp_fld, ↓wp_rkp, ↓wp_keep, ↓wp_try1, isExn_non, flat_non, deref_non, imm_non, box_non, isExn_bl, flat_bl, deref_bl, imm_bl, box_bl, isExn_int, flat_int, deref_int, imm_int, box_int, isExn_str, flat_str, deref_str, imm_str, box_str, isExn_tup, flat_tup, deref_tup, box_tup, isExn_lst, flat_lst, deref_lst, imm_lst, box_lst, isExn_dic, flat_dic, deref_dic, imm_dic, box_dic, isExn_ins, flat_ins, deref_ins, imm_ins, box_ins, isExn_per, flat_per, imm_per, box_per, isExn_scr, flat_scr, deref_scr, imm_scr, box_scr, deref_per, imm_tup, imms_nil, imms_cons, sd_own, sd_dat, sfrz_own, sfrz_dat, sfrz_none, entry, slotO, setE, heldE, boxB, fitB, lstB, chgS, fresh, esc, escs, escR, esci, It.slot, frzS, perOk, List.getElem?_cons_zero, List.getElem?_cons_succ, List.set_cons_zero, List.set_cons_succ, List.length_cons, List.length_nil, List.map_cons, List.map_nil, List.replicate, List.append_eq, List.cons_append, List.nil_append, List.length_map, List.length_replicate, Option.map_some, Option.bind_some, if_true, if_false, ite_true, ite_false, reduceIte, Bool.not_true, Bool.not_false, Bool.false_eq_true, decide_true, decide_false, Nat.reduceAdd, Nat.reduceLT, Nat.reduceLeDiff, Nat.reduceSub, Nat.reduceEqDiff, Nat.add_one_sub_one, List.modify_zero_cons, List.modify_succ_cons, tableD, rowCells, at1, at2, fop, e4, e5, D.items, calm, lcL, P.ret, s0]
    simpa [answer, hv] using hQ
theorem accepts2 (hx : okStr x) (hQ : Q (answer x) p) : ((lev T (n+5)).call 521 [.lst [], .lst [.tup [.str x, .lst []]], .str x] p).wp Q E := by
  refine call_wp (fn := Fx.L_accepts) rfl rfl ?_
  simp only [Fx.L_accepts, ↓owp_ok, ↓owp_exc, ↓owp_bad, ↓swp_ok, ↓swp_exc, ↓swp_bad, ↓owp_ret, ↓owp_pbad, ↓swp_ret, ↓oq_some, ↓oq_none, ↓iq_true, ↓iq_false, ↓oq_map, ↓oq_bind, ↓wv_var, ↓wv_non, ↓wv_bl, ↓wv_int, ↓wv_str, ↓wv_glo, ↓wv_dct, ↓wv_bin, ↓wv_neg, ↓wv_not, ↓wt_not, ↓wv_cmp, ↓wt_cmp, ↓wv_and, ↓wt_and, ↓wv_or, ↓wt_or, ↓wv_ite, ↓wv_tup, ↓wv_lst, ↓wv_idx, ↓wv_slc, ↓wv_att, ↓wv_call, ↓wv_new, ↓wv_meth, ↓wv_fn1, ↓wv_isi, ↓wv_xat, ↓wt_var, ↓wt_bl, ↓wt_call, ↓wt_meth, ↓wt_isi, ↓wt_att, ↓wt_idx, ↓ws_nil, ↓ws_cons, ↓wo_none, ↓wo_some, ↓wi_seq, ↓wi_rng, ↓wv_lc, ↓thenS_nx, ↓thenS_ret, ↓thenS_brk, ↓thenS_ct, ↓wp_skip, ↓wp_seq, ↓wp_expr, ↓wp_set, ↓wp_own, ↓wp_ret, ↓wp_ite, ↓wp_for, ↓turn_name, ↓turn_tup, ↓wp_raise, ↓wp_app, ↓wp_put, ↓wp_popAt, ↓wp_fld, ↓wp_rkp, ↓wp_keep, ↓wp_try1, isExn_non, flat_non, deref_non, imm_non, box_non, isExn_bl, flat_bl, deref_bl, imm_bl, box_bl, isExn_int, flat_int, deref_int, imm_int, box_int, isExn_str, flat_str, deref_str, imm_str, box_str, isExn_tup, flat_tup, deref_tup, box_tup, isExn_lst, flat_lst, deref_lst, imm_lst, box_lst, isExn_dic, flat_dic, deref_dic, imm_dic, box_dic, isExn_ins, flat_ins, deref_ins, imm_ins, box_ins, isExn_per, flat_per, imm_per, box_per, isExn_scr, flat_scr, deref_scr, imm_scr, box_scr, deref_per, imm_tup, imms_nil, imms_cons, sd_own, sd_dat, sfrz_own, sfrz_dat, sfrz_none, entry, slotO, setE, heldE, boxB, fitB, lstB, chgS, fresh, esc, escs, escR, esci, It.slot, frzS, perOk, List.getElem?_cons_zero, List.getElem?_cons_succ, List.set_cons_zero, List.set_cons_succ, List.length_cons, List.length_nil, List.map_cons, List.map_nil, List.replicate, List.append_eq, List.cons_append, List.nil_append, List.length_map, List.length_replicate, Option.map_some, Option.bind_some, if_true, if_false, ite_true, ite_false, reduceIte, Bool.not_true, Bool.not_false, Bool.false_eq_true, decide_true, decide_false, Nat.reduceAdd, Nat.reduceLT, Nat.reduceLeDiff, Nat.reduceSub, Nat.reduceEqDiff, Nat.add_one_sub_one, List.modify_zero_cons, List.modify_succ_cons]
  refine table_wp has (cl := c_Table) rfl tcl (lamps := []) (rows := [(x, [])]) (ds := [.tup [.str x, .lst []]]) rfl rfl rfl rfl (by simp) rfl rfl rfl rfl (.cons ⟨_, rfl, rfl, rfl⟩ .nil) (by simpa using hx) (fun h => by simp at h) (fun e _ _ he => by simp [namesBad] at he) (fun e _ _ _ he => ?_) (fun _ _ _ hn => ?_)
  · have hv : vStr x = false := by
      cases hv : vStr x with
      | false => rfl
      | true => simp [rowsBad, glBad, hv] at he
    have he2 : e = xInv (.str x) := by
      simp [rowsBad, hv] at he
      exact he.symm
    subst he2
    refine refused (fun env => ?_) rfl rfl
    simpa [answer, hv] using hQ
  · have hv : vStr x = true := by
      cases hv : vStr x with
      | true => rfl
      | false => simp [rowsBad, hv] at hn
    have e4 : cop .ne (.lst [.str x]) (.lst [.str x]) = some false := by simp [cop, eqOk, D.plain, D.plains, D.depth, D.depths, D.eqv, D.eqvs]
    have e5 : cop .ne (.lst []) (.lst []) = some false := by simp [cop, eqOk, D.plain, D.plains, D.depth, D.depths, D.eqv, D.eqvs]
    have s1 : decide (1 ≤ sizeLine) = true := by decide
    have lc : ∀ d, lcL 5 (evc T (lev T (n + 4)) Oex.none) (ev T (lev T (n + 4)) ((Ex.var 5).idx (Ex.int 0))).v [some (Slot.dat (D.lst [])), some (Slot.dat (D.lst [.tup [.str x, .lst []]])), some (Slot.dat (D.str x)), d, none, none] [.tup [.str x, .lst []]] p = .ok [.str x] p := fun d => rfl
    simp only [↓owp_ok, ↓owp_exc, ↓owp_bad, ↓swp_ok, ↓swp_exc, ↓swp_bad, ↓owp_ret, ↓owp_pbad, ↓swp_ret, ↓oq_some, ↓oq_none, ↓iq_true, ↓iq_false, ↓oq_map, ↓oq_bind, ↓wv_var, ↓wv_non, ↓wv_bl, ↓wv_int, ↓wv_str, ↓wv_glo, ↓wv_dct, ↓wv_bin, ↓wv_neg, ↓wv_not, ↓wt_not, ↓wv_cmp, ↓wt_cmp, ↓wv_and, ↓wt_and, ↓wv_or, ↓wt_or, ↓wv_ite, ↓wv_tup, ↓wv_lst, ↓wv_idx, ↓wv_slc, ↓wv_att, ↓wv_call, ↓wv_new, ↓wv_meth, ↓wv_fn1, ↓wv_isi, ↓wv_xat, ↓wt_var, ↓wt_bl, ↓wt_call, ↓wt_meth, ↓wt_isi, ↓wt_att, ↓wt_idx, ↓ws_nil, ↓ws_cons, ↓wo_none, ↓wo_some, ↓wi_seq, ↓wi_rng, ↓wv_lc, ↓thenS_nx, ↓thenS_ret, ↓thenS_brk, ↓thenS_ct, ↓wp_skip, ↓wp_seq, ↓wp_expr, ↓wp_set, ↓wp_own, ↓wp_ret, ↓wp_ite, ↓wp_for, ↓turn_name, ↓turn_tup, ↓wp_raise, ↓wp_app, ↓wp_put, ↓wp_popAt, ↓wp_fld, ↓wp_rkp, ↓wp_keep, ↓wp_try1, isExn_non, flat_non, deref_non, imm_non, box_non, isExn_bl, flat_bl, deref_bl, imm_bl, box_bl, isExn_int, flat_int, deref_int, imm_int, box_int, isExn_str, flat_str, deref_str, imm_str, box_str, isExn_tup, flat_tup, deref_tup, box_tup, isExn_lst, flat_lst, deref_lst, imm_lst, box_lst, isExn_dic, flat_dic, deref_dic, imm_dic, box_dic, isExn_ins, flat_ins, deref_ins, imm_ins, box_ins, isExn_per, flat_per, imm_per, box_per, isExn_scr, flat_scr, deref_scr, imm_scr, box_scr, deref_per, imm_tup, imms_nil, imms_cons, sd_own, sd_dat, sfrz_own, sfrz_dat, sfrz_none, entry, slotO, setE, heldE, boxB, fitB, lstB, chgS, fresh, esc, escs, escR, esci, It.slot, frzS, perOk, List.getElem?_cons_zero, List.getElem?_cons_succ, List.set_cons_zero, List.set_cons_succ, List.length_cons, List.length_nil, List.map_cons, List.map_nil, List.replicate, List.append_eq, List.cons_append, List.nil_append, List.length_map, List.length_replicate, Option.map_some, Option.bind_some, if_true, if_false, ite_true, ite_false, reduceIte, Bool.not_true, Bool.not_false, Bool.false_eq_true, decide_true, decide_false, Nat.reduceAdd, Nat.reduceLT, Nat.reduceLeDiff, Nat.reduceSub, Nat.reduceEqDiff, Nat.add_one_sub_one, List.modify_zero_cons, List.modify_succ_cons, tableD, rowCells, at1, at2, fop, e4, e5, D.items, calm, lc, s1]
    simpa [answer, hv] using hQ
end
end DL.K03
end
section
set_option Elab.async false
set_option linter.all false
set_option maxRecDepth 100000
set_option maxHeartbeats 4000000
/-! K03P: the plain law of k03. -/
namespace DL.K03
open PySem DL
def OT : Str := " !\"#$&'()*+,-./:;<=>?@ABCDEFGHIJKLMNOPQRSTUVWXYZ[\\]^_`{|}~\n\t"
theorem ot_bad : ∀ c ∈ OT.cps.toList, goodCh c = false := by decide +kernel
theorem sg_good : ∀ c ∈ SG.cps.toList, goodCh c = true := by decide +kernel
theorem sg_len : SG.length = 36 := by decide +kernel
theorem ot_len : 0 < (OT.length : Int) ∧ OT.length ≤ 100 := by decide +kernel
theorem sz : sizeLine = 16777216 := by decide
abbrev tl : DL.St := .seq (.set 8 (.call 521 (.cons (.lst (.cons (.var 4) .nil)) (.cons (.lst .nil) (.cons (.var 4) .nil))))) (.seq (.set 9 (.call 521 (.cons (.lst .nil) (.cons (.lst (.cons (.tup (.cons (.var 4) (.cons (.lst .nil) .nil))) .nil)) (.cons (.var 4) .nil))))) (.seq (.set 10 (.idx (.lst (.cons (.str "refused") (.cons (.str "good") .nil))) (.fn1 .int (.var 6)))) (.seq (.ret (.and (.cmp .eq (.var 8) (.var 10)) (.cmp .eq (.var 9) (.var 10)))) (.skip))))
theorem fin_ok {a0 a1 a2 a3 a5 a7 : Option Slot} {y : Str} {w : Bool} {p : List D} {Z : Ctl → S → Prop} {Y : Exc → S → Prop} (hy : y.length ≤ 100) (hw : vStr y = w) (hZ : ∀ s, Z (.ret (.bl true)) s) :
    (evSt T (lev T 19) tl ⟨[a0, a1, a2, a3, some (.dat (.str y)), a5, some (.dat (.bl w)), a7, none, none, none], p⟩).wp Z Y := by
  have hs : okStr y := by unfold okStr; rw [sz]; omega
  have s0 : decide (0 ≤ sizeLine) = true := by decide
  have s1 : decide (1 ≤ sizeLine) = true := by decide
  have s2 : decide (2 ≤ sizeLine) = true := by decide
  simp only [tl, ↓owp_ok, ↓owp_exc, ↓owp_bad, ↓swp_ok, ↓swp_exc, ↓swp_bad, ↓owp_ret, ↓owp_pbad, ↓swp_ret, ↓oq_some, ↓oq_none, ↓iq_true, ↓iq_false, ↓oq_map, ↓oq_bind, ↓wv_var, ↓wv_non, ↓wv_bl, ↓wv_int, ↓wv_str, ↓wv_glo, ↓wv_dct, ↓wv_bin, ↓wv_neg, ↓wv_not, ↓wt_not, ↓wv_cmp, ↓wt_cmp, ↓wv_and, ↓wt_and, ↓wv_or, ↓wt_or, ↓wv_ite, ↓wv_tup, ↓wv_lst, ↓wv_idx, ↓wv_slc, ↓wv_att, ↓wv_call, ↓wv_new, ↓wv_meth, ↓wv_fn1, ↓wv_isi, ↓wv_xat, ↓wt_var, ↓wt_bl, ↓wt_call, ↓wt_meth, ↓wt_isi, ↓wt_att, ↓wt_idx, ↓ws_nil, ↓ws_cons, ↓wo_none, ↓wo_some, ↓wi_seq, ↓wi_rng, ↓wv_lc, ↓thenS_nx, ↓thenS_ret, ↓thenS_brk, ↓thenS_ct, ↓wp_skip, ↓wp_seq, ↓wp_expr, ↓wp_set, ↓wp_own, ↓wp_ret, ↓wp_ite, ↓wp_for, ↓turn_name, ↓turn_tup, ↓wp_raise, ↓wp_app, ↓wp_put, ↓wp_popAt, ↓wp_fld, ↓wp_rkp, ↓wp_keep, ↓wp_try1, isExn_non, flat_non, deref_non, imm_non, box_non, isExn_bl, flat_bl, deref_bl, imm_bl, box_bl, isExn_int, flat_int, deref_int, imm_int, box_int, isExn_str, flat_str, deref_str, imm_str, box_str, isExn_tup, flat_tup, deref_tup, box_tup, isExn_lst, flat_lst, deref_lst, imm_lst, box_lst, isExn_dic, flat_dic, deref_dic, imm_dic, box_dic, isExn_ins, flat_ins, deref_ins, imm_ins, box_ins, isExn_per, flat_per, imm_per, box_per, isExn_scr, flat_scr, deref_scr, imm_scr, box_scr, deref_per, imm_tup, imms_nil, imms_cons, sd_own, sd_dat, sfrz_own, sfrz_dat, sfrz_none, entry, slotO, setE, heldE, boxB, fitB, lstB, chgS, fresh, esc, escs, escR, esci, It.slot, frzS, perOk, List.getElem?_cons_zero, List.getElem?_cons_succ, List.set_cons_zero, List.set_cons_succ, List.length_cons, List.length_nil, List.map_cons, List.map_nil, List.replicate, List.append_eq, List.cons_append, List.nil_append, List.length_map, List.length_replicate, Option.map_some, Option.bind_some, if_true, if_false, ite_true, ite_false, reduceIte, Bool.not_true, Bool.not_false, Bool.false_eq_true, decide_true, decide_false, Nat.reduceAdd, Nat.reduceLT, Nat.reduceLeDiff, Nat.reduceSub, Nat.reduceEqDiff, Nat.add_one_sub_one, List.modify_zero_cons, List.modify_succ_cons, s0, s1, s2]
  refine accepts1 (n := 14) hs ?_
  simp only [↓owp_ok, ↓owp_exc, ↓owp_bad, ↓swp_ok, ↓swp_exc, ↓swp_bad, ↓owp_ret, ↓owp_pbad, ↓swp_ret, ↓oq_some, ↓oq_none, ↓iq_true, ↓iq_false, ↓oq_map, ↓oq_bind, ↓wv_var, ↓wv_non, ↓wv_bl, ↓wv_int, ↓wv_str, ↓wv_glo, ↓wv_dct, ↓wv_bin, ↓wv_neg, ↓wv_not, ↓wt_not, ↓wv_cmp, ↓wt_cmp, ↓wv_and, ↓wt_and, ↓wv_or, ↓wt_or, ↓wv_ite, ↓wv_tup, ↓wv_lst, ↓wv_idx, ↓wv_slc, ↓wv_att, ↓wv_call, ↓wv_new, ↓wv_meth, ↓wv_fn1, ↓wv_isi, ↓wv_xat, ↓wt_var, ↓wt_bl, ↓wt_call, ↓wt_meth, ↓wt_isi, ↓wt_att, ↓wt_idx, ↓ws_nil, ↓ws_cons, ↓wo_none, ↓wo_some, ↓wi_seq, ↓wi_rng, ↓wv_lc, ↓thenS_nx, ↓thenS_ret, ↓thenS_brk, ↓thenS_ct, ↓wp_skip, ↓wp_seq, ↓wp_expr, ↓wp_set, ↓wp_own, ↓wp_ret, ↓wp_ite, ↓wp_for, ↓turn_name, ↓turn_tup, ↓wp_raise, ↓wp_app, ↓wp_put, ↓wp_popAt, ↓wp_fld, ↓wp_rkp, ↓wp_keep, ↓wp_try1, isExn_non, flat_non, deref_non, imm_non, box_non, isExn_bl, flat_bl, deref_bl, imm_bl, box_bl, isExn_int, flat_int, deref_int, imm_int, box_int, isExn_str, flat_str, deref_str, imm_str, box_str, isExn_tup, flat_tup, deref_tup, box_tup, isExn_lst, flat_lst, deref_lst, imm_lst, box_lst, isExn_dic, flat_dic, deref_dic, imm_dic, box_dic, isExn_ins, flat_ins, deref_ins, imm_ins, box_ins, isExn_per, flat_per, imm_per, box_per, isExn_scr, flat_scr, deref_scr, imm_scr, box_scr, deref_per, imm_tup, imms_nil, imms_cons, sd_own, sd_dat, sfrz_own, sfrz_dat, sfrz_none, entry, slotO, setE, heldE, boxB, fitB, lstB, chgS, fresh, esc, escs, escR, esci, It.slot, frzS, perOk, List.getElem?_cons_zero, List.getElem?_cons_succ, List.set_cons_zero, List.set_cons_succ, List.length_cons, List.length_nil, List.map_cons, List.map_nil, List.replicate, List.append_eq, List.cons_append, List.nil_append, List.length_map, List.length_replicate, Option.map_some, Option.bind_some, if_true, if_false, ite_true, ite_false, reduceIte, Bool.not_true, Bool.not_false, Bool.false_eq_true, decide_true, decide_false, Nat.reduceAdd, Nat.reduceLT, Nat.reduceLeDiff, Nat.reduceSub, Nat.reduceEqDiff, Nat.add_one_sub_one, List.modify_zero_cons, List.modify_succ_cons, answer, s0, s1, s2]
  refine accepts2 (n := 14) hs ?_
  cases w with
  | true =>
    have e1 : fop .int (.bl true) = some (.int 1) := rfl
    simp only [↓owp_ok, ↓owp_exc, ↓owp_bad, ↓swp_ok, ↓swp_exc, ↓swp_bad, ↓owp_ret, ↓owp_pbad, ↓swp_ret, ↓oq_some, ↓oq_none, ↓iq_true, ↓iq_false, ↓oq_map, ↓oq_bind, ↓wv_var, ↓wv_non, ↓wv_bl, ↓wv_int, ↓wv_str, ↓wv_glo, ↓wv_dct, ↓wv_bin, ↓wv_neg, ↓wv_not, ↓wt_not, ↓wv_cmp, ↓wt_cmp, ↓wv_and, ↓wt_and, ↓wv_or, ↓wt_or, ↓wv_ite, ↓wv_tup, ↓wv_lst, ↓wv_idx, ↓wv_slc, ↓wv_att, ↓wv_call, ↓wv_new, ↓wv_meth, ↓wv_fn1, ↓wv_isi, ↓wv_xat, ↓wt_var, ↓wt_bl, ↓wt_call, ↓wt_meth, ↓wt_isi, ↓wt_att, ↓wt_idx, ↓ws_nil, ↓ws_cons, ↓wo_none, ↓wo_some, ↓wi_seq, ↓wi_rng, ↓wv_lc, ↓thenS_nx, ↓thenS_ret, ↓thenS_brk, ↓thenS_ct, ↓wp_skip, ↓wp_seq, ↓wp_expr, ↓wp_set, ↓wp_own, ↓wp_ret, ↓wp_ite, ↓wp_for, ↓turn_name, ↓turn_tup, ↓wp_raise, ↓wp_app, ↓wp_put, ↓wp_popAt, ↓wp_fld, ↓wp_rkp, ↓wp_keep, ↓wp_try1, isExn_non, flat_non, deref_non, imm_non, box_non, isExn_bl, flat_bl, deref_bl, imm_bl, box_bl, isExn_int, flat_int, deref_int, imm_int, box_int, isExn_str, flat_str, deref_str, imm_str, box_str, isExn_tup, flat_tup, deref_tup, box_tup, isExn_lst, flat_lst, deref_lst, imm_lst, box_lst, isExn_dic, flat_dic, deref_dic, imm_dic, box_dic, isExn_ins, flat_ins, deref_ins, imm_ins, box_ins, isExn_per, flat_per, imm_per, box_per, isExn_scr, flat_scr, deref_scr, imm_scr, box_scr, deref_per, imm_tup, imms_nil, imms_cons, sd_own, sd_dat, sfrz_own, sfrz_dat, sfrz_none, entry, slotO, setE, heldE, boxB, fitB, lstB, chgS, fresh, esc, escs, escR, esci, It.slot, frzS, perOk, List.getElem?_cons_zero, List.getElem?_cons_succ, List.set_cons_zero, List.set_cons_succ, List.length_cons, List.length_nil, List.map_cons, List.map_nil, List.replicate, List.append_eq, List.cons_append, List.nil_append, List.length_map, List.length_replicate, Option.map_some, Option.bind_some, if_true, if_false, ite_true, ite_false, reduceIte, Bool.not_true, Bool.not_false, Bool.false_eq_true, decide_true, decide_false, Nat.reduceAdd, Nat.reduceLT, Nat.reduceLeDiff, Nat.reduceSub, Nat.reduceEqDiff, Nat.add_one_sub_one, List.modify_zero_cons, List.modify_succ_cons, answer, s0, s1, s2, hw, e1, idx1, eq_strs, beq_self_eq_true]
    exact hZ _
  | false =>
    have e1 : fop .int (.bl false) = some (.int 0) := rfl
    simp only [↓owp_ok, ↓owp_exc, ↓owp_bad, ↓swp_ok, ↓swp_exc, ↓swp_bad, ↓owp_ret, ↓owp_pbad, ↓swp_ret, ↓oq_some, ↓oq_none, ↓iq_true, ↓iq_false, ↓oq_map, ↓oq_bind, ↓wv_var, ↓wv_non, ↓wv_bl, ↓wv_int, ↓wv_str, ↓wv_glo, ↓wv_dct, ↓wv_bin, ↓wv_neg, ↓wv_not, ↓wt_not, ↓wv_cmp, ↓wt_cmp, ↓wv_and, ↓wt_and, ↓wv_or, ↓wt_or, ↓wv_ite, ↓wv_tup, ↓wv_lst, ↓wv_idx, ↓wv_slc, ↓wv_att, ↓wv_call, ↓wv_new, ↓wv_meth, ↓wv_fn1, ↓wv_isi, ↓wv_xat, ↓wt_var, ↓wt_bl, ↓wt_call, ↓wt_meth, ↓wt_isi, ↓wt_att, ↓wt_idx, ↓ws_nil, ↓ws_cons, ↓wo_none, ↓wo_some, ↓wi_seq, ↓wi_rng, ↓wv_lc, ↓thenS_nx, ↓thenS_ret, ↓thenS_brk, ↓thenS_ct, ↓wp_skip, ↓wp_seq, ↓wp_expr, ↓wp_set, ↓wp_own, ↓wp_ret, ↓wp_ite, ↓wp_for, ↓turn_name, ↓turn_tup, ↓wp_raise, ↓wp_app, ↓wp_put, ↓wp_popAt, ↓wp_fld, ↓wp_rkp, ↓wp_keep, ↓wp_try1, isExn_non, flat_non, deref_non, imm_non, box_non, isExn_bl, flat_bl, deref_bl, imm_bl, box_bl, isExn_int, flat_int, deref_int, imm_int, box_int, isExn_str, flat_str, deref_str, imm_str, box_str, isExn_tup, flat_tup, deref_tup, box_tup, isExn_lst, flat_lst, deref_lst, imm_lst, box_lst, isExn_dic, flat_dic, deref_dic, imm_dic, box_dic, isExn_ins, flat_ins, deref_ins, imm_ins, box_ins, isExn_per, flat_per, imm_per, box_per, isExn_scr, flat_scr, deref_scr, imm_scr, box_scr, deref_per, imm_tup, imms_nil, imms_cons, sd_own, sd_dat, sfrz_own, sfrz_dat, sfrz_none, entry, slotO, setE, heldE, boxB, fitB, lstB, chgS, fresh, esc, escs, escR, esci, It.slot, frzS, perOk, List.getElem?_cons_zero, List.getElem?_cons_succ, List.set_cons_zero, List.set_cons_succ, List.length_cons, List.length_nil, List.map_cons, List.map_nil, List.replicate, List.append_eq, List.cons_append, List.nil_append, List.length_map, List.length_replicate, Option.map_some, Option.bind_some, if_true, if_false, ite_true, ite_false, reduceIte, Bool.not_true, Bool.not_false, Bool.false_eq_true, decide_true, decide_false, Nat.reduceAdd, Nat.reduceLT, Nat.reduceLeDiff, Nat.reduceSub, Nat.reduceEqDiff, Nat.add_one_sub_one, List.modify_zero_cons, List.modify_succ_cons, answer, s0, s1, s2, hw, e1, idx0, eq_strs, beq_self_eq_true]
    exact hZ _
theorem law_ok : PlainLaw T 20 0 := by
  intro ns hs
  suffices h : ((lev T 20).call 0 [.scr ns] []).wp (fun d _ => d = .bl true) (fun _ _ => False) by
    cases q : (lev T 20).call 0 [.scr ns] [] with
    | ok a p => rw [q] at h; exact ⟨p, by rw [show a = .bl true from h]⟩
    | exc x p => rw [q] at h; exact h.elim
    | bad => rw [q] at h; exact h.elim
  refine call_wp (n := 19) (fn := law) rfl rfl ?_
  simp only [law, ↓owp_ok, ↓owp_exc, ↓owp_bad, ↓swp_ok, ↓swp_exc, ↓swp_bad, ↓owp_ret, ↓owp_pbad, ↓swp_ret, ↓oq_some, ↓oq_none, ↓iq_true, ↓iq_false, ↓oq_map, ↓oq_bind, ↓wv_var, ↓wv_non, ↓wv_bl, ↓wv_int, ↓wv_str, ↓wv_glo, ↓wv_dct, ↓wv_bin, ↓wv_neg, ↓wv_not, ↓wt_not, ↓wv_cmp, ↓wt_cmp, ↓wv_and, ↓wt_and, ↓wv_or, ↓wt_or, ↓wv_ite, ↓wv_tup, ↓wv_lst, ↓wv_idx, ↓wv_slc, ↓wv_att, ↓wv_call, ↓wv_new, ↓wv_meth, ↓wv_fn1, ↓wv_isi, ↓wv_xat, ↓wt_var, ↓wt_bl, ↓wt_call, ↓wt_meth, ↓wt_isi, ↓wt_att, ↓wt_idx, ↓ws_nil, ↓ws_cons, ↓wo_none, ↓wo_some, ↓wi_seq, ↓wi_rng, ↓wv_lc, ↓thenS_ret, ↓thenS_brk, ↓thenS_ct, ↓wp_skip, ↓wp_seq, ↓wp_expr, ↓wp_set, ↓wp_own, ↓wp_ret, ↓wp_ite, ↓wp_for, ↓turn_name, ↓turn_tup, ↓wp_raise, ↓wp_app, ↓wp_put, ↓wp_popAt, ↓wp_fld, ↓wp_rkp, ↓wp_keep, ↓wp_try1, isExn_non, flat_non, deref_non, imm_non, box_non, isExn_bl, flat_bl, deref_bl, imm_bl, box_bl, isExn_int, flat_int, deref_int, imm_int, box_int, isExn_str, flat_str, deref_str, imm_str, box_str, isExn_tup, flat_tup, deref_tup, box_tup, isExn_lst, flat_lst, deref_lst, imm_lst, box_lst, isExn_dic, flat_dic, deref_dic, imm_dic, box_dic, isExn_ins, flat_ins, deref_ins, imm_ins, box_ins, isExn_per, flat_per, imm_per, box_per, isExn_scr, flat_scr, deref_scr, imm_scr, box_scr, deref_per, imm_tup, imms_nil, imms_cons, sd_own, sd_dat, sfrz_own, sfrz_dat, sfrz_none, entry, slotO, setE, heldE, boxB, fitB, lstB, chgS, fresh, esc, escs, escR, esci, It.slot, frzS, perOk, List.getElem?_cons_zero, List.getElem?_cons_succ, List.set_cons_zero, List.set_cons_succ, List.length_cons, List.length_nil, List.map_cons, List.map_nil, List.replicate, List.append_eq, List.cons_append, List.nil_append, List.length_map, List.length_replicate, Option.map_some, Option.bind_some, if_true, if_false, ite_true, ite_false, reduceIte, Bool.not_true, Bool.not_false, Bool.false_eq_true, decide_true, decide_false, Nat.reduceAdd, Nat.reduceLT, Nat.reduceLeDiff, Nat.reduceSub, Nat.reduceEqDiff, Nat.add_one_sub_one, List.modify_zero_cons, List.modify_succ_cons]
  refine bag_wp (n := 18) rfl hs.1 fun b => ?_
  simp only [↓owp_ok, ↓owp_exc, ↓owp_bad, ↓swp_ok, ↓swp_exc, ↓swp_bad, ↓owp_ret, ↓owp_pbad, ↓swp_ret, ↓oq_some, ↓oq_none, ↓iq_true, ↓iq_false, ↓oq_map, ↓oq_bind, ↓wv_var, ↓wv_non, ↓wv_bl, ↓wv_int, ↓wv_str, ↓wv_glo, ↓wv_dct, ↓wv_bin, ↓wv_neg, ↓wv_not, ↓wt_not, ↓wv_cmp, ↓wt_cmp, ↓wv_and, ↓wt_and, ↓wv_or, ↓wt_or, ↓wv_ite, ↓wv_tup, ↓wv_lst, ↓wv_idx, ↓wv_slc, ↓wv_att, ↓wv_call, ↓wv_new, ↓wv_meth, ↓wv_fn1, ↓wv_isi, ↓wv_xat, ↓wt_var, ↓wt_bl, ↓wt_call, ↓wt_meth, ↓wt_isi, ↓wt_att, ↓wt_idx, ↓ws_nil, ↓ws_cons, ↓wo_none, ↓wo_some, ↓wi_seq, ↓wi_rng, ↓wv_lc, ↓thenS_ret, ↓thenS_brk, ↓thenS_ct, ↓wp_skip, ↓wp_seq, ↓wp_expr, ↓wp_set, ↓wp_own, ↓wp_ret, ↓wp_ite, ↓wp_for, ↓turn_name, ↓turn_tup, ↓wp_raise, ↓wp_app, ↓wp_put, ↓wp_popAt, ↓wp_fld, ↓wp_rkp, ↓wp_keep, ↓wp_try1, isExn_non, flat_non, deref_non, imm_non, box_non, isExn_bl, flat_bl, deref_bl, imm_bl, box_bl, isExn_int, flat_int, deref_int, imm_int, box_int, isExn_str, flat_str, deref_str, imm_str, box_str, isExn_tup, flat_tup, deref_tup, box_tup, isExn_lst, flat_lst, deref_lst, imm_lst, box_lst, isExn_dic, flat_dic, deref_dic, imm_dic, box_dic, isExn_ins, flat_ins, deref_ins, imm_ins, box_ins, isExn_per, flat_per, imm_per, box_per, isExn_scr, flat_scr, deref_scr, imm_scr, box_scr, deref_per, imm_tup, imms_nil, imms_cons, sd_own, sd_dat, sfrz_own, sfrz_dat, sfrz_none, entry, slotO, setE, heldE, boxB, fitB, lstB, chgS, fresh, esc, escs, escR, esci, It.slot, frzS, perOk, List.getElem?_cons_zero, List.getElem?_cons_succ, List.set_cons_zero, List.set_cons_succ, List.length_cons, List.length_nil, List.map_cons, List.map_nil, List.replicate, List.append_eq, List.cons_append, List.nil_append, List.length_map, List.length_replicate, Option.map_some, Option.bind_some, if_true, if_false, ite_true, ite_false, reduceIte, Bool.not_true, Bool.not_false, Bool.false_eq_true, decide_true, decide_false, Nat.reduceAdd, Nat.reduceLT, Nat.reduceLeDiff, Nat.reduceSub, Nat.reduceEqDiff, Nat.add_one_sub_one, List.modify_zero_cons, List.modify_succ_cons]
  rw [thenS_nx]; simp only [↓owp_ok, ↓owp_exc, ↓owp_bad, ↓swp_ok, ↓swp_exc, ↓swp_bad, ↓owp_ret, ↓owp_pbad, ↓swp_ret, ↓oq_some, ↓oq_none, ↓iq_true, ↓iq_false, ↓oq_map, ↓oq_bind, ↓wv_var, ↓wv_non, ↓wv_bl, ↓wv_int, ↓wv_str, ↓wv_glo, ↓wv_dct, ↓wv_bin, ↓wv_neg, ↓wv_not, ↓wt_not, ↓wv_cmp, ↓wt_cmp, ↓wv_and, ↓wt_and, ↓wv_or, ↓wt_or, ↓wv_ite, ↓wv_tup, ↓wv_lst, ↓wv_idx, ↓wv_slc, ↓wv_att, ↓wv_call, ↓wv_new, ↓wv_meth, ↓wv_fn1, ↓wv_isi, ↓wv_xat, ↓wt_var, ↓wt_bl, ↓wt_call, ↓wt_meth, ↓wt_isi, ↓wt_att, ↓wt_idx, ↓ws_nil, ↓ws_cons, ↓wo_none, ↓wo_some, ↓wi_seq, ↓wi_rng, ↓wv_lc, ↓thenS_ret, ↓thenS_brk, ↓thenS_ct, ↓wp_skip, ↓wp_seq, ↓wp_expr, ↓wp_set, ↓wp_own, ↓wp_ret, ↓wp_ite, ↓wp_for, ↓turn_name, ↓turn_tup, ↓wp_raise, ↓wp_app, ↓wp_put, ↓wp_popAt, ↓wp_fld, ↓wp_rkp, ↓wp_keep, ↓wp_try1, isExn_non, flat_non, deref_non, imm_non, box_non, isExn_bl, flat_bl, deref_bl, imm_bl, box_bl, isExn_int, flat_int, deref_int, imm_int, box_int, isExn_str, flat_str, deref_str, imm_str, box_str, isExn_tup, flat_tup, deref_tup, box_tup, isExn_lst, flat_lst, deref_lst, imm_lst, box_lst, isExn_dic, flat_dic, deref_dic, imm_dic, box_dic, isExn_ins, flat_ins, deref_ins, imm_ins, box_ins, isExn_per, flat_per, imm_per, box_per, isExn_scr, flat_scr, deref_scr, imm_scr, box_scr, deref_per, imm_tup, imms_nil, imms_cons, sd_own, sd_dat, sfrz_own, sfrz_dat, sfrz_none, entry, slotO, setE, heldE, boxB, fitB, lstB, chgS, fresh, esc, escs, escR, esci, It.slot, frzS, perOk, List.getElem?_cons_zero, List.getElem?_cons_succ, List.set_cons_zero, List.set_cons_succ, List.length_cons, List.length_nil, List.map_cons, List.map_nil, List.replicate, List.append_eq, List.cons_append, List.nil_append, List.length_map, List.length_replicate, Option.map_some, Option.bind_some, if_true, if_false, ite_true, ite_false, reduceIte, Bool.not_true, Bool.not_false, Bool.false_eq_true, decide_true, decide_false, Nat.reduceAdd, Nat.reduceLT, Nat.reduceLeDiff, Nat.reduceSub, Nat.reduceEqDiff, Nat.add_one_sub_one, List.modify_zero_cons, List.modify_succ_cons]
  rw [thenS_nx]; simp only [↓owp_ok, ↓owp_exc, ↓owp_bad, ↓swp_ok, ↓swp_exc, ↓swp_bad, ↓owp_ret, ↓owp_pbad, ↓swp_ret, ↓oq_some, ↓oq_none, ↓iq_true, ↓iq_false, ↓oq_map, ↓oq_bind, ↓wv_var, ↓wv_non, ↓wv_bl, ↓wv_int, ↓wv_str, ↓wv_glo, ↓wv_dct, ↓wv_bin, ↓wv_neg, ↓wv_not, ↓wt_not, ↓wv_cmp, ↓wt_cmp, ↓wv_and, ↓wt_and, ↓wv_or, ↓wt_or, ↓wv_ite, ↓wv_tup, ↓wv_lst, ↓wv_idx, ↓wv_slc, ↓wv_att, ↓wv_call, ↓wv_new, ↓wv_meth, ↓wv_fn1, ↓wv_isi, ↓wv_xat, ↓wt_var, ↓wt_bl, ↓wt_call, ↓wt_meth, ↓wt_isi, ↓wt_att, ↓wt_idx, ↓ws_nil, ↓ws_cons, ↓wo_none, ↓wo_some, ↓wi_seq, ↓wi_rng, ↓wv_lc, ↓thenS_ret, ↓thenS_brk, ↓thenS_ct, ↓wp_skip, ↓wp_seq, ↓wp_expr, ↓wp_set, ↓wp_own, ↓wp_ret, ↓wp_ite, ↓wp_for, ↓turn_name, ↓turn_tup, ↓wp_raise, ↓wp_app, ↓wp_put, ↓wp_popAt, ↓wp_fld, ↓wp_rkp, ↓wp_keep, ↓wp_try1, isExn_non, flat_non, deref_non, imm_non, box_non, isExn_bl, flat_bl, deref_bl, imm_bl, box_bl, isExn_int, flat_int, deref_int, imm_int, box_int, isExn_str, flat_str, deref_str, imm_str, box_str, isExn_tup, flat_tup, deref_tup, box_tup, isExn_lst, flat_lst, deref_lst, imm_lst, box_lst, isExn_dic, flat_dic, deref_dic, imm_dic, box_dic, isExn_ins, flat_ins, deref_ins, imm_ins, box_ins, isExn_per, flat_per, imm_per, box_per, isExn_scr, flat_scr, deref_scr, imm_scr, box_scr, deref_per, imm_tup, imms_nil, imms_cons, sd_own, sd_dat, sfrz_own, sfrz_dat, sfrz_none, entry, slotO, setE, heldE, boxB, fitB, lstB, chgS, fresh, esc, escs, escR, esci, It.slot, frzS, perOk, List.getElem?_cons_zero, List.getElem?_cons_succ, List.set_cons_zero, List.set_cons_succ, List.length_cons, List.length_nil, List.map_cons, List.map_nil, List.replicate, List.append_eq, List.cons_append, List.nil_append, List.length_map, List.length_replicate, Option.map_some, Option.bind_some, if_true, if_false, ite_true, ite_false, reduceIte, Bool.not_true, Bool.not_false, Bool.false_eq_true, decide_true, decide_false, Nat.reduceAdd, Nat.reduceLT, Nat.reduceLeDiff, Nat.reduceSub, Nat.reduceEqDiff, Nat.add_one_sub_one, List.modify_zero_cons, List.modify_succ_cons]
  rw [thenS_nx]; simp only [↓owp_ok, ↓owp_exc, ↓owp_bad, ↓swp_ok, ↓swp_exc, ↓swp_bad, ↓owp_ret, ↓owp_pbad, ↓swp_ret, ↓oq_some, ↓oq_none, ↓iq_true, ↓iq_false, ↓oq_map, ↓oq_bind, ↓wv_var, ↓wv_non, ↓wv_bl, ↓wv_int, ↓wv_str, ↓wv_glo, ↓wv_dct, ↓wv_bin, ↓wv_neg, ↓wv_not, ↓wt_not, ↓wv_cmp, ↓wt_cmp, ↓wv_and, ↓wt_and, ↓wv_or, ↓wt_or, ↓wv_ite, ↓wv_tup, ↓wv_lst, ↓wv_idx, ↓wv_slc, ↓wv_att, ↓wv_call, ↓wv_new, ↓wv_meth, ↓wv_fn1, ↓wv_isi, ↓wv_xat, ↓wt_var, ↓wt_bl, ↓wt_call, ↓wt_meth, ↓wt_isi, ↓wt_att, ↓wt_idx, ↓ws_nil, ↓ws_cons, ↓wo_none, ↓wo_some, ↓wi_seq, ↓wi_rng, ↓wv_lc, ↓thenS_ret, ↓thenS_brk, ↓thenS_ct, ↓wp_skip, ↓wp_seq, ↓wp_expr, ↓wp_set, ↓wp_own, ↓wp_ret, ↓wp_ite, ↓wp_for, ↓turn_name, ↓turn_tup, ↓wp_raise, ↓wp_app, ↓wp_put, ↓wp_popAt, ↓wp_fld, ↓wp_rkp, ↓wp_keep, ↓wp_try1, isExn_non, flat_non, deref_non, imm_non, box_non, isExn_bl, flat_bl, deref_bl, imm_bl, box_bl, isExn_int, flat_int, deref_int, imm_int, box_int, isExn_str, flat_str, deref_str, imm_str, box_str, isExn_tup, flat_tup, deref_tup, box_tup, isExn_lst, flat_lst, deref_lst, imm_lst, box_lst, isExn_dic, flat_dic, deref_dic, imm_dic, box_dic, isExn_ins, flat_ins, deref_ins, imm_ins, box_ins, isExn_per, flat_per, imm_per, box_per, isExn_scr, flat_scr, deref_scr, imm_scr, box_scr, deref_per, imm_tup, imms_nil, imms_cons, sd_own, sd_dat, sfrz_own, sfrz_dat, sfrz_none, entry, slotO, setE, heldE, boxB, fitB, lstB, chgS, fresh, esc, escs, escR, esci, It.slot, frzS, perOk, List.getElem?_cons_zero, List.getElem?_cons_succ, List.set_cons_zero, List.set_cons_succ, List.length_cons, List.length_nil, List.map_cons, List.map_nil, List.replicate, List.append_eq, List.cons_append, List.nil_append, List.length_map, List.length_replicate, Option.map_some, Option.bind_some, if_true, if_false, ite_true, ite_false, reduceIte, Bool.not_true, Bool.not_false, Bool.false_eq_true, decide_true, decide_false, Nat.reduceAdd, Nat.reduceLT, Nat.reduceLeDiff, Nat.reduceSub, Nat.reduceEqDiff, Nat.add_one_sub_one, List.modify_zero_cons, List.modify_succ_cons]
  rw [thenS_nx]; simp only [↓owp_ok, ↓owp_exc, ↓owp_bad, ↓swp_ok, ↓swp_exc, ↓swp_bad, ↓owp_ret, ↓owp_pbad, ↓swp_ret, ↓oq_some, ↓oq_none, ↓iq_true, ↓iq_false, ↓oq_map, ↓oq_bind, ↓wv_var, ↓wv_non, ↓wv_bl, ↓wv_int, ↓wv_str, ↓wv_glo, ↓wv_dct, ↓wv_bin, ↓wv_neg, ↓wv_not, ↓wt_not, ↓wv_cmp, ↓wt_cmp, ↓wv_and, ↓wt_and, ↓wv_or, ↓wt_or, ↓wv_ite, ↓wv_tup, ↓wv_lst, ↓wv_idx, ↓wv_slc, ↓wv_att, ↓wv_call, ↓wv_new, ↓wv_meth, ↓wv_fn1, ↓wv_isi, ↓wv_xat, ↓wt_var, ↓wt_bl, ↓wt_call, ↓wt_meth, ↓wt_isi, ↓wt_att, ↓wt_idx, ↓ws_nil, ↓ws_cons, ↓wo_none, ↓wo_some, ↓wi_seq, ↓wi_rng, ↓wv_lc, ↓thenS_ret, ↓thenS_brk, ↓thenS_ct, ↓wp_skip, ↓wp_seq, ↓wp_expr, ↓wp_set, ↓wp_own, ↓wp_ret, ↓wp_ite, ↓wp_for, ↓turn_name, ↓turn_tup, ↓wp_raise, ↓wp_app, ↓wp_put, ↓wp_popAt, ↓wp_fld, ↓wp_rkp, ↓wp_keep, ↓wp_try1, isExn_non, flat_non, deref_non, imm_non, box_non, isExn_bl, flat_bl, deref_bl, imm_bl, box_bl, isExn_int, flat_int, deref_int, imm_int, box_int, isExn_str, flat_str, deref_str, imm_str, box_str, isExn_tup, flat_tup, deref_tup, box_tup, isExn_lst, flat_lst, deref_lst, imm_lst, box_lst, isExn_dic, flat_dic, deref_dic, imm_dic, box_dic, isExn_ins, flat_ins, deref_ins, imm_ins, box_ins, isExn_per, flat_per, imm_per, box_per, isExn_scr, flat_scr, deref_scr, imm_scr, box_scr, deref_per, imm_tup, imms_nil, imms_cons, sd_own, sd_dat, sfrz_own, sfrz_dat, sfrz_none, entry, slotO, setE, heldE, boxB, fitB, lstB, chgS, fresh, esc, escs, escR, esci, It.slot, frzS, perOk, List.getElem?_cons_zero, List.getElem?_cons_succ, List.set_cons_zero, List.set_cons_succ, List.length_cons, List.length_nil, List.map_cons, List.map_nil, List.replicate, List.append_eq, List.cons_append, List.nil_append, List.length_map, List.length_replicate, Option.map_some, Option.bind_some, if_true, if_false, ite_true, ite_false, reduceIte, Bool.not_true, Bool.not_false, Bool.false_eq_true, decide_true, decide_false, Nat.reduceAdd, Nat.reduceLT, Nat.reduceLeDiff, Nat.reduceSub, Nat.reduceEqDiff, Nat.add_one_sub_one, List.modify_zero_cons, List.modify_succ_cons]
  refine take_wp' (n := 18) rfl (by decide) (by decide +kernel) fun v b hv1 hv2 => ?_
  simp only [↓owp_ok, ↓owp_exc, ↓owp_bad, ↓swp_ok, ↓swp_exc, ↓swp_bad, ↓owp_ret, ↓owp_pbad, ↓swp_ret, ↓oq_some, ↓oq_none, ↓iq_true, ↓iq_false, ↓oq_map, ↓oq_bind, ↓wv_var, ↓wv_non, ↓wv_bl, ↓wv_int, ↓wv_str, ↓wv_glo, ↓wv_dct, ↓wv_bin, ↓wv_neg, ↓wv_not, ↓wt_not, ↓wv_cmp, ↓wt_cmp, ↓wv_and, ↓wt_and, ↓wv_or, ↓wt_or, ↓wv_ite, ↓wv_tup, ↓wv_lst, ↓wv_idx, ↓wv_slc, ↓wv_att, ↓wv_call, ↓wv_new, ↓wv_meth, ↓wv_fn1, ↓wv_isi, ↓wv_xat, ↓wt_var, ↓wt_bl, ↓wt_call, ↓wt_meth, ↓wt_isi, ↓wt_att, ↓wt_idx, ↓ws_nil, ↓ws_cons, ↓wo_none, ↓wo_some, ↓wi_seq, ↓wi_rng, ↓wv_lc, ↓thenS_ret, ↓thenS_brk, ↓thenS_ct, ↓wp_skip, ↓wp_seq, ↓wp_expr, ↓wp_set, ↓wp_own, ↓wp_ret, ↓wp_ite, ↓wp_for, ↓turn_name, ↓turn_tup, ↓wp_raise, ↓wp_app, ↓wp_put, ↓wp_popAt, ↓wp_fld, ↓wp_rkp, ↓wp_keep, ↓wp_try1, isExn_non, flat_non, deref_non, imm_non, box_non, isExn_bl, flat_bl, deref_bl, imm_bl, box_bl, isExn_int, flat_int, deref_int, imm_int, box_int, isExn_str, flat_str, deref_str, imm_str, box_str, isExn_tup, flat_tup, deref_tup, box_tup, isExn_lst, flat_lst, deref_lst, imm_lst, box_lst, isExn_dic, flat_dic, deref_dic, imm_dic, box_dic, isExn_ins, flat_ins, deref_ins, imm_ins, box_ins, isExn_per, flat_per, imm_per, box_per, isExn_scr, flat_scr, deref_scr, imm_scr, box_scr, deref_per, imm_tup, imms_nil, imms_cons, sd_own, sd_dat, sfrz_own, sfrz_dat, sfrz_none, entry, slotO, setE, heldE, boxB, fitB, lstB, chgS, fresh, esc, escs, escR, esci, It.slot, frzS, perOk, List.getElem?_cons_zero, List.getElem?_cons_succ, List.set_cons_zero, List.set_cons_succ, List.length_cons, List.length_nil, List.map_cons, List.map_nil, List.replicate, List.append_eq, List.cons_append, List.nil_append, List.length_map, List.length_replicate, Option.map_some, Option.bind_some, if_true, if_false, ite_true, ite_false, reduceIte, Bool.not_true, Bool.not_false, Bool.false_eq_true, decide_true, decide_false, Nat.reduceAdd, Nat.reduceLT, Nat.reduceLeDiff, Nat.reduceSub, Nat.reduceEqDiff, Nat.add_one_sub_one, List.modify_zero_cons, List.modify_succ_cons, rng_ok hv1 (show v < 1000000 by omega)]
  refine forL_wp (fun ds s => ∃ (x : Str) (b : Bag) (o : Option Slot), s = ⟨[some (.dat (.scr ns)), some (.dat (.per 0)), some (.dat (.str SG)), some (.dat (.str OT)), some (.dat (.str x)), o, none, none, none, none, none], [b.d]⟩ ∧ (∀ c ∈ x.cps.toList, goodCh c = true) ∧ x.length + ds.length ≤ 14) ?_ _ _ ⟨"", b, none, rfl, by decide +kernel, by
    rw [show ("" : Str).length = 0 from by decide +kernel]; simp; omega⟩ ?_
  · rintro d ds s ⟨x, b, o, rfl, hx, hl⟩
    simp at hl
    simp only [↓owp_ok, ↓owp_exc, ↓owp_bad, ↓swp_ok, ↓swp_exc, ↓swp_bad, ↓owp_ret, ↓owp_pbad, ↓swp_ret, ↓oq_some, ↓oq_none, ↓iq_true, ↓iq_false, ↓oq_map, ↓oq_bind, ↓wv_var, ↓wv_non, ↓wv_bl, ↓wv_int, ↓wv_str, ↓wv_glo, ↓wv_dct, ↓wv_bin, ↓wv_neg, ↓wv_not, ↓wt_not, ↓wv_cmp, ↓wt_cmp, ↓wv_and, ↓wt_and, ↓wv_or, ↓wt_or, ↓wv_ite, ↓wv_tup, ↓wv_lst, ↓wv_idx, ↓wv_slc, ↓wv_att, ↓wv_call, ↓wv_new, ↓wv_meth, ↓wv_fn1, ↓wv_isi, ↓wv_xat, ↓wt_var, ↓wt_bl, ↓wt_call, ↓wt_meth, ↓wt_isi, ↓wt_att, ↓wt_idx, ↓ws_nil, ↓ws_cons, ↓wo_none, ↓wo_some, ↓wi_seq, ↓wi_rng, ↓wv_lc, ↓thenS_ret, ↓thenS_brk, ↓thenS_ct, ↓wp_skip, ↓wp_seq, ↓wp_expr, ↓wp_set, ↓wp_own, ↓wp_ret, ↓wp_ite, ↓wp_for, ↓turn_name, ↓turn_tup, ↓wp_raise, ↓wp_app, ↓wp_put, ↓wp_popAt, ↓wp_fld, ↓wp_rkp, ↓wp_keep, ↓wp_try1, isExn_non, flat_non, deref_non, imm_non, box_non, isExn_bl, flat_bl, deref_bl, imm_bl, box_bl, isExn_int, flat_int, deref_int, imm_int, box_int, isExn_str, flat_str, deref_str, imm_str, box_str, isExn_tup, flat_tup, deref_tup, box_tup, isExn_lst, flat_lst, deref_lst, imm_lst, box_lst, isExn_dic, flat_dic, deref_dic, imm_dic, box_dic, isExn_ins, flat_ins, deref_ins, imm_ins, box_ins, isExn_per, flat_per, imm_per, box_per, isExn_scr, flat_scr, deref_scr, imm_scr, box_scr, deref_per, imm_tup, imms_nil, imms_cons, sd_own, sd_dat, sfrz_own, sfrz_dat, sfrz_none, entry, slotO, setE, heldE, boxB, fitB, lstB, chgS, fresh, esc, escs, escR, esci, It.slot, frzS, perOk, List.getElem?_cons_zero, List.getElem?_cons_succ, List.set_cons_zero, List.set_cons_succ, List.length_cons, List.length_nil, List.map_cons, List.map_nil, List.replicate, List.append_eq, List.cons_append, List.nil_append, List.length_map, List.length_replicate, Option.map_some, Option.bind_some, if_true, if_false, ite_true, ite_false, reduceIte, Bool.not_true, Bool.not_false, Bool.false_eq_true, decide_true, decide_false, Nat.reduceAdd, Nat.reduceLT, Nat.reduceLeDiff, Nat.reduceSub, Nat.reduceEqDiff, Nat.add_one_sub_one, List.modify_zero_cons, List.modify_succ_cons]
    refine take_wp' (n := 18) rfl (by decide) (by decide +kernel) fun v b hv1 hv2 => ?_
    obtain ⟨c, hc, hi⟩ := idx_str (x := SG) (v := v) hv1 (by rw [sg_len]; exact hv2) (by rw [sg_len, sz]; omega)
    simp only [↓owp_ok, ↓owp_exc, ↓owp_bad, ↓swp_ok, ↓swp_exc, ↓swp_bad, ↓owp_ret, ↓owp_pbad, ↓swp_ret, ↓oq_some, ↓oq_none, ↓iq_true, ↓iq_false, ↓oq_map, ↓oq_bind, ↓wv_var, ↓wv_non, ↓wv_bl, ↓wv_int, ↓wv_str, ↓wv_glo, ↓wv_dct, ↓wv_bin, ↓wv_neg, ↓wv_not, ↓wt_not, ↓wv_cmp, ↓wt_cmp, ↓wv_and, ↓wt_and, ↓wv_or, ↓wt_or, ↓wv_ite, ↓wv_tup, ↓wv_lst, ↓wv_idx, ↓wv_slc, ↓wv_att, ↓wv_call, ↓wv_new, ↓wv_meth, ↓wv_fn1, ↓wv_isi, ↓wv_xat, ↓wt_var, ↓wt_bl, ↓wt_call, ↓wt_meth, ↓wt_isi, ↓wt_att, ↓wt_idx, ↓ws_nil, ↓ws_cons, ↓wo_none, ↓wo_some, ↓wi_seq, ↓wi_rng, ↓wv_lc, ↓thenS_nx, ↓thenS_ret, ↓thenS_brk, ↓thenS_ct, ↓wp_skip, ↓wp_seq, ↓wp_expr, ↓wp_set, ↓wp_own, ↓wp_ret, ↓wp_ite, ↓wp_for, ↓turn_name, ↓turn_tup, ↓wp_raise, ↓wp_app, ↓wp_put, ↓wp_popAt, ↓wp_fld, ↓wp_rkp, ↓wp_keep, ↓wp_try1, isExn_non, flat_non, deref_non, imm_non, box_non, isExn_bl, flat_bl, deref_bl, imm_bl, box_bl, isExn_int, flat_int, deref_int, imm_int, box_int, isExn_str, flat_str, deref_str, imm_str, box_str, isExn_tup, flat_tup, deref_tup, box_tup, isExn_lst, flat_lst, deref_lst, imm_lst, box_lst, isExn_dic, flat_dic, deref_dic, imm_dic, box_dic, isExn_ins, flat_ins, deref_ins, imm_ins, box_ins, isExn_per, flat_per, imm_per, box_per, isExn_scr, flat_scr, deref_scr, imm_scr, box_scr, deref_per, imm_tup, imms_nil, imms_cons, sd_own, sd_dat, sfrz_own, sfrz_dat, sfrz_none, entry, slotO, setE, heldE, boxB, fitB, lstB, chgS, fresh, esc, escs, escR, esci, It.slot, frzS, perOk, List.getElem?_cons_zero, List.getElem?_cons_succ, List.set_cons_zero, List.set_cons_succ, List.length_cons, List.length_nil, List.map_cons, List.map_nil, List.replicate, List.append_eq, List.cons_append, List.nil_append, List.length_map, List.length_replicate, Option.map_some, Option.bind_some, if_true, if_false, ite_true, ite_false, reduceIte, Bool.not_true, Bool.not_false, Bool.false_eq_true, decide_true, decide_false, Nat.reduceAdd, Nat.reduceLT, Nat.reduceLeDiff, Nat.reduceSub, Nat.reduceEqDiff, Nat.add_one_sub_one, List.modify_zero_cons, List.modify_succ_cons, hi, add_strs (x := x) (y := ⟨#[c]⟩) (by rw [one_len, sz]; omega)]
    refine ⟨_, b, _, rfl, ?_, ?_⟩
    · intro c2 h2
      rw [str_chars_append] at h2
      rcases List.mem_append.mp h2 with h2 | h2
      · exact hx c2 h2
      · have : c2 = c := by simpa using h2
        rw [this]; exact sg_good c hc
    · rw [str_len_append, one_len]; omega
  · rintro s ⟨x, b, o, rfl, hx, hl⟩
    simp at hl
    have hlen : fop .len (.str x) = some (.int x.length) := by
      show (if x.length ≤ sizeLine then some (D.int x.length) else none) = _
      rw [if_pos (by rw [sz]; omega)]
    have hlen2 : fop .len (.str OT) = some (.int OT.length) := by
      show (if OT.length ≤ sizeLine then some (D.int OT.length) else none) = _
      rw [if_pos (by rw [sz]; have := ot_len.2; omega)]
    have hle : ∀ i : Int, cop .le (.int i) (.int 12) = some (decide (i ≤ 12)) := fun i => rfl
    have heq : ∀ i : Int, cop .eq (.int i) (.int 1) = some (i == 1) := fun i => rfl
    rw [thenS_nx]; simp only [↓owp_ok, ↓owp_exc, ↓owp_bad, ↓swp_ok, ↓swp_exc, ↓swp_bad, ↓owp_ret, ↓owp_pbad, ↓swp_ret, ↓oq_some, ↓oq_none, ↓iq_true, ↓iq_false, ↓oq_map, ↓oq_bind, ↓wv_var, ↓wv_non, ↓wv_bl, ↓wv_int, ↓wv_str, ↓wv_glo, ↓wv_dct, ↓wv_bin, ↓wv_neg, ↓wv_not, ↓wt_not, ↓wv_cmp, ↓wt_cmp, ↓wv_and, ↓wt_and, ↓wv_or, ↓wt_or, ↓wv_ite, ↓wv_tup, ↓wv_lst, ↓wv_idx, ↓wv_slc, ↓wv_att, ↓wv_call, ↓wv_new, ↓wv_meth, ↓wv_fn1, ↓wv_isi, ↓wv_xat, ↓wt_var, ↓wt_bl, ↓wt_call, ↓wt_meth, ↓wt_isi, ↓wt_att, ↓wt_idx, ↓ws_nil, ↓ws_cons, ↓wo_none, ↓wo_some, ↓wi_seq, ↓wi_rng, ↓wv_lc, ↓thenS_ret, ↓thenS_brk, ↓thenS_ct, ↓wp_skip, ↓wp_seq, ↓wp_expr, ↓wp_set, ↓wp_own, ↓wp_ret, ↓wp_ite, ↓wp_for, ↓turn_name, ↓turn_tup, ↓wp_raise, ↓wp_app, ↓wp_put, ↓wp_popAt, ↓wp_fld, ↓wp_rkp, ↓wp_keep, ↓wp_try1, isExn_non, flat_non, deref_non, imm_non, box_non, isExn_bl, flat_bl, deref_bl, imm_bl, box_bl, isExn_int, flat_int, deref_int, imm_int, box_int, isExn_str, flat_str, deref_str, imm_str, box_str, isExn_tup, flat_tup, deref_tup, box_tup, isExn_lst, flat_lst, deref_lst, imm_lst, box_lst, isExn_dic, flat_dic, deref_dic, imm_dic, box_dic, isExn_ins, flat_ins, deref_ins, imm_ins, box_ins, isExn_per, flat_per, imm_per, box_per, isExn_scr, flat_scr, deref_scr, imm_scr, box_scr, deref_per, imm_tup, imms_nil, imms_cons, sd_own, sd_dat, sfrz_own, sfrz_dat, sfrz_none, entry, slotO, setE, heldE, boxB, fitB, lstB, chgS, fresh, esc, escs, escR, esci, It.slot, frzS, perOk, List.getElem?_cons_zero, List.getElem?_cons_succ, List.set_cons_zero, List.set_cons_succ, List.length_cons, List.length_nil, List.map_cons, List.map_nil, List.replicate, List.append_eq, List.cons_append, List.nil_append, List.length_map, List.length_replicate, Option.map_some, Option.bind_some, if_true, if_false, ite_true, ite_false, reduceIte, Bool.not_true, Bool.not_false, Bool.false_eq_true, decide_true, decide_false, Nat.reduceAdd, Nat.reduceLT, Nat.reduceLeDiff, Nat.reduceSub, Nat.reduceEqDiff, Nat.add_one_sub_one, List.modify_zero_cons, List.modify_succ_cons, ne_strs]
    refine iq_of (fun he => ?_) fun he => ?_
    · have he2 : (x == ("" : Str)) = false := by simpa using he
      have hpos := empty_len he2
      simp only [↓owp_ok, ↓owp_exc, ↓owp_bad, ↓swp_ok, ↓swp_exc, ↓swp_bad, ↓owp_ret, ↓owp_pbad, ↓swp_ret, ↓oq_some, ↓oq_none, ↓iq_true, ↓iq_false, ↓oq_map, ↓oq_bind, ↓wv_var, ↓wv_non, ↓wv_bl, ↓wv_int, ↓wv_str, ↓wv_glo, ↓wv_dct, ↓wv_bin, ↓wv_neg, ↓wv_not, ↓wt_not, ↓wv_cmp, ↓wt_cmp, ↓wv_and, ↓wt_and, ↓wv_or, ↓wt_or, ↓wv_ite, ↓wv_tup, ↓wv_lst, ↓wv_idx, ↓wv_slc, ↓wv_att, ↓wv_call, ↓wv_new, ↓wv_meth, ↓wv_fn1, ↓wv_isi, ↓wv_xat, ↓wt_var, ↓wt_bl, ↓wt_call, ↓wt_meth, ↓wt_isi, ↓wt_att, ↓wt_idx, ↓ws_nil, ↓ws_cons, ↓wo_none, ↓wo_some, ↓wi_seq, ↓wi_rng, ↓wv_lc, ↓thenS_ret, ↓thenS_brk, ↓thenS_ct, ↓wp_skip, ↓wp_seq, ↓wp_expr, ↓wp_set, ↓wp_own, ↓wp_ret, ↓wp_ite, ↓wp_for, ↓turn_name, ↓turn_tup, ↓wp_raise, ↓wp_app, ↓wp_put, ↓wp_popAt, ↓wp_fld, ↓wp_rkp, ↓wp_keep, ↓wp_try1, isExn_non, flat_non, deref_non, imm_non, box_non, isExn_bl, flat_bl, deref_bl, imm_bl, box_bl, isExn_int, flat_int, deref_int, imm_int, box_int, isExn_str, flat_str, deref_str, imm_str, box_str, isExn_tup, flat_tup, deref_tup, box_tup, isExn_lst, flat_lst, deref_lst, imm_lst, box_lst, isExn_dic, flat_dic, deref_dic, imm_dic, box_dic, isExn_ins, flat_ins, deref_ins, imm_ins, box_ins, isExn_per, flat_per, imm_per, box_per, isExn_scr, flat_scr, deref_scr, imm_scr, box_scr, deref_per, imm_tup, imms_nil, imms_cons, sd_own, sd_dat, sfrz_own, sfrz_dat, sfrz_none, entry, slotO, setE, heldE, boxB, fitB, lstB, chgS, fresh, esc, escs, escR, esci, It.slot, frzS, perOk, List.getElem?_cons_zero, List.getElem?_cons_succ, List.set_cons_zero, List.set_cons_succ, List.length_cons, List.length_nil, List.map_cons, List.map_nil, List.replicate, List.append_eq, List.cons_append, List.nil_append, List.length_map, List.length_replicate, Option.map_some, Option.bind_some, if_true, if_false, ite_true, ite_false, reduceIte, Bool.not_true, Bool.not_false, Bool.false_eq_true, decide_true, decide_false, Nat.reduceAdd, Nat.reduceLT, Nat.reduceLeDiff, Nat.reduceSub, Nat.reduceEqDiff, Nat.add_one_sub_one, List.modify_zero_cons, List.modify_succ_cons, hlen, hle]
      rw [thenS_nx]; simp only [↓owp_ok, ↓owp_exc, ↓owp_bad, ↓swp_ok, ↓swp_exc, ↓swp_bad, ↓owp_ret, ↓owp_pbad, ↓swp_ret, ↓oq_some, ↓oq_none, ↓iq_true, ↓iq_false, ↓oq_map, ↓oq_bind, ↓wv_var, ↓wv_non, ↓wv_bl, ↓wv_int, ↓wv_str, ↓wv_glo, ↓wv_dct, ↓wv_bin, ↓wv_neg, ↓wv_not, ↓wt_not, ↓wv_cmp, ↓wt_cmp, ↓wv_and, ↓wt_and, ↓wv_or, ↓wt_or, ↓wv_ite, ↓wv_tup, ↓wv_lst, ↓wv_idx, ↓wv_slc, ↓wv_att, ↓wv_call, ↓wv_new, ↓wv_meth, ↓wv_fn1, ↓wv_isi, ↓wv_xat, ↓wt_var, ↓wt_bl, ↓wt_call, ↓wt_meth, ↓wt_isi, ↓wt_att, ↓wt_idx, ↓ws_nil, ↓ws_cons, ↓wo_none, ↓wo_some, ↓wi_seq, ↓wi_rng, ↓wv_lc, ↓thenS_ret, ↓thenS_brk, ↓thenS_ct, ↓wp_skip, ↓wp_seq, ↓wp_expr, ↓wp_set, ↓wp_own, ↓wp_ret, ↓wp_ite, ↓wp_for, ↓turn_name, ↓turn_tup, ↓wp_raise, ↓wp_app, ↓wp_put, ↓wp_popAt, ↓wp_fld, ↓wp_rkp, ↓wp_keep, ↓wp_try1, isExn_non, flat_non, deref_non, imm_non, box_non, isExn_bl, flat_bl, deref_bl, imm_bl, box_bl, isExn_int, flat_int, deref_int, imm_int, box_int, isExn_str, flat_str, deref_str, imm_str, box_str, isExn_tup, flat_tup, deref_tup, box_tup, isExn_lst, flat_lst, deref_lst, imm_lst, box_lst, isExn_dic, flat_dic, deref_dic, imm_dic, box_dic, isExn_ins, flat_ins, deref_ins, imm_ins, box_ins, isExn_per, flat_per, imm_per, box_per, isExn_scr, flat_scr, deref_scr, imm_scr, box_scr, deref_per, imm_tup, imms_nil, imms_cons, sd_own, sd_dat, sfrz_own, sfrz_dat, sfrz_none, entry, slotO, setE, heldE, boxB, fitB, lstB, chgS, fresh, esc, escs, escR, esci, It.slot, frzS, perOk, List.getElem?_cons_zero, List.getElem?_cons_succ, List.set_cons_zero, List.set_cons_succ, List.length_cons, List.length_nil, List.map_cons, List.map_nil, List.replicate, List.append_eq, List.cons_append, List.nil_append, List.length_map, List.length_replicate, Option.map_some, Option.bind_some, if_true, if_false, ite_true, ite_false, reduceIte, Bool.not_true, Bool.not_false, Bool.false_eq_true, decide_true, decide_false, Nat.reduceAdd, Nat.reduceLT, Nat.reduceLeDiff, Nat.reduceSub, Nat.reduceEqDiff, Nat.add_one_sub_one, List.modify_zero_cons, List.modify_succ_cons]
      refine take_wp' (n := 18) rfl (by decide) (by decide +kernel) fun v b hv1 hv2 => ?_
      simp only [↓owp_ok, ↓owp_exc, ↓owp_bad, ↓swp_ok, ↓swp_exc, ↓swp_bad, ↓owp_ret, ↓owp_pbad, ↓swp_ret, ↓oq_some, ↓oq_none, ↓iq_true, ↓iq_false, ↓oq_map, ↓oq_bind, ↓wv_var, ↓wv_non, ↓wv_bl, ↓wv_int, ↓wv_str, ↓wv_glo, ↓wv_dct, ↓wv_bin, ↓wv_neg, ↓wv_not, ↓wt_not, ↓wv_cmp, ↓wt_cmp, ↓wv_and, ↓wt_and, ↓wv_or, ↓wt_or, ↓wv_ite, ↓wv_tup, ↓wv_lst, ↓wv_idx, ↓wv_slc, ↓wv_att, ↓wv_call, ↓wv_new, ↓wv_meth, ↓wv_fn1, ↓wv_isi, ↓wv_xat, ↓wt_var, ↓wt_bl, ↓wt_call, ↓wt_meth, ↓wt_isi, ↓wt_att, ↓wt_idx, ↓ws_nil, ↓ws_cons, ↓wo_none, ↓wo_some, ↓wi_seq, ↓wi_rng, ↓wv_lc, ↓thenS_ret, ↓thenS_brk, ↓thenS_ct, ↓wp_skip, ↓wp_seq, ↓wp_expr, ↓wp_set, ↓wp_own, ↓wp_ret, ↓wp_ite, ↓wp_for, ↓turn_name, ↓turn_tup, ↓wp_raise, ↓wp_app, ↓wp_put, ↓wp_popAt, ↓wp_fld, ↓wp_rkp, ↓wp_keep, ↓wp_try1, isExn_non, flat_non, deref_non, imm_non, box_non, isExn_bl, flat_bl, deref_bl, imm_bl, box_bl, isExn_int, flat_int, deref_int, imm_int, box_int, isExn_str, flat_str, deref_str, imm_str, box_str, isExn_tup, flat_tup, deref_tup, box_tup, isExn_lst, flat_lst, deref_lst, imm_lst, box_lst, isExn_dic, flat_dic, deref_dic, imm_dic, box_dic, isExn_ins, flat_ins, deref_ins, imm_ins, box_ins, isExn_per, flat_per, imm_per, box_per, isExn_scr, flat_scr, deref_scr, imm_scr, box_scr, deref_per, imm_tup, imms_nil, imms_cons, sd_own, sd_dat, sfrz_own, sfrz_dat, sfrz_none, entry, slotO, setE, heldE, boxB, fitB, lstB, chgS, fresh, esc, escs, escR, esci, It.slot, frzS, perOk, List.getElem?_cons_zero, List.getElem?_cons_succ, List.set_cons_zero, List.set_cons_succ, List.length_cons, List.length_nil, List.map_cons, List.map_nil, List.replicate, List.append_eq, List.cons_append, List.nil_append, List.length_map, List.length_replicate, Option.map_some, Option.bind_some, if_true, if_false, ite_true, ite_false, reduceIte, Bool.not_true, Bool.not_false, Bool.false_eq_true, decide_true, decide_false, Nat.reduceAdd, Nat.reduceLT, Nat.reduceLeDiff, Nat.reduceSub, Nat.reduceEqDiff, Nat.add_one_sub_one, List.modify_zero_cons, List.modify_succ_cons, heq]
      refine iq_of (fun h1 => ?_) fun h1 => ?_
      · simp only [↓owp_ok, ↓owp_exc, ↓owp_bad, ↓swp_ok, ↓swp_exc, ↓swp_bad, ↓owp_ret, ↓owp_pbad, ↓swp_ret, ↓oq_some, ↓oq_none, ↓iq_true, ↓iq_false, ↓oq_map, ↓oq_bind, ↓wv_var, ↓wv_non, ↓wv_bl, ↓wv_int, ↓wv_str, ↓wv_glo, ↓wv_dct, ↓wv_bin, ↓wv_neg, ↓wv_not, ↓wt_not, ↓wv_cmp, ↓wt_cmp, ↓wv_and, ↓wt_and, ↓wv_or, ↓wt_or, ↓wv_ite, ↓wv_tup, ↓wv_lst, ↓wv_idx, ↓wv_slc, ↓wv_att, ↓wv_call, ↓wv_new, ↓wv_meth, ↓wv_fn1, ↓wv_isi, ↓wv_xat, ↓wt_var, ↓wt_bl, ↓wt_call, ↓wt_meth, ↓wt_isi, ↓wt_att, ↓wt_idx, ↓ws_nil, ↓ws_cons, ↓wo_none, ↓wo_some, ↓wi_seq, ↓wi_rng, ↓wv_lc, ↓thenS_ret, ↓thenS_brk, ↓thenS_ct, ↓wp_skip, ↓wp_seq, ↓wp_expr, ↓wp_set, ↓wp_own, ↓wp_ret, ↓wp_ite, ↓wp_for, ↓turn_name, ↓turn_tup, ↓wp_raise, ↓wp_app, ↓wp_put, ↓wp_popAt, ↓wp_fld, ↓wp_rkp, ↓wp_keep, ↓wp_try1, isExn_non, flat_non, deref_non, imm_non, box_non, isExn_bl, flat_bl, deref_bl, imm_bl, box_bl, isExn_int, flat_int, deref_int, imm_int, box_int, isExn_str, flat_str, deref_str, imm_str, box_str, isExn_tup, flat_tup, deref_tup, box_tup, isExn_lst, flat_lst, deref_lst, imm_lst, box_lst, isExn_dic, flat_dic, deref_dic, imm_dic, box_dic, isExn_ins, flat_ins, deref_ins, imm_ins, box_ins, isExn_per, flat_per, imm_per, box_per, isExn_scr, flat_scr, deref_scr, imm_scr, box_scr, deref_per, imm_tup, imms_nil, imms_cons, sd_own, sd_dat, sfrz_own, sfrz_dat, sfrz_none, entry, slotO, setE, heldE, boxB, fitB, lstB, chgS, fresh, esc, escs, escR, esci, It.slot, frzS, perOk, List.getElem?_cons_zero, List.getElem?_cons_succ, List.set_cons_zero, List.set_cons_succ, List.length_cons, List.length_nil, List.map_cons, List.map_nil, List.replicate, List.append_eq, List.cons_append, List.nil_append, List.length_map, List.length_replicate, Option.map_some, Option.bind_some, if_true, if_false, ite_true, ite_false, reduceIte, Bool.not_true, Bool.not_false, Bool.false_eq_true, decide_true, decide_false, Nat.reduceAdd, Nat.reduceLT, Nat.reduceLeDiff, Nat.reduceSub, Nat.reduceEqDiff, Nat.add_one_sub_one, List.modify_zero_cons, List.modify_succ_cons, ne_strs, he2, hlen]
        refine take_wp' (n := 18) rfl (by omega) ?_ fun v b hv1 hv2 => ?_
        · by_cases h0 : (x.length : Int).natAbs = 0
          · rw [h0]; decide
          · rw [Nat.log2_lt h0]
            exact Nat.lt_of_lt_of_le (show (x.length : Int).natAbs < 2 ^ 4 by simp; omega) (Nat.pow_le_pow_right (by decide) (by decide))
        simp only [↓owp_ok, ↓owp_exc, ↓owp_bad, ↓swp_ok, ↓swp_exc, ↓swp_bad, ↓owp_ret, ↓owp_pbad, ↓swp_ret, ↓oq_some, ↓oq_none, ↓iq_true, ↓iq_false, ↓oq_map, ↓oq_bind, ↓wv_var, ↓wv_non, ↓wv_bl, ↓wv_int, ↓wv_str, ↓wv_glo, ↓wv_dct, ↓wv_bin, ↓wv_neg, ↓wv_not, ↓wt_not, ↓wv_cmp, ↓wt_cmp, ↓wv_and, ↓wt_and, ↓wv_or, ↓wt_or, ↓wv_ite, ↓wv_tup, ↓wv_lst, ↓wv_idx, ↓wv_slc, ↓wv_att, ↓wv_call, ↓wv_new, ↓wv_meth, ↓wv_fn1, ↓wv_isi, ↓wv_xat, ↓wt_var, ↓wt_bl, ↓wt_call, ↓wt_meth, ↓wt_isi, ↓wt_att, ↓wt_idx, ↓ws_nil, ↓ws_cons, ↓wo_none, ↓wo_some, ↓wi_seq, ↓wi_rng, ↓wv_lc, ↓thenS_ret, ↓thenS_brk, ↓thenS_ct, ↓wp_skip, ↓wp_seq, ↓wp_expr, ↓wp_set, ↓wp_own, ↓wp_ret, ↓wp_ite, ↓wp_for, ↓turn_name, ↓turn_tup, ↓wp_raise, ↓wp_app, ↓wp_put, ↓wp_popAt, ↓wp_fld, ↓wp_rkp, ↓wp_keep, ↓wp_try1, isExn_non, flat_non, deref_non, imm_non, box_non, isExn_bl, flat_bl, deref_bl, imm_bl, box_bl, isExn_int, flat_int, deref_int, imm_int, box_int, isExn_str, flat_str, deref_str, imm_str, box_str, isExn_tup, flat_tup, deref_tup, box_tup, isExn_lst, flat_lst, deref_lst, imm_lst, box_lst, isExn_dic, flat_dic, deref_dic, imm_dic, box_dic, isExn_ins, flat_ins, deref_ins, imm_ins, box_ins, isExn_per, flat_per, imm_per, box_per, isExn_scr, flat_scr, deref_scr, imm_scr, box_scr, deref_per, imm_tup, imms_nil, imms_cons, sd_own, sd_dat, sfrz_own, sfrz_dat, sfrz_none, entry, slotO, setE, heldE, boxB, fitB, lstB, chgS, fresh, esc, escs, escR, esci, It.slot, frzS, perOk, List.getElem?_cons_zero, List.getElem?_cons_succ, List.set_cons_zero, List.set_cons_succ, List.length_cons, List.length_nil, List.map_cons, List.map_nil, List.replicate, List.append_eq, List.cons_append, List.nil_append, List.length_map, List.length_replicate, Option.map_some, Option.bind_some, if_true, if_false, ite_true, ite_false, reduceIte, Bool.not_true, Bool.not_false, Bool.false_eq_true, decide_true, decide_false, Nat.reduceAdd, Nat.reduceLT, Nat.reduceLeDiff, Nat.reduceSub, Nat.reduceEqDiff, Nat.add_one_sub_one, List.modify_zero_cons, List.modify_succ_cons]
        rw [thenS_nx]; simp only [↓owp_ok, ↓owp_exc, ↓owp_bad, ↓swp_ok, ↓swp_exc, ↓swp_bad, ↓owp_ret, ↓owp_pbad, ↓swp_ret, ↓oq_some, ↓oq_none, ↓iq_true, ↓iq_false, ↓oq_map, ↓oq_bind, ↓wv_var, ↓wv_non, ↓wv_bl, ↓wv_int, ↓wv_str, ↓wv_glo, ↓wv_dct, ↓wv_bin, ↓wv_neg, ↓wv_not, ↓wt_not, ↓wv_cmp, ↓wt_cmp, ↓wv_and, ↓wt_and, ↓wv_or, ↓wt_or, ↓wv_ite, ↓wv_tup, ↓wv_lst, ↓wv_idx, ↓wv_slc, ↓wv_att, ↓wv_call, ↓wv_new, ↓wv_meth, ↓wv_fn1, ↓wv_isi, ↓wv_xat, ↓wt_var, ↓wt_bl, ↓wt_call, ↓wt_meth, ↓wt_isi, ↓wt_att, ↓wt_idx, ↓ws_nil, ↓ws_cons, ↓wo_none, ↓wo_some, ↓wi_seq, ↓wi_rng, ↓wv_lc, ↓thenS_ret, ↓thenS_brk, ↓thenS_ct, ↓wp_skip, ↓wp_seq, ↓wp_expr, ↓wp_set, ↓wp_own, ↓wp_ret, ↓wp_ite, ↓wp_for, ↓turn_name, ↓turn_tup, ↓wp_raise, ↓wp_app, ↓wp_put, ↓wp_popAt, ↓wp_fld, ↓wp_rkp, ↓wp_keep, ↓wp_try1, isExn_non, flat_non, deref_non, imm_non, box_non, isExn_bl, flat_bl, deref_bl, imm_bl, box_bl, isExn_int, flat_int, deref_int, imm_int, box_int, isExn_str, flat_str, deref_str, imm_str, box_str, isExn_tup, flat_tup, deref_tup, box_tup, isExn_lst, flat_lst, deref_lst, imm_lst, box_lst, isExn_dic, flat_dic, deref_dic, imm_dic, box_dic, isExn_ins, flat_ins, deref_ins, imm_ins, box_ins, isExn_per, flat_per, imm_per, box_per, isExn_scr, flat_scr, deref_scr, imm_scr, box_scr, deref_per, imm_tup, imms_nil, imms_cons, sd_own, sd_dat, sfrz_own, sfrz_dat, sfrz_none, entry, slotO, setE, heldE, boxB, fitB, lstB, chgS, fresh, esc, escs, escR, esci, It.slot, frzS, perOk, List.getElem?_cons_zero, List.getElem?_cons_succ, List.set_cons_zero, List.set_cons_succ, List.length_cons, List.length_nil, List.map_cons, List.map_nil, List.replicate, List.append_eq, List.cons_append, List.nil_append, List.length_map, List.length_replicate, Option.map_some, Option.bind_some, if_true, if_false, ite_true, ite_false, reduceIte, Bool.not_true, Bool.not_false, Bool.false_eq_true, decide_true, decide_false, Nat.reduceAdd, Nat.reduceLT, Nat.reduceLeDiff, Nat.reduceSub, Nat.reduceEqDiff, Nat.add_one_sub_one, List.modify_zero_cons, List.modify_succ_cons, slc_str (x := x) (by rw [sz]; omega), hlen2]
        refine take_wp' (n := 18) rfl ot_len.1 ?_ fun v2 b h21 h22 => ?_
        · decide +kernel
        obtain ⟨c, hc, hi⟩ := idx_str (x := OT) (v := v2) h21 h22 (by rw [sz]; have := ot_len.2; omega)
        have hc1 := cutS_len (x := x) (lo := none) (hi := some v)
        have hc2 := cutS_len (x := x) (lo := some (v + 1)) (hi := none)
        have ha : ∀ i j : Int, bop .add (.int i) (.int j) = some (.int (i + j)) := fun i j => rfl
        simp only [↓owp_ok, ↓owp_exc, ↓owp_bad, ↓swp_ok, ↓swp_exc, ↓swp_bad, ↓owp_ret, ↓owp_pbad, ↓swp_ret, ↓oq_some, ↓oq_none, ↓iq_true, ↓iq_false, ↓oq_map, ↓oq_bind, ↓wv_var, ↓wv_non, ↓wv_bl, ↓wv_int, ↓wv_str, ↓wv_glo, ↓wv_dct, ↓wv_bin, ↓wv_neg, ↓wv_not, ↓wt_not, ↓wv_cmp, ↓wt_cmp, ↓wv_and, ↓wt_and, ↓wv_or, ↓wt_or, ↓wv_ite, ↓wv_tup, ↓wv_lst, ↓wv_idx, ↓wv_slc, ↓wv_att, ↓wv_call, ↓wv_new, ↓wv_meth, ↓wv_fn1, ↓wv_isi, ↓wv_xat, ↓wt_var, ↓wt_bl, ↓wt_call, ↓wt_meth, ↓wt_isi, ↓wt_att, ↓wt_idx, ↓ws_nil, ↓ws_cons, ↓wo_none, ↓wo_some, ↓wi_seq, ↓wi_rng, ↓wv_lc, ↓thenS_ret, ↓thenS_brk, ↓thenS_ct, ↓wp_skip, ↓wp_seq, ↓wp_expr, ↓wp_set, ↓wp_own, ↓wp_ret, ↓wp_ite, ↓wp_for, ↓turn_name, ↓turn_tup, ↓wp_raise, ↓wp_app, ↓wp_put, ↓wp_popAt, ↓wp_fld, ↓wp_rkp, ↓wp_keep, ↓wp_try1, isExn_non, flat_non, deref_non, imm_non, box_non, isExn_bl, flat_bl, deref_bl, imm_bl, box_bl, isExn_int, flat_int, deref_int, imm_int, box_int, isExn_str, flat_str, deref_str, imm_str, box_str, isExn_tup, flat_tup, deref_tup, box_tup, isExn_lst, flat_lst, deref_lst, imm_lst, box_lst, isExn_dic, flat_dic, deref_dic, imm_dic, box_dic, isExn_ins, flat_ins, deref_ins, imm_ins, box_ins, isExn_per, flat_per, imm_per, box_per, isExn_scr, flat_scr, deref_scr, imm_scr, box_scr, deref_per, imm_tup, imms_nil, imms_cons, sd_own, sd_dat, sfrz_own, sfrz_dat, sfrz_none, entry, slotO, setE, heldE, boxB, fitB, lstB, chgS, fresh, esc, escs, escR, esci, It.slot, frzS, perOk, List.getElem?_cons_zero, List.getElem?_cons_succ, List.set_cons_zero, List.set_cons_succ, List.length_cons, List.length_nil, List.map_cons, List.map_nil, List.replicate, List.append_eq, List.cons_append, List.nil_append, List.length_map, List.length_replicate, Option.map_some, Option.bind_some, if_true, if_false, ite_true, ite_false, reduceIte, Bool.not_true, Bool.not_false, Bool.false_eq_true, decide_true, decide_false, Nat.reduceAdd, Nat.reduceLT, Nat.reduceLeDiff, Nat.reduceSub, Nat.reduceEqDiff, Nat.add_one_sub_one, List.modify_zero_cons, List.modify_succ_cons, hi, ha, slc_str (x := x) (by rw [sz]; omega), add_strs (x := L2.cutS x none (some v)) (y := ⟨#[c]⟩) (by rw [one_len, sz]; omega), add_strs (x := L2.cutS x none (some v) ++ ⟨#[c]⟩) (y := L2.cutS x (some (v + 1)) none) (by rw [str_len_append, one_len, sz]; omega)]
        rw [thenS_nx]; simp only [↓owp_ok, ↓owp_exc, ↓owp_bad, ↓swp_ok, ↓swp_exc, ↓swp_bad, ↓owp_ret, ↓owp_pbad, ↓swp_ret, ↓oq_some, ↓oq_none, ↓iq_true, ↓iq_false, ↓oq_map, ↓oq_bind, ↓wv_var, ↓wv_non, ↓wv_bl, ↓wv_int, ↓wv_str, ↓wv_glo, ↓wv_dct, ↓wv_bin, ↓wv_neg, ↓wv_not, ↓wt_not, ↓wv_cmp, ↓wt_cmp, ↓wv_and, ↓wt_and, ↓wv_or, ↓wt_or, ↓wv_ite, ↓wv_tup, ↓wv_lst, ↓wv_idx, ↓wv_slc, ↓wv_att, ↓wv_call, ↓wv_new, ↓wv_meth, ↓wv_fn1, ↓wv_isi, ↓wv_xat, ↓wt_var, ↓wt_bl, ↓wt_call, ↓wt_meth, ↓wt_isi, ↓wt_att, ↓wt_idx, ↓ws_nil, ↓ws_cons, ↓wo_none, ↓wo_some, ↓wi_seq, ↓wi_rng, ↓wv_lc, ↓thenS_ret, ↓thenS_brk, ↓thenS_ct, ↓wp_skip, ↓wp_seq, ↓wp_expr, ↓wp_set, ↓wp_own, ↓wp_ret, ↓wp_ite, ↓wp_for, ↓turn_name, ↓turn_tup, ↓wp_raise, ↓wp_app, ↓wp_put, ↓wp_popAt, ↓wp_fld, ↓wp_rkp, ↓wp_keep, ↓wp_try1, isExn_non, flat_non, deref_non, imm_non, box_non, isExn_bl, flat_bl, deref_bl, imm_bl, box_bl, isExn_int, flat_int, deref_int, imm_int, box_int, isExn_str, flat_str, deref_str, imm_str, box_str, isExn_tup, flat_tup, deref_tup, box_tup, isExn_lst, flat_lst, deref_lst, imm_lst, box_lst, isExn_dic, flat_dic, deref_dic, imm_dic, box_dic, isExn_ins, flat_ins, deref_ins, imm_ins, box_ins, isExn_per, flat_per, imm_per, box_per, isExn_scr, flat_scr, deref_scr, imm_scr, box_scr, deref_per, imm_tup, imms_nil, imms_cons, sd_own, sd_dat, sfrz_own, sfrz_dat, sfrz_none, entry, slotO, setE, heldE, boxB, fitB, lstB, chgS, fresh, esc, escs, escR, esci, It.slot, frzS, perOk, List.getElem?_cons_zero, List.getElem?_cons_succ, List.set_cons_zero, List.set_cons_succ, List.length_cons, List.length_nil, List.map_cons, List.map_nil, List.replicate, List.append_eq, List.cons_append, List.nil_append, List.length_map, List.length_replicate, Option.map_some, Option.bind_some, if_true, if_false, ite_true, ite_false, reduceIte, Bool.not_true, Bool.not_false, Bool.false_eq_true, decide_true, decide_false, Nat.reduceAdd, Nat.reduceLT, Nat.reduceLeDiff, Nat.reduceSub, Nat.reduceEqDiff, Nat.add_one_sub_one, List.modify_zero_cons, List.modify_succ_cons]
        rw [thenS_nx]; simp only [↓owp_ok, ↓owp_exc, ↓owp_bad, ↓swp_ok, ↓swp_exc, ↓swp_bad, ↓owp_ret, ↓owp_pbad, ↓swp_ret, ↓oq_some, ↓oq_none, ↓iq_true, ↓iq_false, ↓oq_map, ↓oq_bind, ↓wv_var, ↓wv_non, ↓wv_bl, ↓wv_int, ↓wv_str, ↓wv_glo, ↓wv_dct, ↓wv_bin, ↓wv_neg, ↓wv_not, ↓wt_not, ↓wv_cmp, ↓wt_cmp, ↓wv_and, ↓wt_and, ↓wv_or, ↓wt_or, ↓wv_ite, ↓wv_tup, ↓wv_lst, ↓wv_idx, ↓wv_slc, ↓wv_att, ↓wv_call, ↓wv_new, ↓wv_meth, ↓wv_fn1, ↓wv_isi, ↓wv_xat, ↓wt_var, ↓wt_bl, ↓wt_call, ↓wt_meth, ↓wt_isi, ↓wt_att, ↓wt_idx, ↓ws_nil, ↓ws_cons, ↓wo_none, ↓wo_some, ↓wi_seq, ↓wi_rng, ↓wv_lc, ↓thenS_ret, ↓thenS_brk, ↓thenS_ct, ↓wp_skip, ↓wp_seq, ↓wp_expr, ↓wp_set, ↓wp_own, ↓wp_ret, ↓wp_ite, ↓wp_for, ↓turn_name, ↓turn_tup, ↓wp_raise, ↓wp_app, ↓wp_put, ↓wp_popAt, ↓wp_fld, ↓wp_rkp, ↓wp_keep, ↓wp_try1, isExn_non, flat_non, deref_non, imm_non, box_non, isExn_bl, flat_bl, deref_bl, imm_bl, box_bl, isExn_int, flat_int, deref_int, imm_int, box_int, isExn_str, flat_str, deref_str, imm_str, box_str, isExn_tup, flat_tup, deref_tup, box_tup, isExn_lst, flat_lst, deref_lst, imm_lst, box_lst, isExn_dic, flat_dic, deref_dic, imm_dic, box_dic, isExn_ins, flat_ins, deref_ins, imm_ins, box_ins, isExn_per, flat_per, imm_per, box_per, isExn_scr, flat_scr, deref_scr, imm_scr, box_scr, deref_per, imm_tup, imms_nil, imms_cons, sd_own, sd_dat, sfrz_own, sfrz_dat, sfrz_none, entry, slotO, setE, heldE, boxB, fitB, lstB, chgS, fresh, esc, escs, escR, esci, It.slot, frzS, perOk, List.getElem?_cons_zero, List.getElem?_cons_succ, List.set_cons_zero, List.set_cons_succ, List.length_cons, List.length_nil, List.map_cons, List.map_nil, List.replicate, List.append_eq, List.cons_append, List.nil_append, List.length_map, List.length_replicate, Option.map_some, Option.bind_some, if_true, if_false, ite_true, ite_false, reduceIte, Bool.not_true, Bool.not_false, Bool.false_eq_true, decide_true, decide_false, Nat.reduceAdd, Nat.reduceLT, Nat.reduceLeDiff, Nat.reduceSub, Nat.reduceEqDiff, Nat.add_one_sub_one, List.modify_zero_cons, List.modify_succ_cons]
        rw [thenS_nx]
        refine fin_ok ?_ ?_ fun _ => rfl
        · rw [str_len_append, str_len_append, one_len]; omega
        · refine vStr_bad (c := c) ?_ (ot_bad c hc)
          rw [str_chars_append, str_chars_append]
          simp
      · rw [thenS_nx]
        refine fin_ok (by omega) ?_ fun _ => rfl
        rw [vStr_good hx, he2]
        simp
        omega
    · have he2 : (x == ("" : Str)) = true := by simpa using he
      rw [thenS_nx]; simp only [↓owp_ok, ↓owp_exc, ↓owp_bad, ↓swp_ok, ↓swp_exc, ↓swp_bad, ↓owp_ret, ↓owp_pbad, ↓swp_ret, ↓oq_some, ↓oq_none, ↓iq_true, ↓iq_false, ↓oq_map, ↓oq_bind, ↓wv_var, ↓wv_non, ↓wv_bl, ↓wv_int, ↓wv_str, ↓wv_glo, ↓wv_dct, ↓wv_bin, ↓wv_neg, ↓wv_not, ↓wt_not, ↓wv_cmp, ↓wt_cmp, ↓wv_and, ↓wt_and, ↓wv_or, ↓wt_or, ↓wv_ite, ↓wv_tup, ↓wv_lst, ↓wv_idx, ↓wv_slc, ↓wv_att, ↓wv_call, ↓wv_new, ↓wv_meth, ↓wv_fn1, ↓wv_isi, ↓wv_xat, ↓wt_var, ↓wt_bl, ↓wt_call, ↓wt_meth, ↓wt_isi, ↓wt_att, ↓wt_idx, ↓ws_nil, ↓ws_cons, ↓wo_none, ↓wo_some, ↓wi_seq, ↓wi_rng, ↓wv_lc, ↓thenS_ret, ↓thenS_brk, ↓thenS_ct, ↓wp_skip, ↓wp_seq, ↓wp_expr, ↓wp_set, ↓wp_own, ↓wp_ret, ↓wp_ite, ↓wp_for, ↓turn_name, ↓turn_tup, ↓wp_raise, ↓wp_app, ↓wp_put, ↓wp_popAt, ↓wp_fld, ↓wp_rkp, ↓wp_keep, ↓wp_try1, isExn_non, flat_non, deref_non, imm_non, box_non, isExn_bl, flat_bl, deref_bl, imm_bl, box_bl, isExn_int, flat_int, deref_int, imm_int, box_int, isExn_str, flat_str, deref_str, imm_str, box_str, isExn_tup, flat_tup, deref_tup, box_tup, isExn_lst, flat_lst, deref_lst, imm_lst, box_lst, isExn_dic, flat_dic, deref_dic, imm_dic, box_dic, isExn_ins, flat_ins, deref_ins, imm_ins, box_ins, isExn_per, flat_per, imm_per, box_per, isExn_scr, flat_scr, deref_scr, imm_scr, box_scr, deref_per, imm_tup, imms_nil, imms_cons, sd_own, sd_dat, sfrz_own, sfrz_dat, sfrz_none, entry, slotO, setE, heldE, boxB, fitB, lstB, chgS, fresh, esc, escs, escR, esci, It.slot, frzS, perOk, List.getElem?_cons_zero, List.getElem?_cons_succ, List.set_cons_zero, List.set_cons_succ, List.length_cons, List.length_nil, List.map_cons, List.map_nil, List.replicate, List.append_eq, List.cons_append, List.nil_append, List.length_map, List.length_replicate, Option.map_some, Option.bind_some, if_true, if_false, ite_true, ite_false, reduceIte, Bool.not_true, Bool.not_false, Bool.false_eq_true, decide_true, decide_false, Nat.reduceAdd, Nat.reduceLT, Nat.reduceLeDiff, Nat.reduceSub, Nat.reduceEqDiff, Nat.add_one_sub_one, List.modify_zero_cons, List.modify_succ_cons]
      refine take_wp' (n := 18) rfl (by decide) (by decide +kernel) fun v b hv1 hv2 => ?_
      simp only [↓owp_ok, ↓owp_exc, ↓owp_bad, ↓swp_ok, ↓swp_exc, ↓swp_bad, ↓owp_ret, ↓owp_pbad, ↓swp_ret, ↓oq_some, ↓oq_none, ↓iq_true, ↓iq_false, ↓oq_map, ↓oq_bind, ↓wv_var, ↓wv_non, ↓wv_bl, ↓wv_int, ↓wv_str, ↓wv_glo, ↓wv_dct, ↓wv_bin, ↓wv_neg, ↓wv_not, ↓wt_not, ↓wv_cmp, ↓wt_cmp, ↓wv_and, ↓wt_and, ↓wv_or, ↓wt_or, ↓wv_ite, ↓wv_tup, ↓wv_lst, ↓wv_idx, ↓wv_slc, ↓wv_att, ↓wv_call, ↓wv_new, ↓wv_meth, ↓wv_fn1, ↓wv_isi, ↓wv_xat, ↓wt_var, ↓wt_bl, ↓wt_call, ↓wt_meth, ↓wt_isi, ↓wt_att, ↓wt_idx, ↓ws_nil, ↓ws_cons, ↓wo_none, ↓wo_some, ↓wi_seq, ↓wi_rng, ↓wv_lc, ↓thenS_ret, ↓thenS_brk, ↓thenS_ct, ↓wp_skip, ↓wp_seq, ↓wp_expr, ↓wp_set, ↓wp_own, ↓wp_ret, ↓wp_ite, ↓wp_for, ↓turn_name, ↓turn_tup, ↓wp_raise, ↓wp_app, ↓wp_put, ↓wp_popAt, ↓wp_fld, ↓wp_rkp, ↓wp_keep, ↓wp_try1, isExn_non, flat_non, deref_non, imm_non, box_non, isExn_bl, flat_bl, deref_bl, imm_bl, box_bl, isExn_int, flat_int, deref_int, imm_int, box_int, isExn_str, flat_str, deref_str, imm_str, box_str, isExn_tup, flat_tup, deref_tup, box_tup, isExn_lst, flat_lst, deref_lst, imm_lst, box_lst, isExn_dic, flat_dic, deref_dic, imm_dic, box_dic, isExn_ins, flat_ins, deref_ins, imm_ins, box_ins, isExn_per, flat_per, imm_per, box_per, isExn_scr, flat_scr, deref_scr, imm_scr, box_scr, deref_per, imm_tup, imms_nil, imms_cons, sd_own, sd_dat, sfrz_own, sfrz_dat, sfrz_none, entry, slotO, setE, heldE, boxB, fitB, lstB, chgS, fresh, esc, escs, escR, esci, It.slot, frzS, perOk, List.getElem?_cons_zero, List.getElem?_cons_succ, List.set_cons_zero, List.set_cons_succ, List.length_cons, List.length_nil, List.map_cons, List.map_nil, List.replicate, List.append_eq, List.cons_append, List.nil_append, List.length_map, List.length_replicate, Option.map_some, Option.bind_some, if_true, if_false, ite_true, ite_false, reduceIte, Bool.not_true, Bool.not_false, Bool.false_eq_true, decide_true, decide_false, Nat.reduceAdd, Nat.reduceLT, Nat.reduceLeDiff, Nat.reduceSub, Nat.reduceEqDiff, Nat.add_one_sub_one, List.modify_zero_cons, List.modify_succ_cons, heq]
      have fin : ∀ Z Y, (∀ s, Z (.ret (.bl true)) s) → (evSt T (lev T 19) tl ⟨[some (.dat (.scr ns)), some (.dat (.per 0)), some (.dat (.str SG)), some (.dat (.str OT)), some (.dat (.str x)), o, some (.dat (.bl false)), none, none, none, none], [b.d]⟩).wp Z Y := fun Z Y hZ => fin_ok (by omega) (by rw [vStr_good hx, he2]; rfl) hZ
      refine iq_of (fun h1 => ?_) fun h1 => ?_
      · simp only [↓owp_ok, ↓owp_exc, ↓owp_bad, ↓swp_ok, ↓swp_exc, ↓swp_bad, ↓owp_ret, ↓owp_pbad, ↓swp_ret, ↓oq_some, ↓oq_none, ↓iq_true, ↓iq_false, ↓oq_map, ↓oq_bind, ↓wv_var, ↓wv_non, ↓wv_bl, ↓wv_int, ↓wv_str, ↓wv_glo, ↓wv_dct, ↓wv_bin, ↓wv_neg, ↓wv_not, ↓wt_not, ↓wv_cmp, ↓wt_cmp, ↓wv_and, ↓wt_and, ↓wv_or, ↓wt_or, ↓wv_ite, ↓wv_tup, ↓wv_lst, ↓wv_idx, ↓wv_slc, ↓wv_att, ↓wv_call, ↓wv_new, ↓wv_meth, ↓wv_fn1, ↓wv_isi, ↓wv_xat, ↓wt_var, ↓wt_bl, ↓wt_call, ↓wt_meth, ↓wt_isi, ↓wt_att, ↓wt_idx, ↓ws_nil, ↓ws_cons, ↓wo_none, ↓wo_some, ↓wi_seq, ↓wi_rng, ↓wv_lc, ↓thenS_ret, ↓thenS_brk, ↓thenS_ct, ↓wp_skip, ↓wp_seq, ↓wp_expr, ↓wp_set, ↓wp_own, ↓wp_ret, ↓wp_ite, ↓wp_for, ↓turn_name, ↓turn_tup, ↓wp_raise, ↓wp_app, ↓wp_put, ↓wp_popAt, ↓wp_fld, ↓wp_rkp, ↓wp_keep, ↓wp_try1, isExn_non, flat_non, deref_non, imm_non, box_non, isExn_bl, flat_bl, deref_bl, imm_bl, box_bl, isExn_int, flat_int, deref_int, imm_int, box_int, isExn_str, flat_str, deref_str, imm_str, box_str, isExn_tup, flat_tup, deref_tup, box_tup, isExn_lst, flat_lst, deref_lst, imm_lst, box_lst, isExn_dic, flat_dic, deref_dic, imm_dic, box_dic, isExn_ins, flat_ins, deref_ins, imm_ins, box_ins, isExn_per, flat_per, imm_per, box_per, isExn_scr, flat_scr, deref_scr, imm_scr, box_scr, deref_per, imm_tup, imms_nil, imms_cons, sd_own, sd_dat, sfrz_own, sfrz_dat, sfrz_none, entry, slotO, setE, heldE, boxB, fitB, lstB, chgS, fresh, esc, escs, escR, esci, It.slot, frzS, perOk, List.getElem?_cons_zero, List.getElem?_cons_succ, List.set_cons_zero, List.set_cons_succ, List.length_cons, List.length_nil, List.map_cons, List.map_nil, List.replicate, List.append_eq, List.cons_append, List.nil_append, List.length_map, List.length_replicate, Option.map_some, Option.bind_some, if_true, if_false, ite_true, ite_false, reduceIte, Bool.not_true, Bool.not_false, Bool.false_eq_true, decide_true, decide_false, Nat.reduceAdd, Nat.reduceLT, Nat.reduceLeDiff, Nat.reduceSub, Nat.reduceEqDiff, Nat.add_one_sub_one, List.modify_zero_cons, List.modify_succ_cons, ne_strs, he2]
        rw [thenS_nx]
        exact fin _ _ fun _ => rfl
      · rw [thenS_nx]
        exact fin _ _ fun _ => rfl
end DL.K03
end
section
set_option Elab.async false
set_option linter.all false
set_option maxRecDepth 100000
set_option maxHeartbeats 0
/-! the head of law_k03_valid_names (printed by gen.py) -/
namespace DL.K03
open PySem PySem.W L2 PyProof.Rows He
abbrev R : OpenRow := OpenLaw.row PySem.Challenge.rw_dimmerlog_k03_valid_names
abbrev dd : List DefD := ds.map fun q => q.2.def_ PR
abbrev hk : Hook := hookY 12 dd (exB PR T L ds)
def ob (s : SharedT) : AlD × Bool := (obsD [] dd (KY 12 (HandSHeadRun.getT s)), exB PR T L ds (KY 12 (HandSHeadRun.getT s)))
theorem ob_eq (s : SharedT) : ob s = hk.obs s.abs := obsY_eq (HandSHeadRun.getT_eq s)
theorem run (w : World) : HandSHeadRun.RunEq R (view R.prog [lawAt]) hk ob 4000 loose w := by
  intro os
  kernel_rfl
end DL.K03
open PySem PySem.W PySem.Calls PyProof.Rows
theorem DL.K03.of (pl : DL.PlainLaw DL.K03.T 20 0) : PySem.Challenge.rw_dimmerlog_k03_valid_names.Holds := by
  w_on; o_law
  refine HandSHeadRun.head_any (r := OpenLaw.row PySem.Challenge.rw_dimmerlog_k03_valid_names) (q := view (OpenLaw.row PySem.Challenge.rw_dimmerlog_k03_valid_names).prog [DL.K03.lawAt]) (H := DL.K03.hk) (ob := DL.K03.ob) (M := 4000) (loose := DL.K03.loose) (d := HandSHeadRun.topDef (OpenLaw.row PySem.Challenge.rw_dimmerlog_k03_valid_names).prog DL.K03.lawAt) (kwd := []) DL.K03.ob_eq
    (by kernel_rfl) (fun s => by kernel_rfl) DL.K03.run (by kernel_rfl) (by kernel_rfl) (by kernel_rfl) (by rfl) (by first | assumption | decide +kernel) (by decide +kernel) ⟨rfl, rfl, rfl, rfl, rfl, by decide +kernel⟩ ?hw ?hc
  case hw => w_witness2
  case hc =>
    refine DL.walk_dl (l := PySem.Challenge.rw_dimmerlog_k03_valid_names) (n := 63) (k := 2 * 20 + 2) (x := "_law_script") (CX := fun w => L2.CX PySem.Challenge.pw_dimmerlog_k03_valid_names w) rfl (by decide) (by kernel_rfl) ⟨rfl, by decide, by decide⟩ ?F (fun w H s e s' z => DL.cx_no _ w H s e s' z)
    intro w mg fa h Y G hmg0
    have hmg : mg ("law" : PySem.Str) = some (.ref fa) := by
      have e : (HandSHeadRun.topDef (OpenLaw.row PySem.Challenge.rw_dimmerlog_k03_valid_names).prog DL.K03.lawAt).name = ("law" : PySem.Str) := by kernel_rfl
      rw [← e]
      exact hmg0
    exact DL.law_F (l := PySem.Challenge.rw_dimmerlog_k03_valid_names) (fn := DL.K03.law) (nm := "law") DL.K03.txt pl rfl rfl rfl rfl rfl w mg fa h Y G hmg
end
open PySem PySem.W PySem.Calls PyProof.Rows
theorem PySem.Challenge.cw_dimmerlog_k03_valid_names_holds : PySem.Challenge.rw_dimmerlog_k03_valid_names.Holds := by
  exact DL.K03.of DL.K03.law_ok
