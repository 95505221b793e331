import PyProof.Rows.All
import Wide.All
import OpenK.AllK
import Wide.FinOn
import HandS.ForMost
import HandS.ForExc
import HandS.Flow
import HandS.IsInst
import HandS.Strs
import HandS.SetKeys
import HandS.Wide
import HandS.Style
import HandS.Conv
import KE.GoesZip
import KE.GoesMore
import KE.GoesEnum
import PyProof.Draws
import PySem.Challenge.RW_raggedtotals_k01_names
set_option Elab.async false
set_option autoImplicit false
set_option linter.all false
set_option maxRecDepth 1000000
set_option maxHeartbeats 0
namespace Pm
open PySem L2

/-- a deep value: what a Python value holds, however far down -/
inductive D where
  | non | bl (b : Bool) | int (i : Int) | str (x : Str)
  | lst (xs : List D) | tup (xs : List D)
  | scr (xs : List D)
  | dct (ks : List Key) (vs : List D)
  | ins (C : Nat) (fs : List Str) (vs : List D)
  deriving Inhabited

/-- a slot of a frame: nothing known, a frozen value, an owned object (loc: this frame's; else lent by the caller) -/
inductive Sl where
  | no | fz (loc : Bool) (d : D) | ow (loc : Bool) (d : D)
  deriving Inhabited
abbrev Ev := List Sl

/-- an exception: the index of its class, its fields' names and values -/
structure Xc where
  c : Nat
  ns : List Str
  vs : List D

inductive R (α : Type) where
  | ok (a : α) (e : Ev)
  | ex (x : Xc) (e : Ev)
  | bad

def M (α : Type) : Type := Ev → R α
namespace M
def pure {α : Type} (a : α) : M α := fun e => .ok a e
def bind {α β : Type} (m : M α) (f : α → M β) : M β := fun e => match m e with
  | .ok a e' => f a e'
  | .ex x e' => .ex x e'
  | .bad => .bad
def bad {α : Type} : M α := fun _ => .bad
end M
theorem M.assoc {α β γ : Type} (m : M α) (f : α → M β) (g : β → M γ) : M.bind (M.bind m f) g = M.bind m fun a => M.bind (f a) g := by
  funext e
  unfold M.bind
  cases m e <;> rfl
theorem M.left {α β : Type} (a : α) (f : α → M β) : M.bind (M.pure a) f = f a := rfl
instance : Monad M where
  pure := M.pure
  bind := M.bind
def get : M Ev := fun e => .ok e e
def put (e : Ev) : M Unit := fun _ => .ok () e
def slot (i : Nat) : M Sl := fun e => match e[i]? with
  | some s => .ok s e
  | none => .bad
def setSlot (i : Nat) (s : Sl) : M Unit := fun e => .ok () (e.set i s)
def opt {α : Type} : Option α → M α
  | some a => M.pure a
  | none => M.bad

/-- how a value is held: frozen, fresh (nobody else has it), or it is the owned object of a slot -/
inductive Kd where
  | fz | fr | sl (i : Nat)
  deriving Inhabited
abbrev KD := Kd × D

/-- the content now -/
def peek : KD → M D
  | (.sl i, _) => fun e => match e[i]? with
    | some (.ow _ d) => .ok d e
    | some (.fz _ d) => .ok d e
    | _ => .bad
  | (_, d) => M.pure d
/-- it is held elsewhere from now on: frozen -/
def freeze : KD → M D
  | (.sl i, _) => fun e => match e[i]? with
    | some (.ow l d) => .ok d (e.set i (.fz l d))
    | some (.fz _ d) => .ok d e
    | _ => .bad
  | (_, d) => M.pure d
/-- a fresh one frozen, a slot's left as it is -/
def soft : KD → KD
  | (.fr, d) => (.fz, d)
  | x => x

inductive Tg where
  | nm (i : Nat) | tp (is : List Nat)
inductive E where
  | var (i : Nat)
  | con (d : D)
  | bin (op : Operator) (a b : E)
  | neg (a : E)
  | not (a : E)
  | and (a b : E)
  | or (a b : E)
  | ite (c a b : E)
  | cmp (op : CmpOp) (a b : E)
  | chain (op op' : CmpOp) (a b c : E)
  | lst (es : List E)
  | tup (es : List E)
  | dct (es : List E)
  | ix (a i : E)
  | slc (a lo hi : E)
  | rev (a : E)
  | rng (lo hi : E)
  | enum (a : E)
  | zip (a b : E)
  | bi (f : String) (es : List E)
  | isi (a : E) (ty : String)
  | me (m : String) (o : E) (es : List E)
  | call (f : Nat) (es : List E) (pm : List Nat) (bs : List Bool)
  | lc (elt : E) (tg : Tg) (it : E) (cs : List E) (own : List Nat)
inductive S where
  | set (t : Tg) (e : E)
  | par (is : List Nat) (es : List E)
  | put (i : Nat) (ix e : E)
  | app (i : Nat) (e : E)
  | aug (i : Nat) (op : Operator) (e : E)
  | expr (e : E)
  | ret (e : E)
  | ite (c : E) (a b : List S)
  | for_ (t : Tg) (it : E) (b : List S)
  | while_ (c : E) (b : List S)
  | brk | cnt | pass

def line (n : Nat) : Bool := decide (n ≤ sizeLine)
/-- a new object, or a plain value -/
abbrev Out := Option (Bool × D)
def mulOk (i j : Int) : Bool := decide (i.natAbs < 2 ^ 64 ∨ j.natAbs < 2 ^ 64) || decide (i.natAbs.log2 + j.natAbs.log2 < 1000000)
/-- what may divide, and the quotient -/
def fdOk (j : Int) : Bool := decide (j ≠ 0 ∧ j.natAbs.log2 < 9000)
def fdv (i j : Int) : Int := if 0 < j then i / j else i.fdiv j
def powOk (i j : Int) : Bool := decide (0 ≤ j ∧ Builtin.Int.intBits i * j.toNat ≤ 2 ^ 27)
def rep {α : Type} (xs : List α) : Nat → List α
  | 0 => []
  | n + 1 => xs ++ rep xs n
def bop : Operator → D → D → Out
  | .Add, .int i, .int j => some (false, .int (i + j))
  | .Sub, .int i, .int j => some (false, .int (i - j))
  | .Mult, .int i, .int j => if mulOk i j then some (false, .int (i * j)) else none
  | .FloorDiv, .int i, .int j => if fdOk j then some (false, .int (fdv i j)) else none
  | .Mod, .int i, .int j => if decide (0 < j) then some (false, .int (i % j)) else none
  | .Pow, .int i, .int j => if powOk i j then some (false, .int (i ^ j.toNat)) else none
  | .Add, .str a, .str b => if line (a.length + b.length) then some (false, .str (a ++ b)) else none
  | .Add, .lst a, .lst b => if line (a.length + b.length) then some (true, .lst (a ++ b)) else none
  | .Mult, .str x, .int k => if decide (0 ≤ k ∧ k.natAbs < 2 ^ 31) && line (x.length * k.toNat) then some (false, .str (Txt.mul x k)) else none
  | .Mult, .lst a, .int k => if decide (k.natAbs < 2 ^ 63) && line (a.length * k.toNat) then some (true, .lst (List.replicate k.toNat a).flatten) else none
  | _, _, _ => none
mutual
def toP : D → Option PyData
  | .non => some .none
  | .bl b => some (.bool b)
  | .int i => some (.int i)
  | .str x => some (.str x)
  | .lst xs => (toPs xs).map .list
  | .tup xs => (toPs xs).map .tuple
  | _ => none
def toPs : List D → Option (List PyData)
  | [] => some []
  | x :: xs => match toP x, toPs xs with
    | some p, some ps => some (p :: ps)
    | _, _ => none
end
/-- == of two values: two flat ones, or data -/
def eqd (x y : D) : Option Bool := match toP x, toP y with
  | some p, some q => if SeqAt.shaped p && SeqAt.shaped q then some (PyData.eqv p q) else none
  | _, _ => none
def flatD : D → Bool
  | .non | .bl _ | .int _ | .str _ => true
  | _ => false
def ieq (x y : D) : Bool := match x, y with
  | .non, .non => true
  | .bl a, .bl b => a == b
  | .bl a, .int j => (if a then 1 else 0) == j
  | .int i, .bl b => i == (if b then 1 else 0)
  | .int i, .int j => i == j
  | .str x, .str y => x == y
  | _, _ => false
def isNon : D → Bool
  | .non => true
  | _ => false
def cop : CmpOp → D → D → Option Bool
  | .Lt, .int i, .int j => some (decide (i < j))
  | .LtE, .int i, .int j => some (decide (i ≤ j))
  | .Gt, .int i, .int j => some (decide (j < i))
  | .GtE, .int i, .int j => some (decide (j ≤ i))
  | .Eq, x, y => eqd x y
  | .NotEq, x, y => (eqd x y).map (!·)
  | .Is, x, .non => some (isNon x)
  | .IsNot, x, .non => some (!isNon x)
  | .In, .str a, .str b => some (!(Builtin.Str.occurrences b a 0 b.length 1).isEmpty)
  | .NotIn, .str a, .str b => some (!(!(Builtin.Str.occurrences b a 0 b.length 1).isEmpty))
  | .In, x, .lst ys => if flatD x && ys.all flatD then some (ys.any fun y => ieq y x) else none
  | .NotIn, x, .lst ys => if flatD x && ys.all flatD then some (!(ys.any fun y => ieq y x)) else none
  | .In, x, .tup ys => if flatD x && ys.all flatD then some (ys.any fun y => ieq y x) else none
  | .NotIn, x, .tup ys => if flatD x && ys.all flatD then some (!(ys.any fun y => ieq y x)) else none
  | _, _, _ => none
def truth : D → Option Bool
  | .non => some false
  | .bl b => some b
  | .int i => some (i != 0)
  | .str x => if line x.length then some (x.length != 0) else none
  | .lst xs => some (!xs.isEmpty)
  | .tup xs => some (!xs.isEmpty)
  | .scr xs => some (!xs.isEmpty)
  | .dct ks _ => some (!ks.isEmpty)
  | .ins _ _ _ => none
def ixd : D → D → Option D
  | .lst xs, .int i => atI xs i
  | .tup xs, .int i => atI xs i
  | .scr xs, .int i => atI xs i
  | .str z, .int i => if line z.length then (atI z.cps.toList i).map fun c => .str ⟨#[c]⟩ else none
  | _, _ => none
def intD : D → Option Int
  | .int i => some i
  | _ => none
def cutD {α : Type} (xs : List α) (lo hi : Option Int) : List α := (xs.drop (HT.sIx xs.length 0 lo)).take (HT.sIx xs.length xs.length hi - HT.sIx xs.length 0 lo)
def slcd (x : D) (l h : Option Int) : Out := match x with
  | .lst xs => some (true, .lst (cutD xs l h))
  | .scr xs => some (true, .lst (cutD xs l h))
  | .str z => if line z.length then some (false, .str ⟨(cutD z.cps.toList l h).toArray⟩) else none
  | _ => none
/-- is it of the built-in class -/
def tyD : D → String
  | .non => "NoneType" | .bl _ => "bool" | .int _ => "int" | .str _ => "str" | .lst _ => "list" | .scr _ => "list" | .tup _ => "tuple" | .dct _ _ => "dict" | .ins _ _ _ => "object"
def isid (x : D) (ty : String) : Option Bool := match x with
  | .ins _ _ _ => none
  | x => kitB (tyD x) ty
def allB : List D → Option (List Bool)
  | [] => some []
  | .bl b :: r => (allB r).map (b :: ·)
  | _ => none
def allS : List D → Option (List Str)
  | [] => some []
  | .str x :: r => (allS r).map (x :: ·)
  | _ => none
def allI : List D → Option (List Int)
  | [] => some []
  | .int x :: r => (allI r).map (x :: ·)
  | _ => none
def itemsD : D → Option (List D)
  | .lst xs => some xs
  | .tup xs => some xs
  | _ => none
def bid : String → List D → Out
  | "abs", [.int i] => some (false, .int (if i < 0 then -i else i))
  | "max", [.int i, .int j] => some (false, .int (if j > i then j else i))
  | "min", [.int i, .int j] => some (false, .int (if j < i then j else i))
  | "int", [.int i] => some (false, .int i)
  | "int", [.bl k] => some (false, .int (if k then 1 else 0))
  | "str", [.int i] => if decide (i.natAbs.log2 < 1920) then some (false, .str (toString i)) else none
  | "len", [.lst xs] => some (false, .int xs.length)
  | "len", [.tup xs] => some (false, .int xs.length)
  | "len", [.scr xs] => some (false, .int xs.length)
  | "len", [.str x] => if line x.length then some (false, .int x.length) else none
  | "all", [.lst xs] => (allB xs).map fun bs => (false, .bl (bs.all id))
  | "any", [.lst xs] => (allB xs).map fun bs => (false, .bl (bs.any id))
  | "sum", [.lst xs] => (allI xs).map fun ns => (false, .int ns.sum)
  | "list", [.lst xs] => some (true, .lst xs)
  | "list", [.tup xs] => some (true, .lst xs)
  | "tuple", [.lst xs] => some (false, .tup xs)
  | "tuple", [.tup xs] => some (false, .tup xs)
  | "repr", [x] => match toP x with
    | some p => if PyData.showable p && line p.shown.length && decide (p.depth ≤ 32) then some (false, .str p.shown) else none
    | none => none
  | _, _ => none
/-- methods of built-in types that change nothing -/
def med : String → Str → List D → Out
  | "upper", x, [] => if decide (x.length ≤ 5592405) then some (false, .str (Txt.upper x)) else none
  | "join", x, [.lst ys] => match allS ys with
    | some ss => if decide ((ss.map Str.length).sum + ss.length * x.length ≤ 16777216) then some (false, .str (Txt.join x ss)) else none
    | none => none
  | _, _, _ => none
def out : Out → M KD
  | some (true, d) => M.pure (.fr, d)
  | some (false, d) => M.pure (.fz, d)
  | none => M.bad

inductive CR where
  | ret (fr : Bool) (d : D) (outs : List Sl)
  | exc (x : Xc) (outs : List Sl)
  | bad
abbrev Cl := Nat → List Sl → CR
/-- what is not lent is frozen, from the left -/
def freezeArgs : List Bool → List KD → M Unit
  | true :: bs, _ :: xs => freezeArgs bs xs
  | _ :: bs, x :: xs => M.bind (freeze x) fun _ => freezeArgs bs xs
  | [], x :: xs => M.bind (freeze x) fun _ => freezeArgs [] xs
  | _, [] => M.pure ()
/-- a parameter's slot at the entry -/
def entrySl (b : Bool) (x : KD) : M Sl := match x with
  | (.sl i, _) => fun e => match e[i]? with
    | some (.ow _ d) => if b then .ok (.ow false d) e else .bad
    | some (.fz _ d) => .ok (.fz true d) e
    | _ => .bad
  | (_, d) => M.pure (.fz true d)
def entrySls : List Bool → List KD → M (List Sl)
  | b :: bs, x :: xs => M.bind (entrySl b x) fun s => M.bind (entrySls bs xs) fun r => M.pure (s :: r)
  | [], x :: xs => M.bind (entrySl false x) fun s => M.bind (entrySls [] xs) fun r => M.pure (s :: r)
  | _, [] => M.pure []
/-- behind the call the lent objects hold what the callee left -/
def takeBack : List KD → List Sl → List Sl → Ev → Option Ev
  | (.sl i, _) :: xs, .ow _ _ :: ss, o :: os, e => match e[i]?, o with
    | some (.ow l _), .ow _ d => takeBack xs ss os (e.set i (.ow l d))
    | some (.ow l _), .fz _ d => takeBack xs ss os (e.set i (.fz l d))
    | _, _ => none
  | _ :: xs, _ :: ss, _ :: os, e => takeBack xs ss os e
  | [], _, _, e => some e
  | _, _, _, _ => none
def lentOnce : List KD → List Sl → List Nat
  | (.sl i, _) :: xs, .ow _ _ :: ss => i :: lentOnce xs ss
  | _ :: xs, _ :: ss => lentOnce xs ss
  | _, _ => []
def callM (cl : Cl) (f : Nat) (bs : List Bool) (xs : List KD) : M KD :=
  M.bind (freezeArgs bs xs) fun _ => M.bind (entrySls bs xs) fun sl => fun e =>
    if (lentOnce xs sl).Nodup then
      match cl f sl with
      | .ret fr d outs => match takeBack xs sl outs e with
        | some e' => .ok (if fr then .fr else .fz, d) e'
        | none => .bad
      | .exc x outs => match takeBack xs sl outs e with
        | some e' => .ex x e'
        | none => .bad
      | .bad => .bad
    else .bad
def permuted {α : Type} (xs : List α) : List Nat → Option (List α)
  | [] => some []
  | i :: is => match xs[i]?, permuted xs is with
    | some x, some r => some (x :: r)
    | _, _ => none

inductive It where
  | items (ds : List D)
  | al (i n : Nat)
def signs (x : Str) : List D := x.cps.toList.map fun c => .str ⟨#[c]⟩
def walkOf : KD → M It
  | (.sl i, _) => fun e => match e[i]? with
    | some (.ow _ (.lst xs)) => .ok (.al i xs.length) e
    | some (.fz _ (.lst xs)) => .ok (.items xs) e
    | _ => .bad
  | (_, .lst xs) => M.pure (.items xs)
  | (_, .tup xs) => M.pure (.items xs)
  | (_, .scr xs) => M.pure (.items xs)
  | (_, .str x) => M.pure (.items (signs x))
  | _ => M.bad
def rngD (lo hi : D) : Option (List D) := match lo, hi with
  | .int i, .int j => if decide (i.natAbs < 2 ^ 62 ∧ j.natAbs < 2 ^ 62) then some ((List.range (j - i).toNat).map fun (k : Nat) => D.int (i + k)) else none
  | _, _ => none
/-- a list of them -/
def rngL (lo hi : D) : Option (List D) := match lo, hi with
  | .int i, .int j => if decide (i.natAbs < 2 ^ 62 ∧ j.natAbs < 2 ^ 62 ∧ (j - i).toNat ≤ 2 ^ 24) then some ((List.range (j - i).toNat).map fun (k : Nat) => D.int (i + k)) else none
  | _, _ => none
def enumFrom (k : Nat) : List D → List D
  | [] => []
  | x :: xs => .tup [.int k, x] :: enumFrom (k + 1) xs
def zipD : List D → List D → List D
  | x :: xs, y :: ys => .tup [x, y] :: zipD xs ys
  | _, _ => []
def itemAt (i n k : Nat) : M D := fun e => match e[i]? with
  | some (.ow _ (.lst xs)) => if xs.length = n then match xs[k]? with
    | some x => .ok x e
    | none => .bad
    else .bad
  | some (.fz _ (.lst xs)) => if xs.length = n then match xs[k]? with
    | some x => .ok x e
    | none => .bad
    else .bad
  | _ => .bad
def itemEnd (i n : Nat) : M Unit := fun e => match e[i]? with
  | some (.ow _ (.lst xs)) => if xs.length = n then .ok () e else .bad
  | some (.fz _ (.lst xs)) => if xs.length = n then .ok () e else .bad
  | _ => .bad
/-- an item is stored -/
def setFz (i : Nat) (d : D) : M Unit := fun e => match e[i]? with
  | some (.ow false _) => .bad
  | some (.fz false _) => .bad
  | some _ => .ok () (e.set i (.fz true d))
  | none => .bad
def setEach : List Nat → List D → M Unit
  | [], [] => M.pure ()
  | i :: is, d :: ds => M.bind (setFz i d) fun _ => setEach is ds
  | _, _ => M.bad
def store : Tg → D → M Unit
  | .nm i, d => setFz i d
  | .tp is, .tup ds => setEach is ds
  | _, _ => M.bad

/-- a comprehension's turns; what an element raises is not followed -/
def lcGo (turn : D → M (Option D)) : List D → M (List D)
  | [] => M.pure []
  | x :: xs => M.bind (turn x) fun y => M.bind (lcGo turn xs) fun ys => M.pure (y.toList ++ ys)
def lcAl (turn : D → M (Option D)) (i n : Nat) : Nat → M (List D)
  | 0 => M.bind (itemEnd i n) fun _ => M.pure []
  | m + 1 => M.bind (itemAt i n (n - (m + 1))) fun x => M.bind (turn x) fun y => M.bind (lcAl turn i n m) fun ys => M.pure (y.toList ++ ys)
def hide : Ev → List Nat → Ev
  | e, [] => e
  | e, i :: is => (hide e is).set i .no
def alFree : It → List Nat → Bool
  | .al i _, own => !own.contains i
  | _, _ => true
def hideM (own : List Nat) : M Unit := fun e => .ok () (hide e own)
def lcRun (turn : D → M (Option D)) : It → M (List D)
  | .items ds => lcGo turn ds
  | .al i n => lcAl turn i n n
/-- the own names' slots as they were -/
def unhide (e₀ : Ev) : Ev → List Nat → Ev
  | e, [] => e
  | e, i :: is => (unhide e₀ e is).set i (e₀.getD i .no)
/-- no own name's slot holds something owned -/
def ownFree (e : Ev) (own : List Nat) : Bool := own.all fun i => match e[i]? with
  | some (.ow _ _) => false
  | some (.fz false _) => false
  | none => false
  | _ => true

def keyOf : D → Option Key
  | .int i => some (.inl i)
  | .str x => some (.inr x)
  | _ => none
def peeks : List KD → M (List D)
  | [] => M.pure []
  | x :: xs => M.bind (peek x) fun d => M.bind (peeks xs) fun ds => M.pure (d :: ds)
mutual
def ev (cl : Cl) : E → M KD
  | .var i => fun e => match e[i]? with
    | some (.fz _ d) => .ok (.fz, d) e
    | some (.ow _ d) => .ok (.sl i, d) e
    | _ => .bad
  | .con d => M.pure (.fz, d)
  | .bin op a b => M.bind (ev cl a) fun x => M.bind (ev cl b) fun y => M.bind (peek x) fun dx => M.bind (peek y) fun dy => out (bop op dx dy)
  | .neg a => M.bind (ev cl a) fun x => M.bind (peek x) fun d => match d with
    | .int i => M.pure (.fz, .int (-i))
    | _ => M.bad
  | .not a => M.bind (ev cl a) fun x => M.bind (peek x) fun d => M.bind (opt (truth d)) fun b => M.pure (.fz, .bl (!b))
  | .and a b => M.bind (ev cl a) fun x => M.bind (peek x) fun d => M.bind (opt (truth d)) fun t => if t then ev cl b else M.pure (soft x)
  | .or a b => M.bind (ev cl a) fun x => M.bind (peek x) fun d => M.bind (opt (truth d)) fun t => if t then M.pure (soft x) else ev cl b
  | .ite c a b => M.bind (evT cl c) fun t => if t then ev cl a else ev cl b
  | .cmp op a b => M.bind (ev cl a) fun x => M.bind (ev cl b) fun y => M.bind (peek x) fun dx => M.bind (peek y) fun dy => M.bind (opt (cop op dx dy)) fun t => M.pure (.fz, .bl t)
  | .chain op op' a b c => M.bind (ev cl a) fun x => M.bind (ev cl b) fun y => M.bind (peek x) fun dx => M.bind (peek y) fun dy => M.bind (opt (cop op dx dy)) fun t =>
      if t then M.bind (ev cl c) fun z => M.bind (peek y) fun dy => M.bind (peek z) fun dz => M.bind (opt (cop op' dy dz)) fun t => M.pure (.fz, .bl t) else M.pure (.fz, .bl false)
  | .lst es => M.bind (evs cl es) fun ds => if line ds.length then M.pure (.fr, .lst ds) else M.bad
  | .tup es => M.bind (evs cl es) fun ds => if line ds.length then M.pure (.fz, .tup ds) else M.bad
  | .dct es => M.bind (evD cl es) fun ps => if decide ((ps.map (·.1)).Nodup ∧ ps.length ≤ 15) then M.pure (.fr, .dct (ps.map (·.1)) (ps.map (·.2))) else M.bad
  | .ix a i => M.bind (ev cl a) fun x => M.bind (ev cl i) fun y => M.bind (peek x) fun dx => M.bind (peek y) fun dy => M.bind (opt (ixd dx dy)) fun d => M.pure (.fz, d)
  | .slc a lo hi => M.bind (ev cl a) fun x => M.bind (evO cl lo) fun l => M.bind (evO cl hi) fun h => M.bind (peek x) fun dx => out (slcd dx l h)
  | .rev a => M.bind (ev cl a) fun x => M.bind (peek x) fun d => match d with
    | .lst xs => M.pure (.fr, .lst xs.reverse)
    | _ => M.bad
  | .rng lo hi => M.bind (ev cl lo) fun x => M.bind (ev cl hi) fun y => M.bind (peek x) fun dx => M.bind (peek y) fun dy => M.bind (opt (rngL dx dy)) fun ds => M.pure (.fr, .lst ds)
  | .enum _ => M.bad
  | .zip _ _ => M.bad
  | .bi f es => M.bind (evPs cl es) fun xs => M.bind (peeks xs) fun ds => out (bid f ds)
  | .isi a ty => M.bind (ev cl a) fun x => M.bind (peek x) fun d => M.bind (opt (isid d ty)) fun b => M.pure (.fz, .bl b)
  | .me m o es => M.bind (ev cl o) fun x => M.bind (peek x) fun d => match d with
    | .str z => M.bind (evPs cl es) fun ys => M.bind (peeks ys) fun ds => out (med m z ds)
    | _ => M.bad
  | .call f es pm bs => M.bind (evPs cl es) fun xs => M.bind (opt (permuted xs pm)) fun ys => callM cl f bs ys
  | .lc elt tg it cs own => M.bind (evI cl it) fun w => fun e =>
      if ownFree e own && alFree w own then
        match lcRun (fun x => M.bind (store tg x) fun _ => M.bind (evC cl cs) fun t =>
          if t then M.bind (ev cl elt) fun y => M.bind (freeze y) fun d => M.bind (hideM own) fun _ => M.pure (some d) else M.bind (hideM own) fun _ => M.pure none) w (hide e own) with
        | .ok ds e' => if line ds.length then .ok (.fr, .lst ds) (unhide e e' own) else .bad
        | _ => .bad
      else .bad
/-- a test -/
def evT (cl : Cl) : E → M Bool
  | .not a => M.bind (evT cl a) fun b => M.pure (!b)
  | .and a b => M.bind (evT cl a) fun t => if t then evT cl b else M.pure false
  | .or a b => M.bind (evT cl a) fun t => if t then M.pure true else evT cl b
  | .ite c a b => M.bind (evT cl c) fun t => if t then evT cl a else evT cl b
  | e => M.bind (ev cl e) fun x => M.bind (peek x) fun d => opt (truth d)
/-- a part of a slice: left out (None), or an int -/
def evO (cl : Cl) : E → M (Option Int)
  | .con .non => M.pure none
  | e => M.bind (ev cl e) fun x => M.bind (peek x) fun d => M.bind (opt (intD d)) fun i => M.pure (some i)
/-- items that are kept: frozen -/
def evs (cl : Cl) : List E → M (List D)
  | [] => M.pure []
  | e :: es => M.bind (ev cl e) fun x => M.bind (freeze x) fun d => M.bind (evs cl es) fun ds => M.pure (d :: ds)
/-- arguments that are looked at -/
def evPs (cl : Cl) : List E → M (List KD)
  | [] => M.pure []
  | e :: es => M.bind (ev cl e) fun x => M.bind (evPs cl es) fun xs => M.pure (soft x :: xs)
def evC (cl : Cl) : List E → M Bool
  | [] => M.pure true
  | e :: es => M.bind (evT cl e) fun t => if t then evC cl es else M.pure false
def evI (cl : Cl) : E → M It
  | .rng lo hi => M.bind (ev cl lo) fun x => M.bind (ev cl hi) fun y => M.bind (peek x) fun dx => M.bind (peek y) fun dy => M.bind (opt (rngD dx dy)) fun ds => M.pure (.items ds)
  | .enum a => M.bind (ev cl a) fun x => M.bind (freeze x) fun d => M.bind (opt (itemsD d)) fun xs => M.pure (.items (enumFrom 0 xs))
  | .zip a b => M.bind (ev cl a) fun x => M.bind (freeze x) fun dx => M.bind (ev cl b) fun y => M.bind (freeze y) fun dy => M.bind (opt (itemsD dx)) fun xs => M.bind (opt (itemsD dy)) fun ys => M.pure (.items (zipD xs ys))
  | e => M.bind (ev cl e) fun x => walkOf (soft x)
/-- the pairs of a display -/
def evD (cl : Cl) : List E → M (List (Key × D))
  | k :: v :: r => M.bind (ev cl k) fun x => M.bind (peek x) fun d => M.bind (opt (keyOf d)) fun key => M.bind (ev cl v) fun y => M.bind (freeze y) fun dv => M.bind (evD cl r) fun ps => M.pure ((key, dv) :: ps)
  | [] => M.pure []
  | _ => M.bad
/-- values as they come -/
def evRs (cl : Cl) : List E → M (List KD)
  | [] => M.pure []
  | e :: es => M.bind (ev cl e) fun x => M.bind (evRs cl es) fun xs => M.pure (x :: xs)
end

inductive Fl where
  | nx | brk | cnt | ret (fr : Bool) (d : D)
/-- a fresh object gets a name -/
def setOw (i : Nat) (d : D) : M Unit := fun e => match e[i]? with
  | some (.ow false _) => .bad
  | some (.fz false _) => .bad
  | some _ => .ok () (e.set i (.ow true d))
  | none => .bad
def storeK : Tg → KD → M Unit
  | .nm i, (.fr, d) => setOw i d
  | t, x => M.bind (freeze x) fun d => store t d
/-- what is a slot's is frozen; fresh ones stay fresh -/
def hardens : List KD → M (List KD)
  | [] => M.pure []
  | (.fr, d) :: xs => M.bind (hardens xs) fun ys => M.pure ((.fr, d) :: ys)
  | x :: xs => M.bind (freeze x) fun d => M.bind (hardens xs) fun ys => M.pure ((.fz, d) :: ys)
def setAll : List Nat → List KD → M Unit
  | [], [] => M.pure ()
  | i :: is, (.fr, d) :: xs => M.bind (setOw i d) fun _ => setAll is xs
  | i :: is, (_, d) :: xs => M.bind (setFz i d) fun _ => setAll is xs
  | _, _ => M.bad
/-- the owned list of a slot -/
def ownL (i : Nat) : M (List D) := fun e => match e[i]? with
  | some (.ow _ (.lst xs)) => .ok xs e
  | _ => .bad
def setL (i : Nat) (xs : List D) : M Unit := fun e => match e[i]? with
  | some (.ow l (.lst _)) => .ok () (e.set i (.ow l (.lst xs)))
  | _ => .bad
/-- the value of a return -/
def handOut : KD → M Fl
  | (.fr, d) => M.pure (.ret true d)
  | (.fz, d) => M.pure (.ret false d)
  | (.sl i, _) => fun e => match e[i]? with
    | some (.ow true d) => .ok (.ret true d) (e.set i .no)
    | some (.ow false d) => .ok (.ret false d) (e.set i (.fz false d))
    | some (.fz _ d) => .ok (.ret false d) e
    | _ => .bad
def forGo (turn : D → M Fl) : List D → M Fl
  | [] => M.pure .nx
  | x :: xs => M.bind (turn x) fun fl => match fl with
    | .nx => forGo turn xs
    | .cnt => forGo turn xs
    | .brk => M.pure .nx
    | .ret fr d => M.pure (.ret fr d)
def forAl (turn : D → M Fl) (i n : Nat) : Nat → M Fl
  | 0 => M.bind (itemEnd i n) fun _ => M.pure .nx
  | m + 1 => M.bind (itemAt i n (n - (m + 1))) fun x => M.bind (turn x) fun fl => match fl with
    | .nx => forAl turn i n m
    | .cnt => forAl turn i n m
    | .brk => M.pure .nx
    | .ret fr d => M.pure (.ret fr d)
def whGo (c : M Bool) (b : M Fl) : Nat → M Fl
  | 0 => M.bad
  | m + 1 => M.bind c fun t => if t then M.bind b fun fl => match fl with
    | .nx => whGo c b m
    | .cnt => whGo c b m
    | .brk => M.pure .nx
    | .ret fr d => M.pure (.ret fr d)
    else M.pure .nx
def wfuel : Nat := 1000000
def Tg.slots : Tg → List Nat
  | .nm i => [i]
  | .tp is => is
mutual
/-- the slots that a statement may store to -/
def asgd : S → List Nat
  | .set t _ => t.slots
  | .par is _ => is
  | .put _ _ _ => []
  | .app _ _ => []
  | .aug i _ _ => [i]
  | .expr _ => []
  | .ret _ => []
  | .ite _ a b => asgds a ++ asgds b
  | .for_ t _ b => t.slots ++ asgds b
  | .while_ _ b => asgds b
  | .brk => []
  | .cnt => []
  | .pass => []
def asgds : List S → List Nat
  | [] => []
  | s :: ss => asgd s ++ asgds ss
end
mutual
def ex (cl : Cl) : S → M Fl
  | .set t e => M.bind (ev cl e) fun x => M.bind (storeK t x) fun _ => M.pure .nx
  | .par is es => M.bind (evRs cl es) fun xs => M.bind (hardens xs) fun ys => M.bind (setAll is ys) fun _ => M.pure .nx
  | .put i ix e => M.bind (ev cl e) fun x => M.bind (freeze x) fun d => M.bind (ownL i) fun _ => M.bind (ev cl ix) fun y => M.bind (peek y) fun dy => M.bind (opt (intD dy)) fun k => M.bind (ownL i) fun xs => M.bind (opt (ixN xs.length k)) fun j =>
      M.bind (setL i (xs.set j d)) fun _ => M.pure .nx
  | .app i e => M.bind (ownL i) fun _ => M.bind (ev cl e) fun x => M.bind (freeze x) fun d => M.bind (ownL i) fun xs => if decide (xs.length < sizeLine) then M.bind (setL i (xs ++ [d])) fun _ => M.pure .nx else M.bad
  | .aug i op e => M.bad
  | .expr e => M.bind (ev cl e) fun _ => M.pure .nx
  | .ret e => M.bind (ev cl e) handOut
  | .ite c a b => M.bind (evT cl c) fun t => if t then exs cl a else exs cl b
  | .for_ t it b => M.bind (evI cl it) fun w => match w with
    | .items ds => forGo (fun x => M.bind (store t x) fun _ => exs cl b) ds
    | .al i n => if (t.slots ++ asgds b).contains i then M.bad else forAl (fun x => M.bind (store t x) fun _ => exs cl b) i n n
  | .while_ c b => whGo (evT cl c) (exs cl b) wfuel
  | .brk => M.pure .brk
  | .cnt => M.pure .cnt
  | .pass => M.pure .nx
def exs (cl : Cl) : List S → M Fl
  | [] => M.pure .nx
  | s :: ss => M.bind (ex cl s) fun fl => match fl with
    | .nx => exs cl ss
    | .brk => M.pure .brk
    | .cnt => M.pure .cnt
    | .ret fr d => M.pure (.ret fr d)
end
/-- a def: how many parameters, how many slots, its body -/
structure Df where
  np : Nat
  n : Nat
  body : List S
/-- a call: the parameters' slots; None without a return -/
def runD (cl : Cl) (d : Df) (args : List Sl) : CR := match exs cl d.body (args ++ List.replicate (d.n - args.length) .no) with
  | .ok .nx e => .ret false .non (e.take d.np)
  | .ok (.ret fr v) e => .ret fr v (e.take d.np)
  | .ok _ _ => .bad
  | .ex x e => .exc x (e.take d.np)
  | .bad => .bad
/-- the defs of a program, by levels -/
def runP (ds : List Df) : Nat → Cl
  | 0 => fun _ _ => .bad
  | k + 1 => fun f args => match ds[f]? with
    | some d => if args.length = d.np then runD (runP ds k) d args else .bad
    | none => .bad
end Pm
namespace Pm
open PySem L2

structure Kx where
  K : PySem.W.Frag
  ca : Nat → Addr

mutual
inductive Rep (k : Kx) (Φ : Hp) : V → D → Prop
  | non : Rep k Φ .non .non
  | bl (b : Bool) : Rep k Φ (.bl b) (.bl b)
  | int (i : Int) : Rep k Φ (.int i) (.int i)
  | str (x : Str) : Rep k Φ (.str x) (.str x)
  | lst {a : Addr} {xs : List V} {ds : List D} : Φ a = some (.lst xs) → RepL k Φ xs ds → Rep k Φ (.ref a) (.lst ds)
  | scr {a : Addr} {xs : List V} {ds : List D} : SqL k.K Φ a xs → RepL k Φ xs ds → Rep k Φ (.ref a) (.scr ds)
  | tup {a : Addr} {xs : List V} {ds : List D} : SqT k.K Φ a xs → RepL k Φ xs ds → Rep k Φ (.ref a) (.tup ds)
  | dct {a : Addr} {kvs : List (Key × V)} {ks : List Key} {ds : List D} : Φ a = some (.dK kvs) → kvs.map (·.1) = ks → RepL k Φ (kvs.map (·.2)) ds → Rep k Φ (.ref a) (.dct ks ds)
  | ins {a dx : Addr} {C : Nat} {kvs : List (Str × V)} {fs : List Str} {ds : List D} : Φ a = some (.ins (k.ca C) dx kvs) → kvs.map (·.1) = fs → RepL k Φ (kvs.map (·.2)) ds → Rep k Φ (.ref a) (.ins C fs ds)
inductive RepL (k : Kx) (Φ : Hp) : List V → List D → Prop
  | nil : RepL k Φ [] []
  | cons {v : V} {vs : List V} {d : D} {ds : List D} : Rep k Φ v d → RepL k Φ vs ds → RepL k Φ (v :: vs) (d :: ds)
end
/-- an object's content -/
inductive RepO (k : Kx) (Φ : Hp) : HO → D → Prop
  | lst {xs : List V} {ds : List D} : RepL k Φ xs ds → RepO k Φ (.lst xs) (.lst ds)
  | dct {kvs : List (Key × V)} {ks : List Key} {ds : List D} : kvs.map (·.1) = ks → RepL k Φ (kvs.map (·.2)) ds → RepO k Φ (.dK kvs) (.dct ks ds)
  | ins {dx : Addr} {C : Nat} {kvs : List (Str × V)} {fs : List Str} {ds : List D} : kvs.map (·.1) = fs → RepL k Φ (kvs.map (·.2)) ds → RepO k Φ (.ins (k.ca C) dx kvs) (.ins C fs ds)

section
variable {k : Kx} {Φ Φ' H H' : Hp}
theorem sqL_mono {K : PySem.W.Frag} {a : Addr} {xs : List V} (s : Same H H') (h : SqL K H a xs) : SqL K H' a xs := s.seq h
theorem sqT_mono {K : PySem.W.Frag} {a : Addr} {xs : List V} (s : Same H H') (h : SqT K H a xs) : SqT K H' a xs := by
  rcases h with (h | ⟨o, h⟩) | h
  · exact .inl (.inl (s _ _ h))
  · exact .inl (.inr ⟨o, s _ _ h⟩)
  · exact .inr h
mutual
theorem Rep.mono (s : Same Φ Φ') : ∀ {v : V} {d : D}, Rep k Φ v d → Rep k Φ' v d
  | _, _, .non => .non
  | _, _, .bl b => .bl b
  | _, _, .int i => .int i
  | _, _, .str x => .str x
  | _, _, .lst h r => .lst (s _ _ h) (r.mono s)
  | _, _, .scr h r => .scr (sqL_mono s h) (r.mono s)
  | _, _, .tup h r => .tup (sqT_mono s h) (r.mono s)
  | _, _, .dct h e r => .dct (s _ _ h) e (r.mono s)
  | _, _, .ins h e r => .ins (s _ _ h) e (r.mono s)
theorem RepL.mono (s : Same Φ Φ') : ∀ {v : List V} {d : List D}, RepL k Φ v d → RepL k Φ' v d
  | _, _, .nil => .nil
  | _, _, .cons h r => .cons (h.mono s) (r.mono s)
end
theorem RepO.mono (s : Same Φ Φ') {o : HO} {d : D} : RepO k Φ o d → RepO k Φ' o d
  | .lst r => .lst (r.mono s)
  | .dct e r => .dct e (r.mono s)
  | .ins e r => .ins e (r.mono s)
theorem RepO.rep {a : Addr} {o : HO} {d : D} (h : Φ a = some o) : RepO k Φ o d → Rep k Φ (.ref a) d
  | .lst r => .lst h r
  | .dct e r => .dct h e r
  | .ins e r => .ins h e r
theorem RepL.length : ∀ {xs : List V} {ds : List D}, RepL k Φ xs ds → xs.length = ds.length
  | _, _, .nil => rfl
  | _, _, .cons _ r => congrArg (· + 1) r.length
theorem RepL.get : ∀ {xs : List V} {ds : List D} {i : Nat} {d : D}, RepL k Φ xs ds → ds[i]? = some d → ∃ v, xs[i]? = some v ∧ Rep k Φ v d
  | _, _, _, _, .nil, e => by simp at e
  | _, _, 0, _, .cons h _, e => by simp at e; subst e; exact ⟨_, rfl, h⟩
  | _, _, i + 1, d, .cons _ r, e => by
    obtain ⟨v, h1, h2⟩ := RepL.get (i := i) (d := d) r (by simpa using e)
    exact ⟨v, by simpa using h1, h2⟩
theorem RepL.app : ∀ {xs ys : List V} {ds es : List D}, RepL k Φ xs ds → RepL k Φ ys es → RepL k Φ (xs ++ ys) (ds ++ es)
  | _, _, _, _, .nil, s => s
  | _, _, _, _, .cons h r, s => .cons h (r.app s)
theorem RepL.take : ∀ {xs : List V} {ds : List D} (n : Nat), RepL k Φ xs ds → RepL k Φ (xs.take n) (ds.take n)
  | _, _, 0, _ => by simp only [List.take_zero]; exact .nil
  | _, _, _ + 1, .nil => .nil
  | _, _, n + 1, .cons h r => .cons h (r.take n)
theorem RepL.drop : ∀ {xs : List V} {ds : List D} (n : Nat), RepL k Φ xs ds → RepL k Φ (xs.drop n) (ds.drop n)
  | _, _, 0, r => r
  | _, _, _ + 1, .nil => .nil
  | _, _, n + 1, .cons _ r => r.drop n
theorem RepL.rev {xs : List V} {ds : List D} (r : RepL k Φ xs ds) : RepL k Φ xs.reverse ds.reverse := by
  induction xs generalizing ds with
  | nil => cases r; exact .nil
  | cons x xs ih => cases r with | cons h r => simpa using (ih r).app (.cons h .nil)
theorem RepL.set {v : V} {d : D} (h : Rep k Φ v d) : ∀ {xs : List V} {ds : List D} (i : Nat), RepL k Φ xs ds → RepL k Φ (xs.set i v) (ds.set i d)
  | _, _, _, .nil => .nil
  | _, _, 0, .cons _ r => .cons h r
  | _, _, i + 1, .cons q r => .cons q (RepL.set h i r)
theorem RepL.rep {xs : List V} {ds : List D} (r : RepL k Φ xs ds) : ∀ n : Nat, RepL k Φ (List.replicate n xs).flatten (List.replicate n ds).flatten
  | 0 => .nil
  | n + 1 => by rw [List.replicate_succ, List.replicate_succ, List.flatten_cons, List.flatten_cons]; exact r.app (r.rep n)

/-- frozen things stay, everything stays, what is newly frozen is new -/
structure Gr (Φ H Φ' H' : Hp) : Prop where
  s1 : Same Φ Φ'
  s2 : Same Φ' H'
  s3 : Same H H'
  nw : ∀ (b : Addr) (o : HO), Φ' b = some o → Φ b = some o ∨ H b = none
theorem Gr.refl (h : Same Φ H) : Gr Φ H Φ H := ⟨Same.refl _, h, Same.refl _, fun _ _ h => .inl h⟩
theorem same_upd {H : Hp} {p : Addr} {o : HO} (h : H p = none) : Same H (upd H p o) := fun b x e => by
  rw [upd_ne (ne_of_none e h)]
  exact e
theorem upd_le {Φ H : Hp} {p : Addr} {o : HO} (h : Same Φ H) (e : H p = some o) : Same (upd Φ p o) H := fun b x q => by
  by_cases hb : b = p
  · subst hb; rw [upd_same] at q; cases q; exact e
  · rw [upd_ne hb] at q; exact h _ _ q
theorem Same.none {Φ H : Hp} (s : Same Φ H) {p : Addr} (h : H p = none) : Φ p = none := s.free h
end

/-- fixed through a def's run: the heaps at the entry, what is lent -/
structure Fm extends Kx where
  H0 : Hp
  Φ0 : Hp
  lent : List (Nat × Addr)
def Fm.B (f : Fm) (b : Addr) : Prop := ∃ i, (i, b) ∈ f.lent
def SlOk (f : Fm) (Φ H : Hp) (v : Option (Option V)) : Sl → Prop
  | .no => True
  | .fz _ d => ∃ x, v = some (some x) ∧ Rep f.toKx Φ x d
  | .ow loc d => ∃ a o, v = some (some (.ref a)) ∧ Φ a = none ∧ H a = some o ∧ RepO f.toKx Φ o d ∧ (if loc then f.H0 a = none else f.B a)
structure Wf (f : Fm) (gh : List (Addr × HO)) (Φ H : Hp) (σ : St) (e : Ev) : Prop where
  i1 : Same f.Φ0 Φ
  i2 : Same Φ H
  i3 : ∀ (b : Addr) (o : HO), f.H0 b = some o → ¬ f.B b → H b = some o
  i4 : ∀ (b : Addr), H b = none → f.H0 b = none
  i5 : ∀ (b : Addr) (o : HO), Φ b = some o → f.Φ0 b = some o ∨ f.H0 b = none ∨ f.B b
  sl : ∀ (i : Nat) (s : Sl), e[i]? = some s → SlOk f Φ H σ[i]? s
  ap : ∀ (i j : Nat) (l m : Bool) (d d' : D) (a : Addr), e[i]? = some (.ow l d) → e[j]? = some (.ow m d') → σ[i]? = some (some (.ref a)) → σ[j]? = some (some (.ref a)) → i = j
  ln : e.length = σ.length
  gd : ∀ (a : Addr) (o : HO), (a, o) ∈ gh → Φ a = none ∧ H a = some o ∧ f.H0 a = none
  ga : ∀ (i : Nat) (l : Bool) (d : D) (a : Addr) (o : HO), e[i]? = some (.ow l d) → σ[i]? = some (some (.ref a)) → (a, o) ∉ gh
  lt : ∀ (i : Nat) (a : Addr), (i, a) ∈ f.lent → σ[i]? = some (some (.ref a)) ∧ ∃ d, e[i]? = some (.ow false d) ∨ e[i]? = some (.fz false d)
/-- how a value is held -/
def RK (f : Fm) (gh : List (Addr × HO)) (Φ H : Hp) (σ : St) (e : Ev) (v : V) : KD → Prop
  | (.fz, d) => Rep f.toKx Φ v d
  | (.fr, d) => ∃ a o, v = .ref a ∧ Φ a = none ∧ H a = some o ∧ RepO f.toKx Φ o d ∧ f.H0 a = none ∧ (∀ (i : Nat) (l : Bool) (d' : D), e[i]? = some (.ow l d') → σ[i]? ≠ some (some (.ref a))) ∧ ∀ o', (a, o') ∉ gh
  | (.sl i, _) => σ[i]? = some (some v)

section
variable {f : Fm} {gh : List (Addr × HO)} {Φ Φ' H H' : Hp} {σ : St} {e : Ev}
theorem Wf.grow (w : Wf f gh Φ H σ e) (g : Gr Φ H Φ' H') : Wf f gh Φ' H' σ e where
  i1 := w.i1.trans g.s1
  i2 := g.s2
  i3 := fun b o h n => g.s3 _ _ (w.i3 b o h n)
  i4 := fun b h => w.i4 b (g.s3.free h)
  i5 := fun b o h => by
    rcases g.nw b o h with q | q
    · exact w.i5 b o q
    · exact .inr (.inl (w.i4 b q))
  sl := fun i s hs => by
    have q := w.sl i s hs
    cases s with
    | no => exact True.intro
    | fz _ d =>
      obtain ⟨x, e1, r⟩ := q
      exact ⟨x, e1, r.mono g.s1⟩
    | ow l d =>
      obtain ⟨a, o, e1, n, e2, r, z⟩ := q
      refine ⟨a, o, e1, ?_, g.s3 _ _ e2, r.mono g.s1, z⟩
      cases q : Φ' a with
      | none => rfl
      | some o' =>
        rcases g.nw a o' q with h | h
        · rw [n] at h; cases h
        · rw [e2] at h; cases h
  ap := w.ap
  ln := w.ln
  gd := fun a o h => by
    obtain ⟨n, e2, z⟩ := w.gd a o h
    refine ⟨?_, g.s3 _ _ e2, z⟩
    cases q : Φ' a with
    | none => rfl
    | some o' =>
      rcases g.nw a o' q with h | h
      · rw [n] at h; cases h
      · rw [e2] at h; cases h
  ga := w.ga
  lt := w.lt
/-- an owned slot is frozen -/
theorem Wf.freeze {i : Nat} {l : Bool} {d : D} (w : Wf f gh Φ H σ e) (h : e[i]? = some (.ow l d)) :
    ∃ a o, σ[i]? = some (some (.ref a)) ∧ Φ a = none ∧ H a = some o ∧ RepO f.toKx Φ o d ∧ Same Φ (upd Φ a o) ∧ Wf f gh (upd Φ a o) H σ (e.set i (.fz l d)) ∧ Rep f.toKx (upd Φ a o) (.ref a) d := by
  obtain ⟨a, o, e1, n, e2, r, z⟩ := w.sl i _ h
  have sm : Same Φ (upd Φ a o) := same_upd n
  have rp : Rep f.toKx (upd Φ a o) (.ref a) d := (r.mono sm).rep upd_same
  have hi : i < e.length := (List.getElem?_eq_some_iff.mp h).1
  refine ⟨a, o, e1, n, e2, r, sm, ⟨w.i1.trans sm, upd_le w.i2 e2, w.i3, w.i4, fun b x q => ?_, fun j s hs => ?_, fun j m lj lm dj dm b hj hm sj sm => ?_, by rw [List.length_set]; exact w.ln, fun b x hb => ?_, fun j lj dj b x hj sj => ?_, fun j b hb => ?_⟩, rp⟩
  · by_cases hb : b = a
    · subst hb
      cases l with
      | true => exact .inr (.inl (by simpa using z))
      | false => exact .inr (.inr (by simpa using z))
    · rw [upd_ne hb] at q
      exact w.i5 b x q
  · by_cases hj : j = i
    · subst hj
      rw [List.getElem?_set_self hi] at hs
      cases hs
      exact ⟨_, e1, rp⟩
    · rw [List.getElem?_set_ne (Ne.symm hj)] at hs
      have q := w.sl j s hs
      cases s with
      | no => exact True.intro
      | fz _ d' =>
        obtain ⟨x, q1, q2⟩ := q
        exact ⟨x, q1, q2.mono sm⟩
      | ow l' d' =>
        obtain ⟨b, o', q1, q2, q3, q4, q5⟩ := q
        refine ⟨b, o', q1, ?_, q3, q4.mono sm, q5⟩
        rw [upd_ne]
        · exact q2
        · rintro rfl
          exact hj (w.ap j i _ _ _ _ b hs h q1 e1)
  · have nj : j ≠ i := fun q => by subst q; rw [List.getElem?_set_self hi] at hj; cases hj
    have nm : m ≠ i := fun q => by subst q; rw [List.getElem?_set_self hi] at hm; cases hm
    rw [List.getElem?_set_ne (Ne.symm nj)] at hj
    rw [List.getElem?_set_ne (Ne.symm nm)] at hm
    exact w.ap j m _ _ _ _ b hj hm sj sm
  · obtain ⟨q1, q2, q3⟩ := w.gd b x hb
    refine ⟨?_, q2, q3⟩
    rw [upd_ne]
    · exact q1
    · rintro rfl
      exact w.ga i _ _ _ _ h e1 hb
  · have nj : j ≠ i := fun q => by subst q; rw [List.getElem?_set_self hi] at hj; cases hj
    rw [List.getElem?_set_ne (Ne.symm nj)] at hj
    exact w.ga j _ _ b x hj sj
  · obtain ⟨h1, d', h2⟩ := w.lt j b hb
    refine ⟨h1, ?_⟩
    by_cases hj : j = i
    · subst hj
      rw [h] at h2
      rcases h2 with h2 | h2
      · cases h2
        exact ⟨d, .inr (List.getElem?_set_self hi)⟩
      · cases h2
    · rw [List.getElem?_set_ne (Ne.symm hj)]
      exact ⟨d', h2⟩
/-- a fresh object is frozen -/
theorem Wf.settle {a : Addr} {o : HO} (w : Wf f gh Φ H σ e) (n : Φ a = none) (h : H a = some o) (h0 : f.H0 a = none)
    (ns : ∀ (i : Nat) (l : Bool) (d' : D), e[i]? = some (.ow l d') → σ[i]? ≠ some (some (.ref a))) (ng : ∀ o', (a, o') ∉ gh) : Same Φ (upd Φ a o) ∧ Wf f gh (upd Φ a o) H σ e := by
  have sm : Same Φ (upd Φ a o) := same_upd n
  refine ⟨sm, ⟨w.i1.trans sm, upd_le w.i2 h, w.i3, w.i4, fun b x q => ?_, fun j s hs => ?_, w.ap, w.ln, fun b x hb => ?_, w.ga, w.lt⟩⟩
  · by_cases hb : b = a
    · subst hb; exact .inr (.inl h0)
    · rw [upd_ne hb] at q
      exact w.i5 b x q
  · have q := w.sl j s hs
    cases s with
    | no => exact True.intro
    | fz _ d' =>
      obtain ⟨x, q1, q2⟩ := q
      exact ⟨x, q1, q2.mono sm⟩
    | ow l' d' =>
      obtain ⟨b, o', q1, q2, q3, q4, q5⟩ := q
      refine ⟨b, o', q1, ?_, q3, q4.mono sm, q5⟩
      rw [upd_ne]
      · exact q2
      · rintro rfl
        exact ns j _ _ hs q1
  · obtain ⟨q1, q2, q3⟩ := w.gd b x hb
    refine ⟨?_, q2, q3⟩
    rw [upd_ne]
    · exact q1
    · rintro rfl
      exact ng _ hb
/-- softened: a fresh value frozen -/
theorem RK.soft {v : V} {x : KD} (w : Wf f gh Φ H σ e) (r : RK f gh Φ H σ e v x) : ∃ Φ', Same Φ Φ' ∧ Wf f gh Φ' H σ e ∧ RK f gh Φ' H σ e v (soft x) := by
  obtain ⟨kd, d⟩ := x
  cases kd with
  | fz => exact ⟨Φ, Same.refl _, w, r⟩
  | sl i => exact ⟨Φ, Same.refl _, w, r⟩
  | fr =>
    obtain ⟨a, o, rfl, n, h, ro, h0, ns, ng⟩ := r
    obtain ⟨sm, w'⟩ := w.settle n h h0 ns ng
    exact ⟨_, sm, w', (ro.mono sm).rep upd_same⟩
/-- soft values are still held when frozen things grow and slots are what they were -/
theorem RK.keep {Φ' H' : Hp} {e' : Ev} {v : V} {x : KD} (s : Same Φ Φ') (r : RK f gh Φ H σ e v (Pm.soft x)) : RK f gh Φ' H' σ e' v (Pm.soft x) := by
  obtain ⟨kd, d⟩ := x
  cases kd with
  | fz => exact Rep.mono s r
  | fr => exact Rep.mono s r
  | sl i => exact r
/-- what is seen of a value: frozen, or an object that stands now -/
def PR (k : Kx) (Φ H : Hp) (v : V) (d : D) : Prop := Rep k Φ v d ∨ ∃ a o, v = .ref a ∧ H a = some o ∧ RepO k Φ o d
theorem PR.lst {k : Kx} {v : V} {ds : List D} (sm : Same Φ H) (h : PR k Φ H v (.lst ds)) : ∃ a xs, v = .ref a ∧ H a = some (.lst xs) ∧ RepL k Φ xs ds := by
  rcases h with h | ⟨a, o, rfl, q, r⟩
  · cases h with
    | lst q r => exact ⟨_, _, rfl, sm _ _ q, r⟩
  · cases r with
    | lst r => exact ⟨_, _, rfl, q, r⟩
theorem PR.scr {k : Kx} {v : V} {ds : List D} (sm : Same Φ H) (h : PR k Φ H v (.scr ds)) : ∃ a xs, v = .ref a ∧ SqL k.K H a xs ∧ RepL k Φ xs ds := by
  rcases h with h | ⟨a, o, rfl, q, r⟩
  · cases h with
    | scr q r => exact ⟨_, _, rfl, sqL_mono sm q, r⟩
  · cases r
theorem PR.tup {k : Kx} {v : V} {ds : List D} (sm : Same Φ H) (h : PR k Φ H v (.tup ds)) : ∃ a xs, v = .ref a ∧ SqT k.K H a xs ∧ RepL k Φ xs ds := by
  rcases h with h | ⟨a, o, rfl, q, r⟩
  · cases h with
    | tup q r => exact ⟨_, _, rfl, sqT_mono sm q, r⟩
  · cases r
theorem PR.dct {k : Kx} {v : V} {ks : List Key} {ds : List D} (sm : Same Φ H) (h : PR k Φ H v (.dct ks ds)) : ∃ a kvs, v = .ref a ∧ H a = some (.dK kvs) ∧ kvs.map (·.1) = ks ∧ RepL k Φ (kvs.map (·.2)) ds := by
  rcases h with h | ⟨a, o, rfl, q, r⟩
  · cases h with
    | dct q e r => exact ⟨_, _, rfl, sm _ _ q, e, r⟩
  · cases r with
    | dct e r => exact ⟨_, _, rfl, q, e, r⟩
theorem PR.int {k : Kx} {v : V} {i : Int} (h : PR k Φ H v (.int i)) : v = .int i := by
  rcases h with h | ⟨a, o, rfl, q, r⟩
  · cases h; rfl
  · cases r
theorem PR.str {k : Kx} {v : V} {i : Str} (h : PR k Φ H v (.str i)) : v = .str i := by
  rcases h with h | ⟨a, o, rfl, q, r⟩
  · cases h; rfl
  · cases r
theorem PR.bl {k : Kx} {v : V} {i : Bool} (h : PR k Φ H v (.bl i)) : v = .bl i := by
  rcases h with h | ⟨a, o, rfl, q, r⟩
  · cases h; rfl
  · cases r
theorem PR.non {k : Kx} {v : V} (h : PR k Φ H v .non) : v = .non := by
  rcases h with h | ⟨a, o, rfl, q, r⟩
  · cases h; rfl
  · cases r
/-- peeking -/
theorem peek_ok {v : V} {x : KD} {d : D} {e' : Ev} (w : Wf f gh Φ H σ e) (r : RK f gh Φ H σ e v x) (h : peek x e = .ok d e') : e' = e ∧ PR f.toKx Φ H v d := by
  obtain ⟨kd, d0⟩ := x
  cases kd with
  | fz => cases h; exact ⟨rfl, .inl r⟩
  | fr =>
    cases h
    obtain ⟨a, o, rfl, n, h, ro, _⟩ := r
    exact ⟨rfl, .inr ⟨a, o, rfl, h, ro⟩⟩
  | sl i =>
    have r : σ[i]? = some (some v) := r
    simp only [peek] at h
    split at h
    · rename_i l d1 hs
      cases h
      obtain ⟨a, o, e1, n, e2, ro, _⟩ := w.sl i _ hs
      rw [r] at e1; cases e1
      exact ⟨rfl, .inr ⟨a, o, rfl, e2, ro⟩⟩
    · rename_i d1 hs
      cases h
      obtain ⟨y, e1, r1⟩ := w.sl i _ hs
      rw [r] at e1; cases e1
      exact ⟨rfl, .inl r1⟩
    · cases h
/-- freezing -/
theorem freeze_ok {v : V} {x : KD} {d : D} {e' : Ev} (w : Wf f gh Φ H σ e) (r : RK f gh Φ H σ e v x) (h : freeze x e = .ok d e') : ∃ Φ', Same Φ Φ' ∧ Wf f gh Φ' H σ e' ∧ Rep f.toKx Φ' v d := by
  obtain ⟨kd, d0⟩ := x
  cases kd with
  | fz => cases h; exact ⟨Φ, Same.refl _, w, r⟩
  | fr =>
    cases h
    obtain ⟨Φ', s, w', r'⟩ := RK.soft w r
    exact ⟨Φ', s, w', r'⟩
  | sl i =>
    have r : σ[i]? = some (some v) := r
    simp only [Pm.freeze] at h
    split at h
    · rename_i l d1 hs
      cases h
      obtain ⟨a, o, e1, n, e2, ro, sm, w', rp⟩ := w.freeze hs
      rw [r] at e1; cases e1
      exact ⟨_, sm, w', rp⟩
    · rename_i d1 hs
      cases h
      obtain ⟨y, e1, r1⟩ := w.sl i _ hs
      rw [r] at e1; cases e1
      exact ⟨Φ, Same.refl _, w, r1⟩
    · cases h
theorem peek_noex {x : KD} {y : Xc} {e' : Ev} (h : peek x e = .ex y e') : False := by
  obtain ⟨kd, d0⟩ := x
  cases kd with
  | fz => cases h
  | fr => cases h
  | sl i => simp only [peek] at h; split at h <;> cases h
theorem freeze_noex {x : KD} {y : Xc} {e' : Ev} (h : freeze x e = .ex y e') : False := by
  obtain ⟨kd, d0⟩ := x
  cases kd with
  | fz => cases h
  | fr => cases h
  | sl i => simp only [Pm.freeze] at h; split at h <;> cases h
end

/-- an exception in the air: of the class c, its own dict at dd -/
def RX (k : Kx) (Φ H : Hp) (cls : Value) (dd : Option Addr) (x : Xc) : Prop :=
  cls = .ref (k.ca x.c) ∧ (x.vs = [] ∨ ∃ d fs, dd = some d ∧ H d = some (.xd fs) ∧ fs.map (·.1) = x.ns ∧ RepL k Φ (fs.map (·.2)) x.vs)
/-- what is wanted behind -/
def Pst {α : Type} (f : Fm) (W : WX) (gh : List (Addr × HO)) (σ : St) (r : R α) (Φ : Hp) (N : Hp → Hp → Ev → α → Prop) : Prop := match r with
  | .ok a e => ∀ Φ' H', Same Φ Φ' → Wf f gh Φ' H' σ e → N Φ' H' e a
  | .ex x e => ∀ Φ' H' cls dd, Same Φ Φ' → Wf f gh Φ' H' σ e → RX f.toKx Φ' H' cls dd x → W cls dd σ H'
  | .bad => False
/-- the reading of an expression -/
def tF (f : Fm) (W : WX) (m : M KD) : TE := fun σ H Q => ∃ gh Φ e, Wf f gh Φ H σ e ∧ Pst f W gh σ (m e) Φ fun Φ' H' e' x => ∀ v, RK f gh Φ' H' σ e' v x → Q v H'
def tFT (f : Fm) (W : WX) (m : M Bool) : TT := fun σ H Q => ∃ gh Φ e, Wf f gh Φ H σ e ∧ Pst f W gh σ (m e) Φ fun Φ' H' e' x => Q x H'
/-- arguments, held softly -/
inductive RKs (f : Fm) (gh : List (Addr × HO)) (Φ H : Hp) (σ : St) (e : Ev) : List V → List KD → Prop
  | nil : RKs f gh Φ H σ e [] []
  | cons {v : V} {vs : List V} {x : KD} {xs : List KD} : RK f gh Φ H σ e v (soft x) → RKs f gh Φ H σ e vs xs → RKs f gh Φ H σ e (v :: vs) (soft x :: xs)
def tFA (f : Fm) (W : WX) (m : M (List KD)) : TA := fun σ H Q => ∃ gh Φ e, Wf f gh Φ H σ e ∧ Pst f W gh σ (m e) Φ fun Φ' H' e' xs => ∀ vs, RKs f gh Φ' H' σ e' vs xs → Q vs H'
/-- items that are kept -/
def tFs (f : Fm) (W : WX) (m : M (List D)) : TA := fun σ H Q => ∃ gh Φ e, Wf f gh Φ H σ e ∧ Pst f W gh σ (m e) Φ fun Φ' H' e' ds => ∀ vs, RepL f.toKx Φ' vs ds → Q vs H'

section
variable {f : Fm} {W : WX} {gh : List (Addr × HO)} {Φ Φ' H H' : Hp} {σ : St} {e : Ev} {α β : Type}
theorem Pst.mono {r : R α} {N N' : Hp → Hp → Ev → α → Prop} (h : Pst f W gh σ r Φ N) (s : Same Φ Φ') (n : ∀ Φ1 H1 e1 a, Same Φ' Φ1 → Wf f gh Φ1 H1 σ e1 → N Φ1 H1 e1 a → N' Φ1 H1 e1 a) : Pst f W gh σ r Φ' N' := by
  cases r with
  | ok a e => exact fun Φ1 H1 s1 w => n _ _ _ _ s1 w (h Φ1 H1 (s.trans s1) w)
  | ex x e => exact fun Φ1 H1 cls dd s1 => h Φ1 H1 cls dd (s.trans s1)
  | bad => exact h
/-- a step, then the rest -/
theorem Pst.bind {m : M α} {g : α → M β} {N : Hp → Hp → Ev → β → Prop} (h : Pst f W gh σ (M.bind m g e) Φ N) :
    Pst f W gh σ (m e) Φ fun Φ1 H1 e1 a => Pst f W gh σ (g a e1) Φ1 N := by
  unfold M.bind at h
  cases q : m e with
  | ok a e1 =>
    rw [q] at h
    exact fun Φ1 H1 s1 w => Pst.mono h s1 fun _ _ _ _ _ _ z => z
  | ex x e1 =>
    rw [q] at h
    exact h
  | bad =>
    rw [q] at h
    exact h
/-- a peek, then the rest -/
theorem Pst.peek {x : KD} {g : D → M β} {N : Hp → Hp → Ev → β → Prop} {v : V} (w : Wf f gh Φ H σ e) (r : RK f gh Φ H σ e v x) (h : Pst f W gh σ (M.bind (peek x) g e) Φ N) :
    ∃ d, PR f.toKx Φ H v d ∧ Pst f W gh σ (g d e) Φ N := by
  unfold M.bind at h
  cases q : Pm.peek x e with
  | ok d e1 =>
    rw [q] at h
    obtain ⟨rfl, p⟩ := peek_ok w r q
    exact ⟨d, p, h⟩
  | ex y e1 => exact (peek_noex q).elim
  | bad =>
    rw [q] at h
    exact h.elim
theorem Pst.freeze {x : KD} {g : D → M β} {N : Hp → Hp → Ev → β → Prop} {v : V} (w : Wf f gh Φ H σ e) (r : RK f gh Φ H σ e v x) (h : Pst f W gh σ (M.bind (Pm.freeze x) g e) Φ N) :
    ∃ Φ' e' d, Same Φ Φ' ∧ Wf f gh Φ' H σ e' ∧ Rep f.toKx Φ' v d ∧ Pst f W gh σ (g d e') Φ' N := by
  unfold M.bind at h
  cases q : Pm.freeze x e with
  | ok d e1 =>
    rw [q] at h
    obtain ⟨Φ', s, w', p⟩ := freeze_ok w r q
    exact ⟨Φ', e1, d, s, w', p, Pst.mono h s fun _ _ _ _ _ _ z => z⟩
  | ex y e1 => exact (freeze_noex q).elim
  | bad =>
    rw [q] at h
    exact h.elim
theorem Pst.opt {o : Option α} {g : α → M β} {N : Hp → Hp → Ev → β → Prop} (h : Pst f W gh σ (M.bind (opt o) g e) Φ N) : ∃ a, o = some a ∧ Pst f W gh σ (g a e) Φ N := by
  cases o with
  | none => exact h.elim
  | some a => exact ⟨a, rfl, h⟩
theorem Pst.pure {a : α} {N : Hp → Hp → Ev → α → Prop} (h : Pst f W gh σ (M.pure a e) Φ N) (s : Same Φ Φ') (w : Wf f gh Φ' H σ e) : N Φ' H e a := h Φ' H s w
/-- the reading of a step ahead of the rest, its value softened -/
theorem tF.bind {m : M KD} {g : KD → M β} {N : Hp → Hp → Ev → β → Prop} {Q : VK} (w : Wf f gh Φ H σ e) (h : Pst f W gh σ (M.bind m g e) Φ N)
    (q : ∀ Φ1 H1 e1 x v, Same Φ Φ1 → Wf f gh Φ1 H1 σ e1 → RK f gh Φ1 H1 σ e1 v x → Pst f W gh σ (g x e1) Φ1 N → Q v H1) : tF f W m σ H Q := by
  refine ⟨gh, Φ, e, w, Pst.mono (Pst.bind h) (Same.refl _) fun Φ1 H1 e1 x s1 w1 z v r => q Φ1 H1 e1 x v s1 w1 r z⟩
theorem tF.pure {x : KD} {Q : VK} (w : Wf f gh Φ H σ e) (h : ∀ Φ1 H1 v, Same Φ Φ1 → Wf f gh Φ1 H1 σ e → RK f gh Φ1 H1 σ e v x → Q v H1) : tF f W (M.pure x) σ H Q :=
  ⟨gh, Φ, e, w, fun Φ1 H1 s1 w1 v r => h Φ1 H1 v s1 w1 r⟩
end
end Pm
namespace Pm
open PySem PySem.Spec PyProof.Rows L2

/-- where an operation stands -/
structure Spot (X : Cx) : Prop where
  calm : X.calm = true
  hu : X.A.units + 64 < cLine
  gd : X.A.guards = some []

section
variable {k : Kx} {Φ H : Hp}
mutual
theorem dp_of (sm : Same Φ H) : ∀ {v : V} {d : D} {p : PyData}, Rep k Φ v d → toP d = some p → Dp k.K H v p
  | _, _, _, .non, h => by cases h; exact .non
  | _, _, _, .bl b, h => by cases h; exact .bl b
  | _, _, _, .int i, h => by cases h; exact .int i
  | _, _, _, .str x, h => by cases h; exact .str x
  | _, .lst ds, p, .lst q r, h => by
    simp only [toP] at h
    cases e : toPs ds with
    | none => rw [e] at h; cases h
    | some ps => rw [e] at h; cases h; exact .lst (SqL.of (sm _ _ q)) (dps_of sm r e)
  | _, .tup ds, p, .tup q r, h => by
    simp only [toP] at h
    cases e : toPs ds with
    | none => rw [e] at h; cases h
    | some ps => rw [e] at h; cases h; exact .tup (sqT_mono sm q) (dps_of sm r e)
  | _, _, _, .scr _ _, h => by cases h
  | _, _, _, .dct _ _ _, h => by cases h
  | _, _, _, .ins _ _ _, h => by cases h
theorem dps_of (sm : Same Φ H) : ∀ {vs : List V} {ds : List D} {ps : List PyData}, RepL k Φ vs ds → toPs ds = some ps → DpAll k.K H vs ps
  | _, _, _, .nil, h => by cases h; exact .nil
  | _, d :: ds, ps, .cons q r, h => by
    simp only [toPs] at h
    cases e1 : toP d with
    | none => rw [e1] at h; simp at h
    | some p =>
      cases e2 : toPs ds with
      | none => rw [e1, e2] at h; simp at h
      | some ps' =>
        rw [e1, e2] at h
        simp only [Option.some.injEq] at h
        subst h
        exact .cons (dp_of sm q e1) (dps_of sm r e2)
end
theorem PR.dp {v : V} {d : D} {p : PyData} (sm : Same Φ H) (h : PR k Φ H v d) (e : toP d = some p) : Dp k.K H v p := by
  rcases h with h | ⟨a, o, rfl, q, r⟩
  · exact dp_of sm h e
  · cases r with
    | lst r =>
      rename_i xs ds
      simp only [toP] at e
      cases e2 : toPs ds with
      | none => rw [e2] at e; cases e
      | some ps => rw [e2] at e; cases e; exact .lst (SqL.of q) (dps_of sm r e2)
    | dct _ _ => cases e
    | ins _ _ => cases e
theorem PR.of {v : V} {d : D} (h : Rep k Φ v d) : PR k Φ H v d := .inl h

/-- a new or a plain value -/
def RV (k : Kx) (H Φ' H' : Hp) (v : V) (fr : Bool) (d : D) : Prop :=
  if fr then ∃ p o, v = .ref p ∧ H p = none ∧ Φ' p = none ∧ H' p = some o ∧ RepO k Φ' o d else Rep k Φ' v d
/-- what is asked behind an operation that gives (fr, d) -/
def Beh (k : Kx) (Φ H : Hp) (fr : Bool) (d : D) (Q : VK) : Prop := ∀ Φ' H' v, Gr Φ H Φ' H' → RV k H Φ' H' v fr d → Q v H'
theorem Beh.plain {d : D} {Q : VK} {v : V} (sm : Same Φ H) (h : Beh k Φ H false d Q) (r : Rep k Φ v d) : Q v H := h Φ H v (Gr.refl sm) (by simpa [RV] using r)
theorem Beh.tup {ds : List D} {Q : VK} {p : Addr} {xs : List V} (sm : Same Φ H) (h : Beh k Φ H false (.tup ds) Q) (n : H p = none) (r : RepL k Φ xs ds) : Q (.ref p) (upd H p (.tup xs)) :=
  have s1 : Same Φ (upd Φ p (.tup xs)) := same_upd (sm.free n)
  h (upd Φ p (.tup xs)) (upd H p (.tup xs)) (.ref p) ⟨s1, fun b o e => by
      by_cases hb : b = p
      · subst hb; rw [upd_same] at e ⊢; exact e
      · rw [upd_ne hb] at e ⊢; exact sm _ _ e, same_upd n, fun b o e => by
      by_cases hb : b = p
      · subst hb; exact .inr n
      · rw [upd_ne hb] at e; exact .inl e⟩ (by
    simp only [RV, Bool.false_eq_true, if_false]
    exact .tup (SqT.of upd_same) (r.mono s1))
theorem Beh.new {d : D} {Q : VK} {p : Addr} {o : HO} (sm : Same Φ H) (h : Beh k Φ H true d Q) (n : H p = none) (r : RepO k Φ o d) : Q (.ref p) (upd H p o) :=
  h Φ (upd H p o) (.ref p) ⟨Same.refl _, sm.trans (same_upd n), same_upd n, fun _ _ q => .inl q⟩ (by
    simp only [RV, if_true]
    exact ⟨p, o, rfl, n, sm.free n, upd_same, r⟩)
end

section
variable {X : Cx} {k : Kx}
/-- a binary operator by deep values -/
def rB (k : Kx) (g : D → D → Out) : R2 := fun x y H Q => ∃ Φ dx dy fr d, Same Φ H ∧ PR k Φ H x dx ∧ PR k Φ H y dy ∧ g dx dy = some (fr, d) ∧ Beh k Φ H fr d Q
theorem op_fdv {X : Cx} : OpR X (binaryOp .FloorDiv) (rI (fun _ j => j ≠ 0 ∧ j.natAbs.log2 < 9000) fun i j => .int (fdv i j)) := opI fun i j _ _ _ _ _ hc q => by
  refine floordiv_int hc.1 ?_ (.inl (PyProof.noPylong_of_log2 hc.2))
  have e : i.fdiv j = fdv i j := by
    unfold fdv
    by_cases h : 0 < j
    · rw [if_pos h, Int.fdiv_eq_ediv_of_nonneg i (by omega)]
    · rw [if_neg h]
  rw [e]
  exact q
theorem op_powA {X : Cx} : OpR X (binaryOp .Pow) (rI (fun i j => 0 ≤ j ∧ (Builtin.Int.intBits i : Int) * j ≤ 2 ^ 27) fun i j => .int (i ^ j.toNat)) := opI fun _ _ _ _ _ _ _ hc q => pow_int hc.1 hc.2 q
theorem op_mulS {X : Cx} : OpR X (binaryOp .Mult) (fun x y H Q => ∃ z k, x = .str z ∧ y = .int k ∧ MulOk z k ∧ Q (.str (Txt.mul z k)) H) := by
  intro pins s σ H x y v u Q I rx ry h
  obtain ⟨z, k, rfl, rfl, ok, q⟩ := h
  obtain ⟨t, rfl⟩ := rx
  obtain ⟨t2, rfl⟩ := ry
  exact SB.mul ok fun t' k' => ⟨.str _, H, I.tok _, ⟨t', rfl⟩, q⟩
theorem mulS_ok {z : Str} {k : Int} (h : 0 ≤ k ∧ k < 2 ^ 31) (hl : line (z.length * k.toNat) = true) : MulOk z k := by
  have hl := of_decide_eq_true hl
  refine ⟨by rw [decide_eq_false (by omega), decide_eq_false (by omega)]; rfl, fun h1 _ => ?_, fun _ _ => ?_⟩
  · have e : ((z.length * k.toNat : Nat) : Int) = z.length * k := by
      rw [Int.natCast_mul, Int.toNat_of_nonneg h.1]
    have b : (z.length : Int) * k ≤ 2 ^ 63 - 1 := by
      rw [← e]
      have : sizeLine ≤ 2 ^ 63 - 1 := by decide
      omega
    have := Int.le_ediv_of_mul_le (by omega : 0 < k) b
    omega
  · unfold Builtin.Str.tooLong
    exact decide_eq_false (by omega)
theorem pow_nat {i j : Int} (h : 0 ≤ j ∧ Builtin.Int.intBits i * j.toNat ≤ 2 ^ 27) : 0 ≤ j ∧ (Builtin.Int.intBits i : Int) * j ≤ 2 ^ 27 := by
  refine ⟨h.1, ?_⟩
  have e : ((Builtin.Int.intBits i * j.toNat : Nat) : Int) = (Builtin.Int.intBits i : Int) * j := by rw [Int.natCast_mul, Int.toNat_of_nonneg h.1]
  rw [← e]
  have := h.2
  omega
theorem lt_natAbs {i : Int} {n : Nat} (h : i.natAbs < 2 ^ n) : -(2 ^ n) < i ∧ i < 2 ^ n := by
  have e : ((2 ^ n : Nat) : Int) = 2 ^ n := by simp
  constructor <;> omega
theorem op_bin (S : Spot X) (op : Operator) : OpR X (binaryOp op) (rB k (bop op)) := by
  intro pins s σ H x y v u Q I rx ry h
  obtain ⟨Φ, dx, dy, fr, d, sm, px, py, e, b⟩ := h
  unfold bop at e
  split at e
  · obtain rfl := px.int; obtain rfl := py.int; cases e
    exact op_add pins s σ H _ _ v u Q I rx ry ⟨_, _, rfl, rfl, b.plain sm (.int _)⟩
  · obtain rfl := px.int; obtain rfl := py.int; cases e
    exact op_sub pins s σ H _ _ v u Q I rx ry ⟨_, _, rfl, rfl, b.plain sm (.int _)⟩
  · obtain rfl := px.int; obtain rfl := py.int
    split at e
    · rename_i hc
      cases e
      unfold mulOk at hc
      rw [Bool.or_eq_true] at hc
      rcases hc with hc | hc
      · have hc := of_decide_eq_true hc
        have hc := hc.imp lt_natAbs lt_natAbs
        exact op_mul pins s σ H _ _ v u Q I rx ry ⟨_, _, rfl, rfl, hc, b.plain sm (.int _)⟩
      · have hc := of_decide_eq_true hc
        exact op_mulW pins s σ H _ _ v u Q I rx ry ⟨_, _, rfl, rfl, hc, b.plain sm (.int _)⟩
    · cases e
  · obtain rfl := px.int; obtain rfl := py.int
    split at e
    · rename_i hc
      cases e
      exact op_fdv pins s σ H _ _ v u Q I rx ry ⟨_, _, rfl, rfl, of_decide_eq_true hc, b.plain sm (.int _)⟩
    · cases e
  · obtain rfl := px.int; obtain rfl := py.int
    split at e
    · rename_i hc
      cases e
      exact op_mod pins s σ H _ _ v u Q I rx ry ⟨_, _, rfl, rfl, of_decide_eq_true hc, b.plain sm (.int _)⟩
    · cases e
  · obtain rfl := px.int; obtain rfl := py.int
    split at e
    · rename_i hc
      cases e
      exact op_powA pins s σ H _ _ v u Q I rx ry ⟨_, _, rfl, rfl, pow_nat (of_decide_eq_true hc), b.plain sm (.int _)⟩
    · cases e
  · obtain rfl := px.str; obtain rfl := py.str
    split at e
    · rename_i hc
      cases e
      exact op_add_str pins s σ H _ _ v u Q I rx ry ⟨_, _, rfl, rfl, of_decide_eq_true hc, b.plain sm (.str _)⟩
    · cases e
  · obtain ⟨a, xs, rfl, q1, r1⟩ := px.lst sm
    obtain ⟨a2, ys, rfl, q2, r2⟩ := py.lst sm
    split at e
    · rename_i hc
      cases e
      refine op_cat pins s σ H _ _ v u Q I rx ry ⟨_, _, xs, ys, rfl, rfl, q1, q2, ?_, fun p hp => b.new sm hp (.lst (r1.app r2))⟩
      rw [r1.length, r2.length]
      exact of_decide_eq_true hc
    · cases e
  · obtain rfl := px.str; obtain rfl := py.int
    split at e
    · rename_i hc
      cases e
      rw [Bool.and_eq_true] at hc
      exact op_mulS pins s σ H _ _ v u Q I rx ry ⟨_, _, rfl, rfl, mulS_ok (by have := of_decide_eq_true hc.1; omega) hc.2, b.plain sm (.str _)⟩
    · cases e
  · obtain ⟨a, xs, rfl, q1, r1⟩ := px.lst sm
    obtain rfl := py.int
    split at e
    · rename_i hc
      cases e
      rw [Bool.and_eq_true] at hc
      obtain ⟨h1, h2⟩ := hc
      have h1 := of_decide_eq_true h1
      refine op_rep pins s σ H _ _ v u Q I rx ry ⟨_, _, xs, rfl, rfl, q1, by omega, by omega, ?_, fun p hp => b.new sm hp (.lst (r1.rep _))⟩
      rw [r1.length]
      exact of_decide_eq_true h2
    · cases e
  · cases e

theorem flat_of {Φ H : Hp} {v : V} {d : D} (h : PR k Φ H v d) (f : flatD d = true) : flatV v = true ∧ ∀ {w : V} {e : D}, PR k Φ H w e → flatD e = true → eqV w v = ieq e d := by
  cases d with
  | non =>
    obtain rfl := h.non
    refine ⟨rfl, fun {w e} hw fe => ?_⟩
    cases e with
    | non => obtain rfl := hw.non; rfl
    | bl _ => obtain rfl := hw.bl; rfl
    | int _ => obtain rfl := hw.int; rfl
    | str _ => obtain rfl := hw.str; rfl
    | _ => cases fe
  | bl _ =>
    obtain rfl := h.bl
    refine ⟨rfl, fun {w e} hw fe => ?_⟩
    cases e with
    | non => obtain rfl := hw.non; rfl
    | bl _ => obtain rfl := hw.bl; rfl
    | int _ => obtain rfl := hw.int; rfl
    | str _ => obtain rfl := hw.str; rfl
    | _ => cases fe
  | int _ =>
    obtain rfl := h.int
    refine ⟨rfl, fun {w e} hw fe => ?_⟩
    cases e with
    | non => obtain rfl := hw.non; rfl
    | bl _ => obtain rfl := hw.bl; rfl
    | int _ => obtain rfl := hw.int; rfl
    | str _ => obtain rfl := hw.str; rfl
    | _ => cases fe
  | str _ =>
    obtain rfl := h.str
    refine ⟨rfl, fun {w e} hw fe => ?_⟩
    cases e with
    | non => obtain rfl := hw.non; rfl
    | bl _ => obtain rfl := hw.bl; rfl
    | int _ => obtain rfl := hw.int; rfl
    | str _ => obtain rfl := hw.str; rfl
    | _ => cases fe
  | _ => cases f
theorem flats_of {Φ H : Hp} {v : V} {d : D} (h : PR k Φ H v d) (f : flatD d = true) : ∀ {xs : List V} {ds : List D}, RepL k Φ xs ds → ds.all flatD = true → xs.all flatV = true ∧ inV v xs = ds.any fun y => ieq y d
  | _, _, .nil, _ => ⟨rfl, rfl⟩
  | x :: xs, e :: ds, .cons q r, hf => by
    rw [List.all_cons, Bool.and_eq_true] at hf
    obtain ⟨h1, h2⟩ := flats_of h f r hf.2
    have q' : PR k Φ H x e := .inl q
    refine ⟨by rw [List.all_cons, (flat_of q' hf.1).1, h1]; rfl, ?_⟩
    unfold inV at h2 ⊢
    rw [List.any_cons, List.any_cons, h2, (flat_of h f).2 q' hf.1]
/-- comparisons -/
def rC (k : Kx) (g : D → D → Option Bool) : R2 := fun x y H Q => ∃ Φ dx dy t, Same Φ H ∧ PR k Φ H x dx ∧ PR k Φ H y dy ∧ g dx dy = some t ∧ Q (.bl t) H
theorem eqd_some {x y : D} {t : Bool} (h : eqd x y = some t) : ∃ p q, toP x = some p ∧ toP y = some q ∧ SeqAt.shaped p = true ∧ SeqAt.shaped q = true ∧ t = PyData.eqv p q := by
  unfold eqd at h
  split at h
  · rename_i p q h1 h2
    split at h
    · rename_i hs
      rw [Bool.and_eq_true] at hs
      cases h
      exact ⟨p, q, h1, h2, hs.1, hs.2, rfl⟩
    · cases h
  · cases h
theorem op_cop (S : Spot X) (ek : X.K = k.K) (op : CmpOp) : OpR X (compareOp op) (rC k (cop op)) := by
  intro pins s σ H x y v u Q I rx ry h
  obtain ⟨Φ, dx, dy, t, sm, px, py, e, q⟩ := h
  unfold cop at e
  split at e
  · obtain rfl := px.int; obtain rfl := py.int; cases e
    exact op_lt pins s σ H _ _ v u Q I rx ry ⟨_, _, rfl, rfl, q⟩
  · obtain rfl := px.int; obtain rfl := py.int; cases e
    exact op_le pins s σ H _ _ v u Q I rx ry ⟨_, _, rfl, rfl, q⟩
  · obtain rfl := px.int; obtain rfl := py.int; cases e
    exact op_gt pins s σ H _ _ v u Q I rx ry ⟨_, _, rfl, rfl, q⟩
  · obtain rfl := px.int; obtain rfl := py.int; cases e
    exact op_ge pins s σ H _ _ v u Q I rx ry ⟨_, _, rfl, rfl, q⟩
  · obtain ⟨p, p', e1, e2, s1, s2, rfl⟩ := eqd_some e
    exact op_eqD S.hu pins s σ H _ _ v u Q I rx ry ⟨p, p', ek ▸ px.dp sm e1, ek ▸ py.dp sm e2, s1, s2, q⟩
  · rename_i x' y'
    cases e0 : eqd dx dy with
    | none => rw [e0] at e; cases e
    | some t0 =>
      rw [e0] at e
      simp only [Option.map_some, Option.some.injEq] at e
      subst e
      obtain ⟨p, p', e1, e2, s1, s2, rfl⟩ := eqd_some e0
      exact op_neD S.hu pins s σ H _ _ v u Q I rx ry ⟨p, p', ek ▸ px.dp sm e1, ek ▸ py.dp sm e2, s1, s2, q⟩
  · obtain rfl := py.non
    cases e
    refine op_isN pins s σ H _ _ v u Q I rx ry ⟨rfl, ?_⟩
    have : decide (x = .non) = isNon dx := by
      rcases px with px | ⟨a, o, rfl, _, ro⟩
      · cases px <;> rfl
      · cases ro <;> rfl
    rw [this]
    exact q
  · obtain rfl := py.non
    cases e
    refine op_notN pins s σ H _ _ v u Q I rx ry ⟨rfl, ?_⟩
    have : (!decide (x = .non)) = !isNon dx := by
      rcases px with px | ⟨a, o, rfl, _, ro⟩
      · cases px <;> rfl
      · cases ro <;> rfl
    rw [this]
    exact q
  · obtain rfl := px.str; obtain rfl := py.str; cases e
    exact op_in_str pins s σ H _ _ v u Q I rx ry ⟨_, _, rfl, rfl, q⟩
  · obtain rfl := px.str; obtain rfl := py.str; cases e
    exact op_notIn_str pins s σ H _ _ v u Q I rx ry ⟨_, _, rfl, rfl, q⟩
  · obtain ⟨a, xs, rfl, q1, r1⟩ := py.lst sm
    split at e
    · rename_i hc
      rw [Bool.and_eq_true] at hc
      cases e
      obtain ⟨h1, h2⟩ := flats_of px hc.1 r1 hc.2
      refine op_in_seq pins s σ H _ _ v u Q I rx ry ⟨a, xs, rfl, .inl (SqL.of q1), (flat_of px hc.1).1, h1, ?_⟩
      simp only [Bool.false_eq_true, if_false]
      rw [h2]; exact q
    · cases e
  · obtain ⟨a, xs, rfl, q1, r1⟩ := py.lst sm
    split at e
    · rename_i hc
      rw [Bool.and_eq_true] at hc
      cases e
      obtain ⟨h1, h2⟩ := flats_of px hc.1 r1 hc.2
      refine op_notIn_seq pins s σ H _ _ v u Q I rx ry ⟨a, xs, rfl, .inl (SqL.of q1), (flat_of px hc.1).1, h1, ?_⟩
      simp only [if_true]
      rw [h2]; exact q
    · cases e
  · obtain ⟨a, xs, rfl, q1, r1⟩ := py.tup sm
    split at e
    · rename_i hc
      rw [Bool.and_eq_true] at hc
      cases e
      obtain ⟨h1, h2⟩ := flats_of px hc.1 r1 hc.2
      refine op_in_seq pins s σ H _ _ v u Q I rx ry ⟨a, xs, rfl, .inr (ek ▸ q1), (flat_of px hc.1).1, h1, ?_⟩
      simp only [Bool.false_eq_true, if_false]
      rw [h2]; exact q
    · cases e
  · obtain ⟨a, xs, rfl, q1, r1⟩ := py.tup sm
    split at e
    · rename_i hc
      rw [Bool.and_eq_true] at hc
      cases e
      obtain ⟨h1, h2⟩ := flats_of px hc.1 r1 hc.2
      refine op_notIn_seq pins s σ H _ _ v u Q I rx ry ⟨a, xs, rfl, .inr (ek ▸ q1), (flat_of px hc.1).1, h1, ?_⟩
      simp only [if_true]
      rw [h2]; exact q
    · cases e
  · cases e

/-- truth -/
theorem tru_of {Φ H : Hp} {v : V} {d : D} {t : Bool} (sm : Same Φ H) (ek : X.K = k.K) (h : PR k Φ H v d) (e : truth d = some t) : TruV X.K v H t := by
  have emp : ∀ {α β : Type} {xs : List α} {ys : List β}, xs.length = ys.length → (!xs.isEmpty) = !ys.isEmpty := by
    intro α β xs ys hl
    cases xs <;> cases ys <;> simp at hl ⊢
  cases d with
  | non => obtain rfl := h.non; cases e; rfl
  | bl b => obtain rfl := h.bl; cases e; rfl
  | int i => obtain rfl := h.int; cases e; rfl
  | str x =>
    obtain rfl := h.str
    simp only [truth] at e
    split at e
    · rename_i hl
      cases e
      refine ⟨of_decide_eq_true hl, ?_⟩
      cases x.length <;> rfl
    · cases e
  | lst xs =>
    obtain ⟨a, ys, rfl, q, r⟩ := h.lst sm
    cases e
    exact .inl ⟨ys, SqL.of q, emp r.length.symm⟩
  | tup xs =>
    obtain ⟨a, ys, rfl, q, r⟩ := h.tup sm
    cases e
    exact .inr (.inl ⟨ys, ek ▸ q, emp r.length.symm⟩)
  | scr xs =>
    obtain ⟨a, ys, rfl, q, r⟩ := h.scr sm
    cases e
    exact .inl ⟨ys, ek ▸ q, emp r.length.symm⟩
  | dct ks ds =>
    obtain ⟨a, kvs, rfl, q, r, _⟩ := h.dct sm
    cases e
    refine .inr (.inr ⟨kvs, q, ?_⟩)
    rw [← r]
    exact emp (List.length_map _)
  | ins _ _ _ => cases e
/-- an item by its index -/
def rX (k : Kx) : R2 := fun x y H Q => ∃ Φ dx dy d, Same Φ H ∧ PR k Φ H x dx ∧ PR k Φ H y dy ∧ ixd dx dy = some d ∧ ∀ v, Rep k Φ v d → Q v H
theorem atI_rep {Φ : Hp} {xs : List V} {ds : List D} {i : Int} {d : D} (r : RepL k Φ xs ds) (h : atI ds i = some d) : ∃ v, atI xs i = some v ∧ Rep k Φ v d := by
  unfold atI at h ⊢
  rw [← r.length] at h
  cases e : ixN xs.length i with
  | none => rw [e] at h; cases h
  | some j =>
    rw [e] at h
    exact r.get h
theorem ix_deep (ek : X.K = k.K) : IxR X (rX k) := by
  intro ve se pins s σ H x y v u Q I rx ry h hs
  obtain ⟨Φ, dx, dy, d, sm, px, py, e, q⟩ := h
  unfold ixd at e
  split at e
  · obtain ⟨a, xs, rfl, q1, r1⟩ := px.lst sm
    obtain rfl := py.int
    obtain ⟨w, h1, h2⟩ := atI_rep r1 e
    exact ix_list ve se pins s σ H _ _ v u Q I rx ry ⟨a, xs, _, w, rfl, rfl, SqL.of q1, h1, q w h2⟩ hs
  · obtain ⟨a, xs, rfl, q1, r1⟩ := px.tup sm
    obtain rfl := py.int
    obtain ⟨w, h1, h2⟩ := atI_rep r1 e
    exact ix_tup ve se pins s σ H _ _ v u Q I rx ry ⟨a, xs, _, w, rfl, rfl, ek ▸ q1, h1, q w h2⟩ hs
  · obtain ⟨a, xs, rfl, q1, r1⟩ := px.scr sm
    obtain rfl := py.int
    obtain ⟨w, h1, h2⟩ := atI_rep r1 e
    exact ix_list ve se pins s σ H _ _ v u Q I rx ry ⟨a, xs, _, w, rfl, rfl, ek ▸ q1, h1, q w h2⟩ hs
  · obtain rfl := px.str
    obtain rfl := py.int
    rename_i z i
    split at e
    · rename_i hl
      cases e2 : atI z.cps.toList i with
      | none => rw [e2] at e; cases e
      | some c =>
        rw [e2] at e
        cases e
        exact ix_str ve se pins s σ H _ _ v u Q I rx ry ⟨z, i, c, rfl, rfl, of_decide_eq_true hl, e2, q _ (.str _)⟩ hs
    · cases e
  · cases e
/-- a slice -/
def rSl (k : Kx) : V → Option Int → Option Int → Hp → VK → Prop := fun x lo hi H Q => ∃ Φ dx fr d, Same Φ H ∧ PR k Φ H x dx ∧ slcd dx lo hi = some (fr, d) ∧ Beh k Φ H fr d Q
theorem cut_rep {Φ : Hp} {xs : List V} {ds : List D} (r : RepL k Φ xs ds) (lo hi : Option Int) : RepL k Φ (cutV xs lo hi) (cutD ds lo hi) := by
  unfold cutV cutD
  rw [← r.length]
  exact (r.drop _).take _
theorem cutS_eq (z : Str) (lo hi : Option Int) : cutS z lo hi = ⟨(cutD z.cps.toList lo hi).toArray⟩ := rfl
theorem sl_deep (ek : X.K = k.K) : SlR X (rSl k) := by
  intro pins s σ H x v vl vu lo hi sl Q I rx hs pl pu h
  obtain ⟨Φ, dx, fr, d, sm, px, e, b⟩ := h
  unfold slcd at e
  split at e
  · obtain ⟨a, xs, rfl, q1, r1⟩ := px.lst sm
    cases e
    exact sl_list pins s σ H _ v vl vu lo hi sl Q I rx hs pl pu ⟨a, xs, rfl, SqL.of q1, fun p hp => b.new sm hp (.lst (cut_rep r1 lo hi))⟩
  · obtain ⟨a, xs, rfl, q1, r1⟩ := px.scr sm
    cases e
    exact sl_list pins s σ H _ v vl vu lo hi sl Q I rx hs pl pu ⟨a, xs, rfl, ek ▸ q1, fun p hp => b.new sm hp (.lst (cut_rep r1 lo hi))⟩
  · obtain rfl := px.str
    split at e
    · rename_i hl
      cases e
      exact sl_str pins s σ H _ v vl vu lo hi sl Q I rx hs pl pu ⟨_, rfl, of_decide_eq_true hl, b.plain sm (.str _)⟩
    · cases e
  · cases e
end
end Pm
namespace Pm
open PySem PySem.Spec PyProof.Rows L2

inductive PRs (k : Kx) (Φ H : Hp) : List V → List D → Prop
  | nil : PRs k Φ H [] []
  | cons {v : V} {vs : List V} {d : D} {ds : List D} : PR k Φ H v d → PRs k Φ H vs ds → PRs k Φ H (v :: vs) (d :: ds)

section
variable {k : Kx} {Φ H : Hp}
theorem PRs.one {vs : List V} {d : D} (h : PRs k Φ H vs [d]) : ∃ v, vs = [v] ∧ PR k Φ H v d := by
  cases h with
  | cons a b => cases b; exact ⟨_, rfl, a⟩
theorem PRs.two {vs : List V} {d e : D} (h : PRs k Φ H vs [d, e]) : ∃ v w, vs = [v, w] ∧ PR k Φ H v d ∧ PR k Φ H w e := by
  cases h with
  | cons a b =>
    obtain ⟨w, rfl, b'⟩ := PRs.one b
    exact ⟨_, _, rfl, a, b'⟩
theorem PRs.zero {vs : List V} (h : PRs k Φ H vs []) : vs = [] := by cases h; rfl
theorem allB_rep : ∀ {xs : List V} {ds : List D} {bs : List Bool}, RepL k Φ xs ds → allB ds = some bs → xs = bs.map V.bl
  | _, _, _, .nil, h => by cases h; rfl
  | _, d :: ds, bs, .cons q r, h => by
    cases d with
    | bl b =>
      simp only [allB] at h
      cases e : allB ds with
      | none => rw [e] at h; cases h
      | some cs =>
        rw [e] at h; cases h
        cases q
        rw [allB_rep r e]; rfl
    | _ => cases h
theorem allS_rep : ∀ {xs : List V} {ds : List D} {bs : List Str}, RepL k Φ xs ds → allS ds = some bs → xs = bs.map V.str
  | _, _, _, .nil, h => by cases h; rfl
  | _, d :: ds, bs, .cons q r, h => by
    cases d with
    | str b =>
      simp only [allS] at h
      cases e : allS ds with
      | none => rw [e] at h; cases h
      | some cs =>
        rw [e] at h; cases h
        cases q
        rw [allS_rep r e]; rfl
    | _ => cases h
theorem allI_rep : ∀ {xs : List V} {ds : List D} {bs : List Int}, RepL k Φ xs ds → allI ds = some bs → xs = bs.map V.int
  | _, _, _, .nil, h => by cases h; rfl
  | _, d :: ds, bs, .cons q r, h => by
    cases d with
    | int b =>
      simp only [allI] at h
      cases e : allI ds with
      | none => rw [e] at h; cases h
      | some cs =>
        rw [e] at h; cases h
        cases q
        rw [allI_rep r e]; rfl
    | _ => cases h
end
mutual
theorem toP_dict : ∀ {d : D} {p : PyData}, toP d = some p → p.hasDict = false
  | .non, _, h => by cases h; rfl
  | .bl _, _, h => by cases h; rfl
  | .int _, _, h => by cases h; rfl
  | .str _, _, h => by cases h; rfl
  | .lst ds, p, h => by
    simp only [toP] at h
    cases e : toPs ds with
    | none => rw [e] at h; cases h
    | some ps => rw [e] at h; cases h; simp only [PyData.hasDict]; exact toPs_dict e
  | .tup ds, p, h => by
    simp only [toP] at h
    cases e : toPs ds with
    | none => rw [e] at h; cases h
    | some ps => rw [e] at h; cases h; simp only [PyData.hasDict]; exact toPs_dict e
  | .scr _, _, h => by cases h
  | .dct _ _, _, h => by cases h
  | .ins _ _ _, _, h => by cases h
theorem toPs_dict : ∀ {ds : List D} {ps : List PyData}, toPs ds = some ps → PyData.hasDictAll ps = false
  | [], _, h => by cases h; rfl
  | d :: ds, ps, h => by
    simp only [toPs] at h
    cases e1 : toP d with
    | none => rw [e1] at h; simp at h
    | some p =>
      cases e2 : toPs ds with
      | none => rw [e1, e2] at h; simp at h
      | some ps' =>
        rw [e1, e2] at h
        simp only [Option.some.injEq] at h
        subst h
        simp only [PyData.hasDictAll, toP_dict e1, toPs_dict e2, Bool.or_false]
end

/-- a built-in by its name: a function or a class -/
def bfn (f : String) : Value := if f = "int" ∨ f = "str" ∨ f = "list" ∨ f = "tuple" then .type f else .builtin f
section
variable {X : Cx} {k : Kx}
def rBi (k : Kx) (f : String) : List V → Hp → VK → Prop := fun vs H Q => ∃ Φ ds fr d, Same Φ H ∧ PRs k Φ H vs ds ∧ bid f ds = some (fr, d) ∧ Beh k Φ H fr d Q
theorem call_repr (S : Spot X) : CallR X (.builtin "repr") (fun vs H Q => ∃ v p, vs = [v] ∧ Dp X.K H v p ∧ p.hasDict = false ∧ PyData.showable p = true ∧ p.shown.length ≤ sizeLine ∧ p.depth ≤ 32 ∧ Q (.str p.shown) H) := by
  intro pins s σ H vs us Q I r h
  obtain ⟨v, p, rfl, hd, nd, hs, hz, hdp, q⟩ := h
  obtain ⟨u, rfl, ru⟩ := Vals.one r
  obtain ⟨as, rd⟩ := Dp.reads I p v u hd ru
  cases hd with
  | non => cases ru; exact PySem.P.repr_of_none ⟨.str _, H, I.tok _, ⟨_, rfl⟩, q⟩
  | bl b => cases ru; exact PySem.P.repr_of_bool ⟨.str _, H, I.tok _, ⟨_, rfl⟩, q⟩
  | int i => obtain ⟨t, rfl⟩ := ru; exact PySem.P.repr_of_int (by simpa [PyData.showable] using hs) ⟨.str _, H, I.tok _, ⟨_, rfl⟩, q⟩
  | str x => obtain ⟨t, rfl⟩ := ru; exact PySem.P.repr_of_str ⟨.str _, H, I.tok _, ⟨_, rfl⟩, q⟩ hz
  | lst _ _ =>
    cases ru
    exact repr_of_reads' rd hs (PyData.noDict_hsm nd) S.gd (by have := S.hu; omega) (fun _ _ e => e) (fun h' u tk hk => ⟨.str _, H, I.kept (t' := tk) hk, ⟨_, rfl⟩, q⟩) hz
  | tup _ _ =>
    cases ru
    exact repr_of_reads' rd hs (PyData.noDict_hsm nd) S.gd (by have := S.hu; omega) (fun _ _ e => e) (fun h' u tk hk => ⟨.str _, H, I.kept (t' := tk) hk, ⟨_, rfl⟩, q⟩) hz
theorem call_bi (S : Spot X) (ek : X.K = k.K) (f : String) : CallR X (bfn f) (rBi k f) := by
  intro pins s σ H vs us Q I r h
  obtain ⟨Φ, ds, fr, d, sm, ps, e, b⟩ := h
  unfold bid at e
  split at e
  · obtain ⟨v, rfl, p⟩ := ps.one
    obtain rfl := p.int; cases e
    exact call_abs pins s σ H _ us Q I r ⟨_, rfl, b.plain sm (.int _)⟩
  · obtain ⟨v, w, rfl, p, p2⟩ := ps.two
    obtain rfl := p.int; obtain rfl := p2.int; cases e
    exact call_max2 S.calm pins s σ H _ us Q I r ⟨_, _, rfl, b.plain sm (.int _)⟩
  · obtain ⟨v, w, rfl, p, p2⟩ := ps.two
    obtain rfl := p.int; obtain rfl := p2.int; cases e
    exact call_min2 S.calm pins s σ H _ us Q I r ⟨_, _, rfl, b.plain sm (.int _)⟩
  · obtain ⟨v, rfl, p⟩ := ps.one
    obtain rfl := p.int; cases e
    exact call_int1 pins s σ H _ us Q I r (.inl ⟨_, rfl, b.plain sm (.int _)⟩)
  · obtain ⟨v, rfl, p⟩ := ps.one
    obtain rfl := p.bl; cases e
    exact call_int1 pins s σ H _ us Q I r (.inr ⟨_, rfl, b.plain sm (.int _)⟩)
  · obtain ⟨v, rfl, p⟩ := ps.one
    obtain rfl := p.int
    split at e
    · rename_i hc
      cases e
      exact call_str_int pins s σ H _ us Q I r ⟨_, rfl, of_decide_eq_true hc, b.plain sm (.str _)⟩
    · cases e
  · obtain ⟨v, rfl, p⟩ := ps.one
    obtain ⟨a, ys, rfl, q1, r1⟩ := p.lst sm; cases e
    exact call_len_seq pins s σ H _ us Q I r ⟨_, ys, rfl, .inl (SqL.of q1), b.plain sm (by rw [r1.length]; exact .int _)⟩
  · obtain ⟨v, rfl, p⟩ := ps.one
    obtain ⟨a, ys, rfl, q1, r1⟩ := p.tup sm; cases e
    exact call_len_seq pins s σ H _ us Q I r ⟨_, ys, rfl, .inr (ek ▸ q1), b.plain sm (by rw [r1.length]; exact .int _)⟩
  · obtain ⟨v, rfl, p⟩ := ps.one
    obtain ⟨a, ys, rfl, q1, r1⟩ := p.scr sm; cases e
    exact call_len_seq pins s σ H _ us Q I r ⟨_, ys, rfl, .inl (ek ▸ q1), b.plain sm (by rw [r1.length]; exact .int _)⟩
  · obtain ⟨v, rfl, p⟩ := ps.one
    obtain rfl := p.str
    split at e
    · rename_i hc
      cases e
      exact call_len_str pins s σ H _ us Q I r ⟨_, rfl, of_decide_eq_true hc, b.plain sm (.int _)⟩
    · cases e
  · obtain ⟨v, rfl, p⟩ := ps.one
    obtain ⟨a, ys, rfl, q1, r1⟩ := p.lst sm
    rename_i xs
    cases e2 : allB xs with
    | none => rw [e2] at e; cases e
    | some bs =>
      rw [e2] at e; cases e
      obtain rfl := allB_rep r1 e2
      exact cr_all S.calm pins s σ H _ us Q I r ⟨a, bs, rfl, SqL.of q1, b.plain sm (.bl _)⟩
  · obtain ⟨v, rfl, p⟩ := ps.one
    obtain ⟨a, ys, rfl, q1, r1⟩ := p.lst sm
    rename_i xs
    cases e2 : allB xs with
    | none => rw [e2] at e; cases e
    | some bs =>
      rw [e2] at e; cases e
      obtain rfl := allB_rep r1 e2
      exact cr_any S.calm pins s σ H _ us Q I r ⟨a, bs, rfl, SqL.of q1, b.plain sm (.bl _)⟩
  · obtain ⟨v, rfl, p⟩ := ps.one
    obtain ⟨a, ys, rfl, q1, r1⟩ := p.lst sm
    rename_i xs
    cases e2 : allI xs with
    | none => rw [e2] at e; cases e
    | some bs =>
      rw [e2] at e; cases e
      obtain rfl := allI_rep r1 e2
      exact cr_sum S.calm pins s σ H _ us Q I r ⟨a, bs, rfl, SqL.of q1, b.plain sm (.int _)⟩
  · obtain ⟨v, rfl, p⟩ := ps.one
    obtain ⟨a, ys, rfl, q1, r1⟩ := p.lst sm; cases e
    exact call_list_of pins s σ H _ us Q I r ⟨a, ys, rfl, .inl (SqL.of q1), fun p hp => b.new sm hp (.lst r1)⟩
  · obtain ⟨v, rfl, p⟩ := ps.one
    obtain ⟨a, ys, rfl, q1, r1⟩ := p.tup sm; cases e
    exact call_list_of pins s σ H _ us Q I r ⟨a, ys, rfl, .inr (ek ▸ q1), fun p hp => b.new sm hp (.lst r1)⟩
  · obtain ⟨v, rfl, p⟩ := ps.one
    obtain ⟨a, ys, rfl, q1, r1⟩ := p.lst sm; cases e
    exact call_tuple_of pins s σ H _ us Q I r ⟨a, ys, rfl, .inl ⟨SqL.of q1, fun p hp => b.tup sm hp r1⟩⟩
  · obtain ⟨v, rfl, p⟩ := ps.one
    obtain ⟨a, ys, rfl, q1, r1⟩ := p.tup sm; cases e
    rcases p with p | ⟨a', o, e', q, ro⟩
    · exact call_tuple_of pins s σ H _ us Q I r ⟨a, ys, rfl, .inr ⟨ek ▸ q1, b.plain sm p⟩⟩
    · cases ro
  · obtain ⟨v, rfl, p⟩ := ps.one
    rename_i x
    split at e
    · rename_i pd ep
      split at e
      · rename_i hc
        cases e
        rw [Bool.and_eq_true, Bool.and_eq_true] at hc
        exact call_repr S pins s σ H _ us Q I r ⟨v, pd, rfl, ek ▸ p.dp sm ep, toP_dict ep, hc.1.1, of_decide_eq_true hc.1.2, of_decide_eq_true hc.2, b.plain sm (.str _)⟩
      · cases e
    · cases e
  · cases e
end
end Pm
namespace Pm
open PySem PySem.Spec PyProof.Rows L2

theorem PE.imp {X : Cx} {e : Expr} {t t' : TE} (h : PE X e t) (i : ∀ σ H Q, t' σ H Q → t σ H Q) : PE X e t' := ⟨fun pins s σ H Q I q => h.run pins s σ H Q I (i σ H Q q)⟩
theorem PT.imp {X : Cx} {e : Expr} {t t' : TT} (h : PT X e t) (i : ∀ σ H Q, t' σ H Q → t σ H Q) : PT X e t' := ⟨fun pins s σ H Q I q => h.run pins s σ H Q I (i σ H Q q)⟩
theorem PA.imp {X : Cx} {es : List Expr} {t t' : TA} (h : PA X es t) (i : ∀ σ H Q, t' σ H Q → t σ H Q) : PA X es t' := ⟨fun pos pins s σ H Q I q => h.run pos pins s σ H Q I (i σ H Q q)⟩
theorem PO.imp {X : Cx} {e : Option Expr} {t t' : TO} (h : PO X e t) (i : ∀ σ H Q, t' σ H Q → t σ H Q) : PO X e t' := ⟨fun pins s σ H Q I q => h.run pins s σ H Q I (i σ H Q q)⟩

theorem peek_soft (x : KD) : peek (soft x) = peek x := by
  obtain ⟨k, d⟩ := x
  cases k <;> rfl
theorem freeze_soft (x : KD) : freeze (soft x) = freeze x := by
  obtain ⟨k, d⟩ := x
  cases k <;> rfl
theorem soft_soft (x : KD) : soft (soft x) = soft x := by
  obtain ⟨k, d⟩ := x
  cases k <;> rfl

section
variable {X : Cx} {f : Fm} {W : WX} {gh : List (Addr × HO)} {Φ Φ' H H' : Hp} {σ : L2.St} {e : Ev} {α β : Type} {cl : Cl}
/-- a step ahead of the rest, its value softened at once -/
theorem tF.bindS {m : M KD} {g : KD → M β} {N : Hp → Hp → Ev → β → Prop} {Q : VK} (w : Wf f gh Φ H σ e) (h : Pst f W gh σ (M.bind m g e) Φ N)
    (q : ∀ Φ1 H1 e1 x v, Same Φ Φ1 → Wf f gh Φ1 H1 σ e1 → RK f gh Φ1 H1 σ e1 v (soft x) → Pst f W gh σ (g x e1) Φ1 N → Q v H1) : tF f W m σ H Q := by
  refine tF.bind w h fun Φ1 H1 e1 x v s1 w1 r1 z => ?_
  obtain ⟨Φ2, s2, w2, r2⟩ := RK.soft w1 r1
  exact q Φ2 H1 e1 x v (s1.trans s2) w2 r2 (Pst.mono z s2 fun _ _ _ _ _ _ z => z)
theorem tFT.bind {m : M Bool} {g : Bool → M β} {N : Hp → Hp → Ev → β → Prop} {Q : Bool → Hp → Prop} (w : Wf f gh Φ H σ e) (h : Pst f W gh σ (M.bind m g e) Φ N)
    (q : ∀ Φ1 H1 e1 t, Same Φ Φ1 → Wf f gh Φ1 H1 σ e1 → Pst f W gh σ (g t e1) Φ1 N → Q t H1) : tFT f W m σ H Q :=
  ⟨gh, Φ, e, w, Pst.mono (Pst.bind h) (Same.refl _) fun Φ1 H1 e1 t s1 w1 z => q Φ1 H1 e1 t s1 w1 z⟩
theorem Pst.peekS {x : KD} {g : D → M β} {N : Hp → Hp → Ev → β → Prop} {v : V} (w : Wf f gh Φ H σ e) (r : RK f gh Φ H σ e v (soft x)) (h : Pst f W gh σ (M.bind (Pm.peek x) g e) Φ N) :
    ∃ d, PR f.toKx Φ H v d ∧ Pst f W gh σ (g d e) Φ N := Pst.peek w r (by rw [peek_soft]; exact h)
/-- behind an operation -/
theorem rk_of {fr : Bool} {d : D} {v : V} (w : Wf f gh Φ H σ e) (g : Gr Φ H Φ' H') (r : RV f.toKx H Φ' H' v fr d) : Wf f gh Φ' H' σ e ∧ RK f gh Φ' H' σ e v (if fr then .fr else .fz, d) := by
  refine ⟨w.grow g, ?_⟩
  cases fr with
  | false =>
    have r' : Rep f.toKx Φ' v d := by simpa [RV] using r
    exact r'
  | true =>
    simp only [RV, if_true] at r
    obtain ⟨p, o, rfl, n, n2, h, ro⟩ := r
    refine ⟨p, o, rfl, n2, h, ro, w.i4 p n, fun i l d' he hs => ?_, fun o' ho => by rw [(w.gd p o' ho).2.1] at n; cases n⟩
    obtain ⟨a, o', e1, _, e2, _⟩ := w.sl i _ he
    rw [hs] at e1; cases e1
    rw [n] at e2; cases e2
theorem out_ok {r : Out} {Q : VK} (w : Wf f gh Φ H σ e) (h : Pst f W gh σ (out r e) Φ fun Φ' H' e' x => ∀ v, RK f gh Φ' H' σ e' v x → Q v H') : ∃ fr d, r = some (fr, d) ∧ Beh f.toKx Φ H fr d Q := by
  cases r with
  | none => exact h.elim
  | some x =>
    obtain ⟨fr, d⟩ := x
    refine ⟨fr, d, rfl, fun Φ' H' v g rv => ?_⟩
    obtain ⟨w', r'⟩ := rk_of w g rv
    cases fr with
    | false => exact h Φ' H' g.s1 w' v r'
    | true => exact h Φ' H' g.s1 w' v r'
theorem pure_ok {d : D} {Q : VK} {v : V} (w : Wf f gh Φ H σ e) (h : Pst f W gh σ (M.pure (Kd.fz, d) e) Φ fun Φ' H' e' x => ∀ v, RK f gh Φ' H' σ e' v x → Q v H') (r : Rep f.toKx Φ v d) : Q v H := h Φ H (Same.refl _) w v r

theorem se_var {i : Nat} {x : Str} {pos : Pos} (hN : X.N[i]? = some x) (hv : Vis X.env.scope x) (hd : (x == ("__debug__" : Str)) = false) (hcd : (x == ("__classdict__" : Str)) = false) : PE X (.Name x pos) (tF f W (ev cl (.var i))) := by
  refine PE.imp (pe_var hN hv hd hcd) fun σ H Q ⟨gh, Φ, e, w, h⟩ => ?_
  unfold ev at h
  split at h
  · rename_i l d hs
    obtain ⟨v, e1, r⟩ := w.sl i _ hs
    exact ⟨v, e1, h Φ H (Same.refl _) w v r⟩
  · rename_i l d hs
    obtain ⟨a, o, e1, n, e2, r, _⟩ := w.sl i _ hs
    exact ⟨_, e1, h Φ H (Same.refl _) w _ e1⟩
  · exact h.elim
theorem se_con {e : Expr} {v : V} {d : D} (h : PE X e (tC v)) (r : ∀ Φ, Same f.Φ0 Φ → Rep f.toKx Φ v d) : PE X e (tF f W (ev cl (.con d))) :=
  PE.imp h fun σ H Q ⟨gh, Φ, e, w, q⟩ => by
    unfold ev at q
    exact q Φ H (Same.refl _) w v (r Φ w.i1)

theorem se_bin {a b : Expr} {a' b' : E} {op : Operator} {pos : Pos} (S : Spot X) (ha : PE X a (tF f W (ev cl a'))) (hb : PE X b (tF f W (ev cl b'))) : PE X (.BinOp a op b pos) (tF f W (ev cl (.bin op a' b'))) := by
  refine PE.imp (pe_op (op_bin (k := f.toKx) S op) ha hb) fun σ H Q ⟨gh, Φ, e, w, h⟩ => ?_
  unfold ev at h
  refine tF.bindS w h fun Φ1 H1 e1 x v s1 w1 r1 h1 => ?_
  refine tF.bindS w1 h1 fun Φ2 H2 e2 y u s2 w2 r2 h2 => ?_
  obtain ⟨dx, px, h3⟩ := Pst.peekS w2 (r1.keep s2) h2
  obtain ⟨dy, py, h4⟩ := Pst.peekS w2 r2 h3
  obtain ⟨fr, d, e', b⟩ := out_ok w2 h4
  exact ⟨Φ2, dx, dy, fr, d, w2.i2, px, py, e', b⟩
theorem se_cmp {a b : Expr} {a' b' : E} {op : CmpOp} {pos : Pos} (S : Spot X) (ek : X.K = f.K) (ha : PE X a (tF f W (ev cl a'))) (hb : PE X b (tF f W (ev cl b'))) (hm : behindInMarks op b = false) : PE X (.Compare a [op] [b] pos) (tF f W (ev cl (.cmp op a' b'))) := by
  refine PE.imp (pe_cmpR (op_cop (k := f.toKx) S ek op) ha hb hm) fun σ H Q ⟨gh, Φ, e, w, h⟩ => ?_
  unfold ev at h
  refine tF.bindS w h fun Φ1 H1 e1 x v s1 w1 r1 h1 => ?_
  refine tF.bindS w1 h1 fun Φ2 H2 e2 y u s2 w2 r2 h2 => ?_
  obtain ⟨dx, px, h3⟩ := Pst.peekS w2 (r1.keep s2) h2
  obtain ⟨dy, py, h4⟩ := Pst.peekS w2 r2 h3
  obtain ⟨t, e', h5⟩ := Pst.opt h4
  exact ⟨Φ2, dx, dy, t, w2.i2, px, py, e', pure_ok w2 h5 (.bl t)⟩
/-- .. as a test -/
theorem st_cmp {a b : Expr} {a' b' : E} {op : CmpOp} {pos : Pos} (S : Spot X) (ek : X.K = f.K) (ha : PE X a (tF f W (ev cl a'))) (hb : PE X b (tF f W (ev cl b'))) (hm : behindInMarks op b = false) : PT X (.Compare a [op] [b] pos) (tFT f W (evT cl (.cmp op a' b'))) := by
  refine PT.imp (pt_cmpR (op_cop (k := f.toKx) S ek op) ha hb hm) fun σ H Q ⟨gh, Φ, e, w, h⟩ => ?_
  unfold evT ev at h
  simp only [M.assoc] at h
  refine tF.bindS w h fun Φ1 H1 e1 x v s1 w1 r1 h1 => ?_
  refine tF.bindS w1 h1 fun Φ2 H2 e2 y u s2 w2 r2 h2 => ?_
  obtain ⟨dx, px, h3⟩ := Pst.peekS w2 (r1.keep s2) h2
  obtain ⟨dy, py, h4⟩ := Pst.peekS w2 r2 h3
  obtain ⟨t, e', h5⟩ := Pst.opt h4
  exact ⟨Φ2, dx, dy, t, w2.i2, px, py, e', t, rfl, h5 Φ2 H2 (Same.refl _) w2⟩
theorem se_neg {a : Expr} {a' : E} {pos : Pos} (ha : PE X a (tF f W (ev cl a'))) : PE X (.UnaryOp .USub a pos) (tF f W (ev cl (.neg a'))) := by
  refine PE.imp (pe_un un_neg ha) fun σ H Q ⟨gh, Φ, e, w, h⟩ => ?_
  unfold ev at h
  refine tF.bindS w h fun Φ1 H1 e1 x v s1 w1 r1 h1 => ?_
  obtain ⟨d, px, h3⟩ := Pst.peekS w1 r1 h1
  cases d with
  | int i => exact ⟨i, px.int, pure_ok w1 h3 (.int _)⟩
  | _ => exact h3.elim
theorem se_not {a : Expr} {a' : E} {pos : Pos} (ek : X.K = f.K) (ha : PE X a (tF f W (ev cl a'))) : PE X (.UnaryOp .Not a pos) (tF f W (ev cl (.not a'))) := by
  refine PE.imp (pe_notT ha) fun σ H Q ⟨gh, Φ, e, w, h⟩ => ?_
  unfold ev at h
  refine tF.bindS w h fun Φ1 H1 e1 x v s1 w1 r1 h1 => ?_
  obtain ⟨d, px, h3⟩ := Pst.peekS w1 r1 h1
  obtain ⟨t, e', h5⟩ := Pst.opt h3
  exact ⟨t, tru_of w1.i2 ek px e', pure_ok w1 h5 (.bl _)⟩
theorem se_and {a b : Expr} {rest : List Expr} {a' b' : E} {pos : Pos} (ek : X.K = f.K) (ha : PE X a (tF f W (ev cl a'))) (hb : PE X (.BoolOp .And (b :: rest) pos) (tF f W (ev cl b'))) : PE X (.BoolOp .And (a :: b :: rest) pos) (tF f W (ev cl (.and a' b'))) := by
  refine PE.imp (pe_andT ha hb) fun σ H Q ⟨gh, Φ, e, w, h⟩ => ?_
  unfold ev at h
  refine tF.bindS w h fun Φ1 H1 e1 x v s1 w1 r1 h1 => ?_
  obtain ⟨d, px, h3⟩ := Pst.peekS w1 r1 h1
  obtain ⟨t, e', h5⟩ := Pst.opt h3
  refine ⟨t, tru_of w1.i2 ek px e', ?_⟩
  cases t with
  | true => exact iteT ⟨gh, Φ1, e1, w1, h5⟩
  | false => exact iteF (h5 Φ1 H1 (Same.refl _) w1 v r1)
theorem se_or {a b : Expr} {rest : List Expr} {a' b' : E} {pos : Pos} (ek : X.K = f.K) (ha : PE X a (tF f W (ev cl a'))) (hb : PE X (.BoolOp .Or (b :: rest) pos) (tF f W (ev cl b'))) : PE X (.BoolOp .Or (a :: b :: rest) pos) (tF f W (ev cl (.or a' b'))) := by
  refine PE.imp (pe_orT ha hb) fun σ H Q ⟨gh, Φ, e, w, h⟩ => ?_
  unfold ev at h
  refine tF.bindS w h fun Φ1 H1 e1 x v s1 w1 r1 h1 => ?_
  obtain ⟨d, px, h3⟩ := Pst.peekS w1 r1 h1
  obtain ⟨t, e', h5⟩ := Pst.opt h3
  refine ⟨t, tru_of w1.i2 ek px e', ?_⟩
  cases t with
  | true => exact iteT (h5 Φ1 H1 (Same.refl _) w1 v r1)
  | false => exact iteF ⟨gh, Φ1, e1, w1, h5⟩
theorem st_not {a : Expr} {a' : E} {pos : Pos} (ha : PT X a (tFT f W (evT cl a'))) : PT X (.UnaryOp .Not a pos) (tFT f W (evT cl (.not a'))) := by
  refine PT.imp (pt_not ha) fun σ H Q ⟨gh, Φ, e, w, h⟩ => ?_
  unfold evT at h
  exact tFT.bind w h fun Φ1 H1 e1 t s1 w1 h1 => h1 Φ1 H1 (Same.refl _) w1
theorem sw_and {a b : Expr} {rest : List Expr} {a' b' : E} {pos : Pos} (ha : PT X a (tFT f W (evT cl a'))) (hb : PW X (.BoolOp .And (b :: rest) pos) (tFT f W (evT cl b'))) : PW X (.BoolOp .And (a :: b :: rest) pos) (tFT f W (evT cl (.and a' b'))) := by
  have q := pw_and (pos := pos) ha hb
  refine ⟨fun wh pins s σ H Q I ⟨gh, Φ, e, w, h⟩ => q.run wh pins s σ H Q I ?_⟩
  unfold evT at h
  refine tFT.bind w h fun Φ1 H1 e1 t s1 w1 h1 => ?_
  cases t with
  | true => exact iteT ⟨gh, Φ1, e1, w1, h1⟩
  | false => exact iteF (h1 Φ1 H1 (Same.refl _) w1)
theorem sw_or {a b : Expr} {rest : List Expr} {a' b' : E} {pos : Pos} (ha : PT X a (tFT f W (evT cl a'))) (hb : PW X (.BoolOp .Or (b :: rest) pos) (tFT f W (evT cl b'))) : PW X (.BoolOp .Or (a :: b :: rest) pos) (tFT f W (evT cl (.or a' b'))) := by
  have q := pw_or (pos := pos) ha hb
  refine ⟨fun wh pins s σ H Q I ⟨gh, Φ, e, w, h⟩ => q.run wh pins s σ H Q I ?_⟩
  unfold evT at h
  refine tFT.bind w h fun Φ1 H1 e1 t s1 w1 h1 => ?_
  cases t with
  | true => exact iteT (h1 Φ1 H1 (Same.refl _) w1)
  | false => exact iteF ⟨gh, Φ1, e1, w1, h1⟩
/-- an expression of no special form as a test -/
theorem st_val {a : Expr} {a' : E} (ek : X.K = f.K) (ha : PE X a (tF f W (ev cl a'))) (he : ∀ whole, isTrue a X.env whole = (do let v ← whole; standAt a.pos; holding [v] (truthy v)))
    (hp : evT cl a' = M.bind (ev cl a') fun x => M.bind (peek x) fun d => opt (truth d)) : PT X a (tFT f W (evT cl a')) := by
  refine PT.imp (pt_truth ha he) fun σ H Q ⟨gh, Φ, e, w, h⟩ => ?_
  rw [hp] at h
  refine tF.bindS w h fun Φ1 H1 e1 x v s1 w1 r1 h1 => ?_
  obtain ⟨d, px, h3⟩ := Pst.peekS w1 r1 h1
  cases q : truth d with
  | none => rw [q] at h3; exact h3.elim
  | some t => rw [q] at h3; exact ⟨t, tru_of w1.i2 ek px q, h3 Φ1 H1 (Same.refl _) w1⟩
theorem se_ite {c a b : Expr} {c' a' b' : E} {pos : Pos} (hc : PT X c (tFT f W (evT cl c'))) (ha : PE X a (tF f W (ev cl a'))) (hb : PE X b (tF f W (ev cl b'))) : PE X (.IfExp c a b pos) (tF f W (ev cl (.ite c' a' b'))) := by
  refine PE.imp (pe_ifExp hc ha hb) fun σ H Q ⟨gh, Φ, e, w, h⟩ => ?_
  unfold ev at h
  refine tFT.bind w h fun Φ1 H1 e1 t s1 w1 h1 => ?_
  cases t with
  | true => exact iteT ⟨gh, Φ1, e1, w1, h1⟩
  | false => exact iteF ⟨gh, Φ1, e1, w1, h1⟩
theorem st_ite {c a b : Expr} {c' a' b' : E} {pos : Pos} (hc : PT X c (tFT f W (evT cl c'))) (ha : PT X a (tFT f W (evT cl a'))) (hb : PT X b (tFT f W (evT cl b'))) : PT X (.IfExp c a b pos) (tFT f W (evT cl (.ite c' a' b'))) := by
  refine ⟨fun pins s σ H Q I ⟨gh, Φ, e, w, h⟩ => PyProof.Rows.isTrue_IfExp (thn (hc.run pins s σ H (fun t H1 => if t = true then tFT f W (evT cl a') σ H1 Q else tFT f W (evT cl b') σ H1 Q) I ?_) fun d s1 ⟨H1, I1, q1⟩ => ?_)⟩
  · unfold evT at h
    refine tFT.bind w h fun Φ1 H1 e1 t s1 w1 h1 => ?_
    cases t with
    | true => exact iteT ⟨gh, Φ1, e1, w1, h1⟩
    | false => exact iteF ⟨gh, Φ1, e1, w1, h1⟩
  · cases d with
    | true => exact ha.run pins s1 σ H1 Q I1 q1
    | false => exact hb.run pins s1 σ H1 Q I1 q1
theorem se_chain {a b c : Expr} {a' b' c' : E} {op op' : CmpOp} {pos : Pos} (S : Spot X) (ek : X.K = f.K) (ha : PE X a (tF f W (ev cl a'))) (hb : PE X b (tF f W (ev cl b'))) (hc : PE X c (tF f W (ev cl c')))
    (hm : lastMarks [op, op'] [b, c] = false) : PE X (.Compare a [op, op'] [b, c] pos) (tF f W (ev cl (.chain op op' a' b' c'))) := by
  refine PE.imp (pe_chain (op_cop (k := f.toKx) S ek op) (op_cop (k := f.toKx) S ek op') ha hb hc hm) fun σ H Q ⟨gh, Φ, e, w, h⟩ => ?_
  unfold ev at h
  refine tF.bindS w h fun Φ1 H1 e1 x v s1 w1 r1 h1 => ?_
  refine tF.bindS w1 h1 fun Φ2 H2 e2 y u s2 w2 r2 h2 => ?_
  obtain ⟨dx, px, h3⟩ := Pst.peekS w2 (r1.keep s2) h2
  obtain ⟨dy, py, h4⟩ := Pst.peekS w2 r2 h3
  obtain ⟨t, e', h5⟩ := Pst.opt h4
  refine ⟨Φ2, dx, dy, t, w2.i2, px, py, e', t, rfl, ?_⟩
  cases t with
  | false => exact iteF (pure_ok w2 h5 (.bl _))
  | true =>
    refine iteT (tF.bindS w2 h5 fun Φ3 H3 e3 z v3 s3 w3 r3 h6 => ?_)
    obtain ⟨dy', py', h7⟩ := Pst.peekS w3 (r2.keep s3) h6
    obtain ⟨dz, pz, h8⟩ := Pst.peekS w3 r3 h7
    obtain ⟨t', e'', h9⟩ := Pst.opt h8
    exact ⟨Φ3, dy', dz, t', w3.i2, py', pz, e'', pure_ok w3 h9 (.bl t')⟩
theorem st_chain {a b c : Expr} {a' b' c' : E} {op op' : CmpOp} {pos : Pos} (S : Spot X) (ek : X.K = f.K) (ha : PE X a (tF f W (ev cl a'))) (hb : PE X b (tF f W (ev cl b'))) (hc : PE X c (tF f W (ev cl c')))
    (hm : lastMarks [op, op'] [b, c] = false) : PT X (.Compare a [op, op'] [b, c] pos) (tFT f W (evT cl (.chain op op' a' b' c'))) := by
  refine PT.imp (pt_chain (op_cop (k := f.toKx) S ek op) (op_cop (k := f.toKx) S ek op') ha hb hc hm) fun σ H Q ⟨gh, Φ, e, w, h⟩ => ?_
  unfold evT ev at h
  simp only [M.assoc] at h
  refine tF.bindS w h fun Φ1 H1 e1 x v s1 w1 r1 h1 => ?_
  refine tF.bindS w1 h1 fun Φ2 H2 e2 y u s2 w2 r2 h2 => ?_
  obtain ⟨dx, px, h3⟩ := Pst.peekS w2 (r1.keep s2) h2
  obtain ⟨dy, py, h4⟩ := Pst.peekS w2 r2 h3
  obtain ⟨t, e', h5⟩ := Pst.opt h4
  refine ⟨Φ2, dx, dy, t, w2.i2, px, py, e', t, rfl, ?_⟩
  cases t with
  | false => exact iteF ⟨false, rfl, h5 Φ2 H2 (Same.refl _) w2⟩
  | true =>
    simp only [if_true, M.assoc] at h5
    refine iteT (tF.bindS w2 h5 fun Φ3 H3 e3 z v3 s3 w3 r3 h6 => ?_)
    obtain ⟨dy', py', h7⟩ := Pst.peekS w3 (r2.keep s3) h6
    obtain ⟨dz, pz, h8⟩ := Pst.peekS w3 r3 h7
    obtain ⟨t', e'', h9⟩ := Pst.opt h8
    exact ⟨Φ3, dy', dz, t', w3.i2, py', pz, e'', t', rfl, h9 Φ3 H3 (Same.refl _) w3⟩

theorem se_ix {a b : Expr} {a' b' : E} {pos : Pos} (ek : X.K = f.K) (ha : PE X a (tF f W (ev cl a'))) (hb : PE X b (tF f W (ev cl b'))) (hs : PlainIx b) : PE X (.Subscript a b pos) (tF f W (ev cl (.ix a' b'))) := by
  refine PE.imp (pe_ix (ix_deep (k := f.toKx) ek) ha hb hs) fun σ H Q ⟨gh, Φ, e, w, h⟩ => ?_
  unfold ev at h
  refine tF.bindS w h fun Φ1 H1 e1 x v s1 w1 r1 h1 => ?_
  refine tF.bindS w1 h1 fun Φ2 H2 e2 y u s2 w2 r2 h2 => ?_
  obtain ⟨dx, px, h3⟩ := Pst.peekS w2 (r1.keep s2) h2
  obtain ⟨dy, py, h4⟩ := Pst.peekS w2 r2 h3
  obtain ⟨d, e', h5⟩ := Pst.opt h4
  exact ⟨Φ2, dx, dy, d, w2.i2, px, py, e', fun v' r' => pure_ok w2 h5 r'⟩
def tFO (f : Fm) (W : WX) (m : M (Option Int)) : TO := fun σ H Q => ∃ gh Φ e, Wf f gh Φ H σ e ∧ Pst f W gh σ (m e) Φ fun Φ' H' e' o => Q o H'
theorem so_none : PO X none (tFO f W (evO cl (.con .non))) := PO.imp po_none fun σ H Q ⟨gh, Φ, e, w, h⟩ => by
  rw [evO.eq_1] at h
  exact h Φ H (Same.refl _) w
theorem so_some {a : Expr} {a' : E} (hn : a' ≠ .con .non) (ha : PE X a (tF f W (ev cl a'))) : PO X (some a) (tFO f W (evO cl a')) := by
  refine PO.imp (po_some ha) fun σ H Q ⟨gh, Φ, e, w, h⟩ => ?_
  rw [evO.eq_2 cl a' hn] at h
  refine tF.bindS w h fun Φ1 H1 e1 x v s1 w1 r1 h1 => ?_
  obtain ⟨d, px, h3⟩ := Pst.peekS w1 r1 h1
  obtain ⟨i, e', h5⟩ := Pst.opt h3
  cases d with
  | int j => cases e'; exact ⟨_, px.int, h5 Φ1 H1 (Same.refl _) w1⟩
  | _ => cases e'
theorem se_slc {a : Expr} {lo hi : Option Expr} {a' l' h' : E} {p2 pos : Pos} (ek : X.K = f.K) (ha : PE X a (tF f W (ev cl a'))) (hl : PO X lo (tFO f W (evO cl l'))) (hh : PO X hi (tFO f W (evO cl h'))) : PE X (.Subscript a (.Slice lo hi none p2) pos) (tF f W (ev cl (.slc a' l' h'))) := by
  refine PE.imp (pe_slice (sl_deep (k := f.toKx) ek) ha hl hh) fun σ H Q ⟨gh, Φ, e, w, h⟩ => ?_
  unfold ev at h
  refine tF.bindS w h fun Φ1 H1 e1 x v s1 w1 r1 h1 => ?_
  refine ⟨gh, Φ1, e1, w1, Pst.mono (Pst.bind h1) (Same.refl _) fun Φ2 H2 e2 l s2 w2 h2 => ?_⟩
  refine ⟨gh, Φ2, e2, w2, Pst.mono (Pst.bind h2) (Same.refl _) fun Φ3 H3 e3 u s3 w3 h3 => ?_⟩
  obtain ⟨dx, px, h4⟩ := Pst.peekS w3 (r1.keep (s2.trans s3)) h3
  obtain ⟨fr, d, e', b⟩ := out_ok w3 h4
  exact ⟨Φ3, dx, fr, d, w3.i2, px, e', b⟩
theorem se_rev {a : Expr} {a' : E} {k : Nat} {p1 p2 p3 pos : Pos} (ek : X.K = f.K) (ha : PE X a (tF f W (ev cl a'))) : PE X (.Subscript a (.Slice none none (some (.UnaryOp .USub (.Constant (.int 1) k p1) p2)) p3) pos) (tF f W (ev cl (.rev a'))) := by
  refine PE.imp (pe_revL ha) fun σ H Q ⟨gh, Φ, e, w, h⟩ => ?_
  unfold ev at h
  refine tF.bindS w h fun Φ1 H1 e1 x v s1 w1 r1 h1 => ?_
  obtain ⟨d, px, h3⟩ := Pst.peekS w1 r1 h1
  cases d with
  | lst ds =>
    obtain ⟨a, xs, rfl, q, r⟩ := px.lst w1.i2
    refine ⟨a, xs, rfl, SqL.of q, fun p hp => ?_⟩
    obtain ⟨_, _, e', b⟩ := out_ok (r := some (true, .lst ds.reverse)) w1 h3
    cases e'
    exact b.new w1.i2 hp (.lst r.rev)
  | _ => exact h3.elim

theorem sa_nil : PA X [] (tFs f W (evs cl [])) := PA.imp pa_nil fun σ H Q ⟨gh, Φ, e, w, h⟩ => by
  unfold evs at h
  exact h Φ H (Same.refl _) w [] .nil
theorem sa_cons {a : Expr} {as : List Expr} {a' : E} {as' : List E} (ha : PE X a (tF f W (ev cl a'))) (hr : PA X as (tFs f W (evs cl as'))) (hs : starEach (a :: as) X.env = (false, eval a X.env) :: starEach as X.env) :
    PA X (a :: as) (tFs f W (evs cl (a' :: as'))) := by
  refine PA.imp (pa_cons ha hr hs) fun σ H Q ⟨gh, Φ, e, w, h⟩ => ?_
  unfold evs at h
  refine tF.bind w h fun Φ1 H1 e1 x v s1 w1 r1 h1 => ?_
  obtain ⟨Φ2, e2, d, s2, w2, rp, h2⟩ := Pst.freeze w1 r1 h1
  refine ⟨gh, Φ2, e2, w2, Pst.mono (Pst.bind h2) (Same.refl _) fun Φ3 H3 e3 ds s3 w3 h3 vs rs => ?_⟩
  exact h3 Φ3 H3 (Same.refl _) w3 (v :: vs) (.cons (rp.mono s3) rs)
theorem tFs.bind {m : M (List D)} {g : List D → M β} {N : Hp → Hp → Ev → β → Prop} {Q : List V → Hp → Prop} (w : Wf f gh Φ H σ e) (h : Pst f W gh σ (M.bind m g e) Φ N)
    (q : ∀ Φ1 H1 e1 ds vs, Same Φ Φ1 → Wf f gh Φ1 H1 σ e1 → RepL f.toKx Φ1 vs ds → Pst f W gh σ (g ds e1) Φ1 N → Q vs H1) : tFs f W m σ H Q :=
  ⟨gh, Φ, e, w, Pst.mono (Pst.bind h) (Same.refl _) fun Φ1 H1 e1 ds s1 w1 z vs r => q Φ1 H1 e1 ds vs s1 w1 r z⟩
theorem se_tup {as : List Expr} {as' : List E} {k : Nat} {pos : Pos} (ha : PA X as (tFs f W (evs cl as'))) : PE X (.Tuple as k pos) (tF f W (ev cl (.tup as'))) := by
  refine PE.imp (pe_tup ha) fun σ H Q ⟨gh, Φ, e, w, h⟩ => ?_
  unfold ev at h
  refine tFs.bind w h fun Φ1 H1 e1 ds vs s1 w1 r1 h1 => ?_
  split at h1
  · rename_i hl
    obtain ⟨_, _, e', b⟩ := out_ok (r := some (false, .tup ds)) w1 h1
    cases e'
    exact ⟨by rw [r1.length]; exact of_decide_eq_true hl, fun p hp => b.tup w1.i2 hp r1⟩
  · exact h1.elim
theorem se_lst {as : List Expr} {as' : List E} {pos : Pos} (ha : PA X as (tFs f W (evs cl as'))) : PE X (.List as pos) (tF f W (ev cl (.lst as'))) := by
  refine PE.imp (pe_lst ha) fun σ H Q ⟨gh, Φ, e, w, h⟩ => ?_
  unfold ev at h
  refine tFs.bind w h fun Φ1 H1 e1 ds vs s1 w1 r1 h1 => ?_
  split at h1
  · rename_i hl
    obtain ⟨_, _, e', b⟩ := out_ok (r := some (true, .lst ds)) w1 h1
    cases e'
    exact ⟨by rw [r1.length]; exact of_decide_eq_true hl, fun p hp => b.new w1.i2 hp (.lst r1)⟩
  · exact h1.elim
end
end Pm
namespace Pm
open PySem PySem.Spec PyProof.Rows L2

section
variable {X : Cx} {f : Fm} {W : WX} {gh : List (Addr × HO)} {Φ Φ' H H' : Hp} {σ : L2.St} {e : Ev} {α β : Type} {cl : Cl}
theorem RKs.keep {vs : List V} {xs : List KD} {e' : Ev} (s : Same Φ Φ') (r : RKs f gh Φ H σ e vs xs) : RKs f gh Φ' H' σ e' vs xs := by
  induction r with
  | nil => exact .nil
  | cons a _ ih => exact .cons (a.keep s) ih
theorem sp_nil : PA X [] (tFA f W (evPs cl [])) := PA.imp pa_nil fun σ H Q ⟨gh, Φ, e, w, h⟩ => by
  unfold evPs at h
  exact h Φ H (Same.refl _) w [] .nil
theorem sp_cons {a : Expr} {as : List Expr} {a' : E} {as' : List E} (ha : PE X a (tF f W (ev cl a'))) (hr : PA X as (tFA f W (evPs cl as'))) (hs : starEach (a :: as) X.env = (false, eval a X.env) :: starEach as X.env) :
    PA X (a :: as) (tFA f W (evPs cl (a' :: as'))) := by
  refine PA.imp (pa_cons ha hr hs) fun σ H Q ⟨gh, Φ, e, w, h⟩ => ?_
  unfold evPs at h
  refine tF.bindS w h fun Φ1 H1 e1 x v s1 w1 r1 h1 => ?_
  refine ⟨gh, Φ1, e1, w1, Pst.mono (Pst.bind h1) (Same.refl _) fun Φ3 H3 e3 ds s3 w3 h3 vs rs => ?_⟩
  exact h3 Φ3 H3 (Same.refl _) w3 (v :: vs) (.cons (r1.keep s3) rs)
theorem tFA.bind {m : M (List KD)} {g : List KD → M β} {N : Hp → Hp → Ev → β → Prop} {Q : List V → Hp → Prop} (w : Wf f gh Φ H σ e) (h : Pst f W gh σ (M.bind m g e) Φ N)
    (q : ∀ Φ1 H1 e1 xs vs, Same Φ Φ1 → Wf f gh Φ1 H1 σ e1 → RKs f gh Φ1 H1 σ e1 vs xs → Pst f W gh σ (g xs e1) Φ1 N → Q vs H1) : tFA f W m σ H Q :=
  ⟨gh, Φ, e, w, Pst.mono (Pst.bind h) (Same.refl _) fun Φ1 H1 e1 ds s1 w1 z vs r => q Φ1 H1 e1 ds vs s1 w1 r z⟩
theorem Pst.peeks {N : Hp → Hp → Ev → β → Prop} (w : Wf f gh Φ H σ e) : ∀ {vs : List V} {xs : List KD} {g : List D → M β}, RKs f gh Φ H σ e vs xs → Pst f W gh σ (M.bind (Pm.peeks xs) g e) Φ N → ∃ ds, PRs f.toKx Φ H vs ds ∧ Pst f W gh σ (g ds e) Φ N
  | _, _, g, .nil, h => ⟨[], .nil, by simpa only [Pm.peeks, M.left] using h⟩
  | _, _, g, .cons a r, h => by
    simp only [Pm.peeks, M.assoc] at h
    obtain ⟨d, p, h1⟩ := Pst.peek w a h
    obtain ⟨ds, ps, h2⟩ := Pst.peeks w r h1
    exact ⟨d :: ds, .cons p ps, h2⟩

theorem se_biB {b : String} {x : Str} {a : Expr} {as : List Expr} {es' : List E} {p pos : Pos} (S : Spot X) (ek : X.K = f.K) (hb : bfn b = .builtin b) (hg : Gl X x) (hm : X.mg x = none) (hv : bootBuiltins x = some (.builtin b))
    (hn : x ≠ "__name__") (hdb : (x == ("__debug__" : Str)) = false) (ha : PA X (a :: as) (tFA f W (evPs cl es')))
    (he : starEach (a :: as) X.env = (false, eval a X.env) :: starEach as X.env) (hpl : (backTo pos (starEach as X.env)).any (·.1) = false) : PE X (.Call (.Name x p) (a :: as) [] pos) (tF f W (ev cl (.bi b es'))) := by
  refine PE.imp (pe_callB (hb ▸ call_bi (k := f.toKx) S ek b) hg hm hv ha hn hdb he hpl) fun σ H Q ⟨gh, Φ, e, w, h⟩ => ?_
  unfold ev at h
  refine tFA.bind w h fun Φ1 H1 e1 xs vs s1 w1 r1 h1 => ?_
  obtain ⟨ds, ps, h2⟩ := Pst.peeks w1 r1 h1
  obtain ⟨fr, d, e', b'⟩ := out_ok w1 h2
  exact ⟨Φ1, ds, fr, d, w1.i2, ps, e', b'⟩
theorem se_biT {b : String} {x : Str} {a : Expr} {as : List Expr} {es' : List E} {p pos : Pos} (S : Spot X) (ek : X.K = f.K) (hb : bfn b = .type b) (hg : Gl X x) (hm : X.mg x = none) (hv : bootBuiltins x = some (.type b))
    (hn : x ≠ "__name__") (hdb : (x == ("__debug__" : Str)) = false) (ha : PA X (a :: as) (tFA f W (evPs cl es')))
    (he : starEach (a :: as) X.env = (false, eval a X.env) :: starEach as X.env) (hpl : (backTo pos (starEach as X.env)).any (·.1) = false) : PE X (.Call (.Name x p) (a :: as) [] pos) (tF f W (ev cl (.bi b es'))) := by
  refine PE.imp (pe_callTy (hb ▸ call_bi (k := f.toKx) S ek b) hg hm hv ha hn hdb he hpl) fun σ H Q ⟨gh, Φ, e, w, h⟩ => ?_
  unfold ev at h
  refine tFA.bind w h fun Φ1 H1 e1 xs vs s1 w1 r1 h1 => ?_
  obtain ⟨ds, ps, h2⟩ := Pst.peeks w1 r1 h1
  obtain ⟨fr, d, e', b'⟩ := out_ok w1 h2
  exact ⟨Φ1, ds, fr, d, w1.i2, ps, e', b'⟩

theorem ty_of {k : Kx} {v : V} {d : D} (sm : Same Φ H) (ek : X.K = k.K) (h : PR k Φ H v d) (hd : ∀ C fs vs, d ≠ .ins C fs vs) : TyX X.K H v (.type (tyD d)) := by
  cases d with
  | non => obtain rfl := h.non; exact .base .non
  | bl b => obtain rfl := h.bl; exact .base (.bl b)
  | int i => obtain rfl := h.int; exact .base (.int i)
  | str x => obtain rfl := h.str; exact .base (.str x)
  | lst xs => obtain ⟨a, ys, rfl, q, _⟩ := h.lst sm; exact .base (.lst q)
  | tup xs =>
    obtain ⟨a, ys, rfl, q, _⟩ := h.tup sm
    rcases q with (q | ⟨o, q⟩) | ⟨o, its, n, hk, hc, _⟩
    · exact .base (.tup q)
    · exact .fTuple q
    · exact .kTuple (ek ▸ hk) hc
  | scr xs =>
    obtain ⟨a, ys, rfl, q, _⟩ := h.scr sm
    rcases q with (q | ⟨o, q⟩) | ⟨o, its, n, hk, hc, _⟩
    · exact .base (.lst q)
    · exact .base (.frz q)
    · exact .kList (ek ▸ hk) hc
  | dct ks vs => obtain ⟨a, kvs, rfl, q, _⟩ := h.dct sm; exact .base (.dK q)
  | ins C fs vs => exact (hd C fs vs rfl).elim
theorem se_isi {a : Expr} {a' : E} {x y : Str} {ty : String} {p p2 pos : Pos} (ek : X.K = f.K) (hx : x = "isinstance") (hg : Gl X x) (hm : X.mg x = none) (hgy : Gl X y) (hmy : X.mg y = none) (hvy : bootBuiltins y = some (.type ty))
    (hny : y ≠ "__name__") (hdy : (y == ("__debug__" : Str)) = false) (ha : PE X a (tF f W (ev cl a')))
    (he : starEach [a, .Name y p2] X.env = (false, eval a X.env) :: starEach [.Name y p2] X.env) : PE X (.Call (.Name x p) [a, .Name y p2] [] pos) (tF f W (ev cl (.isi a' ty))) := by
  subst hx
  have hA : PA X [a, .Name y p2] _ := pa_cons ha (pa_cons (pe_bltn (v := .ty ty) hgy hmy hvy rfl hny hdy) pa_nil) he
  refine PE.imp (pe_callB call_isi hg hm (by decide +kernel) hA (by decide) (by decide) he rfl) fun σ H Q ⟨gh, Φ, e, w, h⟩ => ?_
  unfold ev at h
  refine tF.bindS w h fun Φ1 H1 e1 v u s1 w1 r1 h1 => ?_
  obtain ⟨d, px, h3⟩ := Pst.peekS w1 r1 h1
  obtain ⟨t, e', h5⟩ := Pst.opt h3
  refine ⟨u, .ty ty, .type (tyD d), .type ty, t, rfl, .ty ty, ?_, ?_, pure_ok w1 h5 (.bl t)⟩
  · exact ty_of w1.i2 ek px (fun C fs vs q => by subst q; cases e')
  · apply kit_ty
    cases d with
    | ins _ _ _ => cases e'
    | _ => exact e'

theorem se_upper {o : Expr} {o' : E} {apos pos : Pos} (ho : PE X o (tF f W (ev cl o'))) (hbase : attributeBase o "upper" X.env (eval o X.env) = eval o X.env) (hline : (apos.endLine == pos.line) = true) :
    PE X (.Call (.Attribute o "upper" apos) [] [] pos) (tF f W (ev cl (.me "upper" o' []))) := by
  refine PE.imp (pe_upper ho hbase hline) fun σ H Q ⟨gh, Φ, e, w, h⟩ => ?_
  unfold ev at h
  refine tF.bindS w h fun Φ1 H1 e1 v u s1 w1 r1 h1 => ?_
  obtain ⟨d, px, h3⟩ := Pst.peekS w1 r1 h1
  cases d with
  | str x =>
    obtain rfl := px.str
    simp only [evPs, peeks, M.left] at h3
    obtain ⟨fr, d', e', b⟩ := out_ok w1 h3
    simp only [med] at e'
    split at e'
    · rename_i hc
      cases e'
      exact ⟨⟨x, rfl⟩, x, rfl, rfl, of_decide_eq_true hc, b.plain w1.i2 (.str _)⟩
    · cases e'
  | _ => exact h3.elim
theorem med1 {m : String} {x : Str} {ds : List D} {fr : Bool} {d : D} (h : med m x ds = some (fr, d)) (hm : m = "join") : ∃ ys ss, ds = [.lst ys] ∧ allS ys = some ss ∧ (ss.map Str.length).sum + ss.length * x.length ≤ 16777216 ∧ fr = false ∧ d = .str (Txt.join x ss) := by
  subst hm
  unfold med at h
  split at h
  · rename_i q; exact absurd q (by decide)
  · rename_i ys q
    cases e : allS ys with
    | none => rw [e] at h; cases h
    | some ss =>
      rw [e] at h
      simp only at h
      split at h
      · rename_i hc
        cases h
        exact ⟨ys, ss, rfl, e, of_decide_eq_true hc, rfl, rfl⟩
      · cases h
  · cases h
theorem se_join {o a : Expr} {o' a' : E} {apos pos : Pos} (ho : PE X o (tF f W (ev cl o'))) (ha : PE X a (tF f W (ev cl a'))) (hs : starEach [a] X.env = [(false, eval a X.env)])
    (hbase : attributeBase o "join" X.env (eval o X.env) = eval o X.env) (hline : (apos.endLine == pos.line) = true) :
    PE X (.Call (.Attribute o "join" apos) [a] [] pos) (tF f W (ev cl (.me "join" o' [a']))) := by
  refine PE.imp (pe_join ho ha hs hbase hline) fun σ H Q ⟨gh, Φ, e, w, h⟩ => ?_
  unfold ev at h
  refine tF.bindS w h fun Φ1 H1 e1 v u s1 w1 r1 h1 => ?_
  obtain ⟨d, px, h3⟩ := Pst.peekS w1 r1 h1
  cases d with
  | str x =>
    obtain rfl := px.str
    simp only [evPs, M.assoc, M.left] at h3
    refine ⟨⟨x, rfl⟩, tF.bindS w1 h3 fun Φ2 H2 e2 z y s2 w2 r2 h4 => ?_⟩
    simp only [peeks, M.assoc, M.left, peek_soft] at h4
    obtain ⟨dy, py, h5⟩ := Pst.peekS w2 r2 h4
    obtain ⟨fr, d', e', b⟩ := out_ok w2 h5
    obtain ⟨ys, ss, q1, q2, q3, rfl, rfl⟩ := med1 e' rfl
    cases q1
    obtain ⟨p, xs, rfl, hq, rr⟩ := py.lst w2.i2
    obtain rfl := allS_rep rr q2
    exact ⟨x, p, ss, rfl, rfl, .inl (SqL.of hq), q3, b.plain w2.i2 (.str _)⟩
  | _ => exact h3.elim
end
end Pm
namespace Pm
open PySem PySem.Spec PyProof.Rows L2

section
variable {X : Cx} {f : Fm} {W : WX} {gh : List (Addr × HO)} {Φ Φ' H H' : Hp} {σ : L2.St} {e : Ev} {α β : Type} {cl : Cl}

theorem Wf.setFz {i : Nat} {d : D} {v : V} {e' : Ev} (w : Wf f gh Φ H σ e) (h : setFz i d e = .ok () e') (r : Rep f.toKx Φ v d) : Wf f gh Φ H (σ.set i (some v)) e' := by
  unfold Pm.setFz at h
  have key : ∀ s, e[i]? = some s → (∀ d, s ≠ .ow false d) → (∀ d, s ≠ .fz false d) → e' = e.set i (.fz true d) → Wf f gh Φ H (σ.set i (some v)) e' := by
    intro s hs n1 n2 he
    subst he
    have hi : i < e.length := (List.getElem?_eq_some_iff.mp hs).1
    have hi' : i < σ.length := w.ln ▸ hi
    refine ⟨w.i1, w.i2, w.i3, w.i4, w.i5, fun j t ht => ?_, fun j m lj lm dj dm b hj hm sj sm => ?_, by rw [List.length_set, List.length_set]; exact w.ln, w.gd, fun j l d' a o hj sj => ?_, fun j a hl => ?_⟩
    · by_cases hj : j = i
      · subst hj
        rw [List.getElem?_set_self hi] at ht
        cases ht
        exact ⟨v, by rw [List.getElem?_set_self hi'], r⟩
      · rw [List.getElem?_set_ne (Ne.symm hj)] at ht ⊢
        exact w.sl j t ht
    · have nj : j ≠ i := fun q => by subst q; rw [List.getElem?_set_self hi] at hj; cases hj
      have nm : m ≠ i := fun q => by subst q; rw [List.getElem?_set_self hi] at hm; cases hm
      rw [List.getElem?_set_ne (Ne.symm nj)] at hj sj
      rw [List.getElem?_set_ne (Ne.symm nm)] at hm sm
      exact w.ap j m _ _ _ _ b hj hm sj sm
    · have nj : j ≠ i := fun q => by subst q; rw [List.getElem?_set_self hi] at hj; cases hj
      rw [List.getElem?_set_ne (Ne.symm nj)] at hj sj
      exact w.ga j l d' a o hj sj
    · obtain ⟨h1, d', h2⟩ := w.lt j a hl
      have nj : j ≠ i := by
        rintro rfl
        rw [hs] at h2
        rcases h2 with h2 | h2
        · exact n1 _ (Option.some.inj h2)
        · exact n2 _ (Option.some.inj h2)
      rw [List.getElem?_set_ne (Ne.symm nj), List.getElem?_set_ne (Ne.symm nj)]
      exact ⟨h1, d', h2⟩
  split at h
  · cases h
  · cases h
  · rename_i s n1 n2 hs
    cases h
    exact key s hs (fun d q => n1 d q) (fun d q => n2 d q) rfl
  · cases h
def gsOf : List Nat → TGs
  | [] => gNil
  | i :: is => gCons (gName i) (gsOf is)
def gOf (K : PySem.W.Frag) : Tg → TG
  | .nm i => gName i
  | .tp is => gTup K is.length (gsOf is)
/-- slots that agree but at some places -/
structure Kp (A : List Nat) (σ σ' : L2.St) : Prop where
  ln : σ'.length = σ.length
  at_ : ∀ j, j ∉ A → σ'[j]? = σ[j]?
theorem Kp.refl (A : List Nat) (σ : L2.St) : Kp A σ σ := ⟨rfl, fun _ _ => rfl⟩
theorem Kp.trans {A B : List Nat} {σ σ1 σ2 : L2.St} (a : Kp A σ σ1) (b : Kp B σ1 σ2) : Kp (A ++ B) σ σ2 := ⟨b.ln.trans a.ln, fun j h => by
  rw [List.mem_append, not_or] at h
  rw [b.at_ j h.2, a.at_ j h.1]⟩
theorem Kp.weak {A B : List Nat} {σ σ1 : L2.St} (a : Kp A σ σ1) (h : ∀ j, j ∈ A → j ∈ B) : Kp B σ σ1 := ⟨a.ln, fun j n => a.at_ j fun q => n (h j q)⟩
theorem Kp.symm {A : List Nat} {σ σ1 : L2.St} (a : Kp A σ σ1) : Kp A σ1 σ := ⟨a.ln.symm, fun j n => (a.at_ j n).symm⟩
theorem Kp.set {i : Nat} {v : Option V} {σ : L2.St} : Kp [i] σ (σ.set i v) := ⟨List.length_set, fun j h => by
  rw [List.getElem?_set_ne]
  intro z
  exact h (by simp [z])⟩
theorem setEach_ok : ∀ {is : List Nat} {ds : List D} {vs : List V} {σ : L2.St} {e e' : Ev} {Q : L2.St → Hp → Prop}, Wf f gh Φ H σ e → setEach is ds e = .ok () e' → RepL f.toKx Φ vs ds →
    (∀ σ', Wf f gh Φ H σ' e' → Kp is σ σ' → Q σ' H) → gsOf is vs σ H Q
  | [], [], vs, σ, e, e', Q, w, h, r, q => by
    cases r
    cases h
    exact ⟨rfl, q σ w (Kp.refl _ _)⟩
  | i :: is, d :: ds, vs, σ, e, e', Q, w, h, r, q => by
    cases r with
    | cons r rs =>
      rename_i v vs
      unfold setEach M.bind at h
      cases h1 : setFz i d e with
      | ok a e1 =>
        rw [h1] at h
        refine ⟨v, vs, rfl, ?_⟩
        exact setEach_ok (w.setFz h1 r) h rs fun σ' w' k' => q σ' w' (Kp.trans (A := [i]) Kp.set k')
      | ex _ _ => rw [h1] at h; cases h
      | bad => rw [h1] at h; cases h
  | [], _ :: _, _, _, _, _, _, _, h, _, _ => by cases h
  | _ :: _, [], _, _, _, _, _, _, h, _, _ => by cases h
theorem setEach_len : ∀ {is : List Nat} {ds : List D} {e e' : Ev}, setEach is ds e = .ok () e' → ds.length = is.length
  | [], [], _, _, _ => rfl
  | i :: is, d :: ds, e, e', h => by
    unfold setEach M.bind at h
    cases h1 : setFz i d e with
    | ok a e1 => rw [h1] at h; exact congrArg (· + 1) (setEach_len h)
    | ex _ _ => rw [h1] at h; cases h
    | bad => rw [h1] at h; cases h
  | [], _ :: _, _, _, h => by cases h
  | _ :: _, [], _, _, h => by cases h
theorem store_ok' {t : Tg} {d : D} {v : V} {e' : Ev} {Q : L2.St → Hp → Prop} (w : Wf f gh Φ H σ e) (h : store t d e = .ok () e') (r : Rep f.toKx Φ v d) (q : ∀ σ', Wf f gh Φ H σ' e' → Kp t.slots σ σ' → Q σ' H) : gOf f.K t v σ H Q := by
  cases t with
  | nm i =>
    exact q _ (w.setFz h r) Kp.set
  | tp is =>
    cases d with
    | tup ds =>
      cases r with
      | tup hq rs =>
        rename_i a xs
        exact ⟨a, xs, rfl, sqT_mono w.i2 hq, by rw [rs.length]; exact setEach_len h, setEach_ok w h rs q⟩
    | _ => cases h

def Wk (f : Fm) (Φ : Hp) (σ : L2.St) (J : L2.It) : Pm.It → Prop
  | .items ds => ∀ Φ2 H2, Same Φ Φ2 → Same Φ2 H2 → (∀ i d, ds[i]? = some d → J.go i H2 ∧ ∀ x H3, J.yld i H2 x H3 → ∃ Φ3, Gr Φ2 H2 Φ3 H3 ∧ Rep f.toKx Φ3 x d) ∧ ∀ i, ds.length ≤ i → J.stop i H2
  | .al i n => ∃ v, σ[i]? = some (some v) ∧ ∀ Φ2 H2 ds, Same Φ2 H2 → PR f.toKx Φ2 H2 v (.lst ds) → ds.length = n →
      (∀ j d, ds[j]? = some d → J.go j H2 ∧ ∀ x H3, J.yld j H2 x H3 → ∃ Φ3, Gr Φ2 H2 Φ3 H3 ∧ Rep f.toKx Φ3 x d) ∧ ∀ j, n ≤ j → J.stop j H2
def tFI (f : Fm) (W : WX) (m : M Pm.It) : TI := fun σ H R => ∃ gh Φ e, Wf f gh Φ H σ e ∧ Pst f W gh σ (m e) Φ fun Φ' H' e' w => ∀ J, Wk f Φ' σ J w → R J H'

theorem pi_any {tg a : Expr} {te : TE} (ha : PE X a te) : PI X tg a (fun σ H R => te σ H fun x H1 => (∃ a, x = .ref a ∧ (∃ xs, SqL X.K H1 a xs) ∧ R (Itl X.K a) H1) ∨ (∃ a, x = .ref a ∧ (∃ xs, SqT X.K H1 a xs) ∧ R (Itt X.K a) H1) ∨ ∃ z, x = .str z ∧ R (Its z) H1) := by
  constructor
  intro pins s σ H R I word
  refine thn (ha.run pins s σ H _ I word) ?_
  rintro v s1 ⟨_, H1, J, rel, ⟨a, rfl, ⟨xs, sq⟩, go⟩ | ⟨a, rfl, ⟨xs, sq⟩, go⟩ | ⟨z, rfl, go⟩⟩
  · obtain rfl : v = .ref a := rel
    obtain ⟨its, _, lies, _⟩ := J.list sq
    exact wpAny_pyIter_list lies.isList (pi_one (tk := s1.toks) J _ (turn_list a _) ⟨_, Heap.get?_push_size _ rfl, rfl, rfl⟩ go)
  · obtain rfl : v = .ref a := rel
    obtain ⟨its, _, lies, _⟩ := J.tuple sq
    exact wpAny_pyIter_tuple (items := its.toArray) lies (pi_one (tk := s1.toks) J _ (turn_tuple a _) ⟨_, Heap.get?_push_size _ rfl, rfl, rfl⟩ go)
  · obtain ⟨t, rfl⟩ := rel
    by_cases low : z.cps.all (· < 128) = true
    · exact wpAny_pyIter_ascii low (pi_one (tk := s1.toks) J _ (turn_str _ z t "str_ascii_iterator" (.inl rfl)) ⟨_, Heap.get?_push_size _ rfl, rfl, rfl⟩ go)
    · exact wpAny_pyIter_wide (by simpa using low) (pi_one (tk := s1.toks) J _ (turn_str _ z t "str_iterator" (.inr rfl)) ⟨_, Heap.get?_push_size _ rfl, rfl, rfl⟩ go)
theorem PI.imp {tg a : Expr} {t t' : TI} (h : PI X tg a t) (i : ∀ σ H Q, t' σ H Q → t σ H Q) : PI X tg a t' := ⟨fun pins s σ H Q I q => h.run pins s σ H Q I (i σ H Q q)⟩
theorem wk_list {a : Addr} {xs : List V} {ds : List D} (h : ∀ H2, Same Φ H2 → SqL f.K H2 a xs) (r : RepL f.toKx Φ xs ds) : Wk f Φ σ (Itl f.K a) (.items ds) := fun Φ2 H2 s1 s2 => by
  refine ⟨fun i d hd => ?_, fun i hi => ⟨xs, h H2 (s1.trans s2), by rw [r.length]; exact hi⟩⟩
  obtain ⟨v, h1, h2⟩ := r.get hd
  refine ⟨⟨xs, v, h H2 (s1.trans s2), h1⟩, fun x H3 y => ?_⟩
  obtain ⟨rfl, y⟩ := y
  have e := y xs (h H3 (s1.trans s2))
  rw [h1] at e; cases e
  exact ⟨Φ2, Gr.refl s2, h2.mono s1⟩
theorem wk_tup {a : Addr} {xs : List V} {ds : List D} (h : SqT f.K Φ a xs) (r : RepL f.toKx Φ xs ds) : Wk f Φ σ (Itt f.K a) (.items ds) := fun Φ2 H2 s1 s2 => by
  have h' : SqT f.K H2 a xs := sqT_mono (s1.trans s2) h
  refine ⟨fun i d hd => ?_, fun i hi => ⟨xs, h', by rw [r.length]; exact hi⟩⟩
  obtain ⟨v, h1, h2⟩ := r.get hd
  refine ⟨⟨xs, v, h', h1⟩, fun x H3 y => ?_⟩
  obtain ⟨rfl, y⟩ := y
  have e := y xs h'
  rw [h1] at e; cases e
  exact ⟨Φ2, Gr.refl s2, h2.mono s1⟩
theorem wk_str {z : Str} : Wk f Φ σ (Its z) (.items (signs z)) := fun Φ2 H2 s1 s2 => by
  refine ⟨fun i d hd => ?_, fun i hi => by simpa [Its, signs] using hi⟩
  unfold signs at hd
  rw [List.getElem?_map] at hd
  cases hc : z.cps.toList[i]? with
  | none => rw [hc] at hd; cases hd
  | some c =>
    rw [hc] at hd; cases hd
    have hi : i < z.cps.size := by
      have := (List.getElem?_eq_some_iff.mp hc).1
      simpa using this
    refine ⟨hi, fun x H3 y => ?_⟩
    obtain ⟨rfl, c', hc', rfl⟩ := y
    have : c' = c := by
      rw [Array.getElem?_toList] at hc
      rw [hc] at hc'
      exact (Option.some.inj hc').symm
    subst this
    exact ⟨Φ2, Gr.refl s2, .str _⟩
theorem wk_range {i j : Int} : Wk f Φ σ (Itr i (j - i).toNat) (.items ((List.range (j - i).toNat).map fun (k : Nat) => D.int (i + k))) := fun Φ2 H2 s1 s2 => by
  refine ⟨fun n d hd => ?_, fun n hn => by simpa [Itr] using hn⟩
  rw [List.getElem?_map] at hd
  cases hc : (List.range (j - i).toNat)[n]? with
  | none => rw [hc] at hd; cases hd
  | some c =>
    rw [hc] at hd; cases hd
    obtain ⟨hl, e⟩ := List.getElem?_eq_some_iff.mp hc
    rw [List.getElem_range] at e
    subst e
    rw [List.length_range] at hl
    refine ⟨hl, fun x H3 y => ?_⟩
    obtain ⟨rfl, rfl⟩ := y
    exact ⟨Φ2, Gr.refl s2, .int _⟩

theorem wo_lst {ds : List D} : walkOf (.fz, .lst ds) e = .ok (.items ds) e := rfl
theorem wo_tup {ds : List D} : walkOf (.fz, .tup ds) e = .ok (.items ds) e := rfl
theorem wo_scr {ds : List D} : walkOf (.fz, .scr ds) e = .ok (.items ds) e := rfl
theorem wo_sl {i : Nat} {d : D} : walkOf (.sl i, d) e = (match e[i]? with
    | some (.ow _ (.lst xs)) => R.ok (It.al i xs.length) e
    | some (.fz _ (.lst xs)) => .ok (.items xs) e
    | _ => .bad) := rfl
theorem wo_str {z : Str} : walkOf (.fz, .str z) e = .ok (.items (signs z)) e := rfl
theorem si_any {tg a : Expr} {a' : E} (ek : X.K = f.K) (ha : PE X a (tF f W (ev cl a'))) (hI : evI cl a' = M.bind (ev cl a') fun x => walkOf (soft x)) : PI X tg a (tFI f W (evI cl a')) := by
  refine PI.imp (pi_any ha) fun σ H R ⟨gh, Φ, e, w, h⟩ => ?_
  rw [hI] at h
  refine tF.bindS w h fun Φ1 H1 e1 x v s1 w1 r1 h1 => ?_
  obtain ⟨kd, d⟩ := x
  rw [ek]
  have frozen : ∀ d, Rep f.toKx Φ1 v d → Pst f W gh σ (walkOf (.fz, d) e1) Φ1 (fun Φ' H' e' w => ∀ J, Wk f Φ' σ J w → R J H') →
      (∃ a, v = .ref a ∧ (∃ xs, SqL f.K H1 a xs) ∧ R (Itl f.K a) H1) ∨ (∃ a, v = .ref a ∧ (∃ xs, SqT f.K H1 a xs) ∧ R (Itt f.K a) H1) ∨ ∃ z, v = .str z ∧ R (Its z) H1 := by
    intro d r h2
    cases r with
    | lst q rs => rw [wo_lst] at h2; exact .inl ⟨_, rfl, ⟨_, SqL.of (w1.i2 _ _ q)⟩, h2 Φ1 H1 (Same.refl _) w1 _ (wk_list (fun H2 s => SqL.of (s _ _ q)) rs)⟩
    | tup q rs => rw [wo_tup] at h2; exact .inr (.inl ⟨_, rfl, ⟨_, sqT_mono w1.i2 q⟩, h2 Φ1 H1 (Same.refl _) w1 _ (wk_tup q rs)⟩)
    | scr q rs => rw [wo_scr] at h2; exact .inl ⟨_, rfl, ⟨_, sqL_mono w1.i2 q⟩, h2 Φ1 H1 (Same.refl _) w1 _ (wk_list (fun H2 s => sqL_mono s q) rs)⟩
    | str z => rw [wo_str] at h2; exact .inr (.inr ⟨z, rfl, h2 Φ1 H1 (Same.refl _) w1 _ wk_str⟩)
    | non => exact h2.elim
    | bl _ => exact h2.elim
    | int _ => exact h2.elim
    | dct _ _ _ => exact h2.elim
    | ins _ _ _ => exact h2.elim
  cases kd with
  | fz => exact frozen d r1 h1
  | fr => exact frozen d r1 h1
  | sl i =>
    have r1 : σ[i]? = some (some v) := r1
    rw [show soft (Kd.sl i, d) = (Kd.sl i, d) from rfl, wo_sl] at h1
    split at h1
    · rename_i l ds hs
      obtain ⟨a, o, e1', n, e2, ro, _⟩ := w1.sl i _ hs
      rw [r1] at e1'; cases e1'
      cases ro with
      | lst rs =>
        rename_i xs
        refine .inl ⟨a, rfl, ⟨_, SqL.of e2⟩, h1 Φ1 H1 (Same.refl _) w1 _ ⟨_, r1, fun Φ2 H2 ds' s2 pr hl => ?_⟩⟩
        obtain ⟨a', ys, e3, q3, r3⟩ := pr.lst s2
        cases e3
        refine ⟨fun j d hd => ?_, fun j hj => ⟨ys, SqL.of q3, by rw [r3.length, hl]; exact hj⟩⟩
        obtain ⟨x, h1', h2'⟩ := r3.get hd
        refine ⟨⟨ys, x, SqL.of q3, h1'⟩, fun y H3 hy => ?_⟩
        obtain ⟨rfl, hy⟩ := hy
        have e := hy ys (SqL.of q3)
        rw [h1'] at e; cases e
        exact ⟨Φ2, Gr.refl s2, h2'⟩
    · rename_i l ds hs
      obtain ⟨x, e1', r⟩ := w1.sl i _ hs
      rw [r1] at e1'; cases e1'
      exact frozen (.lst ds) r h1
    · exact h1.elim
end
end Pm
namespace Pm
open PySem PySem.Spec
open PyProof.Rows L2

theorem both_of {P : Addr → Prop} {a b : Addr} (x : P a) (y : P b) : ∀ c ∈ [a, b], P c := fun c h => by
  cases h with
  | head => exact x
  | tail _ h => cases h with
    | head => exact y
    | tail _ h => cases h
theorem five_of {P : Addr → Prop} {a b c d e : Addr} (xa : P a) (xb : P b) (xc : P c) (xd : P d) (xe : P e) : ∀ z ∈ [a, b, c, d, e], P z := fun z h => by
  cases h with
  | head => exact xa
  | tail _ h => cases h with
    | head => exact xb
    | tail _ h => exact List.forall_mem_cons.mpr ⟨xc, both_of xd xe⟩ z h
/-- a record: it stands, and it is no cell -/
def Recd (h : Heap) (b : Addr) : Prop := ∃ o, h.get? b = some o ∧ ∀ v, o.data ≠ .cell v
theorem Recd.lt {h : Heap} {b : Addr} : Recd h b → b < h.objs.size := fun ⟨_, e, _⟩ => Heap.lt_size e
theorem Recd.fs {h : Heap} {b : Addr} {o : Obj} {vs : Array Value} (e : h.get? b = some o) (d : o.data = .fields vs) : Recd h b := ⟨o, e, fun v q => Data.noConfusion (d.symm.trans q)⟩
theorem Recd.sq {h : Heap} {b : Addr} {o : Obj} {vs : Array Value} {n : Nat} (e : h.get? b = some o) (d : o.data = .seq vs n) : Recd h b := ⟨o, e, fun v q => Data.noConfusion (d.symm.trans q)⟩

def SqA (K : PySem.W.Frag) (H : Hp) (t : Bool) (a : Addr) (xs : List V) : Prop := match t with
  | true => SqT K H a xs
  | false => SqL K H a xs
def HpA (h : Heap) (t : Bool) (a : Addr) (its : Array Value) : Prop := match t with
  | true => h.IsTuple a its
  | false => h.IsList a its
def ItA (h : Heap) (t : Bool) (it a : Addr) (i : Nat) : Prop := match t with
  | true => h.IsTupleIter it a i
  | false => h.IsListIter it a i
def oItA (t : Bool) (a : Addr) : Obj := match t with
  | true => { cls := .type "tuple_iterator", data := .fields #[.ref a, .int 0 0] }
  | false => { cls := .type "list_iterator", data := .fields #[.ref a, .int 0 0] }
section
variable {h h' : Heap} {t : Bool} {it a : Addr} {i : Nat} {its : Array Value}
theorem ItA.at' (st : ItA h t it a i) (k : ∀ o, h.get? it = some o → h'.get? it = some o) : ItA h' t it a i := by
  cases t
  · exact Heap.IsListIter.at st k
  · exact Heap.IsTupleIter.at st k
theorem HpA.at' (st : HpA h t a its) (k : ∀ o, h.get? a = some o → h'.get? a = some o) : HpA h' t a its := by
  cases t
  · exact Heap.IsList.at st k
  · exact Heap.IsTuple.at st k
theorem ItA.obj (st : ItA h t it a i) : ∃ o vs, h.get? it = some o ∧ o.data = .fields vs := by
  cases t <;> exact let ⟨o, e, _, d⟩ := st; ⟨o, _, e, d⟩
theorem HpA.obj (st : HpA h t a its) : ∃ o n, h.get? a = some o ∧ o.data = .seq its n := by
  cases t <;> exact let ⟨o, e, _, n, d⟩ := st; ⟨o, n, e, d⟩
theorem ItA.recd (st : ItA h t it a i) : Recd h it := let ⟨_, _, e, d⟩ := st.obj; .fs e d
/-- an iterator's record is no list or tuple -/
theorem ItA.off (st : ItA h t it a i) {u : Bool} {b : Addr} (p : HpA h u b its) : b ≠ it := fun q => by
  obtain ⟨o1, vs, e1, d1⟩ := st.obj
  obtain ⟨o2, n, e2, d2⟩ := p.obj
  have e : o1 = o2 := Option.some.inj (e1.symm.trans (q ▸ e2))
  exact Data.noConfusion ((e ▸ d1).symm.trans d2)
theorem itA_new (e : h.get? it = some (oItA t a)) : ItA h t it a 0 := by
  cases t <;> exact ⟨_, e, rfl, rfl⟩
end
theorem begins_A (t : Bool) (a : Addr) (its : Array Value) : Begins (.ref a) (oItA t a) fun h => HpA h t a its := by
  cases t
  · exact begins_list a its
  · exact begins_tuple a its

section
variable {P : Program} {w : World} {A : Around}
theorem drA (nh : A.handled = none) (it a : Addr) (ne : a ≠ it) (its : Array Value) (t : Bool) : Draws P w A.in1 it [it, a] its.size (fun i v => its[i]? = some v) (fun i h => ItA h t it a i ∧ HpA h t a its) := by
  cases t
  · exact Draws.list (A := A.in1) nh it a ne its
  · exact Draws.tuple (A := A.in1) nh it a ne its
/-- it is at its end: no further item -/
theorem drE (nh : A.handled = none) (it a : Addr) (its : Array Value) (n : Nat) (over : its[n]? = none) (t : Bool) : Draws P w A.in1 it [it, a] n (fun _ _ => False) (fun i h => i = n ∧ ItA h t it a i ∧ HpA h t a its) where
  live := fun _ _ st => let ⟨o, _, e, _⟩ := st.2.1.obj; ⟨o, e⟩
  frame := fun _ _ _ st k => ⟨st.1, st.2.1.at' (k it (by simp)), st.2.2.at' (k a (by simp))⟩
  item := fun i _ _ _ lt st _ => absurd (st.1 ▸ lt) (Nat.lt_irrefl _)
  done := fun s Q E ⟨_, si, sa⟩ last => by
    cases t
    · exact wpAny_nextOf_list_end (A := A.in1) nh si sa over last
    · exact wpAny_nextOf_tuple_end (A := A.in1) nh si sa over last
/-- whatever it is at: it draws up to an end m that is n just where no item is left -/
theorem drX (nh : A.handled = none) (it a : Addr) (ne : a ≠ it) (its : Array Value) (n : Nat) (t : Bool) :
    ∃ (m : Nat) (Pr : Nat → Value → Prop) (St : Nat → Heap → Prop), Draws P w A.in1 it [it, a] m Pr St ∧ (∀ h, ItA h t it a n → HpA h t a its → St n h) ∧ n ≤ m ∧ (its[n]? = none → n = m) := by
  by_cases lt : n < its.size
  · exact ⟨_, _, _, drA nh it a ne its t, fun _ => And.intro, Nat.le_of_lt lt, fun z => absurd (Array.getElem?_eq_none_iff.mp z) (Nat.not_le.mpr lt)⟩
  · exact ⟨n, _, _, drE nh it a its n (Array.getElem?_eq_none (Nat.not_lt.mp lt)) t, fun _ x y => ⟨rfl, x, y⟩, Nat.le_refl n, fun _ => rfl⟩
end
section
variable {X : Cx} {pins : List (Addr × Obj)} {σ : L2.St} {H : Hp} {s : Shared}
theorem inv_A (I : Inv X pins σ H s) {t : Bool} {a : Addr} {xs : List V} (q : SqA X.K H t a xs) : ∃ its : List Value, Vals xs its ∧ HpA s.heap t a its.toArray := by
  cases t
  · obtain ⟨its, rv, p, _⟩ := I.list q
    exact ⟨its, rv, p.isList⟩
  · obtain ⟨its, rv, p, _⟩ := I.tuple q
    exact ⟨its, rv, p⟩
theorem inj_A (I : Inv X pins σ H s) {t : Bool} {a : Addr} {xs ys : List V} (q : SqA X.K H t a xs) (r : SqA X.K H t a ys) : xs = ys := by
  cases t
  · exact I.list_inj q r
  · exact I.tuple_inj q r
/-- a turn's tuple: it is new behind the heap, the walker's records have turned -/
theorem tup_lands (I : Inv X pins σ H s) {ch : List Addr} {h' : Heap} {tk : Nat} {vs : List V} {us : List Value} (few : vs.length ≤ sizeLine) (rv : Vals vs us) (rcd : ∀ b ∈ ch, Recd s.heap b) (own : ∀ b ∈ ch, FpOk X pins H b)
    (kp : ∀ b o, b ∉ ch → s.heap.get? b = some o → h'.get? b = some o) (lies : h'.get? s.heap.objs.size = some { cls := .type "tuple", data := .seq us.toArray }) :
    Inv X pins σ (upd H s.heap.objs.size (.tup vs)) { s with heap := h', toks := tk } ∧ H s.heap.objs.size = none ∧ ∀ b ∈ ch, upd H s.heap.objs.size (.tup vs) b = none :=
  ⟨I.turnedNew kp own (Nat.le_refl _) ⟨few, us, rv, _, lies, rfl, _, rfl⟩, I.hok.fresh (Nat.le_refl _), fun b m => (upd_ne (Nat.ne_of_lt (rcd b m).lt)).trans (own b m).1⟩
/-- records laid just now are nobody's -/
theorem own_new (I : Inv X pins σ H s) {ch : List Addr} (new : ∀ b ∈ ch, s.heap.objs.size ≤ b) : ∀ b ∈ ch, FpOk X pins H b := fun b m => I.fpOk (new b m) (I.hok.fresh (new b m))
end
theorem below_of {α : Type} {xs : List α} {i : Nat} {x : α} (e : xs[i]? = some x) : i < xs.toArray.size := (List.getElem?_eq_some_iff.mp e).1

def IteA (K : PySem.W.Frag) (t : Bool) (a : Addr) : L2.It where
  go := fun i H => ∃ (xs : List V) (x : V), SqA K H t a xs ∧ xs[i]? = some x
  yld := fun i H v H' => ∃ T x, v = .ref T ∧ H T = none ∧ H' = upd H T (.tup [.int (i : Nat), x]) ∧ ∀ xs, SqA K H t a xs → xs[i]? = some x
  stop := fun i H => ∃ xs : List V, SqA K H t a xs ∧ xs.length ≤ i
def TnE (t : Bool) (a e it : Addr) (i : Nat) (h : Heap) : Prop := (∃ old, IsEnum h e it ((i : Nat) : Int) old) ∧ ItA h t it a i ∧ e ≠ it
theorem TnE.recs {t : Bool} {a e it : Addr} {i : Nat} {h : Heap} (st : TnE t a e it i h) : ∀ b ∈ [e, it], Recd h b := let ⟨⟨_, z⟩, y, _⟩ := st; both_of (.fs z rfl) y.recd
theorem TnE.kept {t : Bool} {a e it : Addr} {i : Nat} {h h' : Heap} (st : TnE t a e it i h) (k : ∀ b ∈ [e, it], ∀ o, h.get? b = some o → h'.get? b = some o) : TnE t a e it i h' :=
  let ⟨⟨old, z⟩, y, ne⟩ := st; ⟨⟨old, k e (by simp) _ z⟩, y.at' (k it (by simp)), ne⟩
theorem turn_enumA {P : Program} {w : World} {K : PySem.W.Frag} {elts : List Expr} {kk : Nat} {tpos : Pos} (t : Bool) (a e it : Addr) : Turn P w K (.Tuple elts kk tpos) (IteA K t a) [e, it] e (TnE t a e it) := by
  refine { mem := List.mem_cons_self .., obj := fun i h st => st.recs, keep := fun i h h' st => st.kept, item := ?_, done := ?_, self := fun A i s Q E ⟨⟨_, z⟩, _⟩ q => wpAny_pyIter_enum z q }
  · rintro Y rfl rfl rfl calm i pins s σ H E I own st ⟨xs, x, sq, gx⟩
    obtain ⟨its, rv, at_⟩ := inv_A I sq
    obtain ⟨u, gu, ru⟩ := rv.get gx
    have rcd := st.recs
    obtain ⟨⟨old, enu⟩, itr, ne⟩ := st
    have off : a ≠ it := itr.off at_
    have ea : e ≠ a := by
      obtain ⟨o, n, z, d⟩ := at_.obj
      rintro rfl
      cases enu.symm.trans z
      cases d
    refine wpAny_pyNext_enum_itemD (drA (I.ok.hd calm) it a off its.toArray t) enu ⟨itr, at_⟩ (below_of gu) ne (by simp [ne, ea]) fun y h' tk gy out fwd new _ kp => ⟨_, rfl, ?_⟩
    obtain rfl : u = y := Option.some.inj (gu.symm.trans (by simpa using gy))
    refine wpAny_letOwnedTupleGo_enum (s := { s with heap := h', toks := tk + 1 }) out fun h2 back same => ?_
    have above : s.heap.objs.size ≠ e := Nat.ne_of_gt (rcd e (by simp)).lt
    obtain ⟨I', free, gone⟩ := tup_lands (tk := tk + 1) (h' := h2) (vs := [.int (i : Nat), x]) (us := [.int i tk, u]) I (show 2 ≤ sizeLine by decide) (.cons ⟨_, rfl⟩ (.cons ru .nil)) rcd own
      (fun b o nb q => (same.2 b fun z => nb (by simp [z])).trans (kp b o (fun z => nb (by simp [z])) (fun z => nb (by simp [z])) q)) ((same.2 _ above).trans new)
    refine ⟨.ref s.heap.objs.size, _, I', rfl, ⟨_, x, rfl, free, rfl, fun zs sz => inj_A I sz sq ▸ gx⟩, ⟨⟨u, ?_⟩, fwd.1.at' fun o q => (same.2 it ne.symm).trans q, ne⟩, gone⟩
    rw [show ((i + 1 : Nat) : Int) = (i : Int) + 1 from rfl]
    exact back
  · rintro Y rfl rfl rfl calm i pins s σ H E I own ⟨⟨old, enu⟩, itr, ne⟩ ⟨xs, sq, le⟩
    obtain ⟨its, rv, at_⟩ := inv_A I sq
    have over : its.toArray[i]? = none := by
      rw [List.getElem?_toArray, List.getElem?_eq_none_iff, ← rv.length]
      exact le
    obtain ⟨n0, n1, n2, n3, n4, n5⟩ := own it (by simp)
    exact wpAny_pyNext_enum_endD (drE (I.ok.hd calm) it a its.toArray i over t) enu ⟨rfl, itr, at_⟩ fun h' ext => ⟨rfl, I.turned (t' := s.toks) (h' := h') (fun b o => ext b o) n0 n1 n3 n4 n5⟩
set_option maxHeartbeats 2000000 in
/-- enumerate(v): what its constructor lays -/
theorem enum_lays {v : Value} {o : Obj} {H : Heap → Prop} (B : Begins v o H) :
    Meets (Builtin.«enumerate.__new__» ⟨[.type "enumerate", v], []⟩) (fun _ R s => H s.heap ∧
      R (.ok (.ret (.ref (s.heap.push o).objs.size))) { s with heap := (s.heap.push o).push { cls := .type "enumerate", data := .fields #[.none, .bool false, .ref s.heap.objs.size, rawInt 0, .none, .none] } }) := by
  refine .of_wp fun prog w A R ⟨hp, g, d, tk, os⟩ ⟨h1, q⟩ => ?_
  have kind := sub_enumerate
  have begun {A' : Around} {E Q : Value → Shared → Prop} (z : Q (.ref hp.objs.size) ⟨hp.push o, g, d, tk, os⟩) : wpAny (model prog w) A' (pyIter v) Q E ⟨hp, g, d, tk, os⟩ := B.iter prog w A' E ⟨hp, g, d, tk, os⟩ Q h1 z
  wp_walk using begun
  refine wpAny_stack_any fun _ => wpAny_pure ?_
  split
  · next c _ _ _ _ _ => cases c == Value.type "enumerate" <;> (wp_walk using begun) <;> exact ⟨_, rfl, q⟩
  · wp_walk using begun
    exact ⟨_, rfl, q⟩
theorem enum_called {prog : Program} {w : World} {A : Around} {E Q : Value → Shared → Prop} {s : Shared} {v : Value} {o : Obj} {H : Heap → Prop} (B : Begins v o H) (hv : H s.heap)
    (next : ∀ h', IsEnum h' (s.heap.objs.size + 1) s.heap.objs.size 0 .none → h'.get? s.heap.objs.size = some o → (∀ b o, s.heap.get? b = some o → h'.get? b = some o) → Q (.ref (s.heap.objs.size + 1)) { s with heap := h' }) :
    wpAny (model prog w) A (call (.type "enumerate") [v]) Q E s := by
  have two : (s.heap.push o).objs.size = s.heap.objs.size + 1 := Heap.size_push ..
  refine callType_new F.called_enumerate (by decide) (F.typeCall_enumerate_1 _) (F.newCall_enumerate_1 _) (fun obj => F.args_object_init_2 obj _) F.entry_enumerate_new (enum_lays B) ?_
  refine ⟨hv, ?_⟩
  generalize hr : ({ cls := .type "enumerate", data := .fields #[.none, .bool false, .ref s.heap.objs.size, rawInt 0, .none, .none] } : Obj) = r
  have laid : ((s.heap.push o).push r).get? (s.heap.objs.size + 1) = some r := two ▸ Heap.get?_push_size (s.heap.push o) (o := r) (by rw [← hr]; rfl)
  rw [two]
  rw [← hr] at laid ⊢
  exact ⟨⟨_, laid, rfl⟩, next _ laid (Heap.get?_push_of_some _ (Heap.get?_push_size _ B.free)) fun b o q => Heap.get?_push_of_some _ (Heap.get?_push_of_some _ q)⟩
def iEnumA (K : PySem.W.Frag) (ta : TA) : TI := fun σ H R => ta σ H fun vs H1 => ∃ t a xs, vs = [.ref a] ∧ SqA K H1 t a xs ∧ R (IteA K t a) H1
theorem pi_enumA {X : Cx} {e : Expr} {ta : TA} {p pos tpos : Pos} {elts : List Expr} {kk : Nat} (hg : Gl X "enumerate") (hm : X.mg "enumerate" = none) (ha : PA X [e] ta) (hs : starEach [e] X.env = [(false, eval e X.env)] := by rfl) :
    PI X (.Tuple elts kk tpos) (.Call (.Name "enumerate" p) [e] [] pos) (iEnumA X.K ta) where
  run := fun pins s σ H R I h => Call_ (ld_blt I hg hm boot_enumerate (PyProof.Rows.callWith_type1 (thn (ha.run pos pins s σ H _ I h) fun us s1 c => by
    obtain ⟨_, H1, I1, r1, t, a, xs, rfl, sq, q⟩ := c
    obtain ⟨u, rfl, rfl⟩ : ∃ u, us = [u] ∧ u = .ref a := by
      cases r1 with
      | cons r0 rr => cases rr; exact ⟨_, rfl, by cases r0; rfl⟩
    obtain ⟨its, rv, at_⟩ := inv_A I1 sq
    exact enum_called (begins_A t a its.toArray) at_ fun h' enu itr kp => wpAny_pyIter_enum enu
      ⟨_, [s1.heap.objs.size + 1, s1.heap.objs.size], _, _, H1, rfl, I1.kept (t' := s1.toks) kp, turn_enumA t a _ s1.heap.objs.size, ⟨⟨.none, enu⟩, itA_new itr, Nat.succ_ne_self _⟩, own_new I1 (both_of (Nat.le_succ _) (Nat.le_refl _)), q⟩) hs rfl))

def ItzA (K : PySem.W.Frag) (t u : Bool) (a b : Addr) : L2.It where
  go := fun i H => ∃ (xs ys : List V) (x y : V), SqA K H t a xs ∧ SqA K H u b ys ∧ xs[i]? = some x ∧ ys[i]? = some y
  yld := fun i H v H' => ∃ T x y, v = .ref T ∧ H T = none ∧ H' = upd H T (.tup [x, y]) ∧ (∀ xs, SqA K H t a xs → xs[i]? = some x) ∧ ∀ ys, SqA K H u b ys → ys[i]? = some y
  stop := fun i H => ∃ xs ys : List V, SqA K H t a xs ∧ SqA K H u b ys ∧ (xs.length ≤ i ∨ ys.length ≤ i)
def TnZ (t u : Bool) (a b z TI TO i1 i2 : Addr) (i : Nat) (h : Heap) : Prop := IsZip h z TI TO .none ∧ IsTupOf2 h TI (.ref i1) (.ref i2) ∧ (∃ x y, IsTupOf2 h TO x y) ∧ ItA h t i1 a i ∧ ItA h u i2 b i
theorem TnZ.recs {t u : Bool} {a b z TI TO i1 i2 : Addr} {i : Nat} {h : Heap} (st : TnZ t u a b z TI TO i1 i2 i h) : ∀ c ∈ [z, TI, TO, i1, i2], Recd h c :=
  let ⟨e, eI, ⟨_, _, eO⟩, j1, j2⟩ := st; five_of (.fs e rfl) (.sq eI rfl) (.sq eO rfl) j1.recd j2.recd
theorem TnZ.kept {t u : Bool} {a b z TI TO i1 i2 : Addr} {i : Nat} {h h' : Heap} (st : TnZ t u a b z TI TO i1 i2 i h) (k : ∀ c ∈ [z, TI, TO, i1, i2], ∀ o, h.get? c = some o → h'.get? c = some o) : TnZ t u a b z TI TO i1 i2 i h' :=
  let ⟨e, eI, ⟨x, y, eO⟩, j1, j2⟩ := st; ⟨k z (by simp) _ e, k TI (by simp) _ eI, ⟨x, y, k TO (by simp) _ eO⟩, j1.at' (k i1 (by simp)), j2.at' (k i2 (by simp))⟩
theorem turn_zipA {P : Program} {w : World} {K : PySem.W.Frag} {elts : List Expr} {kk : Nat} {tpos : Pos} {t u : Bool} {a b z TI TO i1 i2 : Addr} (S : ZipSep2 z TI TO i1 i2 [i1, a] [i2, b]) :
    Turn P w K (.Tuple elts kk tpos) (ItzA K t u a b) [z, TI, TO, i1, i2] z (TnZ t u a b z TI TO i1 i2) := by
  have out : ∀ {c : Addr}, c ∉ [z, TI, TO, i1, i2] → c ≠ z ∧ c ≠ TO ∧ c ≠ i1 ∧ c ≠ i2 := fun n => by
    simp only [List.mem_cons, not_or] at n
    exact ⟨n.1, n.2.2.1, n.2.2.2.1, n.2.2.2.2.1⟩
  refine { mem := List.mem_cons_self .., obj := fun i h st => st.recs, keep := fun i h h' st => st.kept, item := ?_, done := ?_, self := fun A i s Q E st q => wpAny_pyIter_zip st.1 q }
  · rintro Y rfl rfl rfl calm i pins s σ H E I own st ⟨xs, ys, x, y, sx, sy, gx, gy⟩
    obtain ⟨vs, rv, at1⟩ := inv_A I sx
    obtain ⟨us, ru, at2⟩ := inv_A I sy
    obtain ⟨v, gv, rx⟩ := rv.get gx
    obtain ⟨u', gu, ry⟩ := ru.get gy
    have rcd := st.recs
    obtain ⟨ez, eI, ⟨_, _, eO⟩, j1, j2⟩ := st
    refine wpAny_pyNext_zipD2_item S (drA (I.ok.hd calm) i1 a (j1.off at1) vs.toArray t) (drA (I.ok.hd calm) i2 b (j2.off at2) us.toArray u) ez eI eO ⟨j1, at1⟩ ⟨j2, at2⟩ (below_of gv) (below_of gu) fun w1 w2 h' tk g1 g2 ez' eO' f1 f2 new _ kp => ⟨_, rfl, ?_⟩
    obtain rfl : v = w1 := Option.some.inj (gv.symm.trans (by simpa using g1))
    obtain rfl : u' = w2 := Option.some.inj (gu.symm.trans (by simpa using g2))
    refine wpAny_letOwnedTupleGo_zip (s := { s with heap := h', toks := tk }) ez' fun h2 back same => ?_
    have above : s.heap.objs.size ≠ z := Nat.ne_of_gt (rcd z (by simp)).lt
    obtain ⟨I', free, gone⟩ := tup_lands (tk := tk) (h' := h2) (vs := [x, y]) (us := [v, u']) I (show 2 ≤ sizeLine by decide) (.cons rx (.cons ry .nil)) rcd own
      (fun c o nc q => let ⟨n1, n2, n3, n4⟩ := out nc; (same.2 c n1).trans (kp c o n1 n2 n3 n4 q)) ((same.2 _ above).trans new)
    exact ⟨.ref s.heap.objs.size, _, I', rfl, ⟨_, x, y, rfl, free, rfl, fun l q => inj_A I q sx ▸ gx, fun l q => inj_A I q sy ▸ gy⟩,
      ⟨back, (same.2 _ S.TIz).trans (kp _ _ S.TIz S.TITO S.TIi1 S.TIi2 eI), ⟨v, u', (same.2 _ S.TOz).trans eO'⟩, f1.1.at' fun o q => (same.2 _ S.zi1.symm).trans q, f2.1.at' fun o q => (same.2 _ S.zi2.symm).trans q⟩, gone⟩
  · rintro Y rfl rfl rfl calm i pins s σ H E I own ⟨ez, eI, ⟨_, _, eO⟩, j1, j2⟩ ⟨xs, ys, sx, sy, le⟩
    obtain ⟨vs, rv, at1⟩ := inv_A I sx
    obtain ⟨us, ru, at2⟩ := inv_A I sy
    have l1 := rv.length
    have l2 := ru.length
    obtain ⟨m1, _, _, D1, st1, b1, last1⟩ := drX (P := Y.prog) (w := Y.w) (A := Y.A) (I.ok.hd calm) i1 a (j1.off at1) vs.toArray i t
    obtain ⟨m2, _, _, D2, st2, b2, last2⟩ := drX (P := Y.prog) (w := Y.w) (A := Y.A) (I.ok.hd calm) i2 b (j2.off at2) us.toArray i u
    refine wpAny_pyNext_zipD2_end S D1 D2 ez eI eO (st1 _ j1 at1) (st2 _ j2 at2) b1 b2 (le.imp (fun q => last1 (by simp; omega)) fun q => last2 (by simp; omega)) fun h' tk kp => ⟨rfl, ?_⟩
    exact I.turnedL (t' := tk) (fun c o nc q => let ⟨n1, n2, n3, n4⟩ := out nc; kp c o n1 n2 n3 n4 q) own
def iZipA (K : PySem.W.Frag) (ta : TA) : TI := fun σ H R => ta σ H fun vs H1 => ∃ t u a b xs ys, vs = [.ref a, .ref b] ∧ SqA K H1 t a xs ∧ SqA K H1 u b ys ∧ R (ItzA K t u a b) H1
theorem two_of {a b : Addr} {us : List Value} (r : Vals [.ref a, .ref b] us) : us = [.ref a, .ref b] := by
  cases r with
  | cons r0 r => cases r with
    | cons r1 r =>
      cases r
      cases r0
      cases r1
      rfl
theorem pi_zipA {X : Cx} {e e2 : Expr} {ta : TA} {p pos tpos : Pos} {elts : List Expr} {kk : Nat} (hg : Gl X "zip") (hm : X.mg "zip" = none) (ha : PA X [e, e2] ta)
    (hs : starEach [e, e2] X.env = (false, eval e X.env) :: starEach [e2] X.env := by rfl)
    (hpl : (backTo pos (starEach [e2] X.env)).any (·.1) = false := by rfl) : PI X (.Tuple elts kk tpos) (.Call (.Name "zip" p) [e, e2] [] pos) (iZipA X.K ta) where
  run := fun pins s σ H R I h => Call_ (ld_blt I hg hm PyProof.Rows.boot_zip (PyProof.Rows.callWith_type1 (thn (ha.run pos pins s σ H _ I h) fun us s1 c => by
    obtain ⟨_, H1, I1, r1, t, u, a, b, xs, ys, rfl, sx, sy, q⟩ := c
    obtain rfl := two_of r1
    obtain ⟨vs, rv, at1⟩ := inv_A I1 sx
    obtain ⟨ws, rw', at2⟩ := inv_A I1 sy
    have low {c d : Addr} {f : Bool} {its : Array Value} (p : HpA s1.heap f d its) (m : c ∈ [d]) : c < s1.heap.objs.size := let ⟨_, _, z, _⟩ := p.obj; List.mem_singleton.mp m ▸ Heap.lt_size z
    exact zip_begins2 (begins_A t a vs.toArray) (begins_A u b ws.toArray) at1 at2 fun h' ez eI eO j1 j2 _ kp => wpAny_pyIter_zip ez
      ⟨_, [s1.heap.objs.size + 4, s1.heap.objs.size + 2, s1.heap.objs.size + 3, s1.heap.objs.size, s1.heap.objs.size + 1], _, _, H1, rfl, I1.kept (t' := s1.toks) kp, turn_zipA (zip_sep2 (fun _ => low at1) fun _ => low at2),
        ⟨ez, eI, ⟨_, _, eO⟩, itA_new j1, itA_new j2⟩, own_new I1 (five_of (Nat.le_add_right _ _) (Nat.le_add_right _ _) (Nat.le_add_right _ _) (Nat.le_refl _) (Nat.le_add_right _ _)), q⟩) hs hpl))
end Pm
namespace Pm
open PySem PySem.Spec PyProof.Rows L2

section
variable {X : Cx} {f : Fm} {W : WX} {gh : List (Addr × HO)} {Φ Φ' H H' : Hp} {σ : L2.St} {e : Ev} {α β : Type} {cl : Cl}
theorem rng_some {x y : D} {ds : List D} (h : rngD x y = some ds) : ∃ i j : Int, x = .int i ∧ y = .int j ∧ (-(2 ^ 62) ≤ i ∧ i < 2 ^ 62 ∧ -(2 ^ 62) ≤ j ∧ j < 2 ^ 62) ∧ ds = (List.range (j - i).toNat).map fun (k : Nat) => D.int (i + k) := by
  unfold rngD at h
  split at h
  · split at h
    · rename_i hc
      cases h
      have hc := of_decide_eq_true hc
      exact ⟨_, _, rfl, rfl, ⟨by have := lt_natAbs hc.1; omega, (lt_natAbs hc.1).2, by have := lt_natAbs hc.2; omega, (lt_natAbs hc.2).2⟩, rfl⟩
    · cases h
  · cases h
theorem si_rng2 {tg a b : Expr} {a' b' : E} {p pos : Pos} (hg : Gl X "range") (hm : X.mg "range" = none) (ha : PE X a (tF f W (ev cl a'))) (hb : PE X b (tF f W (ev cl b')))
    (hs : starEach [a, b] X.env = [(false, eval a X.env), (false, eval b X.env)]) (hs2 : starEach [b] X.env = [(false, eval b X.env)]) :
    PI X tg (.Call (.Name "range" p) [a, b] [] pos) (tFI f W (evI cl (.rng a' b'))) := by
  have hA : PA X [a, b] (tCons (tF f W (ev cl a')) (tCons (tF f W (ev cl b')) tNil)) := pa_cons ha (pa_cons hb pa_nil (by rw [hs2]; rfl)) (by rw [hs, hs2])
  refine PI.imp (pi_range2 hg hm hA hs hs2) fun σ H R ⟨gh, Φ, e, w, h⟩ => ?_
  unfold evI at h
  refine tF.bindS w h fun Φ1 H1 e1 x v s1 w1 r1 h1 => ?_
  refine tF.bindS w1 h1 fun Φ2 H2 e2 y u s2 w2 r2 h2 => ?_
  obtain ⟨dx, px, h3⟩ := Pst.peekS w2 (r1.keep s2) h2
  obtain ⟨dy, py, h4⟩ := Pst.peekS w2 r2 h3
  obtain ⟨ds, e', h5⟩ := Pst.opt h4
  obtain ⟨i, j, rfl, rfl, hc, rfl⟩ := rng_some e'
  exact ⟨i, j, by rw [px.int, py.int], hc, h5 Φ2 H2 (Same.refl _) w2 _ wk_range⟩
/-- range(n) is range(0, n) -/
theorem si_rng1 {tg b : Expr} {b' : E} {p pos : Pos} (hg : Gl X "range") (hm : X.mg "range" = none) (hb : PE X b (tF f W (ev cl b'))) (hs2 : starEach [b] X.env = [(false, eval b X.env)]) :
    PI X tg (.Call (.Name "range" p) [b] [] pos) (tFI f W (evI cl (.rng (.con (.int 0)) b'))) := by
  have hA : PA X [b] (tCons (tF f W (ev cl b')) tNil) := pa_cons hb pa_nil (by rw [hs2]; rfl)
  refine PI.imp (pi_range1 hg hm hA hs2) fun σ H R ⟨gh, Φ, e, w, h⟩ => ?_
  unfold evI at h
  rw [show ev cl (.con (.int 0)) = M.pure (.fz, .int 0) from by unfold ev; rfl, M.left] at h
  refine tF.bindS w h fun Φ2 H2 e2 y u s2 w2 r2 h2 => ?_
  rw [show peek (Kd.fz, D.int 0) = M.pure (.int 0) from rfl, M.left] at h2
  obtain ⟨dy, py, h4⟩ := Pst.peekS w2 r2 h2
  obtain ⟨ds, e', h5⟩ := Pst.opt h4
  obtain ⟨i, j, e0, rfl, hc, rfl⟩ := rng_some e'
  cases e0
  refine ⟨j, by rw [py.int], hc.2.2.1, hc.2.2.2, ?_⟩
  have q := h5 Φ2 H2 (Same.refl _) w2 _ wk_range
  simpa using q
theorem enumFrom_get : ∀ {ds : List D} {n i : Nat} {d : D}, (enumFrom n ds)[i]? = some d → ∃ x, ds[i]? = some x ∧ d = .tup [.int ((n + i : Nat) : Int), x]
  | [], _, _, _, h => by simp [enumFrom] at h
  | x :: xs, n, 0, d, h => by
    simp [enumFrom] at h
    exact ⟨x, rfl, h.symm⟩
  | x :: xs, n, i + 1, d, h => by
    have h : (enumFrom (n + 1) xs)[i]? = some d := by simpa [enumFrom] using h
    obtain ⟨y, h1, h2⟩ := enumFrom_get h
    refine ⟨y, by simpa using h1, ?_⟩
    rw [h2]
    congr 3
    omega
theorem enumFrom_len : ∀ {ds : List D} {n : Nat}, (enumFrom n ds).length = ds.length
  | [], _ => rfl
  | x :: xs, n => by simp [enumFrom, enumFrom_len]
theorem zipD_get : ∀ {ds es : List D} {i : Nat} {d : D}, (zipD ds es)[i]? = some d → ∃ x y, ds[i]? = some x ∧ es[i]? = some y ∧ d = .tup [x, y]
  | [], _, _, _, h => by simp [zipD] at h
  | _ :: _, [], _, _, h => by simp [zipD] at h
  | x :: xs, y :: ys, 0, d, h => by
    simp [zipD] at h
    exact ⟨x, y, rfl, rfl, h.symm⟩
  | x :: xs, y :: ys, i + 1, d, h => by
    have h : (zipD xs ys)[i]? = some d := by simpa [zipD] using h
    obtain ⟨a, b, h1, h2, h3⟩ := zipD_get h
    exact ⟨a, b, by simpa using h1, by simpa using h2, h3⟩
theorem zipD_len : ∀ {ds es : List D}, (zipD ds es).length = min ds.length es.length
  | [], _ => by simp [zipD]
  | _ :: _, [] => by simp [zipD]
  | x :: xs, y :: ys => by simp [zipD, zipD_len]
/-- a new tuple, frozen at once -/
theorem gr_tup {T : Addr} {xs : List V} {ds : List D} {k : Kx} (sm : Same Φ H) (n : H T = none) (r : RepL k Φ xs ds) : ∃ Φ3, Gr Φ H Φ3 (upd H T (.tup xs)) ∧ Rep k Φ3 (.ref T) (.tup ds) := by
  have s1 : Same Φ (upd Φ T (.tup xs)) := same_upd (sm.free n)
  refine ⟨upd Φ T (.tup xs), ⟨s1, fun b o e => ?_, same_upd n, fun b o e => ?_⟩, .tup (SqT.of upd_same) (r.mono s1)⟩
  · by_cases hb : b = T
    · subst hb; rw [upd_same] at e ⊢; exact e
    · rw [upd_ne hb] at e ⊢; exact sm _ _ e
  · by_cases hb : b = T
    · subst hb; exact .inr n
    · rw [upd_ne hb] at e; exact .inl e
theorem items_A {f : Fm} {Φ : Hp} {v : V} {d : D} {ds : List D} (h : itemsD d = some ds) (r : Rep f.toKx Φ v d) : ∃ t a xs, v = .ref a ∧ RepL f.toKx Φ xs ds ∧ ∀ H, Same Φ H → SqA f.K H t a xs := by
  cases d with
  | lst xs =>
    cases h
    cases r with
    | lst q rs => exact ⟨false, _, _, rfl, rs, fun H s => SqL.of (s _ _ q)⟩
  | tup xs =>
    cases h
    cases r with
    | tup q rs => exact ⟨true, _, _, rfl, rs, fun H s => sqT_mono s q⟩
  | _ => cases h
theorem si_enum {a : Expr} {a' : E} {elts : List Expr} {kk : Nat} {p pos tpos : Pos} (ek : X.K = f.K) (hg : Gl X "enumerate") (hm : X.mg "enumerate" = none) (ha : PE X a (tF f W (ev cl a'))) (hs : starEach [a] X.env = [(false, eval a X.env)]) :
    PI X (.Tuple elts kk tpos) (.Call (.Name "enumerate" p) [a] [] pos) (tFI f W (evI cl (.enum a'))) := by
  have hA : PA X [a] (tCons (tF f W (ev cl a')) tNil) := pa_cons ha pa_nil (by rw [hs]; rfl)
  refine PI.imp (pi_enumA hg hm hA hs) fun σ H R ⟨gh, Φ, e, w, h⟩ => ?_
  rw [ek]
  unfold evI at h
  refine tF.bind w h fun Φ1 H1 e1 x v s1 w1 r1 h1 => ?_
  obtain ⟨Φ2, e2, d, s2, w2, rp, h2⟩ := Pst.freeze w1 r1 h1
  obtain ⟨ds, hd, h3⟩ := Pst.opt h2
  obtain ⟨t, a, xs, rfl, rs, hq⟩ := items_A hd rp
  refine ⟨t, a, xs, rfl, hq H1 w2.i2, h3 Φ2 H1 (Same.refl _) w2 _ fun Φ3 H3 t1 t2 => ⟨fun i d hd => ?_, fun i hi => ⟨xs, hq H3 (t1.trans t2), by rw [enumFrom_len] at hi; rw [rs.length]; exact hi⟩⟩⟩
  obtain ⟨y, g1, rfl⟩ := enumFrom_get hd
  obtain ⟨z, g2, g3⟩ := rs.get g1
  have hq3 := hq H3 (t1.trans t2)
  refine ⟨⟨xs, z, hq3, g2⟩, fun x H4 hy => ?_⟩
  obtain ⟨T, x', rfl, hT, rfl, hx⟩ := hy
  have e := hx xs hq3
  rw [g2] at e; cases e
  rw [Nat.zero_add]
  exact gr_tup t2 hT (.cons (.int _) (.cons (g3.mono t1) .nil))
theorem si_zip {a b : Expr} {a' b' : E} {elts : List Expr} {kk : Nat} {p pos tpos : Pos} (ek : X.K = f.K) (hg : Gl X "zip") (hm : X.mg "zip" = none) (ha : PE X a (tF f W (ev cl a'))) (hb : PE X b (tF f W (ev cl b')))
    (hs : starEach [a, b] X.env = (false, eval a X.env) :: starEach [b] X.env) (hs2 : starEach [b] X.env = [(false, eval b X.env)]) (hpl : (backTo pos (starEach [b] X.env)).any (·.1) = false) :
    PI X (.Tuple elts kk tpos) (.Call (.Name "zip" p) [a, b] [] pos) (tFI f W (evI cl (.zip a' b'))) := by
  have hA : PA X [a, b] (tCons (tF f W (ev cl a')) (tCons (tF f W (ev cl b')) tNil)) := pa_cons ha (pa_cons hb pa_nil (by rw [hs2]; rfl)) hs
  refine PI.imp (pi_zipA hg hm hA hs hpl) fun σ H R ⟨gh, Φ, e, w, h⟩ => ?_
  rw [ek]
  unfold evI at h
  refine tF.bind w h fun Φ1 H1 e1 x v s1 w1 r1 h1 => ?_
  obtain ⟨Φ2, e2, d, s2, w2, rp, h2⟩ := Pst.freeze w1 r1 h1
  refine tF.bind w2 h2 fun Φ3 H3 e3 y u s3 w3 r3 h3 => ?_
  obtain ⟨Φ4, e4, d', s4, w4, rp', h4⟩ := Pst.freeze w3 r3 h3
  have rp := rp.mono (s3.trans s4)
  obtain ⟨ds, hd, h5⟩ := Pst.opt h4
  obtain ⟨es, he, h6⟩ := Pst.opt h5
  obtain ⟨t, a1, xs, rfl, rs, hq⟩ := items_A hd rp
  obtain ⟨t', b1, ys, rfl, rs', hq'⟩ := items_A he rp'
  refine ⟨t, t', a1, b1, xs, ys, rfl, hq H3 w4.i2, hq' H3 w4.i2, h6 Φ4 H3 (Same.refl _) w4 _ fun Φ5 H5 t1 t2 => ⟨fun i d hd => ?_, fun i hi => ?_⟩⟩
  · obtain ⟨m, n, g1, g2, rfl⟩ := zipD_get hd
    obtain ⟨z, g3, g4⟩ := rs.get g1
    obtain ⟨z', g5, g6⟩ := rs'.get g2
    have hq3 := hq H5 (t1.trans t2)
    have hq4 := hq' H5 (t1.trans t2)
    refine ⟨⟨xs, ys, z, z', hq3, hq4, g3, g5⟩, fun x H6 hy => ?_⟩
    obtain ⟨T, x', y', rfl, hT, rfl, hx, hy⟩ := hy
    have e := hx xs hq3
    rw [g3] at e; cases e
    have e := hy ys hq4
    rw [g5] at e; cases e
    exact gr_tup t2 hT (.cons (g4.mono t1) (.cons (g6.mono t1) .nil))
  · refine ⟨xs, ys, hq H5 (t1.trans t2), hq' H5 (t1.trans t2), ?_⟩
    rw [zipD_len] at hi
    rw [rs.length, rs'.length]
    omega
theorem rngL_some {x y : D} {ds : List D} (h : rngL x y = some ds) : ∃ i j : Int, x = .int i ∧ y = .int j ∧ RgOk i j ∧ ds = (List.range (j - i).toNat).map fun (k : Nat) => D.int (i + k) := by
  unfold rngL at h
  split at h
  · split at h
    · rename_i hc
      cases h
      have hc := of_decide_eq_true hc
      exact ⟨_, _, rfl, rfl, ⟨by have := lt_natAbs hc.1; omega, (lt_natAbs hc.1).2, by have := lt_natAbs hc.2.1; omega, (lt_natAbs hc.2.1).2, hc.2.2⟩, rfl⟩
    · cases h
  · cases h
theorem rg_rep {k : Kx} {Φ : Hp} (i : Int) : ∀ (ns : List Nat), RepL k Φ (ns.map fun (m : Nat) => V.int (i + m)) (ns.map fun (m : Nat) => D.int (i + m))
  | [] => .nil
  | n :: r => .cons (.int _) (rg_rep i r)
theorem se_lrng2 {a b : Expr} {a' b' : E} {p p2 pos pos2 : Pos} (hc : X.calm = true) (hgl : Gl X "list") (hml : X.mg "list" = none) (hg : Gl X "range") (hm : X.mg "range" = none) (ha : PE X a (tF f W (ev cl a'))) (hb : PE X b (tF f W (ev cl b')))
    (hs : starEach [a, b] X.env = (false, eval a X.env) :: starEach [b] X.env) (hs2 : starEach [b] X.env = (false, eval b X.env) :: starEach [] X.env) :
    PE X (.Call (.Name "list" p) [.Call (.Name "range" p2) [a, b] [] pos2] [] pos) (tF f W (ev cl (.rng a' b'))) := by
  refine PE.imp (pe_listRg hc hgl hml (prg_2 hg hm ha hb hs hs2 (by rw [hs2]; rfl))) fun σ H Q ⟨gh, Φ, e, w, h⟩ => ?_
  unfold ev at h
  refine tF.bindS w h fun Φ1 H1 e1 x v s1 w1 r1 h1 => ?_
  refine tF.bindS w1 h1 fun Φ2 H2 e2 y u s2 w2 r2 h2 => ?_
  obtain ⟨dx, px, h3⟩ := Pst.peekS w2 (r1.keep s2) h2
  obtain ⟨dy, py, h4⟩ := Pst.peekS w2 r2 h3
  obtain ⟨ds, e', h5⟩ := Pst.opt h4
  obtain ⟨i, j, rfl, rfl, hc, rfl⟩ := rngL_some e'
  refine ⟨i, j, px.int, py.int, hc, fun q hq => ?_⟩
  obtain ⟨_, _, e', b⟩ := out_ok (r := some (true, .lst ((List.range (j - i).toNat).map fun (k : Nat) => D.int (i + k)))) w2 h5
  cases e'
  exact b.new w2.i2 hq (.lst (rg_rep i _))
theorem se_lrng1 {b : Expr} {b' : E} {p p2 pos pos2 : Pos} (hc : X.calm = true) (hgl : Gl X "list") (hml : X.mg "list" = none) (hg : Gl X "range") (hm : X.mg "range" = none) (hb : PE X b (tF f W (ev cl b')))
    (hs2 : starEach [b] X.env = (false, eval b X.env) :: starEach [] X.env) :
    PE X (.Call (.Name "list" p) [.Call (.Name "range" p2) [b] [] pos2] [] pos) (tF f W (ev cl (.rng (.con (.int 0)) b'))) := by
  refine PE.imp (pe_listRg hc hgl hml (prg_1 hg hm hb hs2)) fun σ H Q ⟨gh, Φ, e, w, h⟩ => ?_
  unfold ev at h
  rw [show ev cl (.con (.int 0)) = M.pure (.fz, .int 0) from by unfold ev; rfl, M.left] at h
  refine tF.bindS w h fun Φ2 H2 e2 y u s2 w2 r2 h2 => ?_
  rw [show peek (Kd.fz, D.int 0) = M.pure (.int 0) from rfl, M.left] at h2
  obtain ⟨dy, py, h4⟩ := Pst.peekS w2 r2 h2
  obtain ⟨ds, e', h5⟩ := Pst.opt h4
  obtain ⟨i, j, e0, rfl, hc, rfl⟩ := rngL_some e'
  cases e0
  refine ⟨j, py.int, hc, fun q hq => ?_⟩
  obtain ⟨_, _, e', b⟩ := out_ok (r := some (true, .lst ((List.range (j - 0).toNat).map fun (k : Nat) => D.int (0 + k)))) w2 h5
  cases e'
  exact b.new w2.i2 hq (.lst (rg_rep 0 _))
end
end Pm
namespace Pm
open PySem PySem.Spec PyProof.Rows L2

theorem M.bind_ok {α β : Type} {m : M α} {g : α → M β} {e : Ev} {b : β} {e' : Ev} (h : M.bind m g e = .ok b e') : ∃ a e1, m e = .ok a e1 ∧ g a e1 = .ok b e' := by
  unfold M.bind at h
  cases q : m e with
  | ok a e1 => rw [q] at h; exact ⟨a, e1, rfl, h⟩
  | ex _ _ => rw [q] at h; cases h
  | bad => rw [q] at h; cases h
section
variable {f : Fm} {W : WX} {gh : List (Addr × HO)} {Φ Φ' H H' : Hp} {σ : L2.St} {e : Ev}

theorem Wf.ghost {D : Addr} {o : HO} (w : Wf f gh Φ H σ e) (n : H D = none) : Wf f ((D, o) :: gh) Φ (upd H D o) σ e := by
  have g : Gr Φ H Φ (upd H D o) := ⟨Same.refl _, w.i2.trans (same_upd n), same_upd n, fun _ _ q => .inl q⟩
  have w' := w.grow g
  refine ⟨w'.i1, w'.i2, w'.i3, w'.i4, w'.i5, w'.sl, w'.ap, w'.ln, fun a x h => ?_, fun i l d a x he hs h => ?_, w'.lt⟩
  · rcases List.mem_cons.mp h with q | q
    · cases q
      exact ⟨w.i2.free n, upd_same, w.i4 D n⟩
    · exact w'.gd a x q
  · rcases List.mem_cons.mp h with q | q
    · cases q
      obtain ⟨a, o', e1, _, e2, _⟩ := w.sl i _ he
      rw [hs] at e1; cases e1
      rw [n] at e2; cases e2
    · exact w'.ga i l d a x he hs q
theorem Wf.drop {g : Addr × HO} (w : Wf f (g :: gh) Φ H σ e) : Wf f gh Φ H σ e :=
  ⟨w.i1, w.i2, w.i3, w.i4, w.i5, w.sl, w.ap, w.ln, fun a x h => w.gd a x (List.mem_cons_of_mem _ h), fun i l d a x he hs h => w.ga i l d a x he hs (List.mem_cons_of_mem _ h), w.lt⟩
theorem Wf.ghost_set {D : Addr} {o o' : HO} (w : Wf f ((D, o) :: gh) Φ H σ e) (hn : ∀ x, (D, x) ∉ gh) : Wf f ((D, o') :: gh) Φ (upd H D o') σ e := by
  obtain ⟨n, h, h0⟩ := w.gd D o List.mem_cons_self
  have nD : ∀ b x, Φ b = some x → b ≠ D := fun b x q z => by rw [z, n] at q; cases q
  refine ⟨w.i1, fun b x q => ?_, fun b x q nb => ?_, fun b q => ?_, w.i5, fun i s hs => ?_, w.ap, w.ln, fun a x q => ?_, fun i l d a x he hs q => ?_, w.lt⟩
  · rw [upd_ne (nD b x q)]; exact w.i2 b x q
  · rw [upd_ne (ne_of_none q h0)]
    exact w.i3 b x q nb
  · by_cases hb : b = D
    · subst hb; rw [upd_same] at q; cases q
    · rw [upd_ne hb] at q; exact w.i4 b q
  · have q := w.sl i s hs
    cases s with
    | no => exact True.intro
    | fz l d => exact q
    | ow l d =>
      obtain ⟨a, x, e1, e2, e3, e4, e5⟩ := q
      refine ⟨a, x, e1, e2, ?_, e4, e5⟩
      rw [upd_ne]
      · exact e3
      · rintro rfl
        exact w.ga i l d a o hs e1 List.mem_cons_self
  · rcases List.mem_cons.mp q with z | z
    · cases z; exact ⟨n, upd_same, h0⟩
    · obtain ⟨q1, q2, q3⟩ := w.gd a x (List.mem_cons_of_mem _ z)
      refine ⟨q1, ?_, q3⟩
      rw [upd_ne]
      · exact q2
      · rintro rfl
        exact hn _ z
  · rcases List.mem_cons.mp q with q | q
    · cases q; exact w.ga i l d D o he hs List.mem_cons_self
    · exact w.ga i l d a x he hs (List.mem_cons_of_mem _ q)
theorem Wf.unghost {p : Addr} {o : HO} {d : D} (w : Wf f ((p, o) :: gh) Φ H σ e) (hn : ∀ x, (p, x) ∉ gh) (r : RepO f.toKx Φ o d) : RK f gh Φ H σ e (.ref p) (.fr, d) := by
  obtain ⟨n, h, h0⟩ := w.gd p o List.mem_cons_self
  exact ⟨p, o, rfl, n, h, r, h0, fun i l d' he hs => w.ga i l d' p o he hs List.mem_cons_self, hn⟩
theorem Wf.noGhost {D : Addr} (w : Wf f gh Φ H σ e) (n : H D = none) : ∀ x, (D, x) ∉ gh := fun x h => by
  rw [(w.gd D x h).2.1] at n; cases n

theorem hide_len : ∀ {own : List Nat} {e : Ev}, (hide e own).length = e.length
  | [], _ => rfl
  | i :: is, e => by show ((hide e is).set i .no).length = _; rw [List.length_set, hide_len]
theorem hide_out : ∀ {own : List Nat} {e : Ev} {i : Nat}, i ∉ own → (hide e own)[i]? = e[i]?
  | [], _, _, _ => rfl
  | j :: is, e, i, h => by
    rw [List.mem_cons, not_or] at h
    show ((hide e is).set j .no)[i]? = _
    rw [List.getElem?_set_ne (Ne.symm h.1), hide_out h.2]
theorem hide_in : ∀ {own : List Nat} {e : Ev} {i : Nat} {s : Sl}, i ∈ own → (hide e own)[i]? = some s → s = .no
  | j :: is, e, i, s, h, q => by
    have q : ((hide e is).set j .no)[i]? = some s := q
    by_cases hj : j = i
    · subst hj
      have hl : j < (hide e is).length := by
        have := (List.getElem?_eq_some_iff.mp q).1
        rwa [List.length_set] at this
      rw [List.getElem?_set_self hl] at q
      exact (Option.some.inj q).symm
    · rw [List.getElem?_set_ne hj] at q
      rcases List.mem_cons.mp h with z | z
      · exact absurd z.symm hj
      · exact hide_in z q
theorem unhide_len {e₀ : Ev} : ∀ {own : List Nat} {e : Ev}, (unhide e₀ e own).length = e.length
  | [], _ => rfl
  | i :: is, e => by show ((unhide e₀ e is).set i _).length = _; rw [List.length_set, unhide_len]
theorem unhide_out {e₀ : Ev} : ∀ {own : List Nat} {e : Ev} {i : Nat}, i ∉ own → (unhide e₀ e own)[i]? = e[i]?
  | [], _, _, _ => rfl
  | j :: is, e, i, h => by
    rw [List.mem_cons, not_or] at h
    show ((unhide e₀ e is).set j _)[i]? = _
    rw [List.getElem?_set_ne (Ne.symm h.1), unhide_out h.2]
theorem unhide_in {e₀ : Ev} : ∀ {own : List Nat} {e : Ev} {i : Nat} {s : Sl}, i ∈ own → (unhide e₀ e own)[i]? = some s → s = e₀.getD i .no
  | j :: is, e, i, s, h, q => by
    have q : ((unhide e₀ e is).set j (e₀.getD j .no))[i]? = some s := q
    by_cases hj : j = i
    · subst hj
      have hl : j < (unhide e₀ e is).length := by
        have := (List.getElem?_eq_some_iff.mp q).1
        rwa [List.length_set] at this
      rw [List.getElem?_set_self hl] at q
      exact (Option.some.inj q).symm
    · rw [List.getElem?_set_ne hj] at q
      rcases List.mem_cons.mp h with z | z
      · exact absurd z.symm hj
      · exact unhide_in z q
theorem Wf.hide {own : List Nat} {σ' : L2.St} (w : Wf f gh Φ H σ e) (hl : ∀ p ∈ f.lent, p.1 ∉ own) (k : Kp own σ σ') : Wf f gh Φ H σ' (hide e own) := by
  have out : ∀ {i : Nat} {s : Sl}, (Pm.hide e own)[i]? = some s → s ≠ .no → i ∉ own ∧ e[i]? = some s := fun {i s} q n => by
    by_cases hi : i ∈ own
    · exact absurd (hide_in hi q) n
    · rw [hide_out hi] at q; exact ⟨hi, q⟩
  refine ⟨w.i1, w.i2, w.i3, w.i4, w.i5, fun i s q => ?_, fun i j l m d d' a hi hj si sj => ?_, by rw [hide_len, k.ln]; exact w.ln, w.gd, fun i l d a x he hs' => ?_, fun i a hla => ?_⟩
  · cases s with
    | no => exact True.intro
    | fz l d =>
      obtain ⟨h1, h2⟩ := out q (by simp)
      rw [k.at_ i h1]; exact w.sl i _ h2
    | ow l d =>
      obtain ⟨h1, h2⟩ := out q (by simp)
      rw [k.at_ i h1]; exact w.sl i _ h2
  · obtain ⟨h1, h2⟩ := out hi (by simp)
    obtain ⟨h3, h4⟩ := out hj (by simp)
    rw [k.at_ i h1] at si
    rw [k.at_ j h3] at sj
    exact w.ap i j l m d d' a h2 h4 si sj
  · obtain ⟨h1, h2⟩ := out he (by simp)
    rw [k.at_ i h1] at hs'
    exact w.ga i l d a x h2 hs'
  · obtain ⟨h1, d, h2⟩ := w.lt i a hla
    have hi : i ∉ own := hl _ hla
    rw [k.at_ i hi, hide_out hi]
    exact ⟨h1, d, h2⟩
theorem ownFree_at {own : List Nat} (h : ownFree e own = true) {i : Nat} (hi : i ∈ own) : ∃ s, e[i]? = some s ∧ (s = .no ∨ ∃ d, s = .fz true d) := by
  unfold ownFree at h
  rw [List.all_eq_true] at h
  have q := h i hi
  cases hs : e[i]? with
  | none => rw [hs] at q; cases q
  | some s =>
    rw [hs] at q
    cases s with
    | no => exact ⟨_, rfl, .inl rfl⟩
    | fz l d =>
      cases l with
      | true => exact ⟨_, rfl, .inr ⟨d, rfl⟩⟩
      | false => cases q
    | ow l d => cases q
theorem ownFree_lent {own : List Nat} (w : Wf f gh Φ H σ e) (h : ownFree e own = true) : ∀ p ∈ f.lent, p.1 ∉ own := fun ⟨i, a⟩ hp hi => by
  obtain ⟨s, h1, h2⟩ := ownFree_at h hi
  obtain ⟨_, d, h3⟩ := w.lt i a hp
  rw [h1] at h3
  rcases h2 with rfl | ⟨d', rfl⟩
  · rcases h3 with h3 | h3 <;> cases h3
  · rcases h3 with h3 | h3 <;> cases h3
theorem Wf.unhide {own : List Nat} {σb : L2.St} {e₀ : Ev} {Φ0 H0 : Hp} {gh0 : List (Addr × HO)} (w : Wf f gh Φ H σb e) (w0 : Wf f gh0 Φ0 H0 σ e₀) (s : Same Φ0 Φ) (hf : ownFree e₀ own = true) (k : Kp own σb σ) :
    Wf f gh Φ H σ (unhide e₀ e own) := by
  have hl := ownFree_lent w0 hf
  have out : ∀ {i : Nat} {l : Bool} {d : D}, (Pm.unhide e₀ e own)[i]? = some (.ow l d) → i ∉ own ∧ e[i]? = some (.ow l d) := fun {i l d} q => by
    by_cases hi : i ∈ own
    · have z := unhide_in hi q
      obtain ⟨t, h1, h2⟩ := ownFree_at hf hi
      rw [List.getD_eq_getElem?_getD, h1] at z
      rcases h2 with rfl | ⟨d', rfl⟩ <;> cases z
    · rw [unhide_out hi] at q; exact ⟨hi, q⟩
  refine ⟨w.i1, w.i2, w.i3, w.i4, w.i5, fun i t q => ?_, fun i j l m d d' a hi hj si sj => ?_, by rw [unhide_len, k.ln]; exact w.ln, w.gd, fun i l d a x he hs' => ?_, fun i a hla => ?_⟩
  · by_cases hi : i ∈ own
    · have z := unhide_in hi q
      obtain ⟨t', h1, h2⟩ := ownFree_at hf hi
      rw [List.getD_eq_getElem?_getD, h1] at z
      have z : t = t' := z
      subst z
      have := w0.sl i _ h1
      rcases h2 with rfl | ⟨d', rfl⟩
      · exact True.intro
      · obtain ⟨x, q1, q2⟩ := this
        exact ⟨x, q1, q2.mono s⟩
    · rw [unhide_out hi] at q
      rw [k.at_ i hi]
      exact w.sl i t q
  · obtain ⟨h1, h2⟩ := out hi
    obtain ⟨h3, h4⟩ := out hj
    rw [k.at_ i h1] at si
    rw [k.at_ j h3] at sj
    exact w.ap i j l m d d' a h2 h4 si sj
  · obtain ⟨h1, h2⟩ := out he
    rw [k.at_ i h1] at hs'
    exact w.ga i l d a x h2 hs'
  · obtain ⟨h1, d, h2⟩ := w.lt i a hla
    have hi : i ∉ own := hl _ hla
    rw [k.at_ i hi, unhide_out hi]
    exact ⟨h1, d, h2⟩
theorem wipe_kp (σ : L2.St) (vs : List Nat) : Kp vs σ (wipe σ vs) := ⟨wipe_length σ vs, fun j h => wipe_out h⟩
theorem wipe_in : ∀ {vs : List Nat} {σ : L2.St} {i : Nat}, i ∈ vs → i < σ.length → (wipe σ vs)[i]? = some none
  | v :: vs, σ, i, h, hl => by
    show ((wipe σ vs).set v none)[i]? = some none
    by_cases hv : v = i
    · subst hv
      rw [List.getElem?_set_self (by rw [wipe_length]; exact hl)]
    · rw [List.getElem?_set_ne hv]
      rcases List.mem_cons.mp h with z | z
      · exact absurd z.symm hv
      · exact wipe_in z hl
/-- slots that agree outside are alike once wiped -/
theorem wipe_eq {vs : List Nat} {σ σ2 : L2.St} (k : Kp vs (wipe σ vs) σ2) : wipe σ2 vs = wipe σ vs := by
  have hl : σ2.length = σ.length := by rw [k.ln, wipe_length]
  apply List.ext_getElem?
  intro i
  by_cases hi : i ∈ vs
  · by_cases hlt : i < σ.length
    · rw [wipe_in hi hlt, wipe_in hi (by rw [hl]; exact hlt)]
    · rw [List.getElem?_eq_none (by rw [wipe_length]; omega), List.getElem?_eq_none (by rw [wipe_length]; omega)]
  · rw [wipe_out hi, k.at_ i hi]

def Pm.It.n : Pm.It → Nat
  | .items ds => ds.length
  | .al _ n => n
def Runs (turn : D → M (Option D)) (k : Nat) (e : Ev) (rest : List D) (e' : Ev) : Pm.It → Prop
  | .items ds => lcGo turn (ds.drop k) e = .ok rest e'
  | .al i n => lcAl turn i n (n - k) e = .ok rest e'
theorem itemAt_ok {i n k : Nat} {d : D} {e' : Ev} (h : itemAt i n k e = .ok d e') : e' = e ∧ ∃ xs, xs.length = n ∧ xs[k]? = some d ∧ ((∃ l, e[i]? = some (.ow l (.lst xs))) ∨ ∃ l, e[i]? = some (.fz l (.lst xs))) := by
  unfold itemAt at h
  split at h
  · rename_i l xs hs
    split at h
    · rename_i hl
      split at h
      · rename_i x hx
        cases h
        exact ⟨rfl, xs, hl, hx, .inl ⟨_, hs⟩⟩
      · cases h
    · cases h
  · rename_i l xs hs
    split at h
    · rename_i hl
      split at h
      · rename_i x hx
        cases h
        exact ⟨rfl, xs, hl, hx, .inr ⟨_, hs⟩⟩
      · cases h
    · cases h
  · cases h
theorem itemEnd_ok {i n : Nat} {e' : Ev} (h : itemEnd i n e = .ok () e') : e' = e ∧ ∃ xs, xs.length = n ∧ ((∃ l, e[i]? = some (.ow l (.lst xs))) ∨ ∃ l, e[i]? = some (.fz l (.lst xs))) := by
  unfold itemEnd at h
  split at h
  · rename_i l xs hs
    split at h
    · rename_i hl
      cases h
      exact ⟨rfl, xs, hl, .inl ⟨_, hs⟩⟩
    · cases h
  · rename_i l xs hs
    split at h
    · rename_i hl
      cases h
      exact ⟨rfl, xs, hl, .inr ⟨_, hs⟩⟩
    · cases h
  · cases h
theorem slot_pr {i : Nat} {xs : List D} {v : V} (w : Wf f gh Φ H σ e) (hv : σ[i]? = some (some v)) (h : (∃ l, e[i]? = some (.ow l (.lst xs))) ∨ ∃ l, e[i]? = some (.fz l (.lst xs))) : PR f.toKx Φ H v (.lst xs) := by
  rcases h with ⟨l, h⟩ | ⟨l, h⟩
  · obtain ⟨a, o, e1, _, e2, r, _⟩ := w.sl i _ h
    rw [hv] at e1; cases e1
    exact .inr ⟨a, o, rfl, e2, r⟩
  · obtain ⟨x, e1, r⟩ := w.sl i _ h
    rw [hv] at e1; cases e1
    exact .inl r
/-- what comes next -/
theorem runs_step {turn : D → M (Option D)} {J : L2.It} {w : Pm.It} {Φ1 : Hp} {σb : L2.St} {k : Nat} {rest : List D} {e' : Ev} (wk : Wk f Φ1 σ J w) (s : Same Φ1 Φ) (W : Wf f gh Φ H σb e) (hk : k ≤ Pm.It.n w)
    (hi : ∀ i n, w = .al i n → σb[i]? = σ[i]?) (h : Runs turn k e rest e' w) :
    (k = Pm.It.n w ∧ J.stop k H ∧ rest = [] ∧ e' = e) ∨
    (k < Pm.It.n w ∧ J.go k H ∧ ∃ d y e1 r, (∀ x H3, J.yld k H x H3 → ∃ Φ3, Gr Φ H Φ3 H3 ∧ Rep f.toKx Φ3 x d) ∧ turn d e = .ok y e1 ∧ Runs turn (k + 1) e1 r e' w ∧ rest = y.toList ++ r) := by
  cases w with
  | items ds =>
    have h : lcGo turn (ds.drop k) e = .ok rest e' := h
    have hk : k ≤ ds.length := hk
    obtain ⟨g1, g2⟩ := wk Φ H s W.i2
    by_cases hlt : k < ds.length
    · rw [List.drop_eq_getElem_cons hlt] at h
      unfold lcGo at h
      obtain ⟨y, e1, h1, h2⟩ := M.bind_ok h
      obtain ⟨ys, e2, h3, h4⟩ := M.bind_ok h2
      cases h4
      obtain ⟨g3, g4⟩ := g1 k ds[k] (List.getElem?_eq_getElem hlt)
      exact .inr ⟨hlt, g3, ds[k], y, e1, ys, g4, h1, h3, rfl⟩
    · have hkl : k = ds.length := by omega
      subst hkl
      rw [List.drop_length] at h
      cases h
      exact .inl ⟨rfl, g2 _ (Nat.le_refl _), rfl, rfl⟩
  | al i n =>
    have h : lcAl turn i n (n - k) e = .ok rest e' := h
    have hk : k ≤ n := hk
    obtain ⟨v, hv, g⟩ := wk
    have hv' : σb[i]? = some (some v) := (hi i n rfl).trans hv
    by_cases hlt : k < n
    · obtain ⟨m, hm⟩ : ∃ m, n - k = m + 1 := ⟨n - k - 1, by omega⟩
      rw [hm] at h
      unfold lcAl at h
      obtain ⟨d, e1, h1, h2⟩ := M.bind_ok h
      obtain ⟨rfl, xs, hl, hx, hst⟩ := itemAt_ok h1
      rw [show n - (m + 1) = k by omega] at hx
      obtain ⟨y, e2, h3, h4⟩ := M.bind_ok h2
      obtain ⟨ys, e3, h5, h6⟩ := M.bind_ok h4
      cases h6
      obtain ⟨g1, g2⟩ := g Φ H xs W.i2 (slot_pr W hv' hst) hl
      obtain ⟨g3, g4⟩ := g1 k d hx
      refine .inr ⟨hlt, g3, d, y, e2, ys, g4, h3, ?_, rfl⟩
      show lcAl turn i n (n - (k + 1)) e2 = _
      rw [show n - (k + 1) = m by omega]
      exact h5
    · have hkl : k = n := by omega
      subst hkl
      rw [Nat.sub_self] at h
      unfold lcAl at h
      obtain ⟨_, e1, h1, h2⟩ := M.bind_ok h
      obtain ⟨rfl, xs, hl, hst⟩ := itemEnd_ok h1
      cases h2
      obtain ⟨g1, g2⟩ := g Φ H xs W.i2 (slot_pr W hv' hst) hl
      exact .inl ⟨rfl, g2 _ (Nat.le_refl _), rfl, rfl⟩
end
end Pm
namespace Pm
open PySem PySem.Spec PyProof.Rows L2

abbrev WF : WX := fun _ _ _ _ => False
section
variable {X : Cx} {f : Fm} {W : WX} {gh : List (Addr × HO)} {Φ Φ' H H' : Hp} {σ : L2.St} {e : Ev} {cl : Cl}
/-- the reading -/
theorem lc_read {tg : Tg} {elt' it' : E} {cs' : List E} {vs : List Nat} (hsub : ∀ j, j ∈ tg.slots → j ∈ vs) {Q : VK}
    (h : tF f W (ev cl (.lc elt' tg it' cs' vs)) σ H Q) : tLc (tFI f W (evI cl it')) (gOf f.K tg) (tFT f WF (evC cl cs')) (tF f WF (ev cl elt')) vs σ H Q := by
  obtain ⟨gh, Φ, e, w, h⟩ := h
  unfold ev at h
  refine ⟨gh, Φ, e, w, Pst.mono (Pst.bind h) (Same.refl _) fun Φ1 H1 e1 it s1 w1 h1 J wk p np => ?_⟩
  split at h1
  · rename_i hfree
    rw [Bool.and_eq_true] at hfree
    obtain ⟨hfree, hal⟩ := hfree
    split at h1
    · rename_i res e2 hr
      split at h1
      · rename_i hline
        have hline := of_decide_eq_true hline
        have lent := ownFree_lent w1 hfree
        have kb := wipe_kp σ vs
        have w0 : Wf f ((p, .lst []) :: gh) Φ1 (upd H1 p (.lst [])) (wipe σ vs) (hide e1 vs) := (w1.ghost np).hide lent kb
        have ngh := w1.noGhost np
        have hali : ∀ i n, it = .al i n → (wipe σ vs)[i]? = σ[i]? := fun i n q => by
          subst q
          refine kb.at_ i fun hi => ?_
          simp [alFree, hi] at hal
        generalize hturn : (fun x => M.bind (store tg x) fun _ => M.bind (evC cl cs') fun t =>
          if t = true then M.bind (ev cl elt') fun y => M.bind (freeze y) fun d => M.bind (hideM vs) fun _ => M.pure (some d) else M.bind (hideM vs) fun _ => M.pure none) = turn at hr
        have hr0 : Runs turn 0 (hide e1 vs) res e2 it := by
          cases it with
          | items ds => exact hr
          | al i n => exact hr
        refine ⟨fun k m H => ∃ Φ2 e acc dn rest, m = Pm.It.n it - k ∧ k ≤ Pm.It.n it ∧ Same Φ1 Φ2 ∧ Wf f ((p, .lst acc) :: gh) Φ2 H (wipe σ vs) e ∧ RepL f.toKx Φ2 acc dn ∧ Runs turn k e rest e2 it ∧ dn ++ rest = res,
          ⟨Pm.It.n it, Φ1, hide e1 vs, [], [], res, rfl, Nat.zero_le _, Same.refl _, w0, .nil, hr0, rfl⟩, ?_⟩
        rintro k m H ⟨Φ2, e, acc, dn, rest, rfl, hk, s2, w2, ra, hr, hd⟩
        rcases runs_step wk s2 w2 hk hali hr with ⟨hkn, hstop, rfl, rfl⟩ | ⟨hlt, hgo, d, y, e3, r, hy, ht, hr', rfl⟩
        · refine .inl ⟨hstop, ?_⟩
          rw [List.append_nil] at hd
          subst hd
          have w3 := w2.unhide w1 s2 hfree kb.symm
          exact h1 Φ2 H s2 w3.drop _ (w3.unghost ngh (.lst ra))
        · refine .inr ⟨hgo, fun H' => ∃ m', m' < Pm.It.n it - k ∧ ∃ Φ2 e acc dn rest, m' = Pm.It.n it - (k + 1) ∧ k + 1 ≤ Pm.It.n it ∧ Same Φ1 Φ2 ∧ Wf f ((p, .lst acc) :: gh) Φ2 H' (wipe σ vs) e ∧ RepL f.toKx Φ2 acc dn ∧ Runs turn (k + 1) e rest e2 it ∧ dn ++ rest = res,
            fun H' q => q, fun x H' hyy => ?_⟩
          obtain ⟨Φ3, g3, rx⟩ := hy x H' hyy
          have w3 := w2.grow g3
          subst hturn
          obtain ⟨_, e4, hst, ht2⟩ := M.bind_ok ht
          obtain ⟨t, e5, hcs, ht3⟩ := M.bind_ok ht2
          refine store_ok' w3 hst rx fun σ2 w4 k4 => ⟨wipe_eq (k4.weak hsub), ?_⟩
          refine ⟨_, Φ3, e4, w4, ?_⟩
          rw [hcs]
          intro Φ5 H5 s5 w5
          cases t with
          | true =>
            rw [if_pos rfl] at ht3
            obtain ⟨kd, e6, hel, ht4⟩ := M.bind_ok ht3
            obtain ⟨dv, e7, hfz, ht5⟩ := M.bind_ok ht4
            obtain ⟨_, e8, hh, ht6⟩ := M.bind_ok ht5
            cases hh
            cases ht6
            refine iteT ⟨_, Φ5, e5, w5, ?_⟩
            rw [hel]
            intro Φ6 H6 s6 w6 v rv
            obtain ⟨Φ7, s7, w7, rp⟩ := freeze_ok w6 rv hfz
            obtain ⟨_, hp6, _⟩ := w7.gd p _ List.mem_cons_self
            refine ⟨acc, hp6, ?_, Pm.It.n it - (k + 1), by omega, Φ7, hide e7 vs, acc ++ [v], dn ++ [dv], r, rfl, hlt, s2.trans (g3.s1.trans (s5.trans (s6.trans s7))), (w7.ghost_set ngh).hide lent (k4.weak hsub).symm,
              (ra.mono (g3.s1.trans (s5.trans (s6.trans s7)))).app (.cons rp .nil), hr', ?_⟩
            · rw [ra.length]
              have : dn.length < res.length := by rw [← hd]; simp
              omega
            · rw [← hd]; simp
          | false =>
            rw [if_neg (by decide)] at ht3
            obtain ⟨_, e8, hh, ht6⟩ := M.bind_ok ht3
            cases hh
            cases ht6
            exact iteF ⟨Pm.It.n it - (k + 1), by omega, Φ5, hide e5 vs, acc, dn, r, rfl, hlt, s2.trans (g3.s1.trans s5), w5.hide lent (k4.weak hsub).symm, ra.mono (g3.s1.trans s5), hr', by rw [← hd]; simp⟩
      · exact h1.elim
    · exact h1.elim
  · exact h1.elim

theorem se_lc {elt tgx iter : Expr} {ifs : List Expr} {scope : Scope} {own : List (Str × Nat)} {pos : Pos} {tg : Tg} {elt' it' : E} {cs' : List E} (ek : X.K = f.K) (hc : X.calm = true) (hN : X.N.Nodup)
    (hi : PI X tgx iter (tFI f W (evI cl it'))) (ok : BlkOk X.N X.env.scope scope own)
    (hg : ∀ (s : Shared) (H : Hp) (C : Addr) (cc : List (Str × Addr)) (fp : List Addr), PG (X.blk s H scope (compEnvC scope cc C X.env) fp) tgx (gOf X.K tg))
    (ht : ∀ (s : Shared) (H : Hp) (C : Addr) (cc : List (Str × Addr)) (fp : List Addr), PTs (X.blk s H scope (compEnvC scope cc C X.env) fp) ifs (tFT f WF (evC cl cs')))
    (he : ∀ (s : Shared) (H : Hp) (C : Addr) (cc : List (Str × Addr)) (fp : List Addr), PE (X.blk s H scope (compEnvC scope cc C X.env) fp) elt (tF f WF (ev cl elt')))
    (hs : ∀ x, foldedSetIterable iter X.env x = pure x) (hsub : ∀ j, j ∈ tg.slots → j ∈ own.map (·.2)) :
    PE X (.ListComp elt [⟨tgx, iter, ifs, 0⟩] scope pos) (tF f W (ev cl (.lc elt' tg it' cs' (own.map (·.2))))) :=
  PE.imp (pe_lc hc hN hi ok hg ht he hs) fun σ H Q h => by
    rw [ek]
    exact lc_read hsub h

theorem Pst.more {α : Type} {g : Addr × HO} {r : R α} {N : Hp → Hp → Ev → α → Prop} (h : Pst f W gh σ r Φ N) : Pst f W (g :: gh) σ r Φ fun Φ' H' e' a => N Φ' H' e' a ∧ Wf f (g :: gh) Φ' H' σ e' := by
  cases r with
  | ok a e => exact fun Φ1 H1 s1 w => ⟨h Φ1 H1 s1 w.drop, w⟩
  | ex x e => exact fun Φ1 H1 cls dd s1 w => h Φ1 H1 cls dd s1 w.drop
  | bad => exact h
def trOf (f : Fm) (W : WX) (cl : Cl) : List E → List (TE × TE)
  | k :: v :: r => (tF f W (ev cl k), tF f W (ev cl v)) :: trOf f W cl r
  | _ => []
theorem key_of {k : Kx} {v : V} {d : D} {key : Key} (h : PR k Φ H v d) (e : keyOf d = some key) : v = kV key := by
  cases d with
  | int i => cases e; exact h.int
  | str x => cases e; exact h.str
  | _ => cases e
theorem pairs_ok : ∀ (es : List E) {gh : List (Addr × HO)} {Φ H : Hp} {e : Ev} {N : Hp → Hp → Ev → List (Key × D) → Prop} {Q : List (V × V) → Hp → Prop}, Wf f gh Φ H σ e → Pst f W gh σ (evD cl es e) Φ N →
    (∀ Φ' H' e' ps vs, Same Φ Φ' → Wf f gh Φ' H' σ e' → N Φ' H' e' ps → RepL f.toKx Φ' vs (ps.map (·.2)) → Q (((ps.map (·.1)).zip vs).map fun kv => (kV kv.1, kv.2)) H') → tPairs (trOf f W cl es) σ H Q
  | [], gh, Φ, H, e, N, Q, w, h, q => by
    unfold evD at h
    exact q Φ H e [] [] (Same.refl _) w (h Φ H (Same.refl _) w) .nil
  | [a], gh, Φ, H, e, N, Q, w, h, q => by
    unfold evD at h
    exact h.elim
  | k :: v :: r, gh, Φ, H, e, N, Q, w, h, q => by
    unfold evD at h
    refine tF.bindS w h fun Φ1 H1 e1 x vk s1 w1 r1 h1 => ?_
    obtain ⟨d, px, h2⟩ := Pst.peekS w1 r1 h1
    obtain ⟨key, ek, h3⟩ := Pst.opt h2
    obtain rfl := key_of px ek
    refine tF.bind w1 h3 fun Φ2 H2 e2 y vv s2 w2 r2 h4 => ?_
    obtain ⟨Φ3, e3, dv, s3, w3, rp, h5⟩ := Pst.freeze w2 r2 h4
    refine pairs_ok r w3 (Pst.bind h5) fun Φ4 H4 e4 ps vs s4 w4 n4 rs => ?_
    exact q Φ4 H4 e4 ((key, dv) :: ps) (vv :: vs) (s1.trans (s2.trans (s3.trans s4))) w4 (n4 Φ4 H4 (Same.refl _) w4) (.cons (rp.mono s4) rs)
theorem valV_none {kvs : List (Key × V)} {k : Key} (h : k ∉ kvs.map (·.1)) : valV kvs k = none := by
  induction kvs with
  | nil => rfl
  | cons p r ih =>
    rw [List.map_cons, List.mem_cons, not_or] at h
    rw [valV_neg (Ne.symm h.1)]
    exact ih h.2
theorem merge_nd : ∀ (more kvs : List (Key × V)), ((kvs ++ more).map (·.1)).Nodup → mergeK kvs more = kvs ++ more
  | [], kvs, _ => by simp [mergeK]
  | p :: r, kvs, h => by
    have hn : p.1 ∉ kvs.map (·.1) := by
      rw [List.map_append, List.nodup_append] at h
      intro q
      exact h.2.2 _ q _ (by simp) rfl
    show mergeK (putK kvs p.1 p.2) r = _
    rw [putK_new _ (valV_none hn), merge_nd r _ (by simpa using h)]
    simp
theorem se_dct {keys : List (Option Expr)} {values : List Expr} {es : List E} {pos : Pos} (hp : PPs X pos keys values (trOf f W cl es)) (hall : keys.all (·.isSome) = true) (hl : keys.length = values.length) (h0 : keys ≠ []) (h15 : keys.length ≤ 15) :
    PE X (.Dict keys values pos) (tF f W (ev cl (.dct es))) := by
  refine PE.imp (pe_disp hp hall hl h0 h15) fun σ H Q ⟨gh, Φ, e, w, h⟩ p np => ?_
  unfold ev at h
  have w0 : Wf f ((p, .dK []) :: gh) Φ (upd H p (.dK [])) σ e := w.ghost np
  have ngh := w.noGhost np
  refine pairs_ok es w0 (Pst.bind h).more fun Φ1 H1 e1 ps vs s1 w1 n1 rs => ?_
  obtain ⟨n1, w1⟩ := n1
  obtain ⟨_, hp1, _⟩ := w1.gd p _ List.mem_cons_self
  have n2 := n1
  split at n2
  · rename_i hc
    have hc := of_decide_eq_true hc
    have hlen : ps.length = vs.length := by
      have := rs.length
      rw [List.length_map] at this
      exact this.symm
    have e1' : (((ps.map (·.1)).zip vs).map (·.1)) = ps.map (·.1) := by
      rw [List.map_fst_zip]
      rw [List.length_map, hlen]
      exact Nat.le_refl _
    have e2' : (((ps.map (·.1)).zip vs).map (·.2)) = vs := by
      rw [List.map_snd_zip]
      rw [List.length_map, hlen]
      exact Nat.le_refl _
    refine ⟨hp1, (ps.map (·.1)).zip vs, rfl, ?_, ?_⟩
    · rw [List.length_zip, List.length_map]
      omega
    · rw [merge_nd _ [] (by rw [List.nil_append, e1']; exact hc.1), List.nil_append]
      have w2 := w1.ghost_set (o' := .dK ((ps.map (·.1)).zip vs)) ngh
      exact n2 Φ1 _ (Same.refl _) w2.drop _ (w2.unghost ngh (.dct e1' (by rw [e2']; exact rs)))
  · exact n2.elim
theorem se_dct0 {pos : Pos} : PE X (.Dict [] [] pos) (tF f W (ev cl (.dct []))) := by
  refine PE.imp pe_dnewK fun σ H Q ⟨gh, Φ, e, w, h⟩ p np => ?_
  unfold ev evD at h
  have w0 : Wf f ((p, .dK []) :: gh) Φ (upd H p (.dK [])) σ e := w.ghost np
  exact h Φ _ (Same.refl _) w0.drop _ (w0.unghost (w.noGhost np) (.dct rfl .nil))
end
end Pm
namespace Pm
open PySem PySem.Spec PyProof.Rows L2

/-- what is handed back -/
def RR (f : Fm) (Φ H : Hp) (v : V) (fr : Bool) (d : D) : Prop :=
  if fr then ∃ a o, v = .ref a ∧ Φ a = none ∧ H a = some o ∧ RepO f.toKx Φ o d ∧ f.H0 a = none else Rep f.toKx Φ v d
def PstS (f : Fm) (W : WX) (gh : List (Addr × HO)) (A : List Nat) (σ : L2.St) (D : Ends) (r : R Fl) (Φ : Hp) : Prop := match r with
  | .ok .nx e => ∀ Φ' σ' H', Kp A σ σ' → Same Φ Φ' → Wf f gh Φ' H' σ' e → D.nx σ' H'
  | .ok .brk e => ∀ Φ' σ' H', Kp A σ σ' → Same Φ Φ' → Wf f gh Φ' H' σ' e → D.bk σ' H'
  | .ok .cnt e => ∀ Φ' σ' H', Kp A σ σ' → Same Φ Φ' → Wf f gh Φ' H' σ' e → D.ct σ' H'
  | .ok (.ret fr d) e => ∀ Φ' σ' H' v, Kp A σ σ' → Same Φ Φ' → Wf f gh Φ' H' σ' e → RR f Φ' H' v fr d → D.rt v H'
  | .ex x e => ∀ Φ' σ' H' cls dd, Kp A σ σ' → Same Φ Φ' → Wf f gh Φ' H' σ' e → RX f.toKx Φ' H' cls dd x → W cls dd σ' H'
  | .bad => False
def tX (f : Fm) (W : WX) (A : List Nat) (m : M Fl) : TS := fun D σ H => ∃ gh Φ e, Wf f gh Φ H σ e ∧ PstS f W gh A σ D (m e) Φ
theorem PS.imp {X : Cx} {s : Stmt} {t t' : TS} (h : PS X s t) (i : ∀ D σ H, t' D σ H → t D σ H) : PS X s t' := ⟨fun pins s σ H D I q => h.run pins s σ H D I (i D σ H q)⟩
theorem PSs.imp {X : Cx} {s : List Stmt} {t t' : TS} (h : PSs X s t) (i : ∀ D σ H, t' D σ H → t D σ H) : PSs X s t' := ⟨fun pins s σ H D I q => h.run pins s σ H D I (i D σ H q)⟩

section
variable {X : Cx} {f : Fm} {W : WX} {gh : List (Addr × HO)} {Φ Φ' H H' : Hp} {σ σ' : L2.St} {e : Ev} {α β : Type} {cl : Cl} {A B : List Nat} {G : Ends}
/-- from a later point -/
theorem PstS.shift {r : R Fl} (h : PstS f W gh A σ G r Φ) (k : Kp B σ σ') (s : Same Φ Φ') (hs : ∀ j, j ∈ B → j ∈ A) : PstS f W gh A σ' G r Φ' := by
  have t : ∀ {σ2}, Kp A σ' σ2 → Kp A σ σ2 := fun k2 => ((k.weak hs).trans k2).weak fun j q => by simpa using q
  cases r with
  | ok fl e =>
    cases fl with
    | nx => exact fun Φ1 σ1 H1 k1 s1 w => h Φ1 σ1 H1 (t k1) (s.trans s1) w
    | brk => exact fun Φ1 σ1 H1 k1 s1 w => h Φ1 σ1 H1 (t k1) (s.trans s1) w
    | cnt => exact fun Φ1 σ1 H1 k1 s1 w => h Φ1 σ1 H1 (t k1) (s.trans s1) w
    | ret fr d => exact fun Φ1 σ1 H1 v k1 s1 w => h Φ1 σ1 H1 v (t k1) (s.trans s1) w
  | ex x e => exact fun Φ1 σ1 H1 cls dd k1 s1 w => h Φ1 σ1 H1 cls dd (t k1) (s.trans s1) w
  | bad => exact h
/-- an expression, then the rest -/
theorem PstS.bind {m : M α} {g : α → M Fl} (h : PstS f W gh A σ G (M.bind m g e) Φ) : Pst f W gh σ (m e) Φ fun Φ1 H1 e1 a => PstS f W gh A σ G (g a e1) Φ1 := by
  unfold M.bind at h
  cases q : m e with
  | ok a e1 =>
    rw [q] at h
    exact fun Φ1 H1 s1 w => PstS.shift h (Kp.refl [] σ) s1 (fun _ z => by cases z)
  | ex x e1 =>
    rw [q] at h
    exact fun Φ1 H1 cls dd s1 w => h Φ1 σ H1 cls dd (Kp.refl _ _) s1 w
  | bad =>
    rw [q] at h
    exact h
theorem PstS.freeze {x : KD} {g : D → M Fl} {v : V} {E : Ends} (w : Wf f gh Φ H σ e) (r : RK f gh Φ H σ e v x) (h : PstS f W gh A σ E (M.bind (Pm.freeze x) g e) Φ) :
    ∃ Φ' e' d, Same Φ Φ' ∧ Wf f gh Φ' H σ e' ∧ Rep f.toKx Φ' v d ∧ PstS f W gh A σ E (g d e') Φ' := by
  unfold M.bind at h
  cases q : Pm.freeze x e with
  | ok d e1 =>
    rw [q] at h
    obtain ⟨Φ', s, w', p⟩ := freeze_ok w r q
    exact ⟨Φ', e1, d, s, w', p, PstS.shift h (Kp.refl [] σ) s (fun _ z => by cases z)⟩
  | ex y e1 => exact (freeze_noex q).elim
  | bad =>
    rw [q] at h
    exact h.elim
theorem PstS.peek {x : KD} {g : D → M Fl} {v : V} {E : Ends} (w : Wf f gh Φ H σ e) (r : RK f gh Φ H σ e v (soft x)) (h : PstS f W gh A σ E (M.bind (Pm.peek x) g e) Φ) :
    ∃ d, PR f.toKx Φ H v d ∧ PstS f W gh A σ E (g d e) Φ := by
  rw [← peek_soft] at h
  unfold M.bind at h
  cases q : Pm.peek (soft x) e with
  | ok d e1 =>
    rw [q] at h
    obtain ⟨rfl, p⟩ := peek_ok w r q
    exact ⟨d, p, h⟩
  | ex y e1 => exact (peek_noex q).elim
  | bad =>
    rw [q] at h
    exact h.elim
theorem PstS.opt {o : Option α} {g : α → M Fl} {E : Ends} (h : PstS f W gh A σ E (M.bind (opt o) g e) Φ) : ∃ a, o = some a ∧ PstS f W gh A σ E (g a e) Φ := by
  cases o with
  | none => exact h.elim
  | some a => exact ⟨a, rfl, h⟩
theorem tF.bindX {m : M KD} {g : KD → M Fl} {Q : VK} {E : Ends} (w : Wf f gh Φ H σ e) (h : PstS f W gh A σ E (M.bind m g e) Φ)
    (q : ∀ Φ1 H1 e1 x v, Same Φ Φ1 → Wf f gh Φ1 H1 σ e1 → RK f gh Φ1 H1 σ e1 v x → PstS f W gh A σ E (g x e1) Φ1 → Q v H1) : tF f W m σ H Q :=
  ⟨gh, Φ, e, w, Pst.mono (PstS.bind h) (Same.refl _) fun Φ1 H1 e1 x s1 w1 z v r => q Φ1 H1 e1 x v s1 w1 r z⟩
theorem tF.bindXS {m : M KD} {g : KD → M Fl} {Q : VK} {E : Ends} (w : Wf f gh Φ H σ e) (h : PstS f W gh A σ E (M.bind m g e) Φ)
    (q : ∀ Φ1 H1 e1 x v, Same Φ Φ1 → Wf f gh Φ1 H1 σ e1 → RK f gh Φ1 H1 σ e1 v (soft x) → PstS f W gh A σ E (g x e1) Φ1 → Q v H1) : tF f W m σ H Q := by
  refine tF.bindX w h fun Φ1 H1 e1 x v s1 w1 r1 z => ?_
  obtain ⟨Φ2, s2, w2, r2⟩ := RK.soft w1 r1
  exact q Φ2 H1 e1 x v (s1.trans s2) w2 r2 (PstS.shift z (Kp.refl [] σ) s2 (fun _ z => by cases z))
theorem tFT.bindX {m : M Bool} {g : Bool → M Fl} {Q : Bool → Hp → Prop} {E : Ends} (w : Wf f gh Φ H σ e) (h : PstS f W gh A σ E (M.bind m g e) Φ)
    (q : ∀ Φ1 H1 e1 t, Same Φ Φ1 → Wf f gh Φ1 H1 σ e1 → PstS f W gh A σ E (g t e1) Φ1 → Q t H1) : tFT f W m σ H Q :=
  ⟨gh, Φ, e, w, Pst.mono (PstS.bind h) (Same.refl _) fun Φ1 H1 e1 t s1 w1 z => q Φ1 H1 e1 t s1 w1 z⟩

theorem Wf.setOw {i : Nat} {d : D} {v : V} {e' : Ev} (w : Wf f gh Φ H σ e) (h : setOw i d e = .ok () e') (r : RK f gh Φ H σ e v (.fr, d)) : Wf f gh Φ H (σ.set i (some v)) e' := by
  obtain ⟨a, o, rfl, n, ha, ro, h0, ns, ng⟩ := r
  unfold Pm.setOw at h
  have key : ∀ s, e[i]? = some s → (∀ d, s ≠ .ow false d) → (∀ d, s ≠ .fz false d) → e' = e.set i (.ow true d) → Wf f gh Φ H (σ.set i (some (.ref a))) e' := by
    intro s hs n1 n2 he
    subst he
    have hi : i < e.length := (List.getElem?_eq_some_iff.mp hs).1
    have hi' : i < σ.length := w.ln ▸ hi
    refine ⟨w.i1, w.i2, w.i3, w.i4, w.i5, fun j t ht => ?_, fun j m lj lm dj dm b hj hm sj sm => ?_, by rw [List.length_set, List.length_set]; exact w.ln, w.gd, fun j l d' x y hj sj => ?_, fun j x hl => ?_⟩
    · by_cases hj : j = i
      · subst hj
        rw [List.getElem?_set_self hi] at ht
        cases ht
        exact ⟨a, o, by rw [List.getElem?_set_self hi'], n, ha, ro, by simpa using h0⟩
      · rw [List.getElem?_set_ne (Ne.symm hj)] at ht ⊢
        exact w.sl j t ht
    · by_cases nj : j = i
      · by_cases nm : m = i
        · rw [nj, nm]
        · subst nj
          rw [List.getElem?_set_self hi'] at sj
          cases sj
          rw [List.getElem?_set_ne (Ne.symm nm)] at hm sm
          exact (ns m _ _ hm sm).elim
      · rw [List.getElem?_set_ne (Ne.symm nj)] at hj sj
        by_cases nm : m = i
        · subst nm
          rw [List.getElem?_set_self hi'] at sm
          cases sm
          exact (ns j _ _ hj sj).elim
        · rw [List.getElem?_set_ne (Ne.symm nm)] at hm sm
          exact w.ap j m _ _ _ _ b hj hm sj sm
    · by_cases nj : j = i
      · subst nj
        rw [List.getElem?_set_self hi'] at sj
        cases sj
        exact ng y
      · rw [List.getElem?_set_ne (Ne.symm nj)] at hj sj
        exact w.ga j l d' x y hj sj
    · obtain ⟨h1, d', h2⟩ := w.lt j x hl
      have nj : j ≠ i := by
        rintro rfl
        rw [hs] at h2
        rcases h2 with h2 | h2
        · exact n1 _ (Option.some.inj h2)
        · exact n2 _ (Option.some.inj h2)
      rw [List.getElem?_set_ne (Ne.symm nj), List.getElem?_set_ne (Ne.symm nj)]
      exact ⟨h1, d', h2⟩
  split at h
  · cases h
  · cases h
  · rename_i s n1 n2 hs
    cases h
    exact key s hs (fun d q => n1 d q) (fun d q => n2 d q) rfl
  · cases h
theorem setFz_ends {i : Nat} {d : D} : (∃ e', setFz i d e = .ok () e') ∨ setFz i d e = .bad := by
  unfold setFz
  split <;> first | exact .inr rfl | exact .inl ⟨_, rfl⟩
theorem setOw_ends {i : Nat} {d : D} : (∃ e', setOw i d e = .ok () e') ∨ setOw i d e = .bad := by
  unfold setOw
  split <;> first | exact .inr rfl | exact .inl ⟨_, rfl⟩
theorem setEach_ends : ∀ {is : List Nat} {ds : List D} {e : Ev}, (∃ e', setEach is ds e = .ok () e') ∨ setEach is ds e = .bad
  | [], [], _ => .inl ⟨_, rfl⟩
  | i :: is, d :: ds, e => by
    unfold setEach M.bind
    rcases setFz_ends (e := e) (i := i) (d := d) with ⟨e1, h⟩ | h
    · rw [h]; exact setEach_ends
    · rw [h]; exact .inr rfl
  | [], _ :: _, _ => .inr rfl
  | _ :: _, [], _ => .inr rfl
theorem store_ends {t : Tg} {d : D} : (∃ e', store t d e = .ok () e') ∨ store t d e = .bad := by
  cases t with
  | nm i => exact setFz_ends
  | tp is =>
    cases d with
    | tup ds => exact setEach_ends
    | _ => exact .inr rfl
/-- target = value -/
theorem set_read {t : Tg} {a' : E} {E : Ends} (h : tX f W t.slots (ex cl (.set t a')) E σ H) : tF f W (ev cl a') σ H fun v H1 => gOf f.K t v σ H1 E.nx := by
  obtain ⟨gh, Φ, e, w, h⟩ := h
  unfold ex at h
  refine tF.bindX w h fun Φ1 H1 e1 x v s1 w1 r1 h1 => ?_
  have soft_way : ∀ {y : KD}, RK f gh Φ1 H1 σ e1 v y → PstS f W gh t.slots σ E (M.bind (M.bind (Pm.freeze y) fun d => store t d) (fun _ => M.pure Fl.nx) e1) Φ1 → gOf f.K t v σ H1 E.nx := by
    intro y ry hh
    rw [M.assoc] at hh
    obtain ⟨Φ2, e2, d, s2, w2, rp, h3⟩ := PstS.freeze w1 ry hh
    rcases store_ends (e := e2) (t := t) (d := d) with ⟨e3, hst⟩ | hst
    · unfold M.bind at h3
      rw [hst] at h3
      exact store_ok' w2 hst rp fun σ' w3 k3 => h3 Φ2 σ' H1 k3 (Same.refl _) w3
    · unfold M.bind at h3
      rw [hst] at h3
      exact h3.elim
  cases t with
  | nm i =>
    obtain ⟨kd, d⟩ := x
    cases kd with
    | fr =>
      have h1 : PstS f W gh [i] σ E (M.bind (setOw i d) (fun _ => M.pure Fl.nx) e1) Φ1 := h1
      rcases setOw_ends (e := e1) (i := i) (d := d) with ⟨e3, hst⟩ | hst
      · unfold M.bind at h1
        rw [hst] at h1
        exact h1 Φ1 _ H1 Kp.set (Same.refl _) (w1.setOw hst r1)
      · unfold M.bind at h1
        rw [hst] at h1
        exact h1.elim
    | fz => exact soft_way r1 h1
    | sl j => exact soft_way r1 h1
  | tp is => exact soft_way r1 h1

theorem sx_expr {a : Expr} {a' : E} {pos : Pos} (ha : PE X a (tF f W (ev cl a'))) (hs : swapsWith a none pos.line X.env = pure false) : PS X (.Expr a pos) (tX f W [] (ex cl (.expr a'))) := by
  refine PS.imp (ps_expr ha hs) fun E σ H ⟨gh, Φ, e, w, h⟩ => ?_
  unfold ex at h
  exact tF.bindX w h fun Φ1 H1 e1 x v s1 w1 r1 h1 => h1 Φ1 σ H1 (Kp.refl _ _) (Same.refl _) w1
theorem Wf.clear {i : Nat} (w : Wf f gh Φ H σ e) (hn : ∀ a, (i, a) ∉ f.lent) : Wf f gh Φ H σ (e.set i .no) := by
  have out : ∀ {j : Nat} {s : Sl}, (e.set i .no)[j]? = some s → s ≠ .no → e[j]? = some s := fun {j s} q n => by
    by_cases hj : j = i
    · subst hj
      have hl : j < e.length := by
        have := (List.getElem?_eq_some_iff.mp q).1
        rwa [List.length_set] at this
      rw [List.getElem?_set_self hl] at q
      exact absurd (Option.some.inj q).symm n
    · rwa [List.getElem?_set_ne (Ne.symm hj)] at q
  refine ⟨w.i1, w.i2, w.i3, w.i4, w.i5, fun j s q => ?_, fun j m l l' d d' a hj hm sj sm => w.ap j m l l' d d' a (out hj (by simp)) (out hm (by simp)) sj sm, by rw [List.length_set]; exact w.ln, w.gd, fun j l d a x hj sj => w.ga j l d a x (out hj (by simp)) sj, fun j a hl => ?_⟩
  · cases s with
    | no => exact True.intro
    | fz l d => exact w.sl j _ (out q (by simp))
    | ow l d => exact w.sl j _ (out q (by simp))
  · obtain ⟨h1, d, h2⟩ := w.lt j a hl
    have nj : j ≠ i := by
      rintro rfl
      exact hn a hl
    rw [List.getElem?_set_ne (Ne.symm nj)]
    exact ⟨h1, d, h2⟩
theorem handOut_ok {x : KD} {v : V} {E : Ends} (w : Wf f gh Φ H σ e) (r : RK f gh Φ H σ e v x) (h : PstS f W gh A σ E (handOut x e) Φ) : E.rt v H := by
  obtain ⟨kd, d⟩ := x
  cases kd with
  | fz => exact h Φ σ H v (Kp.refl _ _) (Same.refl _) w (by simpa [RR] using (show Rep f.toKx Φ v d from r))
  | fr =>
    obtain ⟨a, o, rfl, n, ha, ro, h0, _⟩ := r
    exact h Φ σ H _ (Kp.refl _ _) (Same.refl _) w (by simp only [RR, if_true]; exact ⟨a, o, rfl, n, ha, ro, h0⟩)
  | sl i =>
    have r : σ[i]? = some (some v) := r
    simp only [handOut] at h
    split at h
    · rename_i d1 hs
      obtain ⟨a, o, e1, n, e2, ro, z⟩ := w.sl i _ hs
      rw [r] at e1; cases e1
      have z : f.H0 a = none := by simpa using z
      have nl : ∀ b, (i, b) ∉ f.lent := fun b hb => by
        obtain ⟨_, d', q⟩ := w.lt i b hb
        rw [hs] at q
        rcases q with q | q <;> cases q
      exact h Φ σ H _ (Kp.refl _ _) (Same.refl _) (w.clear nl) (by simp only [RR, if_true]; exact ⟨a, o, rfl, n, e2, ro, z⟩)
    · rename_i d1 hs
      obtain ⟨a, o, e1, n, e2, ro, sm, w', rp⟩ := w.freeze hs
      rw [r] at e1; cases e1
      exact h _ σ H _ (Kp.refl _ _) sm w' (by simpa [RR] using rp)
    · rename_i l d1 hs
      obtain ⟨x, e1, rp⟩ := w.sl i _ hs
      rw [r] at e1; cases e1
      exact h Φ σ H _ (Kp.refl _ _) (Same.refl _) w (by simpa [RR] using rp)
    · exact h.elim
theorem sx_ret {a : Expr} {a' : E} {pos : Pos} (ha : PE X a (tF f W (ev cl a'))) : PS X (.Return (some a) pos) (tX f W [] (ex cl (.ret a'))) := by
  refine PS.imp (ps_ret ha) fun E σ H ⟨gh, Φ, e, w, h⟩ => ?_
  unfold ex at h
  exact tF.bindX w h fun Φ1 H1 e1 x v s1 w1 r1 h1 => handOut_ok w1 r1 h1
theorem sx_retN {pos : Pos} : PS X (.Return none pos) (tX f W [] (ex cl (.ret (.con .non)))) := by
  refine PS.imp ps_retN fun E σ H ⟨gh, Φ, e, w, h⟩ => ?_
  unfold ex ev at h
  rw [M.left] at h
  have r : RK f gh Φ H σ e .non (.fz, .non) := Rep.non
  exact handOut_ok w r h
theorem sx_brk {pos : Pos} : PS X (.Break pos) (tX f W [] (ex cl .brk)) := PS.imp ps_break fun E σ H ⟨gh, Φ, e, w, h⟩ => by
  unfold ex at h
  exact h Φ σ H (Kp.refl _ _) (Same.refl _) w
theorem sx_cnt {pos : Pos} : PS X (.Continue pos) (tX f W [] (ex cl .cnt)) := PS.imp ps_continue fun E σ H ⟨gh, Φ, e, w, h⟩ => by
  unfold ex at h
  exact h Φ σ H (Kp.refl _ _) (Same.refl _) w
theorem sx_pass {pos : Pos} : PS X (.Pass pos) (tX f W [] (ex cl .pass)) := PS.imp ps_pass fun E σ H ⟨gh, Φ, e, w, h⟩ => by
  unfold ex at h
  exact h Φ σ H (Kp.refl _ _) (Same.refl _) w
theorem sx_nil : PSs X [] (tX f W [] (exs cl [])) := PSs.imp pss_nil fun E σ H ⟨gh, Φ, e, w, h⟩ => by
  unfold exs at h
  exact h Φ σ H (Kp.refl _ _) (Same.refl _) w
theorem PstS.wide {r : R Fl} (h : PstS f W gh A σ G r Φ) (hs : ∀ j, j ∈ B → j ∈ A) : PstS f W gh B σ G r Φ := by
  cases r with
  | ok fl e =>
    cases fl with
    | nx => exact fun Φ1 σ1 H1 k1 s1 w => h Φ1 σ1 H1 (k1.weak hs) s1 w
    | brk => exact fun Φ1 σ1 H1 k1 s1 w => h Φ1 σ1 H1 (k1.weak hs) s1 w
    | cnt => exact fun Φ1 σ1 H1 k1 s1 w => h Φ1 σ1 H1 (k1.weak hs) s1 w
    | ret fr d => exact fun Φ1 σ1 H1 v k1 s1 w => h Φ1 σ1 H1 v (k1.weak hs) s1 w
  | ex x e => exact fun Φ1 σ1 H1 cls dd k1 s1 w => h Φ1 σ1 H1 cls dd (k1.weak hs) s1 w
  | bad => exact h
theorem sx_cons {s : Stmt} {ss : List Stmt} {s' : S} {ss' : List S} (h1 : PS X s (tX f W (asgd s') (ex cl s'))) (h2 : PSs X ss (tX f W (asgds ss') (exs cl ss'))) : PSs X (s :: ss) (tX f W (asgds (s' :: ss')) (exs cl (s' :: ss'))) := by
  refine PSs.imp (pss_cons h1 h2) fun E σ H ⟨gh, Φ, e, w, h⟩ => ⟨gh, Φ, e, w, ?_⟩
  unfold exs M.bind at h
  have hA : asgds (s' :: ss') = asgd s' ++ asgds ss' := by rw [asgds]
  rw [hA] at h
  have hl : ∀ j, j ∈ asgd s' → j ∈ asgd s' ++ asgds ss' := fun j q => List.mem_append_left _ q
  cases q : ex cl s' e with
  | ok fl e1 =>
    rw [q] at h
    cases fl with
    | nx =>
      intro Φ1 σ1 H1 k1 s1 w1
      exact ⟨gh, Φ1, e1, w1, (PstS.shift h k1 s1 hl).wide fun j q => List.mem_append_right _ q⟩
    | brk => exact fun Φ1 σ1 H1 k1 s1 w1 => h Φ1 σ1 H1 (k1.weak hl) s1 w1
    | cnt => exact fun Φ1 σ1 H1 k1 s1 w1 => h Φ1 σ1 H1 (k1.weak hl) s1 w1
    | ret fr d => exact fun Φ1 σ1 H1 v k1 s1 w1 r1 => h Φ1 σ1 H1 v (k1.weak hl) s1 w1 r1
  | ex x e1 =>
    rw [q] at h
    exact fun Φ1 σ1 H1 cls dd k1 s1 w1 r1 => h Φ1 σ1 H1 cls dd (k1.weak hl) s1 w1 r1
  | bad =>
    rw [q] at h
    exact h
theorem sx_ite {c : Expr} {a b : List Stmt} {c' : E} {a' b' : List S} {pos : Pos} (hc : PT X c (tFT f W (evT cl c'))) (ha : PSs X a (tX f W (asgds a') (exs cl a'))) (hb : PSs X b (tX f W (asgds b') (exs cl b'))) :
    PS X (.If c a b pos) (tX f W (asgd (.ite c' a' b')) (ex cl (.ite c' a' b'))) := by
  refine PS.imp (ps_if hc ha hb) fun E σ H ⟨gh, Φ, e, w, h⟩ => ?_
  have hA : asgd (.ite c' a' b') = asgds a' ++ asgds b' := by rw [asgd]
  unfold ex at h
  rw [hA] at h
  refine tFT.bindX w h fun Φ1 H1 e1 t s1 w1 h1 => ?_
  cases t with
  | true => exact iteT ⟨gh, Φ1, e1, w1, h1.wide fun j q => List.mem_append_left _ q⟩
  | false => exact iteF ⟨gh, Φ1, e1, w1, h1.wide fun j q => List.mem_append_right _ q⟩
end
end Pm
namespace Pm
open PySem PySem.Spec PyProof.Rows L2

section
variable {X : Cx} {f : Fm} {W : WX} {gh : List (Addr × HO)} {Φ Φ' H H' : Hp} {σ σ' : L2.St} {e : Ev} {α β : Type} {cl : Cl} {A B : List Nat} {G : Ends}

def RunF (turn : D → M Fl) (k : Nat) : Pm.It → M Fl
  | .items ds => forGo turn (ds.drop k)
  | .al i n => forAl turn i n (n - k)
theorem itemAt_ends {i n k : Nat} : (∃ d, itemAt i n k e = .ok d e) ∨ itemAt i n k e = .bad := by
  unfold itemAt
  repeat' split
  all_goals first | exact .inr rfl | exact .inl ⟨_, rfl⟩
theorem itemEnd_ends {i n : Nat} : itemEnd i n e = .ok () e ∨ itemEnd i n e = .bad := by
  unfold itemEnd
  repeat' split
  all_goals first | exact .inr rfl | exact .inl rfl
/-- a turn, then the rest -/
def after (m : M Fl) (r : M Fl) : M Fl := M.bind m fun fl => match fl with
  | .nx => r
  | .cnt => r
  | .brk => M.pure .nx
  | .ret fr d => M.pure (.ret fr d)
theorem runF_step {turn : D → M Fl} {J : L2.It} {w : Pm.It} {Φ1 : Hp} {σ1 : L2.St} {k : Nat} (wk : Wk f Φ1 σ J w) (s : Same Φ1 Φ) (w2 : Wf f gh Φ H σ1 e) (hk : k ≤ Pm.It.n w)
    (hi : ∀ i n, w = .al i n → σ1[i]? = σ[i]?) (h : PstS f W gh A σ' G (RunF turn k w e) Φ) :
    (k = Pm.It.n w ∧ J.stop k H ∧ PstS f W gh A σ' G (.ok .nx e) Φ) ∨
    (k < Pm.It.n w ∧ J.go k H ∧ ∃ d, (∀ x H3, J.yld k H x H3 → ∃ Φ3, Gr Φ H Φ3 H3 ∧ Rep f.toKx Φ3 x d) ∧ PstS f W gh A σ' G (after (turn d) (RunF turn (k + 1) w) e) Φ) := by
  cases w with
  | items ds =>
    have h : PstS f W gh A σ' G (forGo turn (ds.drop k) e) Φ := h
    have hk : k ≤ ds.length := hk
    obtain ⟨g1, g2⟩ := wk Φ H s w2.i2
    by_cases hlt : k < ds.length
    · rw [List.drop_eq_getElem_cons hlt] at h
      obtain ⟨g3, g4⟩ := g1 k ds[k] (List.getElem?_eq_getElem hlt)
      exact .inr ⟨hlt, g3, ds[k], g4, h⟩
    · have hkl : k = ds.length := by omega
      subst hkl
      rw [List.drop_length] at h
      exact .inl ⟨rfl, g2 _ (Nat.le_refl _), h⟩
  | al i n =>
    have h : PstS f W gh A σ' G (forAl turn i n (n - k) e) Φ := h
    have hk : k ≤ n := hk
    obtain ⟨v, hv, g⟩ := wk
    have hv' : σ1[i]? = some (some v) := (hi i n rfl).trans hv
    by_cases hlt : k < n
    · obtain ⟨m, hm⟩ : ∃ m, n - k = m + 1 := ⟨n - k - 1, by omega⟩
      rw [hm] at h
      unfold forAl M.bind at h
      rw [show n - (m + 1) = k by omega] at h
      rcases itemAt_ends (e := e) (i := i) (n := n) (k := k) with ⟨d, hd⟩ | hd
      · rw [hd] at h
        obtain ⟨_, xs, hl, hx, hst⟩ := itemAt_ok hd
        obtain ⟨g1, g2⟩ := g Φ H xs w2.i2 (slot_pr w2 hv' hst) hl
        obtain ⟨g3, g4⟩ := g1 k d hx
        refine .inr ⟨hlt, g3, d, g4, ?_⟩
        have e1 : RunF turn (k + 1) (.al i n) = forAl turn i n m := by
          show forAl turn i n (n - (k + 1)) = _
          rw [show n - (k + 1) = m by omega]
        rw [e1]
        exact h
      · rw [hd] at h
        exact h.elim
    · have hkl : k = n := by omega
      subst hkl
      rw [Nat.sub_self] at h
      unfold forAl M.bind at h
      rcases itemEnd_ends (e := e) (i := i) (n := k) with hd | hd
      · rw [hd] at h
        obtain ⟨_, xs, hl, hst⟩ := itemEnd_ok hd
        obtain ⟨g1, g2⟩ := g Φ H xs w2.i2 (slot_pr w2 hv' hst) hl
        exact .inl ⟨rfl, g2 _ (Nat.le_refl _), h⟩
      · rw [hd] at h
        exact h.elim
theorem sx_for {tgx iter : Expr} {body : List Stmt} {tg : Tg} {it' : E} {b' : List S} {pos : Pos} (ek : X.K = f.K) (hp : PassesOwn (model X.prog X.w) X.A X.env X.xe) (hc : X.calm = true)
    (hi : PI X tgx iter (tFI f W (evI cl it'))) (hg : PG X tgx (gOf X.K tg)) (hb : PSs X body (tX f W (asgds b') (exs cl b'))) (hs : ∀ x, foldedSetIterable iter X.env x = pure x) :
    PS X (.For tgx iter body [] pos) (tX f W (asgd (.for_ tg it' b')) (ex cl (.for_ tg it' b'))) := by
  refine PS.imp (ps_for hp hc hi hg hb hs) fun E σ H ⟨gh, Φ, e, w, h⟩ => ?_
  have hA : asgd (.for_ tg it' b') = tg.slots ++ asgds b' := by rw [asgd]
  rw [ek]
  unfold ex at h
  rw [hA] at h
  refine ⟨gh, Φ, e, w, Pst.mono (PstS.bind h) (Same.refl _) fun Φ1 H1 e1 it s1 w1 h1 J wk => ?_⟩
  generalize hturn : (fun x => M.bind (store tg x) fun _ => exs cl b') = turn at h1
  have h2 : PstS f W gh (tg.slots ++ asgds b') σ E (RunF turn 0 it e1) Φ1 ∧ ∀ i n, it = .al i n → i ∉ tg.slots ++ asgds b' := by
    cases it with
    | items ds => exact ⟨h1, fun i n q => nomatch q⟩
    | al i n =>
      simp only at h1
      split at h1
      · exact h1.elim
      · rename_i hn
        refine ⟨h1, fun i' n' q => ?_⟩
        cases q
        simpa using hn
  obtain ⟨h2, hal⟩ := h2
  refine ⟨fun k m σ' H' => ∃ Φ2 e2, m = Pm.It.n it - k ∧ k ≤ Pm.It.n it ∧ Same Φ1 Φ2 ∧ Kp (tg.slots ++ asgds b') σ σ' ∧ Wf f gh Φ2 H' σ' e2 ∧ PstS f W gh (tg.slots ++ asgds b') σ E (RunF turn k it e2) Φ2,
    ⟨Pm.It.n it, Φ1, e1, rfl, Nat.zero_le _, Same.refl _, Kp.refl _ _, w1, h2⟩, ?_⟩
  rintro k m σ' H' ⟨Φ2, e2, rfl, hk, s2, kp, w2, h3⟩
  rcases runF_step wk s2 w2 hk (fun i n q => kp.at_ i (hal i n q)) h3 with ⟨hkn, hstop, h4⟩ | ⟨hlt, hgo, d, hy, h4⟩
  · exact .inl ⟨hstop, h4 Φ2 σ' H' kp (Same.refl _) w2⟩
  · refine .inr ⟨hgo, fun σ3 H3 => ∃ m', m' < Pm.It.n it - k ∧ ∃ Φ2 e2, m' = Pm.It.n it - (k + 1) ∧ k + 1 ≤ Pm.It.n it ∧ Same Φ1 Φ2 ∧ Kp (tg.slots ++ asgds b') σ σ3 ∧ Wf f gh Φ2 H3 σ3 e2 ∧ PstS f W gh (tg.slots ++ asgds b') σ E (RunF turn (k + 1) it e2) Φ2,
      fun _ _ q => q, fun x H3 hyy => ?_⟩
    obtain ⟨Φ3, g3, rx⟩ := hy x H3 hyy
    have w3 := w2.grow g3
    subst hturn
    have h4 := PstS.shift h4 (Kp.refl [] σ) g3.s1 (fun _ z => by cases z)
    unfold after at h4
    rw [M.assoc] at h4
    rcases store_ends (e := e2) (t := tg) (d := d) with ⟨e3, hst⟩ | hst
    · rw [M.bind] at h4
      rw [hst] at h4
      simp only at h4
      refine store_ok' w3 hst rx fun σ4 w4 k4 => ⟨gh, Φ3, e3, w4, ?_⟩
      have kl : ∀ {σ5}, Kp (asgds b') σ4 σ5 → Kp (tg.slots ++ asgds b') σ σ5 := fun k5 => (kp.trans (k4.trans k5)).weak fun j q => by
        rcases List.mem_append.mp q with q | q <;> exact q
      unfold M.bind at h4
      cases q : exs cl b' e3 with
      | ok fl e4 =>
        rw [q] at h4
        cases fl with
        | nx => exact fun Φ5 σ5 H5 k5 s5 w5 => ⟨_, by omega, Φ5, e4, rfl, hlt, s2.trans (g3.s1.trans s5), kl k5, w5, PstS.shift h4 (Kp.refl [] σ) s5 (fun _ z => by cases z)⟩
        | cnt => exact fun Φ5 σ5 H5 k5 s5 w5 => ⟨_, by omega, Φ5, e4, rfl, hlt, s2.trans (g3.s1.trans s5), kl k5, w5, PstS.shift h4 (Kp.refl [] σ) s5 (fun _ z => by cases z)⟩
        | brk => exact fun Φ5 σ5 H5 k5 s5 w5 => h4 Φ5 σ5 H5 (kl k5) s5 w5
        | ret fr d => exact fun Φ5 σ5 H5 v k5 s5 w5 r5 => h4 Φ5 σ5 H5 v (kl k5) s5 w5 r5
      | ex y e4 =>
        rw [q] at h4
        exact fun Φ5 σ5 H5 cls dd k5 s5 w5 r5 => h4 Φ5 σ5 H5 cls dd (kl k5) s5 w5 r5
      | bad =>
        rw [q] at h4
        exact h4
    · rw [M.bind] at h4
      rw [hst] at h4
      exact h4.elim
theorem sx_while {c : Expr} {body : List Stmt} {c' : E} {b' : List S} {pos : Pos} (hp : PassesOwn (model X.prog X.w) X.A X.env X.xe) (hc : PT X c (tFT f W (evT cl c'))) (hb : PSs X body (tX f W (asgds b') (exs cl b'))) :
    PS X (.While c body [] pos) (tX f W (asgd (.while_ c' b')) (ex cl (.while_ c' b'))) := by
  refine PS.imp (ps_while hp hc hb) fun E σ H ⟨gh, Φ, e, w, h⟩ => ?_
  have hA : asgd (.while_ c' b') = asgds b' := by rw [asgd]
  unfold ex at h
  rw [hA] at h
  refine ⟨fun m σ' H' => ∃ Φ2 e2, Wf f gh Φ2 H' σ' e2 ∧ PstS f W gh (asgds b') σ' E (whGo (evT cl c') (exs cl b') m e2) Φ2, ⟨wfuel, Φ, e, w, h⟩, ?_⟩
  rintro m σ' H' ⟨Φ2, e2, w2, h2⟩
  cases m with
  | zero => exact h2.elim
  | succ m =>
    unfold whGo at h2
    have h2' : PstS f W gh (asgds b') σ' E ((M.bind (evT cl c') fun t => if t = true then after (exs cl b') (whGo (evT cl c') (exs cl b') m) else M.pure .nx) e2) Φ2 := h2
    refine tFT.bindX w2 h2' fun Φ3 H3 e3 t s3 w3 h3 => ?_
    cases t with
    | false => exact iteF (h3 Φ3 σ' H3 (Kp.refl _ _) (Same.refl _) w3)
    | true =>
      refine iteT ⟨fun σ4 H4 => ∃ m', m' < m + 1 ∧ ∃ Φ2 e2, Wf f gh Φ2 H4 σ4 e2 ∧ PstS f W gh (asgds b') σ4 E (whGo (evT cl c') (exs cl b') m' e2) Φ2, fun _ _ q => q, gh, Φ3, e3, w3, ?_⟩
      have h4 : PstS f W gh (asgds b') σ' E (after (exs cl b') (whGo (evT cl c') (exs cl b') m) e3) Φ3 := h3
      unfold after M.bind at h4
      cases q : exs cl b' e3 with
      | ok fl e4 =>
        rw [q] at h4
        cases fl with
        | nx => exact fun Φ5 σ5 H5 k5 s5 w5 => ⟨m, Nat.lt_succ_self _, Φ5, e4, w5, PstS.shift h4 k5 s5 (fun _ z => z)⟩
        | cnt => exact fun Φ5 σ5 H5 k5 s5 w5 => ⟨m, Nat.lt_succ_self _, Φ5, e4, w5, PstS.shift h4 k5 s5 (fun _ z => z)⟩
        | brk => exact fun Φ5 σ5 H5 k5 s5 w5 => h4 Φ5 σ5 H5 k5 s5 w5
        | ret fr d => exact fun Φ5 σ5 H5 v k5 s5 w5 r5 => h4 Φ5 σ5 H5 v k5 s5 w5 r5
      | ex y e4 =>
        rw [q] at h4
        exact fun Φ5 σ5 H5 cls dd k5 s5 w5 r5 => h4 Φ5 σ5 H5 cls dd k5 s5 w5 r5
      | bad =>
        rw [q] at h4
        exact h4

theorem ownL_ends {i : Nat} : (∃ xs l, ownL i e = .ok xs e ∧ e[i]? = some (.ow l (.lst xs))) ∨ ownL i e = .bad := by
  unfold ownL
  split
  · rename_i l xs hs
    exact .inl ⟨xs, l, rfl, hs⟩
  · exact .inr rfl
theorem PstS.ownL {i : Nat} {g : List D → M Fl} (h : PstS f W gh A σ G (M.bind (ownL i) g e) Φ) : ∃ xs l, e[i]? = some (.ow l (.lst xs)) ∧ PstS f W gh A σ G (g xs e) Φ := by
  unfold M.bind at h
  rcases ownL_ends (e := e) (i := i) with ⟨xs, l, q, hs⟩ | q
  · rw [q] at h; exact ⟨xs, l, hs, h⟩
  · rw [q] at h; exact h.elim
theorem Wf.own {i : Nat} {l : Bool} {xs : List D} (w : Wf f gh Φ H σ e) (h : e[i]? = some (.ow l (.lst xs))) : ∃ a vs, σ[i]? = some (some (.ref a)) ∧ Φ a = none ∧ H a = some (.lst vs) ∧ RepL f.toKx Φ vs xs := by
  obtain ⟨a, o, e1, n, e2, r, _⟩ := w.sl i _ h
  cases r with
  | lst r => exact ⟨a, _, e1, n, e2, r⟩
/-- the owned list of a slot is written -/
theorem Wf.setL {i : Nat} {l : Bool} {xs ys : List D} {a : Addr} {vs : List V} (w : Wf f gh Φ H σ e) (h : e[i]? = some (.ow l (.lst xs))) (ha : σ[i]? = some (some (.ref a))) (r : RepL f.toKx Φ vs ys) :
    Wf f gh Φ (upd H a (.lst vs)) σ (e.set i (.ow l (.lst ys))) := by
  obtain ⟨a', o, e1, n, e2, r0, z⟩ := w.sl i _ h
  rw [ha] at e1; cases e1
  have hi : i < e.length := (List.getElem?_eq_some_iff.mp h).1
  have nA : ∀ b x, Φ b = some x → b ≠ a := fun b x q z => by rw [z, n] at q; cases q
  refine ⟨w.i1, fun b x q => by rw [upd_ne (nA b x q)]; exact w.i2 b x q, fun b x q nb => ?_, fun b q => ?_, w.i5, fun j s hs => ?_, fun j m lj lm dj dm b hj hm sj sm => ?_, by rw [List.length_set]; exact w.ln, fun b x q => ?_, fun j lj dj b x hj sj => ?_, fun j b hb => ?_⟩
  · rw [upd_ne]
    · exact w.i3 b x q nb
    · rintro rfl
      cases l with
      | true =>
        have z : f.H0 b = none := by simpa using z
        rw [z] at q; cases q
      | false => exact nb (by simpa using z)
  · by_cases hb : b = a
    · subst hb; rw [upd_same] at q; cases q
    · rw [upd_ne hb] at q; exact w.i4 b q
  · by_cases hj : j = i
    · subst hj
      rw [List.getElem?_set_self hi] at hs
      cases hs
      exact ⟨a, .lst vs, ha, n, upd_same, .lst r, z⟩
    · rw [List.getElem?_set_ne (Ne.symm hj)] at hs
      have q := w.sl j s hs
      cases s with
      | no => exact True.intro
      | fz _ d => exact q
      | ow l' d =>
        obtain ⟨b, x, q1, q2, q3, q4, q5⟩ := q
        refine ⟨b, x, q1, q2, ?_, q4, q5⟩
        rw [upd_ne]
        · exact q3
        · rintro rfl
          exact hj (w.ap j i _ _ _ _ b hs h q1 ha)
  · by_cases nj : j = i
    · by_cases nm : m = i
      · rw [nj, nm]
      · subst nj
        rw [List.getElem?_set_ne (Ne.symm nm)] at hm
        exact w.ap j m _ _ _ _ b h hm sj sm
    · rw [List.getElem?_set_ne (Ne.symm nj)] at hj
      by_cases nm : m = i
      · subst nm
        exact w.ap j m _ _ _ _ b hj h sj sm
      · rw [List.getElem?_set_ne (Ne.symm nm)] at hm
        exact w.ap j m _ _ _ _ b hj hm sj sm
  · obtain ⟨q1, q2, q3⟩ := w.gd b x q
    refine ⟨q1, ?_, q3⟩
    rw [upd_ne]
    · exact q2
    · rintro rfl
      exact w.ga i _ _ b x h ha q
  · by_cases nj : j = i
    · subst nj
      exact w.ga j _ _ b x h sj
    · rw [List.getElem?_set_ne (Ne.symm nj)] at hj
      exact w.ga j _ _ b x hj sj
  · obtain ⟨h1, d', h2⟩ := w.lt j b hb
    refine ⟨h1, ?_⟩
    by_cases hj : j = i
    · subst hj
      rw [h] at h2
      rcases h2 with h2 | h2
      · cases h2
        exact ⟨_, .inl (List.getElem?_set_self hi)⟩
      · cases h2
    · rw [List.getElem?_set_ne (Ne.symm hj)]
      exact ⟨d', h2⟩
theorem PstS.setL {i : Nat} {ys : List D} {l : Bool} {xs : List D} (hs : e[i]? = some (.ow l (.lst xs))) (h : PstS f W gh A σ G (M.bind (setL i ys) (fun _ => M.pure .nx) e) Φ) : PstS f W gh A σ G (.ok .nx (e.set i (.ow l (.lst ys)))) Φ := by
  unfold M.bind Pm.setL at h
  rw [hs] at h
  exact h
theorem sx_put {o ix a : Expr} {i : Nat} {ix' a' : E} {pos pos' : Pos} (ho : PE X o (tVar i)) (hix : PE X ix (tF f W (ev cl ix'))) (ha : PE X a (tF f W (ev cl a')))
    (hsub : ∀ v, assign (.Subscript o ix pos) X.env v = (do
      let ov ← holding [v] (eval o X.env)
      let iv ← holding [v, ov] (eval ix X.env)
      standAt pos
      holding [v, ov, iv] (setItem ov iv v)
      release [v, ov, iv] []))
    (hs : swapsWithSole [.Subscript o ix pos] a pos'.line X.env = pure false) (hw : swappedStores [.Subscript o ix pos] a X.env = pure none) (h1 : (assignEach [.Subscript o ix pos] X.env).map (·.2) = [assign (.Subscript o ix pos) X.env]) :
    PS X (.Assign [.Subscript o ix pos] a pos') (tX f W [] (ex cl (.put i ix' a'))) := by
  refine PS.imp (ps_asg ha (pg_sub ho hix set_list hsub) hs hw h1) fun E σ H ⟨gh, Φ, e, w, h⟩ => ?_
  unfold ex at h
  refine tF.bindX w h fun Φ1 H1 e1 x v s1 w1 r1 h1 => ?_
  obtain ⟨Φ2, e2, d, s2, w2, rp, h2⟩ := PstS.freeze w1 r1 h1
  obtain ⟨xs0, l0, hs0, h3⟩ := h2.ownL
  obtain ⟨a0, vs0, e0, _⟩ := w2.own hs0
  refine ⟨.ref a0, e0, tF.bindXS w2 h3 fun Φ3 H3 e3 y u s3 w3 r3 h4 => ?_⟩
  obtain ⟨dy, py, h5⟩ := PstS.peek w3 r3 h4
  obtain ⟨kk, ek, h6⟩ := PstS.opt h5
  obtain ⟨xs, l, hs3, h7⟩ := h6.ownL
  obtain ⟨j, ej, h8⟩ := PstS.opt h7
  obtain ⟨a1, vs, e4, n4, q4, r4⟩ := w3.own hs3
  rw [e0] at e4; cases e4
  have eu : u = .int kk := by
    cases dy with
    | int m => cases ek; exact py.int
    | _ => cases ek
  subst eu
  refine ⟨a0, vs, kk, j, rfl, rfl, q4, by rw [r4.length]; exact ej, ?_⟩
  exact (h8.setL hs3) Φ3 σ _ (Kp.refl _ _) (Same.refl _) (w3.setL hs3 e0 (RepL.set (rp.mono s3) j r4))
theorem sx_app {o a : Expr} {i : Nat} {a' : E} {apos cpos pos : Pos} (ek : X.K = f.K) (ho : PE X o (tVar i)) (ha : PE X a (tF f W (ev cl a')))
    (hbase : attributeBase o "append" X.env (eval o X.env) = eval o X.env)
    (hfew : ((backTo cpos (starEach [a] X.env)).all (fun x => !x.1) && (backToKw cpos (keywordEach [] X.env)).all (fun x => x.1.isSome) && decide (([a] : List Expr).length + ([] : List Keyword).length + (if ([] : List Keyword).isEmpty then 0 else 1) < 30)) = true)
    (hline : (apos.endLine == cpos.line) = true) (hs : starEach [a] X.env = (false, eval a X.env) :: starEach [] X.env) :
    PS X (.Expr (.Call (.Attribute o "append" apos) [a] [] cpos) pos) (tX f W [] (ex cl (.app i a'))) := by
  refine PS.imp (ps_expr (pe_bm PySem.F.plainAttrs_list PySem.F.slot_list_append PySem.F.type_list_append mt_append ho (pa_cons ha pa_nil hs) hbase hfew hline hs rfl)) fun E σ H ⟨gh, Φ, e, w, h⟩ => ?_
  unfold ex at h
  obtain ⟨xs0, l0, hs0, h1⟩ := h.ownL
  obtain ⟨a0, vs0, e0, n0, q0, _⟩ := w.own hs0
  refine ⟨.ref a0, e0, .inl ⟨rfl, vs0, SqL.of q0⟩, tF.bindX w h1 fun Φ1 H1 e1 x v s1 w1 r1 h2 => ?_⟩
  obtain ⟨Φ2, e2, d, s2, w2, rp, h3⟩ := PstS.freeze w1 r1 h2
  obtain ⟨xs, l, hs3, h4⟩ := h3.ownL
  obtain ⟨a1, vs, e4, n4, q4, r4⟩ := w2.own hs3
  rw [e0] at e4; cases e4
  split at h4
  · rename_i hl
    refine ⟨a0, vs, v, rfl, rfl, q4, by rw [r4.length]; exact of_decide_eq_true hl, ?_⟩
    exact (h4.setL hs3) Φ2 σ _ (Kp.refl _ _) (Same.refl _) (w2.setL hs3 e0 (r4.app (.cons rp .nil)))
  · exact h4.elim
end
end Pm
namespace Pm
open PySem PySem.Spec PyProof.Rows L2

section
variable {X : Cx} {f : Fm} {W : WX} {gh : List (Addr × HO)} {Φ Φ' H H' : Hp} {σ σ' : L2.St} {e : Ev} {α β : Type} {cl : Cl} {A B : List Nat} {G : Ends}
inductive RG (f : Fm) (Φ : Hp) (σ : L2.St) (gh : List (Addr × HO)) : List (Addr × HO) → List V → List KD → Prop
  | nil : RG f Φ σ gh [] [] []
  | fz {g : List (Addr × HO)} {v : V} {d : D} {vs : List V} {xs : List KD} : Rep f.toKx Φ v d → RG f Φ σ gh g vs xs → RG f Φ σ gh g (v :: vs) ((.fz, d) :: xs)
  | sl {g : List (Addr × HO)} {v : V} {i : Nat} {d : D} {vs : List V} {xs : List KD} : σ[i]? = some (some v) → RG f Φ σ gh g vs xs → RG f Φ σ gh g (v :: vs) ((.sl i, d) :: xs)
  | fr {g : List (Addr × HO)} {a : Addr} {o : HO} {d : D} {vs : List V} {xs : List KD} : RepO f.toKx Φ o d → (∀ o', (a, o') ∉ g) → (∀ o', (a, o') ∉ gh) → RG f Φ σ gh g vs xs → RG f Φ σ gh ((a, o) :: g) (.ref a :: vs) ((.fr, d) :: xs)
theorem RG.out {g : List (Addr × HO)} {vs : List V} {xs : List KD} (r : RG f Φ σ gh g vs xs) : ∀ a o, (a, o) ∈ g → ∀ o', (a, o') ∉ gh := by
  induction r with
  | nil => intro a o h; cases h
  | fz _ _ ih => exact ih
  | sl _ _ ih => exact ih
  | fr _ _ hn _ ih =>
    intro a o h
    rcases List.mem_cons.mp h with q | q
    · cases q; exact hn
    · exact ih a o q
theorem RG.weak {g : List (Addr × HO)} {vs : List V} {xs : List KD} {gh' : List (Addr × HO)} (r : RG f Φ σ gh g vs xs) (h : ∀ p, p ∈ gh' → p ∈ gh) : RG f Φ σ gh' g vs xs := by
  induction r with
  | nil => exact .nil
  | fz a _ ih => exact .fz a ih
  | sl a _ ih => exact .sl a ih
  | fr a b c _ ih => exact .fr a b (fun o' q => c o' (h _ q)) ih
theorem RG.mono {g : List (Addr × HO)} {vs : List V} {xs : List KD} (r : RG f Φ σ gh g vs xs) (s : Same Φ Φ') : RG f Φ' σ gh g vs xs := by
  induction r with
  | nil => exact .nil
  | fz a _ ih => exact .fz (a.mono s) ih
  | sl a _ ih => exact .sl a ih
  | fr a b c _ ih => exact .fr (a.mono s) b c ih
def tFR (f : Fm) (W : WX) (m : M (List KD)) : TA := fun σ H Q => ∃ gh Φ e, Wf f gh Φ H σ e ∧ Pst f W gh σ (m e) Φ fun Φ' H' e' xs => ∀ g vs, Wf f (g ++ gh) Φ' H' σ e' → RG f Φ' σ gh g vs xs → Q vs H'
theorem Wf.perm {gh' : List (Addr × HO)} (w : Wf f gh Φ H σ e) (h : ∀ p, p ∈ gh' → p ∈ gh) : Wf f gh' Φ H σ e :=
  ⟨w.i1, w.i2, w.i3, w.i4, w.i5, w.sl, w.ap, w.ln, fun a x q => w.gd a x (h _ q), fun i l d a x he hs q => w.ga i l d a x he hs (h _ q), w.lt⟩
theorem Wf.addG {a : Addr} {o : HO} (w : Wf f gh Φ H σ e) (n : Φ a = none) (h : H a = some o) (h0 : f.H0 a = none) (ns : ∀ (i : Nat) (l : Bool) (d' : D), e[i]? = some (.ow l d') → σ[i]? ≠ some (some (.ref a))) : Wf f ((a, o) :: gh) Φ H σ e := by
  refine ⟨w.i1, w.i2, w.i3, w.i4, w.i5, w.sl, w.ap, w.ln, fun b x q => ?_, fun i l d b x he hs q => ?_, w.lt⟩
  · rcases List.mem_cons.mp q with z | z
    · cases z; exact ⟨n, h, h0⟩
    · exact w.gd b x z
  · rcases List.mem_cons.mp q with z | z
    · cases z; exact ns i l d he hs
    · exact w.ga i l d b x he hs z
theorem sr_nil : PA X [] (tFR f W (evRs cl [])) := PA.imp pa_nil fun σ H Q ⟨gh, Φ, e, w, h⟩ => by
  unfold evRs at h
  exact h Φ H (Same.refl _) w [] [] w .nil
theorem sr_cons {a : Expr} {as : List Expr} {a' : E} {as' : List E} (ha : PE X a (tF f W (ev cl a'))) (hr : PA X as (tFR f W (evRs cl as'))) (hs : starEach (a :: as) X.env = (false, eval a X.env) :: starEach as X.env) :
    PA X (a :: as) (tFR f W (evRs cl (a' :: as'))) := by
  refine PA.imp (pa_cons ha hr hs) fun σ H Q ⟨gh, Φ, e, w, h⟩ => ?_
  unfold evRs at h
  refine tF.bind w h fun Φ1 H1 e1 x v s1 w1 r1 h1 => ?_
  obtain ⟨kd, d⟩ := x
  cases kd with
  | fz =>
    refine ⟨gh, Φ1, e1, w1, Pst.mono (Pst.bind h1) (Same.refl _) fun Φ3 H3 e3 xs s3 w3 h3 g vs wg rg => ?_⟩
    exact h3 Φ3 H3 (Same.refl _) w3 g (v :: vs) wg (.fz (Rep.mono s3 r1) rg)
  | sl i =>
    refine ⟨gh, Φ1, e1, w1, Pst.mono (Pst.bind h1) (Same.refl _) fun Φ3 H3 e3 xs s3 w3 h3 g vs wg rg => ?_⟩
    exact h3 Φ3 H3 (Same.refl _) w3 g (v :: vs) wg (.sl r1 rg)
  | fr =>
    obtain ⟨b, o, rfl, n, hb, ro, h0, ns, ng⟩ := r1
    have w2 := w1.addG n hb h0 ns
    refine ⟨(b, o) :: gh, Φ1, e1, w2, Pst.mono (Pst.bind h1).more (Same.refl _) fun Φ3 H3 e3 xs s3 w3 h3 g vs wg rg => ?_⟩
    have hp : ∀ p, p ∈ ((b, o) :: g) ++ gh → p ∈ g ++ (b, o) :: gh := fun p q => by
      simp only [List.cons_append, List.mem_cons, List.mem_append] at q ⊢
      rcases q with q | q | q
      · exact .inr (.inl q)
      · exact .inl q
      · exact .inr (.inr q)
    exact h3.1 Φ3 H3 (Same.refl _) w3.drop ((b, o) :: g) (.ref b :: vs) (wg.perm hp)
      (.fr (ro.mono s3) (fun o' q => rg.out b o' q o List.mem_cons_self) ng (rg.weak fun p q => List.mem_cons_of_mem _ q))
theorem hardens_ends : ∀ {xs : List KD} {e : Ev}, (∃ ys e', hardens xs e = .ok ys e') ∨ hardens xs e = .bad
  | [], _ => .inl ⟨_, _, rfl⟩
  | (k, d) :: xs, e => by
    cases k with
    | fr =>
      unfold hardens M.bind
      rcases hardens_ends (xs := xs) (e := e) with ⟨ys, e', h⟩ | h
      · rw [h]; exact .inl ⟨_, _, rfl⟩
      · rw [h]; exact .inr rfl
    | fz =>
      unfold hardens
      rw [show freeze (Kd.fz, d) = M.pure d from rfl, M.left]
      unfold M.bind
      rcases hardens_ends (xs := xs) (e := e) with ⟨ys, e', h⟩ | h
      · rw [h]; exact .inl ⟨_, _, rfl⟩
      · rw [h]; exact .inr rfl
    | sl i =>
      unfold hardens
      cases q : freeze (Kd.sl i, d) e with
      | ok d' e1 =>
        rw [M.bind, q]
        simp only [M.bind]
        rcases hardens_ends (xs := xs) (e := e1) with ⟨ys, e', h⟩ | h
        · rw [h]; exact .inl ⟨_, _, rfl⟩
        · rw [h]; exact .inr rfl
      | ex _ _ => exact (freeze_noex q).elim
      | bad => rw [M.bind, q]; exact .inr rfl
inductive NoSl : List KD → Prop
  | nil : NoSl []
  | fz {d : D} {xs : List KD} : NoSl xs → NoSl ((.fz, d) :: xs)
  | fr {d : D} {xs : List KD} : NoSl xs → NoSl ((.fr, d) :: xs)
theorem hardens_ok : ∀ {xs : List KD} {g0 g : List (Addr × HO)} {vs : List V} {Φ : Hp} {e : Ev} {ys : List KD} {e' : Ev}, Wf f g0 Φ H σ e → RG f Φ σ gh g vs xs → hardens xs e = .ok ys e' → ∃ Φ', Same Φ Φ' ∧ Wf f g0 Φ' H σ e' ∧ RG f Φ' σ gh g vs ys ∧ NoSl ys
  | [], g0, g, vs, Φ, e, ys, e', w, r, h => by
    cases h
    exact ⟨Φ, Same.refl _, w, r, .nil⟩
  | _ :: xs, g0, g, vs, Φ, e, ys, e', w, r, h => by
    cases r with
    | fz a r =>
      unfold hardens at h
      rw [show freeze (Kd.fz, _) = M.pure _ from rfl, M.left] at h
      obtain ⟨zs, e1, h1, h2⟩ := M.bind_ok h
      cases h2
      obtain ⟨Φ', s, w', r', ns⟩ := hardens_ok w r h1
      exact ⟨Φ', s, w', .fz (a.mono s) r', .fz ns⟩
    | sl a r =>
      rename_i v i d vs
      unfold hardens at h
      obtain ⟨d', e1, h1, h2⟩ := M.bind_ok h
      obtain ⟨zs, e2, h3, h4⟩ := M.bind_ok h2
      cases h4
      have rk : RK f g0 Φ H σ e v (.sl i, d) := a
      obtain ⟨Φ1, s1, w1, rp⟩ := freeze_ok w rk h1
      obtain ⟨Φ', s, w', r', ns⟩ := hardens_ok w1 (r.mono s1) h3
      exact ⟨Φ', s1.trans s, w', .fz (rp.mono s) r', .fz ns⟩
    | fr a b c r =>
      unfold hardens at h
      obtain ⟨zs, e1, h1, h2⟩ := M.bind_ok h
      cases h2
      obtain ⟨Φ', s, w', r', ns⟩ := hardens_ok w r h1
      exact ⟨Φ', s, w', .fr (a.mono s) b c r', .fr ns⟩
def setMany : L2.St → List Nat → List V → L2.St
  | σ, i :: is, v :: vs => setMany (σ.set i (some v)) is vs
  | σ, _, _ => σ
theorem setAll_ends : ∀ {is : List Nat} {xs : List KD} {e : Ev}, (∃ e', setAll is xs e = .ok () e') ∨ setAll is xs e = .bad
  | [], [], _ => .inl ⟨_, rfl⟩
  | i :: is, (k, d) :: xs, e => by
    cases k with
    | fr =>
      unfold setAll M.bind
      rcases setOw_ends (e := e) (i := i) (d := d) with ⟨e1, h⟩ | h
      · rw [h]; exact setAll_ends
      · rw [h]; exact .inr rfl
    | fz =>
      unfold setAll M.bind
      rcases setFz_ends (e := e) (i := i) (d := d) with ⟨e1, h⟩ | h
      · rw [h]; exact setAll_ends
      · rw [h]; exact .inr rfl
    | sl j =>
      unfold setAll M.bind
      rcases setFz_ends (e := e) (i := i) (d := d) with ⟨e1, h⟩ | h
      · rw [h]; exact setAll_ends
      · rw [h]; exact .inr rfl
  | [], _ :: _, _ => .inr rfl
  | _ :: _, [], _ => .inr rfl
theorem RG.slots {g : List (Addr × HO)} {vs : List V} {xs : List KD} {σ' : L2.St} (r : RG f Φ σ gh g vs xs) (n : NoSl xs) : RG f Φ σ' gh g vs xs := by
  induction r with
  | nil => exact .nil
  | fz a _ ih => cases n with | fz n => exact .fz a (ih n)
  | sl a _ ih => cases n
  | fr a b c _ ih => cases n with | fr n => exact .fr a b c (ih n)
theorem setAll_ok : ∀ {is : List Nat} {xs : List KD} {g : List (Addr × HO)} {vs : List V} {σ : L2.St} {e e' : Ev}, Wf f (g ++ gh) Φ H σ e → RG f Φ σ gh g vs xs → NoSl xs → setAll is xs e = .ok () e' → Wf f gh Φ H (setMany σ is vs) e' ∧ Kp is σ (setMany σ is vs)
  | [], [], g, vs, σ, e, e', w, r, n, h => by
    cases r
    cases h
    exact ⟨w, Kp.refl _ _⟩
  | i :: is, _ :: xs, g, vs, σ, e, e', w, r, n, h => by
    cases r with
    | fz a r =>
      rename_i v d vs
      cases n with
      | fz n =>
        unfold setAll at h
        obtain ⟨_, e1, h1, h2⟩ := M.bind_ok h
        obtain ⟨w', k'⟩ := setAll_ok (w.setFz h1 a) (r.slots n) n h2
        exact ⟨w', Kp.trans (A := [i]) Kp.set k'⟩
    | sl a r => cases n
    | fr a b c r =>
      rename_i g p o d vs
      cases n with
      | fr n =>
        unfold setAll at h
        obtain ⟨_, e1, h1, h2⟩ := M.bind_ok h
        have hng : ∀ o', (p, o') ∉ g ++ gh := fun o' q => by
          rcases List.mem_append.mp q with q | q
          · exact b o' q
          · exact c o' q
        have rk : RK f (g ++ gh) Φ H σ e (.ref p) (.fr, d) := Wf.unghost (gh := g ++ gh) w hng a
        have wd : Wf f (g ++ gh) Φ H σ e := Wf.drop (gh := g ++ gh) w
        obtain ⟨w', k'⟩ := setAll_ok (wd.setOw h1 rk) (r.slots n) n h2
        exact ⟨w', Kp.trans (A := [i]) Kp.set k'⟩
  | [], _ :: _, _, _, _, _, _, _, _, _, h => by cases h
  | _ :: _, [], _, _, _, _, _, _, _, _, h => by cases h
/-- the reading of a, b = x, y -/
theorem par_read {is : List Nat} {es : List E} {E : Ends} (h : tX f W is (ex cl (.par is es)) E σ H) : tFR f W (evRs cl es) σ H fun vs H1 => E.nx (setMany σ is vs) H1 := by
  obtain ⟨gh, Φ, e, w, h⟩ := h
  unfold ex at h
  refine ⟨gh, Φ, e, w, Pst.mono (PstS.bind h) (Same.refl _) fun Φ1 H1 e1 xs s1 w1 h1 g vs wg rg => ?_⟩
  unfold M.bind at h1
  rcases hardens_ends (xs := xs) (e := e1) with ⟨ys, e2, q⟩ | q
  · rw [q] at h1
    simp only at h1
    obtain ⟨Φ2, s2, w2, r2, ns⟩ := hardens_ok wg rg q
    rcases setAll_ends (is := is) (xs := ys) (e := e2) with ⟨e3, q2⟩ | q2
    · rw [q2] at h1
      obtain ⟨w3, k3⟩ := setAll_ok w2 r2 ns q2
      exact h1 Φ2 _ H1 k3 s2 w3
    · rw [q2] at h1
      exact h1.elim
  · rw [q] at h1
    exact h1.elim
theorem tFR.len {es : List E} {Q : List V → Hp → Prop} (h : tFR f W (evRs cl es) σ H Q) : tFR f W (evRs cl es) σ H Q := h
theorem RG.len {g : List (Addr × HO)} {vs : List V} {xs : List KD} (r : RG f Φ σ gh g vs xs) : vs.length = xs.length := by
  induction r with
  | nil => rfl
  | fz _ _ ih => simp [ih]
  | sl _ _ ih => simp [ih]
  | fr _ _ _ _ ih => simp [ih]
theorem evRs_len : ∀ {es : List E} {e e' : Ev} {xs : List KD}, evRs cl es e = .ok xs e' → xs.length = es.length
  | [], e, e', xs, h => by
    unfold evRs at h
    cases h; rfl
  | a :: es, e, e', xs, h => by
    unfold evRs at h
    obtain ⟨x, e1, h1, h2⟩ := M.bind_ok h
    obtain ⟨ys, e2, h3, h4⟩ := M.bind_ok h2
    cases h4
    simp [evRs_len h3]
theorem par_read2 {i j : Nat} {a b : E} {E : Ends} (h : tX f W [i, j] (ex cl (.par [i, j] [a, b])) E σ H) : tPar i j (tFR f W (evRs cl [a, b])) E σ H := by
  obtain ⟨gh, Φ, e, w, q⟩ := par_read h
  refine ⟨gh, Φ, e, w, ?_⟩
  cases hr : evRs cl [a, b] e with
  | ok xs e1 =>
    rw [hr] at q
    intro Φ1 H1 s1 w1 g vs wg rg
    have hl : vs.length = 2 := by rw [rg.len, evRs_len hr]; rfl
    obtain ⟨v, u, rfl⟩ : ∃ v u, vs = [v, u] := by
      match vs, hl with
      | [v, u], _ => exact ⟨v, u, rfl⟩
    exact ⟨v, u, rfl, q Φ1 H1 s1 w1 g [v, u] wg rg⟩
  | ex x e1 => rw [hr] at q; exact q
  | bad => rw [hr] at q; exact q
theorem par_read3 {i j l : Nat} {a b c : E} {E : Ends} (h : tX f W [i, j, l] (ex cl (.par [i, j, l] [a, b, c])) E σ H) : tPar3 i j l (tFR f W (evRs cl [a, b, c])) E σ H := by
  obtain ⟨gh, Φ, e, w, q⟩ := par_read h
  refine ⟨gh, Φ, e, w, ?_⟩
  cases hr : evRs cl [a, b, c] e with
  | ok xs e1 =>
    rw [hr] at q
    intro Φ1 H1 s1 w1 g vs wg rg
    have hl : vs.length = 3 := by rw [rg.len, evRs_len hr]; rfl
    obtain ⟨v, u, t, rfl⟩ : ∃ v u t, vs = [v, u, t] := by
      match vs, hl with
      | [v, u, t], _ => exact ⟨v, u, t, rfl⟩
    exact ⟨v, u, t, rfl, q Φ1 H1 s1 w1 g [v, u, t] wg rg⟩
  | ex x e1 => rw [hr] at q; exact q
  | bad => rw [hr] at q; exact q
end
end Pm
namespace Pm
open PySem PySem.Spec PyProof.Rows L2

/-- the lent parameters: their places, their objects -/
def lentAt : Nat → List Sl → List V → List (Nat × Addr)
  | n, .ow _ _ :: ss, .ref a :: vs => (n, a) :: lentAt (n + 1) ss vs
  | n, _ :: ss, _ :: vs => lentAt (n + 1) ss vs
  | _, _, _ => []
theorem mem_lentAt : ∀ {ss : List Sl} {vs : List V} {n i : Nat} {a : Addr}, (i, a) ∈ lentAt n ss vs ↔ ∃ j, i = n + j ∧ (∃ l d, ss[j]? = some (.ow l d)) ∧ vs[j]? = some (.ref a)
  | [], vs, n, i, a => by
    constructor
    · intro h; cases vs <;> cases h
    · rintro ⟨j, _, ⟨l, d, h⟩, _⟩; simp at h
  | s :: ss, [], n, i, a => by
    constructor
    · intro h; cases s <;> cases h
    · rintro ⟨j, _, _, h⟩; simp at h
  | s :: ss, v :: vs, n, i, a => by
    have tail : (i, a) ∈ lentAt (n + 1) ss vs ↔ ∃ j, i = n + (j + 1) ∧ (∃ l d, (s :: ss)[j + 1]? = some (.ow l d)) ∧ (v :: vs)[j + 1]? = some (.ref a) := by
      rw [mem_lentAt]
      constructor
      · rintro ⟨j, h1, h2, h3⟩
        exact ⟨j, by omega, by simpa using h2, by simpa using h3⟩
      · rintro ⟨j, h1, h2, h3⟩
        exact ⟨j, by omega, by simpa using h2, by simpa using h3⟩
    have hd : (∃ j, i = n + j ∧ (∃ l d, (s :: ss)[j]? = some (.ow l d)) ∧ (v :: vs)[j]? = some (.ref a)) ↔ (i = n ∧ (∃ l d, s = .ow l d) ∧ v = .ref a) ∨ ∃ j, i = n + (j + 1) ∧ (∃ l d, (s :: ss)[j + 1]? = some (.ow l d)) ∧ (v :: vs)[j + 1]? = some (.ref a) := by
      constructor
      · rintro ⟨j, h1, h2, h3⟩
        cases j with
        | zero => exact .inl ⟨h1, by simpa using h2, by simpa using h3⟩
        | succ j => exact .inr ⟨j, h1, h2, h3⟩
      · rintro (⟨h1, h2, h3⟩ | ⟨j, h1, h2, h3⟩)
        · exact ⟨0, h1, by simpa using h2, by simpa using h3⟩
        · exact ⟨j + 1, h1, h2, h3⟩
    rw [hd, ← tail]
    have other : (¬ ((∃ l d, s = .ow l d) ∧ ∃ b, v = .ref b)) → lentAt n (s :: ss) (v :: vs) = lentAt (n + 1) ss vs := by
      intro h
      cases s with
      | ow l d =>
        cases v with
        | ref b => exact absurd ⟨⟨l, d, rfl⟩, b, rfl⟩ h
        | _ => rfl
      | _ => rfl
    by_cases h : (∃ l d, s = .ow l d) ∧ ∃ b, v = .ref b
    · obtain ⟨⟨l, d, rfl⟩, b, rfl⟩ := h
      show (i, a) ∈ (n, b) :: lentAt (n + 1) ss vs ↔ _
      rw [List.mem_cons]
      constructor
      · rintro (h | h)
        · cases h; exact .inl ⟨rfl, ⟨l, d, rfl⟩, rfl⟩
        · exact .inr h
      · rintro (⟨rfl, _, h⟩ | h)
        · cases h; exact .inl rfl
        · exact .inr h
    · rw [other h]
      constructor
      · exact .inr
      · rintro (⟨_, h1, h2⟩ | h2)
        · exact absurd ⟨h1, a, h2⟩ h
        · exact h2

def ESl (k : Kx) (Φ H : Hp) (v : V) : Sl → Prop
  | .fz true d => Rep k Φ v d
  | .ow false d => ∃ a o, v = .ref a ∧ Φ a = none ∧ H a = some o ∧ RepO k Φ o d
  | _ => False
structure EntryOk (k : Kx) (Φ H : Hp) (vs : List V) (sl : List Sl) : Prop where
  ln : vs.length = sl.length
  at_ : ∀ (j : Nat) (s : Sl), sl[j]? = some s → ∃ v, vs[j]? = some v ∧ ESl k Φ H v s
  ap : ∀ (i j : Nat) (d d' : D) (a : Addr), sl[i]? = some (.ow false d) → sl[j]? = some (.ow false d') → vs[i]? = some (.ref a) → vs[j]? = some (.ref a) → i = j
/-- behind a call -/
structure Aft (k : Kx) (Φ H Φ' H' : Hp) (vs : List V) (sl outs : List Sl) : Prop where
  a1 : Same Φ Φ'
  a2 : Same Φ' H'
  a3 : ∀ (b : Addr) (o : HO), H b = some o → (∀ i, (i, b) ∉ lentAt 0 sl vs) → H' b = some o
  a4 : ∀ (b : Addr), H' b = none → H b = none
  a5 : ∀ (b : Addr) (o : HO), Φ' b = some o → Φ b = some o ∨ H b = none ∨ ∃ i, (i, b) ∈ lentAt 0 sl vs
  a6 : ∀ (i : Nat) (a : Addr), (i, a) ∈ lentAt 0 sl vs → ∃ s, outs[i]? = some s ∧ ((∃ l d o, s = .ow l d ∧ Φ' a = none ∧ H' a = some o ∧ RepO k Φ' o d) ∨ ∃ l d, s = .fz l d ∧ Rep k Φ' (.ref a) d)
def spD (k : Kx) (g : List Sl → CR) : Sp := fun vs H Q E => ∃ Φ sl, Same Φ H ∧ EntryOk k Φ H vs sl ∧ match g sl with
  | .ret fr d outs => ∀ Φ' H' v, Aft k Φ H Φ' H' vs sl outs → RV k H Φ' H' v fr d → Q v H'
  | .exc x outs => ∀ Φ' H' cls dd, Aft k Φ H Φ' H' vs sl outs → RX k Φ' H' cls dd x → E cls dd H'
  | .bad => False

section
variable {f : Fm} {W : WX} {gh : List (Addr × HO)} {Φ Φ' H H' : Hp} {σ σ' : L2.St} {e : Ev} {cl : Cl}
theorem start_len (N : List Str) (vs : List V) (h : vs.length ≤ N.length) : (start N vs).length = N.length := by
  unfold L2.start
  rw [List.length_append, List.length_map, List.length_replicate]
  omega
theorem start_at {N : List Str} {vs : List V} {i : Nat} {v : V} (h : vs[i]? = some v) : (start N vs)[i]? = some (some v) := by
  unfold L2.start
  have hi : i < vs.length := (List.getElem?_eq_some_iff.mp h).1
  rw [List.getElem?_append_left (by simpa using hi), List.getElem?_map, h]
  rfl
/-- at the entry -/
theorem wf_start {k : Kx} {N : List Str} {vs : List V} {sl : List Sl} (sm : Same Φ H) (E : EntryOk k Φ H vs sl) (h : vs.length ≤ N.length) :
    Wf { toKx := k, H0 := H, Φ0 := Φ, lent := lentAt 0 sl vs } [] Φ H (start N vs) (sl ++ List.replicate (N.length - sl.length) .no) := by
  have hl := E.ln
  have at0 : ∀ {i : Nat} {s : Sl}, (sl ++ List.replicate (N.length - sl.length) Sl.no)[i]? = some s → s ≠ .no → sl[i]? = some s := fun {i s} q n => by
    by_cases hi : i < sl.length
    · rwa [List.getElem?_append_left hi] at q
    · rw [List.getElem?_append_right (by omega), List.getElem?_replicate] at q
      split at q
      · exact absurd (Option.some.inj q).symm n
      · cases q
  have owf : ∀ {i : Nat} {l : Bool} {d : D}, sl[i]? = some (.ow l d) → l = false := fun {i l d} q => by
    obtain ⟨v, _, h2⟩ := E.at_ i _ q
    cases l with
    | true => exact h2.elim
    | false => rfl
  refine ⟨Same.refl _, sm, fun b o h _ => h, fun b h => h, fun b o h => .inl h, fun i s hs => ?_, fun i j l m d d' a hi hj si sj => ?_, ?_, fun a o h => (nomatch h), fun i l d a o _ _ h => (nomatch h), fun i a hla => ?_⟩
  · cases s with
    | no => exact True.intro
    | fz l d =>
      obtain ⟨v, h1, h2⟩ := E.at_ i _ (at0 hs (by simp))
      cases l with
      | true => exact ⟨v, start_at h1, h2⟩
      | false => exact h2.elim
    | ow l d =>
      have hs' := at0 hs (by simp)
      obtain ⟨v, h1, h2⟩ := E.at_ i _ hs'
      obtain rfl := owf hs'
      obtain ⟨a, o, rfl, n, ha, r⟩ := h2
      refine ⟨a, o, start_at h1, n, ha, r, ?_⟩
      simp only [Bool.false_eq_true, if_false]
      exact ⟨i, mem_lentAt.mpr ⟨i, by omega, ⟨_, _, hs'⟩, h1⟩⟩
  · have hi' := at0 hi (by simp)
    have hj' := at0 hj (by simp)
    obtain rfl := owf hi'
    obtain rfl := owf hj'
    obtain ⟨v, h1, _⟩ := E.at_ i _ hi'
    obtain ⟨u, h2, _⟩ := E.at_ j _ hj'
    rw [start_at h1] at si; cases si
    rw [start_at h2] at sj; cases sj
    exact E.ap i j d d' a hi' hj' h1 h2
  · rw [List.length_append, List.length_replicate, start_len N vs h]
    omega
  · obtain ⟨j, hj, ⟨l, d, h1⟩, h2⟩ := mem_lentAt.mp hla
    have hj : i = j := by omega
    subst hj
    refine ⟨start_at h2, d, .inl ?_⟩
    obtain rfl := owf h1
    rw [List.getElem?_append_left (List.getElem?_eq_some_iff.mp h1).1]
    exact h1
/-- at the end -/
theorem aft_of {k : Kx} {vs : List V} {sl : List Sl} (hl : vs.length = sl.length) (w : Wf { toKx := k, H0 := H, Φ0 := Φ, lent := lentAt 0 sl vs } [] Φ' H' σ e) : Aft k Φ H Φ' H' vs sl (e.take sl.length) := by
  refine ⟨w.i1, w.i2, fun b o h n => w.i3 b o h fun ⟨i, q⟩ => n i q, w.i4, fun b o h => w.i5 b o h, fun i a hla => ?_⟩
  obtain ⟨h1, d, h2⟩ := w.lt i a hla
  obtain ⟨j, hj, ⟨_, _, h3⟩, _⟩ := mem_lentAt.mp hla
  have hi : i < sl.length := by
    have := (List.getElem?_eq_some_iff.mp h3).1
    omega
  rcases h2 with h2 | h2
  · refine ⟨_, by rw [List.getElem?_take_of_lt hi]; exact h2, .inl ?_⟩
    obtain ⟨a', o, e1, n, e2, r, _⟩ := w.sl i _ h2
    have h1 : σ[i]? = some (some (.ref a)) := h1
    rw [h1] at e1; cases e1
    exact ⟨false, d, o, rfl, n, e2, r⟩
  · refine ⟨_, by rw [List.getElem?_take_of_lt hi]; exact h2, .inr ?_⟩
    obtain ⟨x, e1, r⟩ := w.sl i _ h2
    have h1 : σ[i]? = some (some (.ref a)) := h1
    rw [h1] at e1; cases e1
    exact ⟨false, d, rfl, r⟩
/-- the body's reading from the promise -/
theorem body_read {k : Kx} {N : List Str} {vs : List V} {d : Df} {Q : VK} {E : XK} (h : spD k (fun sl => if sl.length = d.np then runD cl d sl else .bad) vs H Q E) (hn : d.n = N.length) (hv : vs.length ≤ N.length) :
    ∃ f : Fm, f.toKx = k ∧ tX f (fun cls dd _ H => E cls dd H) (asgds d.body) (exs cl d.body) { nx := fun _ H' => Q .non H', rt := Q } (start N vs) H := by
  obtain ⟨Φ, sl, sm, en, h⟩ := h
  refine ⟨{ toKx := k, H0 := H, Φ0 := Φ, lent := lentAt 0 sl vs }, rfl, [], Φ, _, wf_start sm en hv, ?_⟩
  split at h
  · rename_i fr v outs hg
    replace hg : (if sl.length = d.np then runD cl d sl else CR.bad) = _ := hg
    split at hg
    · rename_i hp
      unfold runD at hg
      rw [hn] at hg
      split at hg
      · rename_i e' he
        cases hg
        rw [he]
        exact fun Φ' σ' H' _ s' w => h Φ' H' .non (by rw [← hp]; exact aft_of en.ln w) (by simpa [RV] using Rep.non)
      · rename_i fr' v' e' he
        cases hg
        rw [he]
        refine fun Φ' σ' H' u _ s' w r => h Φ' H' u (by rw [← hp]; exact aft_of en.ln w) ?_
        unfold RR at r
        unfold RV
        split at r
        · rename_i hf
          rw [if_pos hf]
          obtain ⟨a, o, rfl, n, ha, ro, h0⟩ := r
          exact ⟨a, o, rfl, h0, n, ha, ro⟩
        · rename_i hf
          rw [if_neg hf]
          exact r
      · cases hg
      · cases hg
      · cases hg
    · cases hg
  · rename_i x outs hg
    replace hg : (if sl.length = d.np then runD cl d sl else CR.bad) = _ := hg
    split at hg
    · rename_i hp
      unfold runD at hg
      rw [hn] at hg
      split at hg
      · cases hg
      · cases hg
      · cases hg
      · rename_i x' e' he
        cases hg
        rw [he]
        exact fun Φ' σ' H' cls dd _ s' w r => h Φ' H' cls dd (by rw [← hp]; exact aft_of en.ln w) r
      · cases hg
    · cases hg
  · exact h.elim
theorem spD_len {k : Kx} {d : Df} {vs : List V} {Q : VK} {E : XK} (h : spD k (fun sl => if sl.length = d.np then runD cl d sl else .bad) vs H Q E) : vs.length = d.np := by
  obtain ⟨Φ, sl, sm, en, h⟩ := h
  rw [en.ln]
  by_cases hp : sl.length = d.np
  · exact hp
  · have e : (fun sl : List Sl => if sl.length = d.np then runD cl d sl else CR.bad) sl = CR.bad := if_neg hp
    rw [e] at h
    exact h.elim
end

structure FnG (P : Program) (w : World) (K : PySem.W.Frag) (mg : Str → Option Value) (base : Heap) (k : Nat) (f : Addr) (fd : FuncData) (ps : List Str) (sp : Sp) : Prop where
  len : ∀ vs H Q E, sp vs H Q E → vs.length = ps.length
  run : ∀ (A : Around) (outer : List Env) (s : Shared) (H : Hp) (args : Args) (us : List Value) (vs : List V) (Q : VK) (E : XK), Room k A → A.guards = some [] → Env0 P w K mg base A outer s H → BindsTo s fd args (ps.zip us) → Vals vs us → sp vs H Q E →
    codeAny (model P w) A (.call (.ref f) args) (L2.CR (L2.CX P w) outer P w H s Q E) s
section
variable {P : Program} {w : World} {K : PySem.W.Frag} {mg : Str → Option Value} {base : Heap}
/-- what a body leaves is what the call tells -/
theorem told {Y : Cx} {outer : List Env} {Q : VK} {fl : Flow} {s' : Shared} (fs : Y.fs = frs outer) (none_out : Y.ex = []) :
    SP Y [] { nx := fun _ H' => Q .non H', rt := Q } fl s' → CE outer Y.prog Y.w Y.H_0 Y.s_0 Q (match fl with | .ret v => v | _ => .none) s' := by
  intro z
  have take : ∀ {σ' : L2.St} {H' : Hp} {v : V} {u : Value}, Inv Y [] σ' H' s' → RelV v u → Q v H' → CE outer Y.prog Y.w Y.H_0 Y.s_0 Q u s' := fun J rv q => by
    have un := J.base
    rw [fs, none_out] at un
    exact ⟨_, _, J.os, J.bare, un, J.hok, rv, q⟩
  match fl, z with
  | .ret _, ⟨_, _, _, J, rv, q⟩ => exact take J rv q
  | .next, ⟨_, _, J, q⟩ => exact take J (v := .non) rfl q
  | .brk, ⟨_, _, _, q⟩ => exact absurd q id
  | .cont, ⟨_, _, _, q⟩ => exact absurd q id
theorem fnG_of {k : Nat} {f : Addr} {name qual : Str} {params : Arguments} {body : List Stmt} {scope : Scope} {dV kV doc pm cdv ct oc : Value} {an od : Option Addr}
    {osl : Array (Option Value)} {N ps : List Str} {sp : Sp} (lk : K.lookup f = some ⟨oc, od, .func (PySem.W.fnOf name qual params body scope dV kV doc pm an cdv ct), osl⟩) (hcd : PySem.W.codeIn K cdv qual = true) (S : FnScope N ps scope)
    (len : ∀ vs H Q E, sp vs H Q E → vs.length = ps.length)
    (hbody : ∀ (A : Around) (outer : List Env) (s : Shared) (H : Hp) (vs : List V) (Q : VK) (E : XK), Room k (A.deeper (envOfC qual scope s.heap.objs.size f cdv)) → A.guards = some [] → sp vs H Q E →
      ∃ t, PSs (cxOf (L2.CX P w) P w K mg base N qual scope f cdv A outer s H E) body t ∧ t { nx := fun _ H' => Q .non H', rt := Q } (start N vs) H) :
    FnG P w K mg base (k + 1) f (PySem.W.fnOf name qual params body scope dV kV doc pm an cdv ct) ps sp := by
  refine { len := len, run := ?_ }
  intro A outer s H args us vs Q E room gd e0 bind rel word
  have stays : ∀ b o, base.get? b = some o → s.heap.get? b = some o := fun b o z => (e0.bs b o z).1
  have mod := e0.mod.kin.keeps stays
  have kinds : ∀ y ∈ ps.zip us, scope.names.lookup y.1 = some .local ∨ scope.names.lookup y.1 = some .cell ∧ ((cellsFrom (s.heap.objs.size + 1) scope.names []).lookup y.1).isSome = true := fun y hy =>
    (S.par y.1 (List.of_mem_zip (a := y.1) (b := y.2) hy).1).imp id fun q => ⟨q, PySem.W.cellsFrom_some _ _ _ (.inl q)⟩
  refine codeAny_call_function room.depth (mod f _ lk) rfl S.co S.gen rfl (PySem.W.codeRec_of mod hcd) (bind _ _ _ _ (wpAny_newFunctionEnv_cells S.kind kinds ?_))
  rintro _ rfl s1 born
  obtain ⟨t, runs, at_start⟩ := hbody A outer s H vs Q E (room.deeper _) gd word
  have I := inv_start (CX := L2.CX P w) (E := E) (qual := qual) (scope := scope) (cd := cdv) S room.hd e0 (len vs H Q E word) rel born
  exact ⟨(e0.mod.nolimit.keeps stays).keeps born.toInCall.keep, codeAny_func (wpAny_mono (runs.run [] s1 (start N vs) H _ I at_start) (fun fl s' z => told rfl rfl z) fun _ _ z => z)⟩
/-- a def that stands in the module's part of the heap, its defaults dV -/
structure FunD (K : PySem.W.Frag) (x qual : Str) (st : Stmt) (f : Addr) (fd : FuncData) (dV : Value) : Prop where
  ex : ∃ (oc : Value) (od : Option Addr) (kV doc pm : Value) (an : Option Addr) (cdv ct : Value) (osl : Array (Option Value)),
    fd = PySem.W.fnOf x qual (defArgs st) (defBody st) (defScope st) dV kV doc pm an cdv ct ∧ K.lookup f = some ⟨oc, od, .func fd, osl⟩ ∧ PySem.W.codeIn K cdv qual = true
  kp : PySem.W.keepIn K (.ref f) = true
/-- a def by its core text: whoever runs its body's statements keeps the promise -/
theorem def_ok {cl : Cl} {kx : Kx} {k : Nat} {x qual : Str} {st : Stmt} {f : Addr} {fd : FuncData} {N ps : List Str} {d : Df} {dV : Value} (F : FunD K x qual st f fd dV) (S : FnScope N ps (defScope st)) (hn : d.n = N.length) (hp : d.np = ps.length)
    (hbody : ∀ (cdv : Value) (A : Around) (outer : List Env) (s : Shared) (H : Hp) (E : XK) (fm : Fm), fm.toKx = kx → Room k (A.deeper (envOfC qual (defScope st) s.heap.objs.size f cdv)) → A.guards = some [] →
      PSs (cxOf (L2.CX P w) P w K mg base N qual (defScope st) f cdv A outer s H E) (defBody st) (tX fm (fun cls dd _ H => E cls dd H) (asgds d.body) (exs cl d.body))) :
    FnG P w K mg base (k + 1) f fd ps (spD kx fun sl => if sl.length = d.np then runD cl d sl else .bad) := by
  obtain ⟨_, _, _, _, _, _, cdv, _, _, rfl, found, coded⟩ := F.ex
  have room : ps.length ≤ N.length := by
    have z := congrArg List.length S.pre
    rw [List.length_take] at z
    exact Nat.le_of_not_lt fun _ => by omega
  refine fnG_of found coded S (fun _ _ _ _ h => (spD_len h).trans hp) fun A outer s H vs Q E hr hg word => ?_
  obtain ⟨fm, same, reads⟩ := body_read word hn (by rw [spD_len word, hp]; exact room)
  exact ⟨_, hbody cdv A outer s H E fm same hr hg, reads⟩
end
end Pm
namespace Pm
open PySem PySem.Spec PyProof.Rows L2

section
variable {X : Cx} {f : Fm} {W : WX} {gh : List (Addr × HO)} {Φ Φ' H H' : Hp} {σ σ' : L2.St} {e : Ev} {cl : Cl}

theorem freezeArgs_ends : ∀ {bs : List Bool} {xs : List KD} {e : Ev}, (∃ e', freezeArgs bs xs e = .ok () e') ∨ freezeArgs bs xs e = .bad := by
  have step : ∀ {x : KD} {g : M Unit} {e : Ev}, (∀ e, (∃ e', g e = .ok () e') ∨ g e = .bad) → (∃ e', M.bind (freeze x) (fun _ => g) e = .ok () e') ∨ M.bind (freeze x) (fun _ => g) e = .bad := by
    intro x g e hg
    unfold M.bind
    cases q : freeze x e with
    | ok d e1 => exact hg e1
    | ex _ _ => exact (freeze_noex q).elim
    | bad => exact .inr rfl
  intro bs xs
  induction xs generalizing bs with
  | nil =>
    intro e
    cases bs with
    | nil => exact .inl ⟨_, rfl⟩
    | cons b bs => cases b <;> exact .inl ⟨_, rfl⟩
  | cons x xs ih =>
    intro e
    cases bs with
    | nil => exact step fun e => ih
    | cons b bs =>
      cases b with
      | true => exact ih
      | false => exact step fun e => ih
theorem freezeArgs_ok : ∀ {xs : List KD} {bs : List Bool} {vs : List V} {Φ : Hp} {e e' : Ev}, Wf f gh Φ H σ e → RKs f gh Φ H σ e vs xs → freezeArgs bs xs e = .ok () e' → ∃ Φ', Same Φ Φ' ∧ Wf f gh Φ' H σ e' := by
  have step : ∀ {x : KD} {g : M Unit} {v : V} {Φ : Hp} {e e' : Ev}, Wf f gh Φ H σ e → RK f gh Φ H σ e v x → M.bind (freeze x) (fun _ => g) e = .ok () e' → ∃ Φ' e1, Same Φ Φ' ∧ Wf f gh Φ' H σ e1 ∧ g e1 = .ok () e' := by
    intro x g v Φ e e' w r h
    obtain ⟨d, e1, h1, h2⟩ := M.bind_ok h
    obtain ⟨Φ', s, w', _⟩ := freeze_ok w r h1
    exact ⟨Φ', e1, s, w', h2⟩
  intro xs
  induction xs with
  | nil =>
    intro bs vs Φ e e' w r h
    have : e' = e := by
      cases bs with
      | nil => cases h; rfl
      | cons b bs => cases b <;> (cases h; rfl)
    subst this
    exact ⟨Φ, Same.refl _, w⟩
  | cons x xs ih =>
    intro bs vs Φ e e' w r h
    cases r with
    | cons a r =>
      cases bs with
      | nil =>
        obtain ⟨Φ1, e1, s1, w1, h1⟩ := step w a h
        obtain ⟨Φ2, s2, w2⟩ := ih w1 (r.keep s1) h1
        exact ⟨Φ2, s1.trans s2, w2⟩
      | cons b bs =>
        cases b with
        | true => exact ih w r h
        | false =>
          obtain ⟨Φ1, e1, s1, w1, h1⟩ := step w a h
          obtain ⟨Φ2, s2, w2⟩ := ih w1 (r.keep s1) h1
          exact ⟨Φ2, s1.trans s2, w2⟩

inductive EL (f : Fm) (Φ : Hp) (σ : L2.St) (e : Ev) : List V → List KD → List Sl → Prop
  | nil : EL f Φ σ e [] [] []
  | fz {v : V} {x : KD} {d : D} {vs : List V} {xs : List KD} {sl : List Sl} : Rep f.toKx Φ v d → EL f Φ σ e vs xs sl → EL f Φ σ e (v :: vs) (x :: xs) (.fz true d :: sl)
  | ow {v : V} {i : Nat} {d0 d : D} {l : Bool} {vs : List V} {xs : List KD} {sl : List Sl} : σ[i]? = some (some v) → e[i]? = some (.ow l d) → EL f Φ σ e vs xs sl → EL f Φ σ e (v :: vs) ((.sl i, d0) :: xs) (.ow false d :: sl)
theorem entrySl_ends {b : Bool} {x : KD} : (∃ s, entrySl b x e = .ok s e) ∨ entrySl b x e = .bad := by
  obtain ⟨k, d⟩ := x
  cases k with
  | fz => exact .inl ⟨_, rfl⟩
  | fr => exact .inl ⟨_, rfl⟩
  | sl i =>
    simp only [entrySl]
    repeat' split
    all_goals first | exact .inr rfl | exact .inl ⟨_, rfl⟩
theorem entrySl_ok {b : Bool} {x : KD} {v : V} {s : Sl} {vs : List V} {xs : List KD} {sl : List Sl} (w : Wf f gh Φ H σ e) (r : RK f gh Φ H σ e v x) (hx : soft x = x) (h : entrySl b x e = .ok s e) (t : EL f Φ σ e vs xs sl) : EL f Φ σ e (v :: vs) (x :: xs) (s :: sl) := by
  obtain ⟨k, d⟩ := x
  cases k with
  | fz => cases h; exact .fz r t
  | fr => cases hx
  | sl i =>
    have r : σ[i]? = some (some v) := r
    simp only [entrySl] at h
    split at h
    · rename_i l d1 hs
      split at h
      · cases h; exact .ow r hs t
      · cases h
    · rename_i l d1 hs
      cases h
      obtain ⟨y, e1, rp⟩ := w.sl i _ hs
      rw [r] at e1; cases e1
      exact .fz rp t
    · cases h
theorem entrySls_ends : ∀ {bs : List Bool} {xs : List KD}, (∃ sl, entrySls bs xs e = .ok sl e) ∨ entrySls bs xs e = .bad := by
  have step : ∀ {b : Bool} {x : KD} {g : M (List Sl)}, ((∃ sl, g e = .ok sl e) ∨ g e = .bad) → (∃ sl, M.bind (entrySl b x) (fun s => M.bind g fun r => M.pure (s :: r)) e = .ok sl e) ∨ M.bind (entrySl b x) (fun s => M.bind g fun r => M.pure (s :: r)) e = .bad := by
    intro b x g hg
    unfold M.bind
    rcases entrySl_ends (e := e) (b := b) (x := x) with ⟨s, q⟩ | q
    · rw [q]
      simp only
      rcases hg with ⟨sl, q2⟩ | q2
      · rw [q2]; exact .inl ⟨_, rfl⟩
      · rw [q2]; exact .inr rfl
    · rw [q]; exact .inr rfl
  intro bs xs
  induction xs generalizing bs with
  | nil => cases bs <;> exact .inl ⟨_, rfl⟩
  | cons x xs ih =>
    cases bs with
    | nil => exact step ih
    | cons b bs => exact step ih
theorem entrySls_ok : ∀ {xs : List KD} {bs : List Bool} {vs : List V} {sl : List Sl}, Wf f gh Φ H σ e → RKs f gh Φ H σ e vs xs → entrySls bs xs e = .ok sl e → EL f Φ σ e vs xs sl := by
  have step : ∀ {b : Bool} {x : KD} {g : M (List Sl)} {sl : List Sl}, ((∃ sl, g e = .ok sl e) ∨ g e = .bad) → M.bind (entrySl b x) (fun s => M.bind g fun r => M.pure (s :: r)) e = .ok sl e → ∃ s r, entrySl b x e = .ok s e ∧ g e = .ok r e ∧ sl = s :: r := by
    intro b x g sl hg h
    rcases entrySl_ends (e := e) (b := b) (x := x) with ⟨s, q⟩ | q
    · rcases hg with ⟨r, q2⟩ | q2
      · unfold M.bind at h
        rw [q] at h
        simp only at h
        rw [q2] at h
        cases h
        exact ⟨s, r, q, q2, rfl⟩
      · unfold M.bind at h
        rw [q] at h
        simp only at h
        rw [q2] at h
        cases h
    · unfold M.bind at h
      rw [q] at h
      cases h
  intro xs
  induction xs with
  | nil =>
    intro bs vs sl w r h
    cases r
    cases bs <;> (cases h; exact .nil)
  | cons x xs ih =>
    intro bs vs sl w r h
    cases r with
    | cons a r =>
      cases bs with
      | nil =>
        obtain ⟨s, r', h1, h2, rfl⟩ := step entrySls_ends h
        exact entrySl_ok w a (soft_soft _) h1 (ih w r h2)
      | cons b bs =>
        obtain ⟨s, r', h1, h2, rfl⟩ := step entrySls_ends h
        exact entrySl_ok w a (soft_soft _) h1 (ih w r h2)
theorem EL.len {vs : List V} {xs : List KD} {sl : List Sl} (t : EL f Φ σ e vs xs sl) : vs.length = sl.length := by
  induction t with
  | nil => rfl
  | fz _ _ ih => simp [ih]
  | ow _ _ _ ih => simp [ih]
theorem EL.at_ {vs : List V} {xs : List KD} {sl : List Sl} (t : EL f Φ σ e vs xs sl) : ∀ (j : Nat) (s : Sl), sl[j]? = some s → ∃ v, vs[j]? = some v ∧ ((∃ d, s = .fz true d ∧ Rep f.toKx Φ v d) ∨ ∃ i d l, s = .ow false d ∧ i ∈ lentOnce xs sl ∧ σ[i]? = some (some v) ∧ e[i]? = some (.ow l d)) := by
  induction t with
  | nil => intro j s h; simp at h
  | fz a t ih =>
    rename_i v x d vs xs sl
    intro j s h
    have hx : lentOnce (x :: xs) (.fz true d :: sl) = lentOnce xs sl := by
      obtain ⟨k, d'⟩ := x
      cases k <;> rfl
    cases j with
    | zero => simp at h; subst h; exact ⟨v, rfl, .inl ⟨d, rfl, a⟩⟩
    | succ j =>
      obtain ⟨v', h1, h2⟩ := ih j s (by simpa using h)
      rw [hx]
      exact ⟨v', by simpa using h1, h2⟩
  | ow a b t ih =>
    rename_i v i d0 d l vs xs sl
    intro j s h
    cases j with
    | zero =>
      simp at h; subst h
      exact ⟨v, rfl, .inr ⟨i, d, l, rfl, List.mem_cons_self, a, b⟩⟩
    | succ j =>
      obtain ⟨v', h1, h2⟩ := ih j s (by simpa using h)
      refine ⟨v', by simpa using h1, ?_⟩
      rcases h2 with h2 | ⟨i', d', l', q1, q2, q3⟩
      · exact .inl h2
      · exact .inr ⟨i', d', l', q1, List.mem_cons_of_mem _ q2, q3⟩
/-- the places of lent slots differ -/
theorem EL.inj {vs : List V} {xs : List KD} {sl : List Sl} (t : EL f Φ σ e vs xs sl) (nd : (lentOnce xs sl).Nodup) (w : Wf f gh Φ H σ e) : ∀ (j m : Nat) (d d' : D) (a : Addr), sl[j]? = some (.ow false d) → sl[m]? = some (.ow false d') → vs[j]? = some (.ref a) → vs[m]? = some (.ref a) → j = m := by
  induction t with
  | nil => intro j m d d' a h; simp at h
  | fz q t ih =>
    rename_i v x d0 vs xs sl
    have hx : lentOnce (x :: xs) (.fz true d0 :: sl) = lentOnce xs sl := by
      obtain ⟨k, d'⟩ := x
      cases k <;> rfl
    rw [hx] at nd
    intro j m d d' a h1 h2 h3 h4
    cases j with
    | zero => simp at h1
    | succ j =>
      cases m with
      | zero => simp at h2
      | succ m => rw [ih nd j m d d' a (by simpa using h1) (by simpa using h2) (by simpa using h3) (by simpa using h4)]
  | ow q b t ih =>
    rename_i v i d0 d1 l vs xs sl
    have nd : (i :: lentOnce xs sl).Nodup := nd
    rw [List.nodup_cons] at nd
    have other : ∀ (m : Nat) (d' : D) (a : Addr), sl[m]? = some (.ow false d') → vs[m]? = some (.ref a) → v = .ref a → False := by
      intro m d' a h2 h4 hv
      obtain ⟨v', h5, h6⟩ := t.at_ m _ h2
      rw [h4] at h5; cases h5
      rcases h6 with ⟨_, z, _⟩ | ⟨i', d'', l', z, q2, q3, q4⟩
      · cases z
      · subst hv
        have := w.ap i i' _ _ _ _ a b q4 q q3
        subst this
        exact nd.1 q2
    intro j m d d' a h1 h2 h3 h4
    cases j with
    | zero =>
      cases m with
      | zero => rfl
      | succ m => exact (other m d' a (by simpa using h2) (by simpa using h4) (by simpa using h3)).elim
    | succ j =>
      cases m with
      | zero => exact (other j d a (by simpa using h1) (by simpa using h3) (by simpa using h4)).elim
      | succ m => rw [ih nd.2 j m d d' a (by simpa using h1) (by simpa using h2) (by simpa using h3) (by simpa using h4)]
theorem EL.entry {vs : List V} {xs : List KD} {sl : List Sl} (t : EL f Φ σ e vs xs sl) (nd : (lentOnce xs sl).Nodup) (w : Wf f gh Φ H σ e) : EntryOk f.toKx Φ H vs sl := by
  refine ⟨t.len, fun j s h => ?_, t.inj nd w⟩
  obtain ⟨v, h1, h2⟩ := t.at_ j s h
  refine ⟨v, h1, ?_⟩
  rcases h2 with ⟨d, rfl, r⟩ | ⟨i, d, l, rfl, _, h3, h4⟩
  · exact r
  · obtain ⟨a, o, e1, n, e2, r, _⟩ := w.sl i _ h4
    rw [h3] at e1; cases e1
    exact ⟨a, o, rfl, n, e2, r⟩

theorem EL.back {vs : List V} {xs : List KD} {sl : List Sl} (w : Wf f gh Φ H σ e) (t : EL f Φ σ e vs xs sl) : ∀ {os : List Sl} {e1 e2 : Ev}, (lentOnce xs sl).Nodup → (∀ i ∈ lentOnce xs sl, e1[i]? = e[i]?) → takeBack xs sl os e1 = some e2 →
    e2.length = e1.length ∧ (∀ i, i ∉ lentOnce xs sl → e2[i]? = e1[i]?) ∧
    ∀ i ∈ lentOnce xs sl, ∃ (j : Nat) (a : Addr) (d : D) (l : Bool) (s : Sl), sl[j]? = some (.ow false d) ∧ vs[j]? = some (V.ref a) ∧ os[j]? = some s ∧ σ[i]? = some (some (V.ref a)) ∧ e[i]? = some (.ow l d) ∧
      ((∃ (b : Bool) (d' : D), s = .ow b d' ∧ e2[i]? = some (.ow l d')) ∨ ∃ (b : Bool) (d' : D), s = .fz b d' ∧ e2[i]? = some (.fz l d')) := by
  induction t with
  | nil =>
    intro os e1 e2 nd h0 h
    have : e2 = e1 := by
      cases os <;> (cases h; rfl)
    subst this
    exact ⟨rfl, fun _ _ => rfl, fun i hi => nomatch hi⟩
  | fz q t ih =>
    rename_i v x d0 vs xs sl
    intro os e1 e2 nd h0 h
    have hx : lentOnce (x :: xs) (.fz true d0 :: sl) = lentOnce xs sl := by
      obtain ⟨k, d'⟩ := x
      cases k <;> rfl
    rw [hx] at nd h0 ⊢
    cases os with
    | nil =>
      obtain ⟨k, d'⟩ := x
      cases k <;> cases h
    | cons o os =>
      have h' : takeBack xs sl os e1 = some e2 := by
        obtain ⟨k, d'⟩ := x
        cases k <;> exact h
      obtain ⟨g1, g2, g3⟩ := ih nd h0 h'
      refine ⟨g1, g2, fun i hi => ?_⟩
      obtain ⟨j, a, d, l, s, z1, z2, z3, z4⟩ := g3 i hi
      exact ⟨j + 1, a, d, l, s, by simpa using z1, by simpa using z2, by simpa using z3, z4⟩
  | ow q b t ih =>
    rename_i v i d0 d1 l vs xs sl
    intro os e1 e2 nd h0 h
    have nd : (i :: lentOnce xs sl).Nodup := nd
    rw [List.nodup_cons] at nd
    have h0 : ∀ m ∈ i :: lentOnce xs sl, e1[m]? = e[m]? := h0
    have hi1 : e1[i]? = some (.ow l d1) := (h0 i List.mem_cons_self).trans b
    have hil : i < e1.length := (List.getElem?_eq_some_iff.mp hi1).1
    obtain ⟨a, ob, ea, _⟩ := w.sl i _ b
    have ev : v = .ref a := by
      rw [q] at ea
      exact Option.some.inj (Option.some.inj ea)
    subst ev
    have main : ∀ (Y : Sl) (os : List Sl), takeBack xs sl os (e1.set i Y) = some e2 → e2.length = e1.length ∧ (∀ m, m ∉ i :: lentOnce xs sl → e2[m]? = e1[m]?) ∧ e2[i]? = some Y ∧
        ∀ m ∈ lentOnce xs sl, ∃ (j : Nat) (a : Addr) (d : D) (l : Bool) (s : Sl), sl[j]? = some (.ow false d) ∧ vs[j]? = some (V.ref a) ∧ os[j]? = some s ∧ σ[m]? = some (some (V.ref a)) ∧ e[m]? = some (.ow l d) ∧
          ((∃ (b : Bool) (d' : D), s = .ow b d' ∧ e2[m]? = some (.ow l d')) ∨ ∃ (b : Bool) (d' : D), s = .fz b d' ∧ e2[m]? = some (.fz l d')) := by
      intro Y os hh
      obtain ⟨g1, g2, g3⟩ := ih nd.2 (fun m hm => by
        have nm : i ≠ m := fun z => nd.1 (by rw [z]; exact hm)
        rw [List.getElem?_set_ne nm]
        exact h0 m (List.mem_cons_of_mem _ hm)) hh
      rw [List.length_set] at g1
      refine ⟨g1, fun m hm => ?_, ?_, g3⟩
      · rw [List.mem_cons, not_or] at hm
        rw [g2 m hm.2, List.getElem?_set_ne (Ne.symm hm.1)]
      · rw [g2 i nd.1, List.getElem?_set_self hil]
    cases os with
    | nil => cases h
    | cons o os =>
      unfold takeBack at h
      rw [hi1] at h
      cases o with
      | no => cases h
      | ow b' d' =>
        obtain ⟨g1, g2, g3, g4⟩ := main _ os h
        refine ⟨g1, g2, fun m hm => ?_⟩
        have hm : m ∈ i :: lentOnce xs sl := hm
        rcases List.mem_cons.mp hm with z | z
        · subst z
          exact ⟨0, a, d1, l, _, rfl, rfl, rfl, q, b, .inl ⟨b', d', rfl, g3⟩⟩
        · obtain ⟨j, a, d, l, s, z1, z2, z3, z4⟩ := g4 m z
          exact ⟨j + 1, a, d, l, s, by simpa using z1, by simpa using z2, by simpa using z3, z4⟩
      | fz b' d' =>
        obtain ⟨g1, g2, g3, g4⟩ := main _ os h
        refine ⟨g1, g2, fun m hm => ?_⟩
        have hm : m ∈ i :: lentOnce xs sl := hm
        rcases List.mem_cons.mp hm with z | z
        · subst z
          exact ⟨0, a, d1, l, _, rfl, rfl, rfl, q, b, .inr ⟨b', d', rfl, g3⟩⟩
        · obtain ⟨j, a, d, l, s, z1, z2, z3, z4⟩ := g4 m z
          exact ⟨j + 1, a, d, l, s, by simpa using z1, by simpa using z2, by simpa using z3, z4⟩
/-- the frame behind a call -/
theorem EL.wf {vs : List V} {xs : List KD} {sl os : List Sl} {e2 : Ev} (w : Wf f gh Φ H σ e) (t : EL f Φ σ e vs xs sl) (nd : (lentOnce xs sl).Nodup) (h : takeBack xs sl os e = some e2) (a : Aft f.toKx Φ H Φ' H' vs sl os) : Wf f gh Φ' H' σ e2 := by
  obtain ⟨g1, g2, g3⟩ := t.back w nd (fun _ _ => rfl) h
  -- a lent object is the owned one of a slot
  have lent : ∀ (i : Nat) (b : Addr), (i, b) ∈ lentAt 0 sl vs → ∃ m d l, m ∈ lentOnce xs sl ∧ σ[m]? = some (some (.ref b)) ∧ e[m]? = some (.ow l d) := by
    intro i b hb
    obtain ⟨j, _, ⟨l0, d, h1⟩, h2⟩ := mem_lentAt.mp hb
    obtain ⟨v, h3, h4⟩ := t.at_ j _ h1
    rw [h2] at h3; cases h3
    rcases h4 with ⟨_, z, _⟩ | ⟨m, d', l, z, q1, q2, q3⟩
    · cases z
    · exact ⟨m, d', l, q1, q2, q3⟩
  have keepB : ∀ (i : Nat) (l : Bool) (d : D) (b : Addr), e[i]? = some (.ow l d) → σ[i]? = some (some (.ref b)) → i ∉ lentOnce xs sl → ∀ j, (j, b) ∉ lentAt 0 sl vs := by
    intro i l d b hi hs hn j hb
    obtain ⟨m, d', l', q1, q2, q3⟩ := lent j b hb
    exact hn (w.ap i m _ _ _ _ b hi q3 hs q2 ▸ q1)
  have none_of : ∀ (b : Addr) (o : HO), Φ b = none → H b = some o → (∀ j, (j, b) ∉ lentAt 0 sl vs) → Φ' b = none := by
    intro b o n hb hl
    cases q : Φ' b with
    | none => rfl
    | some o' =>
      rcases a.a5 b o' q with z | z | ⟨j, z⟩
      · rw [n] at z; cases z
      · rw [hb] at z; cases z
      · exact (hl j z).elim
  have lentF : ∀ (j : Nat) (b : Addr), (j, b) ∈ lentAt 0 sl vs → f.H0 b = none ∨ f.B b := by
    intro j b hb
    obtain ⟨m, d', l', q1, q2, q3⟩ := lent j b hb
    obtain ⟨c, o, e1, _, _, _, z⟩ := w.sl m _ q3
    rw [q2] at e1; cases e1
    cases l' with
    | true => exact .inl (by simpa using z)
    | false => exact .inr (by simpa using z)
  -- a slot of e2 that is owned was owned
  have was : ∀ (i : Nat) (l : Bool) (d : D), e2[i]? = some (.ow l d) → ∃ d0, e[i]? = some (.ow l d0) := by
    intro i l d hi
    by_cases hm : i ∈ lentOnce xs sl
    · obtain ⟨j, b, d1, l1, s, z1, z2, z3, z4, z5, z6⟩ := g3 i hm
      rcases z6 with ⟨b', d', rfl, z6⟩ | ⟨b', d', rfl, z6⟩
      · rw [hi] at z6; cases z6; exact ⟨_, z5⟩
      · rw [hi] at z6; cases z6
    · rw [g2 i hm] at hi; exact ⟨d, hi⟩
  refine ⟨w.i1.trans a.a1, a.a2, fun b o h0 nb => ?_, fun b h0 => w.i4 b (a.a4 b h0), fun b o hb => ?_, fun i s hs => ?_, fun i j l m d d' b hi hj si sj => ?_, g1.trans w.ln, fun b o hb => ?_, fun i l d b o hi hs => ?_, fun i b hb => ?_⟩
  · refine a.a3 b o (w.i3 b o h0 nb) fun j hj => ?_
    rcases lentF j b hj with z | z
    · rw [z] at h0; cases h0
    · exact nb z
  · rcases a.a5 b o hb with z | z | ⟨j, z⟩
    · exact w.i5 b o z
    · exact .inr (.inl (w.i4 b z))
    · exact .inr (lentF j b z)
  · by_cases hm : i ∈ lentOnce xs sl
    · obtain ⟨j, b, d1, l1, s1, z1, z2, z3, z4, z5, z6⟩ := g3 i hm
      obtain ⟨c, o0, e1, _, _, _, z⟩ := w.sl i _ z5
      rw [z4] at e1; cases e1
      have hla : (j, b) ∈ lentAt 0 sl vs := mem_lentAt.mpr ⟨j, by omega, ⟨_, _, z1⟩, z2⟩
      obtain ⟨s2, y1, y2⟩ := a.a6 j b hla
      rw [z3] at y1; cases y1
      rcases z6 with ⟨b', d', rfl, z6⟩ | ⟨b', d', rfl, z6⟩
      · rw [hs] at z6; cases z6
        rcases y2 with ⟨_, _, o, y3, y4, y5, y6⟩ | ⟨_, _, y3, _⟩
        · cases y3
          exact ⟨b, o, z4, y4, y5, y6, z⟩
        · cases y3
      · rw [hs] at z6; cases z6
        rcases y2 with ⟨_, _, o, y3, _⟩ | ⟨_, _, y3, y4⟩
        · cases y3
        · cases y3
          exact ⟨_, z4, y4⟩
    · rw [g2 i hm] at hs
      have q := w.sl i s hs
      cases s with
      | no => exact True.intro
      | fz l d =>
        obtain ⟨x, q1, q2⟩ := q
        exact ⟨x, q1, q2.mono a.a1⟩
      | ow l d =>
        obtain ⟨b, o, q1, q2, q3, q4, q5⟩ := q
        have hl := keepB i l d b hs q1 hm
        exact ⟨b, o, q1, none_of b o q2 q3 hl, a.a3 b o q3 hl, q4.mono a.a1, q5⟩
  · obtain ⟨d0, hi0⟩ := was i l d hi
    obtain ⟨d1, hj0⟩ := was j m d' hj
    exact w.ap i j _ _ _ _ b hi0 hj0 si sj
  · obtain ⟨q1, q2, q3⟩ := w.gd b o hb
    have hl : ∀ j, (j, b) ∉ lentAt 0 sl vs := fun j hj => by
      obtain ⟨m, d', l', z1, z2, z3⟩ := lent j b hj
      exact w.ga m _ _ b o z3 z2 hb
    exact ⟨none_of b o q1 q2 hl, a.a3 b o q2 hl, q3⟩
  · obtain ⟨d0, hi0⟩ := was i l d hi
    exact w.ga i l d0 b o hi0 hs
  · obtain ⟨h1, d, h2⟩ := w.lt i b hb
    refine ⟨h1, ?_⟩
    by_cases hm : i ∈ lentOnce xs sl
    · obtain ⟨j, c, d1, l1, s1, z1, z2, z3, z4, z5, z6⟩ := g3 i hm
      have hl1 : l1 = false := by
        rw [z5] at h2
        rcases h2 with h2 | h2
        · cases h2; rfl
        · cases h2
      subst hl1
      rcases z6 with ⟨b', d', rfl, z6⟩ | ⟨b', d', rfl, z6⟩
      · exact ⟨d', .inl z6⟩
      · exact ⟨d', .inr z6⟩
    · rw [g2 i hm]
      exact ⟨d, h2⟩
end
end Pm
namespace Pm
open PySem PySem.Spec PyProof.Rows L2

section
variable {X : Cx} {f : Fm} {W : WX} {gh : List (Addr × HO)} {Φ Φ' H H' : Hp} {σ σ' : L2.St} {e : Ev} {cl : Cl}
theorem EL.was {vs : List V} {xs : List KD} {sl os : List Sl} {e2 : Ev} (w : Wf f gh Φ H σ e) (t : EL f Φ σ e vs xs sl) (nd : (lentOnce xs sl).Nodup) (h : takeBack xs sl os e = some e2) : ∀ (i : Nat) (l : Bool) (d : D), e2[i]? = some (.ow l d) → ∃ d0, e[i]? = some (.ow l d0) := by
  obtain ⟨g1, g2, g3⟩ := t.back w nd (fun _ _ => rfl) h
  intro i l d hi
  by_cases hm : i ∈ lentOnce xs sl
  · obtain ⟨j, b, d1, l1, s, z1, z2, z3, z4, z5, z6⟩ := g3 i hm
    rcases z6 with ⟨b', d', rfl, z6⟩ | ⟨b', d', rfl, z6⟩
    · rw [hi] at z6; cases z6; exact ⟨_, z5⟩
    · rw [hi] at z6; cases z6
  · rw [g2 i hm] at hi; exact ⟨d, hi⟩
theorem callM_read {fi : Nat} {bs : List Bool} {xs : List KD} {vs : List V} {Q : VK} (w : Wf f gh Φ H σ e) (r : RKs f gh Φ H σ e vs xs)
    (h : Pst f W gh σ (callM cl fi bs xs e) Φ fun Φ' H' e' x => ∀ v, RK f gh Φ' H' σ e' v x → Q v H') : spD f.toKx (cl fi) vs H Q (WE W σ) := by
  unfold callM at h
  unfold M.bind at h
  rcases freezeArgs_ends (bs := bs) (xs := xs) (e := e) with ⟨e1, q1⟩ | q1
  · rw [q1] at h
    simp only at h
    obtain ⟨Φ1, s1, w1⟩ := freezeArgs_ok w r q1
    have r1 : RKs f gh Φ1 H σ e1 vs xs := r.keep s1
    rcases entrySls_ends (bs := bs) (xs := xs) (e := e1) with ⟨sl, q2⟩ | q2
    · rw [q2] at h
      simp only at h
      have t := entrySls_ok w1 r1 q2
      split at h
      · rename_i nd
        refine ⟨Φ1, sl, w1.i2, t.entry nd w1, ?_⟩
        split at h
        · rename_i fr d outs hc
          try rw [hc]
          intro Φ' H' v a rv
          split at h
          · rename_i e2 ht
            have w2 := t.wf w1 nd ht a
            cases fr with
            | false =>
              have rv' : Rep f.toKx Φ' v d := by simpa [RV] using rv
              exact h Φ' H' (s1.trans a.a1) w2 v rv'
            | true =>
              simp only [RV, if_true] at rv
              obtain ⟨p, o, rfl, n, n2, hp, ro⟩ := rv
              refine h Φ' H' (s1.trans a.a1) w2 _ ⟨p, o, rfl, n2, hp, ro, w1.i4 p n, fun i l d' hi hs => ?_, fun o' ho => ?_⟩
              · obtain ⟨d0, hi0⟩ := t.was w1 nd ht i l d' hi
                obtain ⟨b, o', e1', _, e2', _⟩ := w1.sl i _ hi0
                rw [hs] at e1'; cases e1'
                rw [n] at e2'; cases e2'
              · have := (w1.gd p o' ho).2.1
                rw [n] at this; cases this
          · exact h.elim
        · rename_i x outs hc
          try rw [hc]
          intro Φ' H' cls dd a rx
          split at h
          · rename_i e2 ht
            exact h Φ' H' cls dd (s1.trans a.a1) (t.wf w1 nd ht a) rx
          · exact h.elim
        · rename_i hc
          exact h.elim
      · exact h.elim
    · rw [q2] at h
      exact h.elim
  · rw [q1] at h
    exact h.elim
theorem RKs.get {vs : List V} {xs : List KD} (r : RKs f gh Φ H σ e vs xs) : ∀ {i : Nat} {x : KD}, xs[i]? = some x → ∃ v, vs[i]? = some v ∧ soft x = x ∧ RK f gh Φ H σ e v x := by
  induction r with
  | nil => intro i x h; simp at h
  | cons a _ ih =>
    intro i x h
    cases i with
    | zero => simp at h; subst h; exact ⟨_, rfl, soft_soft _, a⟩
    | succ i =>
      obtain ⟨v, h1, h2⟩ := ih (i := i) (by simpa using h)
      exact ⟨v, by simpa using h1, h2⟩
theorem RKs.permuted {vs : List V} {xs : List KD} (r : RKs f gh Φ H σ e vs xs) : ∀ {pm : List Nat} {ys : List KD}, permuted xs pm = some ys → ∃ us, permuted vs pm = some us ∧ RKs f gh Φ H σ e us ys
  | [], ys, h => by cases h; exact ⟨[], rfl, .nil⟩
  | i :: pm, ys, h => by
    unfold Pm.permuted at h
    cases h1 : xs[i]? with
    | none => rw [h1] at h; cases h
    | some x =>
      cases h2 : Pm.permuted xs pm with
      | none => rw [h1, h2] at h; cases h
      | some zs =>
        rw [h1, h2] at h
        cases h
        obtain ⟨v, g1, g2, g3⟩ := r.get h1
        obtain ⟨us, g4, g5⟩ := r.permuted h2
        refine ⟨v :: us, ?_, ?_⟩
        · unfold Pm.permuted
          rw [g1, g4]
        · rw [← g2]
          rw [← g2] at g3
          exact .cons g3 g5
theorem RKs.app {vs us : List V} {xs ys : List KD} (r : RKs f gh Φ H σ e vs xs) (r' : RKs f gh Φ H σ e us ys) : RKs f gh Φ H σ e (vs ++ us) (xs ++ ys) := by
  induction r with
  | nil => exact r'
  | cons a _ ih => exact .cons a ih
theorem evPs_app : ∀ (as bs : List E), evPs cl (as ++ bs) = M.bind (evPs cl as) fun xs => M.bind (evPs cl bs) fun ys => M.pure (xs ++ ys)
  | [], bs => by
    rw [List.nil_append, evPs.eq_1, M.left]
    funext e
    unfold M.bind
    cases evPs cl bs e <;> rfl
  | a :: as, bs => by
    rw [List.cons_append, evPs, evPs, evPs_app as bs]
    simp only [M.assoc, M.left]
    rfl

/-- the bound arguments, by the places that the call's form tells -/
def CallR2 (X : Cx) (fa : Addr) (ks : List Str) (n m : Nat) (dV : List V) (pm : List Nat) (sp : Sp) (W : WX) : Prop :=
  ∀ (pins : List (Addr × Obj)) (σ : L2.St) (H : Hp) (s : Shared) (Q : VK) (us ws : List Value) (vs zs ys : List V), Inv X pins σ H s → Vals vs us → Vals zs ws → vs.length = n → zs.length = m → permuted (vs ++ zs ++ dV) pm = some ys → sp ys H Q (WE W σ) →
    wpAny (model X.prog X.w) X.A (call (.ref fa) us (ks.zip ws)) (EP X pins σ Q) X.xe s
theorem permuted_vals {vs : List V} {us : List Value} (r : Vals vs us) : ∀ {pm : List Nat} {ys : List V}, permuted vs pm = some ys → ∃ ws, permuted us pm = some ws ∧ Vals ys ws
  | [], ys, h => by cases h; exact ⟨[], rfl, .nil⟩
  | i :: pm, ys, h => by
    unfold permuted at h
    cases h1 : vs[i]? with
    | none => rw [h1] at h; cases h
    | some x =>
      cases h2 : permuted vs pm with
      | none => rw [h1, h2] at h; cases h
      | some zs =>
        rw [h1, h2] at h
        cases h
        obtain ⟨u, g1, g2⟩ := r.get h1
        obtain ⟨ws, g3, g4⟩ := permuted_vals r h2
        refine ⟨u :: ws, ?_, .cons g2 g4⟩
        unfold permuted
        rw [g1, g3]
/-- how a form of call binds -/
def Binds2 (K : PySem.W.Frag) (fd : FuncData) (ps ks : List Str) (n m : Nat) (dW : List Value) (pm : List Nat) : Prop :=
  ∀ (s : Shared) (us ws zs : List Value), K.In s.heap → us.length = n → ws.length = m → permuted (us ++ ws ++ dW) pm = some zs → BindsTo s fd ⟨us, ks.zip ws⟩ (ps.zip zs)
theorem callR2_of {kk : Nat} {fa : Addr} {fd : FuncData} {ps ks : List Str} {n m : Nat} {dV : List V} {dW : List Value} {pm : List Nat} {sp : Sp} (F : FnG X.prog X.w X.K X.mg X.base kk fa fd ps sp) (hr : Room kk X.A) (hg : X.A.guards = some [])
    (hb : Binds2 X.K fd ps ks n m dW pm) (hd : Vals dV dW) (tk : Takes X W) : CallR2 X fa ks n m dV pm sp W := by
  intro pins σ H s Q us ws vs zs ys I rv rz hn hm hp hsp
  obtain ⟨qs, hq, rq⟩ := permuted_vals ((rv.append rz).append hd) hp
  have b := hb s us ws qs I.kIn (by rw [← rv.length]; exact hn) (by rw [← rz.length]; exact hm) hq
  refine wpAny_call (codeAny_mono (F.run X.A X.stack s H ⟨us, ks.zip ws⟩ qs ys Q (WE W σ) hr hg I.env0 b rq hsp) fun r s' hq => ?_)
  cases r with
  | error e => exact passAt tk σ pins H s e s' I hq
  | ok fl =>
    cases fl with
    | ret u => exact I.after hq
    | next => exact False.elim hq
    | brk => exact False.elim hq
    | cont => exact False.elim hq
def tCall2 (sp : Sp) (dV : List V) (pm : List Nat) (W : WX) (ta tk : TA) : TE := fun σ H Q => ta σ H fun vs H1 => tk σ H1 fun zs H2 => ∃ ys, permuted (vs ++ zs ++ dV) pm = some ys ∧ sp ys H2 Q (WE W σ)
/-- starEach of a list without a star -/
theorem starEach_cons {a : Expr} {as : List Expr} {env : Env} (h : (match a with | .Starred _ _ => false | _ => true) = true) : starEach (a :: as) env = (false, eval a env) :: starEach as env := by
  cases a <;> first | rfl | cases h
theorem tFA.lenQ {es : List E} {Q : List V → Hp → Prop} (h : tFA f W (evPs cl es) σ H Q) : tFA f W (evPs cl es) σ H fun vs H1 => vs.length = es.length ∧ Q vs H1 := by
  obtain ⟨gh, Φ, e, w, h⟩ := h
  refine ⟨gh, Φ, e, w, ?_⟩
  have len : ∀ {es : List E} {e e' : Ev} {xs : List KD}, evPs cl es e = .ok xs e' → xs.length = es.length := by
    intro es
    induction es with
    | nil =>
      intro e e' xs h
      unfold evPs at h
      cases h; rfl
    | cons a es ih =>
      intro e e' xs h
      unfold evPs at h
      obtain ⟨x, e1, h1, h2⟩ := M.bind_ok h
      obtain ⟨ys, e2, h3, h4⟩ := M.bind_ok h2
      cases h4
      simp [ih h3]
  have lenR : ∀ {vs : List V} {xs : List KD} {Φ H : Hp} {e : Ev}, RKs f gh Φ H σ e vs xs → vs.length = xs.length := by
    intro vs xs Φ H e r
    induction r with
    | nil => rfl
    | cons _ _ ih => simp [ih]
  cases q : evPs cl es e with
  | ok xs e1 =>
    rw [q] at h
    exact fun Φ1 H1 s1 w1 vs r => ⟨by rw [lenR r, len q], h Φ1 H1 s1 w1 vs r⟩
  | ex x e1 => rw [q] at h; exact h
  | bad => rw [q] at h; exact h
theorem rks_fz : ∀ {vs : List V} {ds : List D}, RepL f.toKx Φ vs ds → RKs f gh Φ H σ e vs (ds.map fun d => (Kd.fz, d))
  | _, _, .nil => .nil
  | _, _, .cons a r => .cons (x := (Kd.fz, _)) a (rks_fz r)
/-- f(a, .., k = v, ..) -/
theorem se_call {x : Str} {fa : Addr} {fi : Nat} {bs : List Bool} {as : List Expr} {kws : List Keyword} {as' kw' df' : List E} {ks : List Str} {dV : List V} {pm : List Nat} {p pos : Pos}
    (C : CallR2 X fa ks as'.length kw'.length dV pm (spD f.toKx (cl fi)) W) (hg : Gl X x) (hm : X.mg x = some (.ref fa)) (hk : PySem.W.keepIn X.K (.ref fa) = true) (hdb : (x == ("__debug__" : Str)) = false)
    (ha : PA X as (tFA f W (evPs cl as'))) (hkw : PK X kws (tFA f W (evPs cl kw'))) (hdf : ∃ ds, evPs cl df' = M.pure (ds.map fun d => (Kd.fz, d)) ∧ ∀ Φ, Same f.Φ0 Φ → RepL f.toKx Φ dV ds)
    (hstar : ∀ a ∈ as, (match a with | Expr.Starred _ _ => false | _ => true) = true) (hall : (backToKw pos (keywordEach kws X.env)).all (·.1.isSome) = true) (hks : (backToKw pos (keywordEach kws X.env)).filterMap (·.1) = ks) (h0 : as = [] → as' = []) :
    PE X (.Call (.Name x p) as kws pos) (tF f W (ev cl (.call fi (as' ++ kw' ++ df') pm bs))) := by
  have read : ∀ σ H Q, tF f W (ev cl (.call fi (as' ++ kw' ++ df') pm bs)) σ H Q → tFA f W (evPs cl as') σ H fun vs H1 => vs.length = as'.length ∧ tFA f W (evPs cl kw') σ H1 fun zs H2 => zs.length = kw'.length ∧ ∃ ys, permuted (vs ++ zs ++ dV) pm = some ys ∧ spD f.toKx (cl fi) ys H2 Q (WE W σ) := by
    intro σ H Q ⟨gh, Φ, e, w, h⟩
    unfold ev at h
    obtain ⟨ds, hds, rds⟩ := hdf
    rw [evPs_app, evPs_app, hds] at h
    simp only [M.assoc, M.left] at h
    refine tFA.lenQ (tFA.bind w h fun Φ1 H1 e1 xs vs s1 w1 r1 h1 => ?_)
    refine tFA.lenQ (tFA.bind w1 h1 fun Φ2 H2 e2 zs us s2 w2 r2 h2 => ?_)
    obtain ⟨ys, hy, h3⟩ := Pst.opt h2
    have rd : RKs f gh Φ2 H2 σ e2 dV (ds.map fun d => (Kd.fz, d)) := rks_fz (rds Φ2 w2.i1)
    obtain ⟨qs, hq, rq⟩ := (((r1.keep s2).app r2).app rd).permuted hy
    exact ⟨qs, hq, callM_read w2 rq h3⟩
  have nostar : ∀ {as : List Expr}, (∀ a ∈ as, (match a with | Expr.Starred _ _ => false | _ => true) = true) → (backTo pos (starEach as X.env)).any (·.1) = false := by
    intro as
    induction as with
    | nil => intro _; rfl
    | cons a as ih =>
      intro h
      rw [starEach_cons (h a List.mem_cons_self)]
      show (false || (backTo pos (starEach as X.env)).any (·.1)) = false
      rw [ih fun b hb => h b (List.mem_cons_of_mem _ hb)]
      rfl
  have kwn : (backToKw pos (keywordEach kws X.env)).any (·.1.isNone) = false := by
    rw [List.any_eq_false]
    intro y hy
    have := List.all_eq_true.mp hall y hy
    cases hy1 : y.1 with
    | none => rw [hy1] at this; cases this
    | some _ => simp
  refine ⟨fun pins s σ H Q I h => ?_⟩
  have h := read σ H Q h
  refine wpAny_Call_Name_kw (ld_glob I hg hm ?_ hdb)
  have fin : ∀ {vs : List V} {us : List Value} {H1 : Hp} {s1 : Shared}, Inv X pins σ H1 s1 → Vals vs us → vs.length = as'.length → (tFA f W (evPs cl kw') σ H1 fun zs H2 => zs.length = kw'.length ∧ ∃ ys, permuted (vs ++ zs ++ dV) pm = some ys ∧ spD f.toKx (cl fi) ys H2 Q (WE W σ)) →
      wpAny (model X.prog X.w) X.A (evalAll ((backToKw pos (keywordEach kws X.env)).map (·.2))) (fun ws s₂ => X.K.In s₂.heap ∧ wpAny (model X.prog X.w) X.A (call (.ref fa) us (((backToKw pos (keywordEach kws X.env)).filterMap (·.1)).zip ws)) (EP X pins σ Q) X.xe s₂) X.xe s1 := by
    intro vs us H1 s1 I1 r hl q
    refine thn (hkw.run pos pins s1 σ H1 _ I1 q) fun ws s2 ⟨zs, H2, I2, rz, hz, ys, hy, hsp⟩ => ⟨I2.kIn, ?_⟩
    rw [hks]
    exact C pins σ H2 s2 Q us ws vs zs ys I2 r rz hl hz hy hsp
  cases as with
  | nil =>
    refine PySem.W.callWith_KW0 (h₀ := X.base) I.ok.mod.kin hk hall ?_ (by rw [nostar (as := []) (fun _ h => nomatch h), kwn]; rfl)
    have e0 := h0 rfl
    subst e0
    obtain ⟨gh, Φ, e, w, h⟩ := h
    rw [evPs.eq_1] at h
    obtain ⟨hl, q⟩ := h Φ H (Same.refl _) w [] .nil
    exact fin I (us := []) .nil hl q
  | cons a as =>
    have hst := starEach_cons (as := as) (env := X.env) (hstar a List.mem_cons_self)
    refine PySem.W.callWith_KW (h₀ := X.base) I.ok.mod.kin hk hall (thn (ha.run pos pins s σ H _ I h) fun us s1 ⟨vs, H1, I1, r, hl, q⟩ => fin I1 r hl q) (by rw [nostar hstar, kwn]; rfl) hst
end
end Pm
namespace Pm
open PySem PySem.Spec PyProof.Rows L2

/-- what a name of the module stands for -/
inductive Gk where
  | fn (i : Nat) | con (d : D)
/-- a form of call: the def, how many arguments by place, the names of the others, the defaults, which places go to which parameters, what is lent -/
structure Form where
  f : Nat
  n : Nat
  ks : List Str
  df : List D
  pm : List Nat
  bs : List Bool
structure Cc where
  N : List Str
  sc : Scope
  ls : List Str
  gl : List (Str × Gk)
  bl : List Str
  fm : List Form
def okName (x : Str) : Bool := !(x == ("__debug__" : Str)) && !(x == ("__classdict__" : Str)) && !decide (x = ("__name__" : Str))
def notStar : Expr → Bool
  | .Starred _ _ => false
  | _ => true
def isSlice : Expr → Bool
  | .Slice _ _ _ _ => true
  | _ => false
def isComp : Expr → Bool
  | .ListComp _ _ _ _ => true
  | .SetComp _ _ _ _ => true
  | .DictComp _ _ _ _ _ => true
  | _ => false
def attrPlain : Expr → Bool
  | .Call (.Name id _) [] [] _ => !decide (id = ("super" : Str))
  | _ => true
def ixOf (x : Str) : List Str → Option Nat
  | [] => none
  | y :: ys => if y = x then some 0 else (ixOf x ys).map (· + 1)
theorem ixOf_some {x : Str} : ∀ {ys : List Str} {i : Nat}, ixOf x ys = some i → ys[i]? = some x
  | [], _, h => by cases h
  | y :: ys, i, h => by
    unfold ixOf at h
    split at h
    · rename_i e
      cases h
      rw [← e]; rfl
    · cases q : ixOf x ys with
      | none => rw [q] at h; cases h
      | some j =>
        rw [q] at h; cases h
        simpa using ixOf_some q
def visB (c : Cc) (x : Str) : Bool := match c.sc.names.lookup x with
  | some .local => true
  | some .cell => true
  | some .free => true
  | _ => false
def glB (c : Cc) (x : Str) : Bool := match c.sc.names.lookup x with
  | some .globalImplicit => true
  | _ => false
def compName (c : Cc) (x : Str) : Option E :=
  if okName x then
    if visB c x then (ixOf x c.N).map .var
    else if glB c x then match c.gl.lookup x with
      | some (.con d) => some (.con d)
      | _ => none
    else none
  else none
def compConst : Const → Option E
  | .none => some (.con .non)
  | .bool b => some (.con (.bl b))
  | .int i => some (.con (.int i))
  | .str x => some (.con (.str x))
  | _ => none
def compB (g : Expr → Option E) (op : BoolOp) : List Expr → Option E
  | [] => none
  | a :: r => match r with
    | [] => g a
    | _ => (g a).bind fun a' => (compB g op r).bind fun r' => some (match op with | .And => .and a' r' | .Or => .or a' r')
def compL (g : Expr → Option E) : List Expr → Option (List E)
  | [] => some []
  | a :: as => if notStar a then (g a).bind fun x => (compL g as).bind fun xs => some (x :: xs) else none
def compD (g : Expr → Option E) : List (Option Expr) → List Expr → Option (List E)
  | [], [] => some []
  | some k :: ks, v :: vs => (g k).bind fun k' => (g v).bind fun v' => (compD g ks vs).bind fun r => some (k' :: v' :: r)
  | _, _ => none
def compK (g : Expr → Option E) : List Keyword → Option (List Str × List E)
  | [] => some ([], [])
  | ⟨some k, e, _⟩ :: r => (g e).bind fun x => (compK g r).bind fun p => some (k :: p.1, x :: p.2)
  | _ => none
def bis : List (Str × String) := [("abs", "abs"), ("max", "max"), ("min", "min"), ("int", "int"), ("str", "str"), ("len", "len"), ("all", "all"), ("any", "any"), ("sum", "sum"), ("list", "list"), ("tuple", "tuple"), ("repr", "repr")]
def tys : List (Str × String) := [("str", "str"), ("int", "int"), ("bool", "bool"), ("list", "list"), ("tuple", "tuple"), ("dict", "dict")]
def tgIx (c : Cc) (x : Str) : Option Nat := if c.ls.contains x then ixOf x c.N else none
def tgNames (c : Cc) : List Expr → Option (List Nat)
  | [] => some []
  | .Name x _ :: r => (tgIx c x).bind fun i => (tgNames c r).bind fun is => some (i :: is)
  | _ => none
def compT (c : Cc) : Expr → Option Tg
  | .Name x _ => (tgIx c x).map .nm
  | .Tuple es _ _ => (tgNames c es).map .tp
  | _ => none
def formOf (c : Cc) (i n : Nat) (ks : List Str) : Option Form := c.fm.find? fun fm => decide (fm.f = i) && decide (fm.n = n) && decide (fm.ks = ks)
/-- a built-in's name that the module leaves alone -/
def bareB (c : Cc) (x : Str) : Bool := glB c x && (match c.gl.lookup x with | none => true | _ => false) && c.bl.contains x
def compOpt (g : Expr → Option E) : Option Expr → Option E
  | none => some (.con .non)
  | some e => (g e).bind fun e' => match e' with
    | .con .non => none
    | e' => some e'
def compR (g : Expr → Option E) : List Expr → Option E
  | [b] => if notStar b then (g b).bind fun b' => some (.rng (.con (.int 0)) b') else none
  | [a, b] => if notStar a && notStar b then (g a).bind fun a' => (g b).bind fun b' => some (.rng a' b') else none
  | _ => none
def compEn (g : Expr → Option E) (tup : Bool) : List Expr → Option E
  | [a] => if notStar a && tup then (g a).bind fun a' => some (.enum a') else none
  | _ => none
def compZ (g : Expr → Option E) (tup : Bool) : List Expr → Option E
  | [a, b] => if notStar a && notStar b && tup then (g a).bind fun a' => (g b).bind fun b' => some (.zip a' b') else none
  | _ => none
def compI (g : Expr → Option E) (c : Cc) (tup : Bool) : Expr → Option E
  | .Call (.Name x _) args kws _ => if bareB c x && kws.isEmpty then
      if x = ("range" : Str) then compR g args
      else if x = ("enumerate" : Str) then compEn g tup args
      else if x = ("zip" : Str) then compZ g tup args
      else none
    else none
  | _ => none
def isTup : Expr → Bool
  | .Tuple _ _ _ => true
  | _ => false
def isSet : Expr → Bool
  | .Set _ _ _ => true
  | _ => false
def walkCall (c : Cc) : Expr → Bool
  | .Call (.Name x _) _ _ _ => bareB c x && (decide (x = ("range" : Str)) || decide (x = ("enumerate" : Str)) || decide (x = ("zip" : Str)))
  | _ => false
/-- what is walked -/
def compW (g : Expr → Option E) (c : Cc) (tg e : Expr) : Option E :=
  if isSet e then none
  else if walkCall c e then compI g c (isTup tg) e
  else (g e).bind fun e' => match e' with
    | .rng _ _ => none
    | .enum _ => none
    | .zip _ _ => none
    | e' => some e'
/-- a comprehension's own names -/
def ownOf (c : Cc) (scope : Scope) : Option (List (Str × Nat)) :=
  let xs := scope.names.filter fun y => match y.2 with | .local => true | .cell => true | _ => false
  some (xs.filterMap fun y => (ixOf y.1 c.N).map fun i => (y.1, i))
def blkCc (c : Cc) (scope : Scope) (own : List (Str × Nat)) : Cc := { c with sc := relS scope c.sc, ls := own.map (·.1) }
def ownB (scope : Scope) (own : List (Str × Nat)) : Bool := own.all fun p => match scope.names.lookup p.1 with | some .local => true | some .cell => true | _ => false
def isRev : Expr → Bool
  | .Slice none none (some (.UnaryOp .USub (.Constant (.int i) _ _) _)) _ => decide (i = 1)
  | _ => false
def isRangeCall (c : Cc) : List Expr → Bool
  | [.Call (.Name r _) _ kws _] => decide (r = ("range" : Str)) && bareB c r && kws.isEmpty
  | _ => false
/-- list(range(..)) -/
def compLR (g : Expr → Option E) : List Expr → Option E
  | [.Call _ args _ _] => compR g args
  | _ => none
/-- a name's call -/
def compCall (g : Expr → Option E) (c : Cc) (x : Str) (args : List Expr) (kws : List Keyword) : Option E :=
  if okName x && glB c x then
    match c.gl.lookup x with
    | some (.fn i) => (compK g kws).bind fun kp => (formOf c i args.length kp.1).bind fun fm => (compL g args).bind fun as' => some (.call i (as' ++ kp.2 ++ fm.df.map .con) fm.pm fm.bs)
    | some _ => none
    | none =>
      if c.bl.contains x && kws.isEmpty then
        if x = ("isinstance" : Str) then match args with
          | [a, .Name y _] => if notStar a && okName y && bareB c y then (tys.lookup y).bind fun ty => (g a).bind fun a' => some (.isi a' ty) else none
          | _ => none
        else if x = ("list" : Str) && isRangeCall c args then compLR g args
        else match bis.lookup x with
          | some b => match args with
            | [] => none
            | _ => (compL g args).bind fun as' => some (.bi b as')
          | none => none
      else none
  else none
def compMeth (g : Expr → Option E) (o : Expr) (m : Str) (line : Bool) (args : List Expr) (kws : List Keyword) : Option E :=
  if attrPlain o && line && kws.isEmpty then
    if m = ("upper" : Str) then match args with
      | [] => (g o).bind fun o' => some (.me "upper" o' [])
      | _ => none
    else if m = ("join" : Str) then match args with
      | [a] => if notStar a then (g o).bind fun o' => (g a).bind fun a' => some (.me "join" o' [a']) else none
      | _ => none
    else none
  else none
/-- a comprehension of one clause -/
def compLC (g : Cc → Expr → Option E) (c : Cc) (elt : Expr) (gs : List Comprehension) (scope : Scope) : Option E := match gs with
  | [⟨tg, iter, ifs, as⟩] => if as = 0 then
      (ownOf c scope).bind fun own => if blkC c.N c.sc scope own && ownB scope own then
        (compT (blkCc c scope own) tg).bind fun t' => if t'.slots.all fun j => (own.map (·.2)).contains j then
          (compW (g c) c tg iter).bind fun it' => (g (blkCc c scope own) elt).bind fun elt' => match ifs with
            | [] => some (.lc elt' t' it' [] (own.map (·.2)))
            | [cond] => (g (blkCc c scope own) cond).bind fun c' => some (.lc elt' t' it' [c'] (own.map (·.2)))
            | _ => none
          else none
        else none
    else none
  | _ => none
def compE : Nat → Cc → Expr → Option E
  | 0, _, _ => none
  | n + 1, c, e => match e with
    | .Name x _ => compName c x
    | .Constant k _ _ => compConst k
    | .BinOp a op b _ => (compE n c a).bind fun a' => (compE n c b).bind fun b' => some (.bin op a' b')
    | .UnaryOp .USub a _ => (compE n c a).bind fun a' => some (.neg a')
    | .UnaryOp .Not a _ => (compE n c a).bind fun a' => some (.not a')
    | .BoolOp op es _ => compB (compE n c) op es
    | .IfExp t a b _ => (compE n c t).bind fun t' => (compE n c a).bind fun a' => (compE n c b).bind fun b' => some (.ite t' a' b')
    | .Compare a [op] [b] _ => if behindInMarks op b then none else (compE n c a).bind fun a' => (compE n c b).bind fun b' => some (.cmp op a' b')
    | .Compare a [op, op'] [b, d] _ => if lastMarks [op, op'] [b, d] then none else (compE n c a).bind fun a' => (compE n c b).bind fun b' => (compE n c d).bind fun d' => some (.chain op op' a' b' d')
    | .Tuple es _ _ => (compL (compE n c) es).bind fun es' => some (.tup es')
    | .List es _ => (compL (compE n c) es).bind fun es' => some (.lst es')
    | .Dict keys values _ => if decide (keys.length ≤ 15) then (compD (compE n c) keys values).bind fun es' => some (.dct es') else none
    | .Subscript a i _ =>
      if isRev i then (compE n c a).bind fun a' => some (.rev a')
      else match i with
        | .Slice lo hi none _ => (compE n c a).bind fun a' => (compOpt (compE n c) lo).bind fun l' => (compOpt (compE n c) hi).bind fun h' => some (.slc a' l' h')
        | .Slice _ _ (some _) _ => none
        | i => (compE n c a).bind fun a' => (compE n c i).bind fun i' => some (.ix a' i')
    | .Call (.Name x _) args kws _ => compCall (compE n c) c x args kws
    | .Call (.Attribute o m apos) args kws cpos => compMeth (compE n c) o m (apos.endLine == cpos.line) args kws
    | .ListComp elt gs scope _ => compLC (compE n) c elt gs scope
    | _ => none
def varI (c : Cc) (x : Str) : Option Nat := if okName x && visB c x then ixOf x c.N else none
def locB (c : Cc) (x : Str) : Bool := match c.sc.names.lookup x with
  | some .local => true
  | _ => false
def appOf : Expr → Option (Str × Expr)
  | .Call (.Attribute (.Name x _) m apos) [a] [] cpos => if decide (m = ("append" : Str)) && (apos.endLine == cpos.line) && notStar a then some (x, a) else none
  | _ => none
def isDoc : Expr → Bool
  | .Constant (.str _) _ _ => true
  | _ => false
/-- a, b = x, y by stores from the right -/
def parOf (c : Cc) : List Expr → List Expr → Option (List Nat)
  | [.Name x px, .Name y py], [a, b] => if locB c x && locB c y && (px.line == px.line) && (py.line == px.line) && !decide (x = y) && notStar a && notStar b && !([a, b].all (foldedForSure 8)) && !([a, b].all (constantsAlone 8)) then
      (tgIx c x).bind fun i => (tgIx c y).bind fun j => some [i, j] else none
  | [.Name x px, .Name y py, .Name z pz], [a, b, d] => if locB c x && locB c y && locB c z && (py.line == px.line) && (pz.line == px.line) && !decide (x = y) && !decide (x = z) && !decide (y = z) && notStar a && notStar b && notStar d && !([a, b, d].all (foldedForSure 8)) && !([a, b, d].all (constantsAlone 8)) then
      (tgIx c x).bind fun i => (tgIx c y).bind fun j => (tgIx c z).bind fun l => some [i, j, l] else none
  | _, _ => none
/-- .. not so: the tuple is made -/
def tupOf : List Expr → List Expr → Bool
  | ts, vs => !(ts.length == 2 || ts.length == 3) || vs.length != ts.length || vs.all (foldedForSure 8) && !(vs.any fun | .Starred .. => true | _ => false)
/-- some target is no plain local -/
def anyCell (c : Cc) (ts : List Expr) : Bool := ts.any fun e => match e with
  | .Name x _ => !locB c x
  | _ => false
/-- what is not followed: nothing is promised of it -/
def badS : S := .aug 0 .Add (.con .non)
def compSs (g : Stmt → Option S) : List Stmt → Option (List S)
  | [] => some []
  | s :: ss => (compSs g ss).bind fun r => some ((match g s with | some s' => s' | none => badS) :: r)
def compS : Nat → Nat → Cc → Stmt → Option S
  | 0, _, _, _ => none
  | n + 1, m, c, s => match s with
    | .Assign [.Subscript (.Name x _) ix _] e _ => if isSlice ix || isComp e || isTup e then none else (varI c x).bind fun i => (compE m c ix).bind fun ix' => (compE m c e).bind fun e' => some (.put i ix' e')
    | .Assign [.Tuple ts k pt] (.Tuple vs k2 p2) _ =>
      match parOf c ts vs with
      | some is => (compL (compE m c) vs).bind fun vs' => some (.par is vs')
      | none => if tupOf ts vs || anyCell c ts then (tgNames c ts).bind fun is => (compE m c (.Tuple vs k2 p2)).bind fun e' => some (.set (.tp is) e') else none
    | .Assign [.Tuple ts k pt] e _ => if isComp e then none else (tgNames c ts).bind fun is => (compE m c e).bind fun e' => some (.set (.tp is) e')
    | .Assign [.Name x _] e _ => (tgIx c x).bind fun i => (compE m c e).bind fun e' => some (.set (.nm i) e')
    | .Expr e _ => if isDoc e then some .pass else match appOf e with
      | some (x, a) => (varI c x).bind fun i => (compE m c a).bind fun a' => some (.app i a')
      | none => if isComp e then none else (compE m c e).bind fun e' => some (.expr e')
    | .Return none _ => some (.ret (.con .non))
    | .Return (some e) _ => (compE m c e).bind fun e' => some (.ret e')
    | .If t a b _ => (compE m c t).bind fun t' => (compSs (compS n m c) a).bind fun a' => (compSs (compS n m c) b).bind fun b' => some (.ite t' a' b')
    | .For tg it b [] _ => (compT c tg).bind fun t' => (compW (compE m c) c tg it).bind fun it' => (compSs (compS n m c) b).bind fun b' => some (.for_ t' it' b')
    | .While t b [] _ => (compE m c t).bind fun t' => (compSs (compS n m c) b).bind fun b' => some (.while_ t' b')
    | .Break _ => some .brk
    | .Continue _ => some .cnt
    | .Pass _ => some .pass
    | _ => none
end Pm
namespace Pm
open PySem PySem.Spec PyProof.Rows L2

structure Gd (X : Cx) (f : Fm) (W : WX) (c : Cc) (cl : Cl) : Prop where
  spot : Spot X
  eK : X.K = f.K
  eN : X.N = c.N
  nd : X.N.Nodup
  sc : X.env.scope = c.sc
  kd : X.env.scope.kind = .function
  st : ∀ x, x ∈ c.ls → Loc X.env.scope x ∧ (X.fn x = true ∨ X.env.scope.names.lookup x = some .local)
  tk : Takes X W
  hp : PassesOwn (model X.prog X.w) X.A X.env X.xe
  con : ∀ x d, c.gl.lookup x = some (.con d) → ∃ v u, X.mg x = some u ∧ RelV v u ∧ ∀ Φ, Same f.Φ0 Φ → Rep f.toKx Φ v d
  bl : ∀ x, x ∈ c.bl → X.mg x = none
  fm : ∀ x i fm, c.gl.lookup x = some (.fn i) → fm ∈ c.fm → fm.f = i → ∃ fa fd ps kk dV dW, X.mg x = some (.ref fa) ∧ PySem.W.keepIn X.K (.ref fa) = true ∧ FnG X.prog X.w X.K X.mg X.base kk fa fd ps (spD f.toKx (cl i)) ∧ Room kk X.A ∧
    Binds2 X.K fd ps fm.ks fm.n fm.ks.length dW fm.pm ∧ Vals dV dW ∧ ∀ Φ, Same f.Φ0 Φ → RepL f.toKx Φ dV fm.df

theorem starEach_c {a : Expr} {as : List Expr} {env : Env} (h : notStar a = true) : starEach (a :: as) env = (false, eval a env) :: starEach as env := by
  cases a <;> first | rfl | cases h
theorem okName_of {x : Str} (h : okName x = true) : (x == ("__debug__" : Str)) = false ∧ (x == ("__classdict__" : Str)) = false ∧ x ≠ ("__name__" : Str) := by
  unfold okName at h
  rw [Bool.and_eq_true, Bool.and_eq_true] at h
  obtain ⟨⟨h1, h2⟩, h3⟩ := h
  exact ⟨by simpa using h1, by simpa using h2, by simpa using h3⟩
theorem vis_of {c : Cc} {x : Str} {sc : Scope} (e : sc = c.sc) (h : visB c x = true) : Vis sc x := by
  subst e
  unfold visB at h
  split at h
  · rename_i q; exact .inl q
  · rename_i q; exact .inr (.inl q)
  · rename_i q; exact .inr (.inr q)
  · cases h
theorem gl_of {X : Cx} {c : Cc} {x : Str} (e : X.env.scope = c.sc) (h : glB c x = true) : Gl X x := by
  unfold glB at h
  split at h
  · rename_i q
    show X.env.scope.names.lookup x = some .globalImplicit
    rw [e]; exact q
  · cases h
def isLogic : E → Bool
  | .not _ => true
  | .and _ _ => true
  | .or _ _ => true
  | .ite _ _ _ => true
  | _ => false
theorem evT_val {cl : Cl} (ir : E) (h : isLogic ir = false) : evT cl ir = M.bind (ev cl ir) fun x => M.bind (peek x) fun d => opt (truth d) := by
  cases ir with
  | not a => cases h
  | and a b => cases h
  | or a b => cases h
  | ite a b c => cases h
  | _ => rw [evT] <;> (intros; contradiction)

section
variable {X : Cx} {f : Fm} {W : WX} {c : Cc} {cl : Cl} {g : Expr → Option E}
/-- what g gives is right -/
def Good (X : Cx) (f : Fm) (W : WX) (cl : Cl) (g : Expr → Option E) : Prop := ∀ e ir, g e = some ir → PE X e (tF f W (ev cl ir)) ∧ PT X e (tFT f W (evT cl ir))
theorem compL_len : ∀ {es : List Expr} {irs : List E}, compL g es = some irs → irs.length = es.length
  | [], irs, h => by cases h; rfl
  | a :: as, irs, h => by
    unfold compL at h
    split at h
    · obtain ⟨a', h1, h2⟩ := Option.bind_eq_some_iff.mp h
      obtain ⟨as', h3, h4⟩ := Option.bind_eq_some_iff.mp h2
      cases h4
      simp [compL_len h3]
    · cases h
theorem compL_star : ∀ {es : List Expr} {irs : List E}, compL g es = some irs → ∀ a ∈ es, notStar a = true
  | [], irs, h => fun a ha => nomatch ha
  | a :: as, irs, h => by
    unfold compL at h
    split at h
    · rename_i hs
      obtain ⟨a', h1, h2⟩ := Option.bind_eq_some_iff.mp h
      obtain ⟨as', h3, h4⟩ := Option.bind_eq_some_iff.mp h2
      intro b hb
      rcases List.mem_cons.mp hb with z | z
      · rw [z]; exact hs
      · exact compL_star h3 b z
    · cases h
theorem compL_s (G : Good X f W cl g) : ∀ {es : List Expr} {irs : List E}, compL g es = some irs → PA X es (tFs f W (evs cl irs))
  | [], irs, h => by cases h; exact sa_nil
  | a :: as, irs, h => by
    unfold compL at h
    split at h
    · rename_i hs
      obtain ⟨a', h1, h2⟩ := Option.bind_eq_some_iff.mp h
      obtain ⟨as', h3, h4⟩ := Option.bind_eq_some_iff.mp h2
      cases h4
      exact sa_cons (G _ _ h1).1 (compL_s G h3) (starEach_c hs)
    · cases h
theorem compL_p (G : Good X f W cl g) : ∀ {es : List Expr} {irs : List E}, compL g es = some irs → PA X es (tFA f W (evPs cl irs))
  | [], irs, h => by cases h; exact sp_nil
  | a :: as, irs, h => by
    unfold compL at h
    split at h
    · rename_i hs
      obtain ⟨a', h1, h2⟩ := Option.bind_eq_some_iff.mp h
      obtain ⟨as', h3, h4⟩ := Option.bind_eq_some_iff.mp h2
      cases h4
      exact sp_cons (G _ _ h1).1 (compL_p G h3) (starEach_c hs)
    · cases h
theorem compL_r (G : Good X f W cl g) : ∀ {es : List Expr} {irs : List E}, compL g es = some irs → PA X es (tFR f W (evRs cl irs))
  | [], irs, h => by cases h; exact sr_nil
  | a :: as, irs, h => by
    unfold compL at h
    split at h
    · rename_i hs
      obtain ⟨a', h1, h2⟩ := Option.bind_eq_some_iff.mp h
      obtain ⟨as', h3, h4⟩ := Option.bind_eq_some_iff.mp h2
      cases h4
      exact sr_cons (G _ _ h1).1 (compL_r G h3) (starEach_c hs)
    · cases h
theorem compK_ok (G : Good X f W cl g) {pos : Pos} : ∀ {kws : List Keyword} {kp : List Str × List E}, compK g kws = some kp → PK X kws (tFA f W (evPs cl kp.2)) ∧ (backToKw pos (keywordEach kws X.env)).all (·.1.isSome) = true ∧ (backToKw pos (keywordEach kws X.env)).filterMap (·.1) = kp.1 ∧ kp.2.length = kp.1.length
  | [], kp, h => by
    cases h
    exact ⟨⟨fun pos pins s σ H Q I ⟨gh, Φ, e, w, h⟩ => by
      rw [evPs.eq_1] at h
      exact pk_nil.run pos pins s σ H Q I (h Φ H (Same.refl _) w [] .nil)⟩, rfl, rfl, rfl⟩
  | ⟨none, e, p⟩ :: r, kp, h => by cases h
  | ⟨some k, e, p⟩ :: r, kp, h => by
    unfold compK at h
    obtain ⟨a', h1, h2⟩ := Option.bind_eq_some_iff.mp h
    obtain ⟨p', h3, h4⟩ := Option.bind_eq_some_iff.mp h2
    cases h4
    obtain ⟨i1, i2, i3, i4⟩ := compK_ok G h3
    refine ⟨⟨fun pos pins s σ H Q I ⟨gh, Φ, e', w, h⟩ => ?_⟩, ?_, ?_, ?_⟩
    · refine (pk_cons (nm := some k) (kpos := p) (G _ _ h1).1 i1).run pos pins s σ H Q I ?_
      unfold evPs at h
      refine tF.bindS w h fun Φ1 H1 e1 x v s1 w1 r1 h1 => ?_
      refine ⟨gh, Φ1, e1, w1, Pst.mono (Pst.bind h1) (Same.refl _) fun Φ3 H3 e3 ds s3 w3 h3 vs rs => ?_⟩
      exact h3 Φ3 H3 (Same.refl _) w3 (v :: vs) (.cons (r1.keep s3) rs)
    · show (true && (backToKw pos (keywordEach r X.env)).all (·.1.isSome)) = true
      rw [i2]; rfl
    · show k :: (backToKw pos (keywordEach r X.env)).filterMap (·.1) = k :: p'.1
      rw [i3]
    · simp [i4]
theorem evPs_con : ∀ (ds : List D), evPs cl (ds.map .con) = M.pure (ds.map fun d => (Kd.fz, d))
  | [] => by rw [List.map_nil, evPs.eq_1]; rfl
  | d :: ds => by
    rw [List.map_cons, evPs, evPs_con ds, ev]
    rfl
theorem boot_bis {x : Str} {b : String} (h : bis.lookup x = some b) : bootBuiltins x = some (bfn b) := by
  have all : ∀ p ∈ bis, bootBuiltins p.1 = some (bfn p.2) := by decide +kernel
  exact all (x, b) (PySem.mem_of_lookup h)
theorem boot_tys {x : Str} {b : String} (h : tys.lookup x = some b) : bootBuiltins x = some (.type b) := by
  have all : ∀ p ∈ tys, bootBuiltins p.1 = some (.type p.2) := by decide +kernel
  exact all (x, b) (PySem.mem_of_lookup h)
theorem bare_of {X : Cx} (G : Gd X f W c cl) {x : Str} (h : bareB c x = true) : Gl X x ∧ X.mg x = none := by
  unfold bareB at h
  rw [Bool.and_eq_true, Bool.and_eq_true] at h
  exact ⟨gl_of G.sc h.1.1, G.bl x (by simpa using h.2)⟩
end
end Pm
namespace Pm
open PySem PySem.Spec PyProof.Rows L2

section
variable {X : Cx} {f : Fm} {W : WX} {c : Cc} {cl : Cl} {g : Expr → Option E}
theorem compName_ok (G : Gd X f W c cl) {x : Str} {pos : Pos} {ir : E} (h : compName c x = some ir) : PE X (.Name x pos) (tF f W (ev cl ir)) ∧ isLogic ir = false := by
  unfold compName at h
  split at h
  · rename_i hn
    obtain ⟨n1, n2, n3⟩ := okName_of hn
    split at h
    · rename_i hv
      cases q : ixOf x c.N with
      | none => rw [q] at h; cases h
      | some i =>
        rw [q] at h; cases h
        exact ⟨se_var (by rw [G.eN]; exact ixOf_some q) (vis_of G.sc hv) n1 n2, rfl⟩
    · split at h
      · rename_i hg
        split at h
        · rename_i d hd
          cases h
          obtain ⟨v, u, h1, h2, h3⟩ := G.con x d hd
          exact ⟨se_con (pe_glob (gl_of G.sc hg) h1 h2 n1) h3, rfl⟩
        · cases h
      · cases h
  · cases h
theorem compConst_ok {k : Const} {j : Nat} {pos : Pos} {ir : E} (h : compConst k = some ir) : PE X (.Constant k j pos) (tF f W (ev cl ir)) ∧ isLogic ir = false := by
  cases k with
  | none => cases h; exact ⟨se_con pe_non fun _ _ => .non, rfl⟩
  | bool b => cases h; exact ⟨se_con pe_bl fun _ _ => .bl _, rfl⟩
  | int i => cases h; exact ⟨se_con pe_int fun _ _ => .int _, rfl⟩
  | str x => cases h; exact ⟨se_con pe_str fun _ _ => .str _, rfl⟩
  | _ => cases h
theorem compB_E (ek : X.K = f.K) (hg : Good X f W cl g) {op : BoolOp} {pos : Pos} : ∀ {es : List Expr} {ir : E}, compB g op es = some ir → PE X (.BoolOp op es pos) (tF f W (ev cl ir))
  | [], ir, h => by cases h
  | [a], ir, h => pe_one (hg _ _ h).1
  | a :: b :: r, ir, h => by
    rw [compB] at h
    obtain ⟨a', h1, h2⟩ := Option.bind_eq_some_iff.mp h
    obtain ⟨r', h3, h4⟩ := Option.bind_eq_some_iff.mp h2
    have ih := compB_E ek hg (op := op) (pos := pos) h3
    cases op with
    | And => cases h4; exact se_and ek (hg _ _ h1).1 ih
    | Or => cases h4; exact se_or ek (hg _ _ h1).1 ih
    all_goals (intro; contradiction)
theorem compB_T (hg : Good X f W cl g) {op : BoolOp} {pos : Pos} : ∀ {es : List Expr} {ir : E}, compB g op es = some ir → PW X (.BoolOp op es pos) (tFT f W (evT cl ir))
  | [], ir, h => by cases h
  | [a], ir, h => by
    cases op with
    | And => exact pw_and1 (hg _ _ h).2
    | Or => exact pw_or1 (hg _ _ h).2
  | a :: b :: r, ir, h => by
    rw [compB] at h
    obtain ⟨a', h1, h2⟩ := Option.bind_eq_some_iff.mp h
    obtain ⟨r', h3, h4⟩ := Option.bind_eq_some_iff.mp h2
    have ih := compB_T hg (op := op) (pos := pos) h3
    cases op with
    | And => cases h4; exact sw_and (hg _ _ h1).2 ih
    | Or => cases h4; exact sw_or (hg _ _ h1).2 ih
    all_goals (intro; contradiction)
theorem compD_ok (hg : Good X f W cl g) {pos : Pos} : ∀ {ks : List (Option Expr)} {vs : List Expr} {irs : List E}, compD g ks vs = some irs → PPs X pos ks vs (trOf f W cl irs) ∧ ks.all (·.isSome) = true ∧ ks.length = vs.length
  | [], [], irs, h => by cases h; exact ⟨pps_nil, rfl, rfl⟩
  | some k :: ks, v :: vs, irs, h => by
    unfold compD at h
    obtain ⟨k', h1, h2⟩ := Option.bind_eq_some_iff.mp h
    obtain ⟨v', h3, h4⟩ := Option.bind_eq_some_iff.mp h2
    obtain ⟨r', h5, h6⟩ := Option.bind_eq_some_iff.mp h4
    cases h6
    obtain ⟨i1, i2, i3⟩ := compD_ok hg h5
    exact ⟨pps_cons (hg _ _ h1).1 (hg _ _ h3).1 i1, by rw [List.all_cons, i2]; rfl, by simp [i3]⟩
  | none :: ks, [], irs, h => by cases h
  | none :: ks, v :: vs, irs, h => by cases h
  | [], v :: vs, irs, h => by cases h
  | some k :: ks, [], irs, h => by cases h
theorem compOpt_ok (hg : Good X f W cl g) : ∀ {o : Option Expr} {ir : E}, compOpt g o = some ir → PO X o (tFO f W (evO cl ir))
  | none, ir, h => by cases h; exact so_none
  | some e, ir, h => by
    unfold compOpt at h
    obtain ⟨e', h1, h2⟩ := Option.bind_eq_some_iff.mp h
    split at h2
    · cases h2
    · rename_i n
      cases h2
      exact so_some n (hg _ _ h1).1
theorem attr_of {o : Expr} {m : Str} {env : Env} (h : attrPlain o = true) : attributeBase o m env (eval o env) = eval o env := by
  have base : (∀ id p pos, o ≠ .Call (.Name id p) [] [] pos) → attributeBase o m env (eval o env) = eval o env := by
    intro n
    unfold attributeBase
    split
    · rename_i id p pos
      exact (n id p pos rfl).elim
    · rfl
  by_cases hc : ∃ id p pos, o = .Call (.Name id p) [] [] pos
  · obtain ⟨id, p, pos, rfl⟩ := hc
    have hid : (id != ("super" : Str)) = true := by simpa [attrPlain] using h
    unfold attributeBase
    simp only [hid, Bool.true_or, if_true]
  · exact base fun id p pos q => hc ⟨id, p, pos, q⟩
theorem compMeth_ok (hg : Good X f W cl g) {o : Expr} {m : Str} {apos cpos : Pos} {args : List Expr} {kws : List Keyword} {ir : E} (h : compMeth g o m (apos.endLine == cpos.line) args kws = some ir) :
    PE X (.Call (.Attribute o m apos) args kws cpos) (tF f W (ev cl ir)) ∧ isLogic ir = false := by
  unfold compMeth at h
  split at h
  · rename_i hc
    rw [Bool.and_eq_true, Bool.and_eq_true] at hc
    obtain ⟨⟨h1, h2⟩, h3⟩ := hc
    have hk : kws = [] := by simpa using h3
    subst hk
    split at h
    · rename_i hm
      subst hm
      split at h
      · obtain ⟨o', q1, q2⟩ := Option.bind_eq_some_iff.mp h
        cases q2
        exact ⟨se_upper (hg _ _ q1).1 (attr_of h1) h2, rfl⟩
      · cases h
    · split at h
      · rename_i hm
        subst hm
        split at h
        · split at h
          · rename_i a hs
            obtain ⟨o', q1, q2⟩ := Option.bind_eq_some_iff.mp h
            obtain ⟨a', q3, q4⟩ := Option.bind_eq_some_iff.mp q2
            cases q4
            exact ⟨se_join (hg _ _ q1).1 (hg _ _ q3).1 (by rw [starEach_c hs]; rfl) (attr_of h1) h2, rfl⟩
          · cases h
        · cases h
      · cases h
  · cases h
theorem noStar_any {as : List Expr} {env : Env} {pos : Pos} (h : ∀ a ∈ as, notStar a = true) : (backTo pos (starEach as env)).any (·.1) = false := by
  induction as with
  | nil => rfl
  | cons a as ih =>
    rw [starEach_c (h a List.mem_cons_self)]
    show (false || (backTo pos (starEach as env)).any (·.1)) = false
    rw [ih fun b hb => h b (List.mem_cons_of_mem _ hb)]
    rfl
theorem bfn_cases (b : String) : bfn b = .type b ∨ bfn b = .builtin b := by
  unfold bfn
  split
  · exact .inl rfl
  · exact .inr rfl
theorem compLR_ok (G : Gd X f W c cl) (hg : Good X f W cl g) {args : List Expr} {p pos : Pos} {ir : E} (gl : Gl X "list") (hm : X.mg "list" = none) (hr : isRangeCall c args = true) (h : compLR g args = some ir) :
    PE X (.Call (.Name "list" p) args [] pos) (tF f W (ev cl ir)) ∧ isLogic ir = false := by
  unfold isRangeCall at hr
  split at hr
  · rename_i r rp rargs kws rpos
    rw [Bool.and_eq_true, Bool.and_eq_true, decide_eq_true_eq] at hr
    obtain ⟨⟨rfl, hb⟩, hk⟩ := hr
    have hk : kws = [] := by simpa using hk
    subst hk
    obtain ⟨b1, b2⟩ := bare_of G hb
    have h : compR g rargs = some ir := h
    rcases rargs with _ | ⟨a, _ | ⟨b, _ | ⟨d, t⟩⟩⟩
    · cases h
    · rw [compR] at h
      split at h
      · rename_i hs
        obtain ⟨b', q1, q2⟩ := Option.bind_eq_some_iff.mp h
        cases q2
        exact ⟨se_lrng1 G.spot.calm gl hm b1 b2 (hg _ _ q1).1 (starEach_c hs), rfl⟩
      · cases h
    · rw [compR] at h
      split at h
      · rename_i hs
        rw [Bool.and_eq_true] at hs
        obtain ⟨a', q1, q2⟩ := Option.bind_eq_some_iff.mp h
        obtain ⟨b', q3, q4⟩ := Option.bind_eq_some_iff.mp q2
        cases q4
        exact ⟨se_lrng2 G.spot.calm gl hm b1 b2 (hg _ _ q1).1 (hg _ _ q3).1 (starEach_c hs.1) (starEach_c hs.2), rfl⟩
      · cases h
    · cases h
  · cases hr
theorem compCall_ok (G : Gd X f W c cl) (hg : Good X f W cl g) {x : Str} {p pos : Pos} {args : List Expr} {kws : List Keyword} {ir : E} (h : compCall g c x args kws = some ir) :
    PE X (.Call (.Name x p) args kws pos) (tF f W (ev cl ir)) ∧ isLogic ir = false := by
  unfold compCall at h
  split at h
  · rename_i hc
    rw [Bool.and_eq_true] at hc
    obtain ⟨hn, hgl⟩ := hc
    obtain ⟨n1, n2, n3⟩ := okName_of hn
    have gl := gl_of G.sc hgl
    split at h
    · rename_i i hi
      obtain ⟨kp, q1, q2⟩ := Option.bind_eq_some_iff.mp h
      obtain ⟨fm, q3, q4⟩ := Option.bind_eq_some_iff.mp q2
      obtain ⟨as', q5, q6⟩ := Option.bind_eq_some_iff.mp q4
      cases q6
      have hf := List.find?_some q3
      have hmem := List.mem_of_find?_eq_some q3
      simp only [Bool.and_eq_true, decide_eq_true_eq] at hf
      obtain ⟨⟨f1, f2⟩, f3⟩ := hf
      obtain ⟨fa, fd, ps, kk, dV, dW, z1, z2, z3, z4, z5, z6, z7⟩ := G.fm x i fm hi hmem f1
      obtain ⟨k1, k2, k3, k4⟩ := compK_ok hg (pos := pos) q1
      refine ⟨se_call (dV := dV) (ks := fm.ks) ?_ gl z1 z2 n1 (compL_p hg q5) k1 ⟨fm.df, evPs_con fm.df, z7⟩ ?_ k2 (by rw [k3, f3]) ?_, rfl⟩
      · rw [compL_len q5, ← f2, k4, ← f3]
        exact callR2_of z3 z4 G.spot.gd z5 z6 G.tk
      · intro a ha
        have := compL_star q5 a ha
        cases a <;> first | rfl | cases this
      · intro e0
        subst e0
        cases q5
        rfl
    · cases h
    · rename_i hnone
      split at h
      · rename_i hb
        rw [Bool.and_eq_true] at hb
        obtain ⟨hb, hk⟩ := hb
        have hk : kws = [] := by simpa using hk
        subst hk
        have hm : X.mg x = none := G.bl x (by simpa using hb)
        split at h
        · rename_i hx
          split at h
          · rename_i a y py
            split at h
            · rename_i hc
              rw [Bool.and_eq_true, Bool.and_eq_true] at hc
              obtain ⟨⟨c1, c2⟩, c3⟩ := hc
              obtain ⟨m1, m2, m3⟩ := okName_of c2
              obtain ⟨b1, b2⟩ := bare_of G c3
              obtain ⟨ty, q1, q2⟩ := Option.bind_eq_some_iff.mp h
              obtain ⟨a', q3, q4⟩ := Option.bind_eq_some_iff.mp q2
              cases q4
              exact ⟨se_isi G.eK hx gl hm b1 b2 (boot_tys q1) m3 m1 (hg _ _ q3).1 (starEach_c c1), rfl⟩
            · cases h
          · cases h
        · split at h
          · rename_i hx
            simp only [Bool.and_eq_true, decide_eq_true_eq] at hx
            obtain ⟨hx, hr⟩ := hx
            subst hx
            exact compLR_ok G hg gl hm hr h
          · split at h
            · rename_i b hbi
              split at h
              · cases h
              · rename_i hne
                obtain ⟨as', q1, q2⟩ := Option.bind_eq_some_iff.mp h
                cases q2
                cases args with
                | nil => exact (hne rfl).elim
                | cons a as =>
                  have hst := compL_star q1
                  have s1 := starEach_c (as := as) (env := X.env) (hst a List.mem_cons_self)
                  have s2 : (backTo pos (starEach as X.env)).any (·.1) = false := noStar_any fun b hb => hst b (List.mem_cons_of_mem _ hb)
                  have hv := boot_bis hbi
                  rcases bfn_cases b with hb' | hb'
                  · exact ⟨se_biT G.spot G.eK hb' gl hm (hb' ▸ hv) n3 n1 (compL_p hg q1) s1 s2, rfl⟩
                  · exact ⟨se_biB G.spot G.eK hb' gl hm (hb' ▸ hv) n3 n1 (compL_p hg q1) s1 s2, rfl⟩
            · cases h
      · cases h
  · cases h

theorem compW_ok (G : Gd X f W c cl) (hg : Good X f W cl g) {tg e : Expr} {ir : E} (h : compW g c tg e = some ir) : PI X tg e (tFI f W (evI cl ir)) ∧ ∀ x, foldedSetIterable e X.env x = pure x := by
  unfold compW at h
  split at h
  · cases h
  · rename_i hset
    have hfold : ∀ x, foldedSetIterable e X.env x = pure x := fun x => by
      cases e <;> first | rfl | exact (hset rfl).elim
    refine ⟨?_, hfold⟩
    split at h
    · rename_i hw
      cases e with
      | Call fn args kws pos =>
        cases fn with
        | Name x p =>
          rw [compI] at h
          split at h
          · rename_i hb
            rw [Bool.and_eq_true] at hb
            obtain ⟨hb, hk⟩ := hb
            have hk : kws = [] := by simpa using hk
            subst hk
            obtain ⟨b1, b2⟩ := bare_of G hb
            split at h
            · rename_i hx
              subst hx
              rcases args with _ | ⟨a, _ | ⟨b, _ | ⟨d, r⟩⟩⟩
              · cases h
              · rw [compR] at h
                split at h
                · rename_i hs
                  obtain ⟨b', q1, q2⟩ := Option.bind_eq_some_iff.mp h
                  cases q2
                  exact si_rng1 b1 b2 (hg _ _ q1).1 (by rw [starEach_c hs]; rfl)
                · cases h
              · rw [compR] at h
                split at h
                · rename_i hs
                  rw [Bool.and_eq_true] at hs
                  obtain ⟨a', q1, q2⟩ := Option.bind_eq_some_iff.mp h
                  obtain ⟨b', q3, q4⟩ := Option.bind_eq_some_iff.mp q2
                  cases q4
                  have e2 : starEach [b] X.env = [(false, eval b X.env)] := by rw [starEach_c hs.2]; rfl
                  exact si_rng2 b1 b2 (hg _ _ q1).1 (hg _ _ q3).1 (by rw [starEach_c hs.1, e2]) e2
                · cases h
              · cases h
            · split at h
              · rename_i hx
                subst hx
                rcases args with _ | ⟨a, _ | ⟨b, r⟩⟩
                · cases h
                · rw [compEn] at h
                  split at h
                  · rename_i hs
                    rw [Bool.and_eq_true] at hs
                    obtain ⟨a', q1, q2⟩ := Option.bind_eq_some_iff.mp h
                    cases q2
                    cases tg with
                    | Tuple elts kk tpos => exact si_enum G.eK b1 b2 (hg _ _ q1).1 (by rw [starEach_c hs.1]; rfl)
                    | _ => exact absurd hs.2 (by simp [isTup])
                  · cases h
                · cases h
              · split at h
                · rename_i hx
                  subst hx
                  rcases args with _ | ⟨a, _ | ⟨b, _ | ⟨d, r⟩⟩⟩
                  · cases h
                  · cases h
                  · rw [compZ] at h
                    split at h
                    · rename_i hs
                      rw [Bool.and_eq_true, Bool.and_eq_true] at hs
                      obtain ⟨a', q1, q2⟩ := Option.bind_eq_some_iff.mp h
                      obtain ⟨b', q3, q4⟩ := Option.bind_eq_some_iff.mp q2
                      cases q4
                      have e2 : starEach [b] X.env = [(false, eval b X.env)] := by rw [starEach_c hs.1.2]; rfl
                      cases tg with
                      | Tuple elts kk tpos => exact si_zip G.eK b1 b2 (hg _ _ q1).1 (hg _ _ q3).1 (starEach_c hs.1.1) e2 (by rw [e2]; rfl)
                      | _ => exact absurd hs.2 (by simp [isTup])
                    · cases h
                  · cases h
                · cases h
          · cases h
        | _ => cases h
      | _ => cases h
    · obtain ⟨e', q1, q2⟩ := Option.bind_eq_some_iff.mp h
      have fin : (∀ lo hi, e' ≠ .rng lo hi) → (∀ a, e' ≠ .enum a) → (∀ a b, e' ≠ .zip a b) → PI X tg e (tFI f W (evI cl e')) := by
        intro n1 n2 n3
        refine si_any G.eK (hg _ _ q1).1 ?_
        cases e' with
        | rng lo hi => exact (n1 lo hi rfl).elim
        | enum a => exact (n2 a rfl).elim
        | zip a b => exact (n3 a b rfl).elim
        | _ => rw [evI] <;> (intros; contradiction)
      split at q2
      · cases q2
      · cases q2
      · cases q2
      · rename_i n1 n2 n3
        cases q2
        exact fin n1 n2 n3
end
end Pm
namespace Pm
open PySem PySem.Spec PyProof.Rows L2

theorem takes_wf {X : Cx} : Takes X WF := fun _ _ ⟨_, _, _, _, _, _, _, _, _, _, _, _, _, _, _, _, w⟩ => w.elim
section
variable {X : Cx} {f : Fm} {W : WX} {c : Cc} {cl : Cl}
/-- the context of a comprehension's block -/
theorem ownB_of {scope : Scope} {own : List (Str × Nat)} (h : ownB scope own = true) {x : Str} (hx : x ∈ own.map (·.1)) : scope.names.lookup x = some .local ∨ scope.names.lookup x = some .cell := by
  obtain ⟨p, hp, rfl⟩ := List.mem_map.mp hx
  have q := List.all_eq_true.mp h p hp
  split at q
  · rename_i z; exact .inl z
  · rename_i z; exact .inr z
  · cases q
theorem Gd.blk (G : Gd X f W c cl) {scope : Scope} {own : List (Str × Nat)} (hb : blkC c.N c.sc scope own = true) (ho : ownB scope own = true) (s : Shared) (H : Hp) (C : Addr) (cc : List (Str × Addr)) (fp : List Addr) :
    Gd (X.blk s H scope (compEnvC scope cc C X.env) fp) f WF (blkCc c scope own) cl where
  spot := ⟨G.spot.calm, G.spot.hu, G.spot.gd⟩
  eK := G.eK
  eN := G.eN
  nd := G.nd
  sc := by show relS scope X.env.scope = relS scope c.sc; rw [G.sc]
  kd := (blkOk_by hb).kind
  st := fun x hx => by
    have q := ownB_of ho hx
    refine ⟨?_, ?_⟩
    · rcases q with q | q
      · exact .inl (lookup_relS_keep (by decide) q)
      · exact .inr (lookup_relS_keep (by decide) q)
    · rcases q with q | q
      · exact .inr (lookup_relS_keep (by decide) q)
      · left
        show (scope.names.lookup x == some NameKind.cell) = true
        rw [q]; rfl
  tk := takes_wf
  hp := PassesOwn.never
  con := G.con
  bl := G.bl
  fm := G.fm
theorem tgIx_of {x : Str} {i : Nat} (h : tgIx c x = some i) : x ∈ c.ls ∧ c.N[i]? = some x := by
  unfold tgIx at h
  split at h
  · rename_i hc
    exact ⟨by simpa using hc, ixOf_some h⟩
  · cases h
theorem pg_nm (G : Gd X f W c cl) {x : Str} {pos : Pos} {i : Nat} (h : tgIx c x = some i) : PG X (.Name x pos) (gName i) := by
  obtain ⟨h1, h2⟩ := tgIx_of h
  obtain ⟨q1, q2⟩ := G.st x h1
  exact pg_name G.nd (by rw [G.eN]; exact h2) q1 q2
theorem tgNames_ok (G : Gd X f W c cl) : ∀ {es : List Expr} {is : List Nat}, tgNames c es = some is → PGs X es (gsOf is) ∧ is.length = (assignEach es X.env).length ∧ (assignEach es X.env).findIdx? (·.1) = none
  | [], is, h => by cases h; exact ⟨pgs_nil, rfl, rfl⟩
  | e :: r, is, h => by
    cases e with
    | Name x pos =>
      unfold tgNames at h
      obtain ⟨i, h1, h2⟩ := Option.bind_eq_some_iff.mp h
      obtain ⟨is', h3, h4⟩ := Option.bind_eq_some_iff.mp h2
      cases h4
      obtain ⟨q1, q2, q3⟩ := tgNames_ok G h3
      refine ⟨pgs_cons (pg_nm G h1) q1, ?_, ?_⟩
      · show is'.length + 1 = (assignEach r X.env).length + 1
        rw [q2]
      · show ((false, _) :: assignEach r X.env).findIdx? (·.1) = none
        rw [List.findIdx?_cons, q3]
        rfl
    | _ => cases h
theorem compT_ok (G : Gd X f W c cl) {e : Expr} {t : Tg} (h : compT c e = some t) : PG X e (gOf X.K t) := by
  cases e with
  | Name x pos =>
    obtain ⟨i, h1, h2⟩ := Option.map_eq_some_iff.mp h
    cases h2
    exact pg_nm G h1
  | Tuple es k pos =>
    obtain ⟨is, h1, h2⟩ := Option.map_eq_some_iff.mp h
    cases h2
    obtain ⟨q1, q2, q3⟩ := tgNames_ok G h1
    exact pg_tup G.spot.calm q1 q2.symm q3
  | _ => cases h
/-- a form of no logic: its test is its value's -/
theorem both {e : Expr} {ir : E} (G : Gd X f W c cl) (h : PE X e (tF f W (ev cl ir)) ∧ isLogic ir = false) (he : ∀ whole, isTrue e X.env whole = (do let v ← whole; standAt e.pos; holding [v] (truthy v))) : PE X e (tF f W (ev cl ir)) ∧ PT X e (tFT f W (evT cl ir)) :=
  ⟨h.1, st_val G.eK h.1 he (evT_val ir h.2)⟩
theorem plain_of {n : Nat} {e : Expr} {ir : E} (h : compE n c e = some ir) : PlainIx e := by
  cases n with
  | zero => rw [compE] at h; cases h
  | succ n =>
    intro o i
    cases e <;> first | rfl | (unfold compE at h; cases h)
end
end Pm
namespace Pm
open PySem PySem.Spec PyProof.Rows L2
section
variable {cl : Cl}
theorem isRev_of {i : Expr} (h : isRev i = true) : ∃ k p1 p2 p3, i = .Slice none none (some (.UnaryOp .USub (.Constant (.int 1) k p1) p2)) p3 := by
  unfold isRev at h
  split at h
  · rename_i j k p1 p2 p3
    have : j = 1 := by simpa using h
    subst this
    exact ⟨k, p1, p2, p3, rfl⟩
  · cases h
theorem mem_slots {tg : Tg} {own : List (Str × Nat)} (h : (tg.slots.all fun j => (own.map (·.2)).contains j) = true) : ∀ j, j ∈ tg.slots → j ∈ own.map (·.2) := fun j hj => by
  have := List.all_eq_true.mp h j hj
  simpa using this
/-- a comprehension's parts -/
def LcParts (X : Cx) (f : Fm) (W : WX) (cl : Cl) (elt : Expr) (gs : List Comprehension) (scope : Scope) (ir : E) : Prop :=
    ∃ tg iter ifs own t' it' elt' cs', gs = [⟨tg, iter, ifs, 0⟩] ∧ ir = .lc elt' t' it' cs' (own.map (·.2)) ∧ PI X tg iter (tFI f W (evI cl it')) ∧ BlkOk X.N X.env.scope scope own ∧
      (∀ (s : Shared) (H : Hp) (C : Addr) (cc : List (Str × Addr)) (fp : List Addr), PG (X.blk s H scope (compEnvC scope cc C X.env) fp) tg (gOf X.K t')) ∧
      (∀ (s : Shared) (H : Hp) (C : Addr) (cc : List (Str × Addr)) (fp : List Addr), PTs (X.blk s H scope (compEnvC scope cc C X.env) fp) ifs (tFT f WF (evC cl cs'))) ∧
      (∀ (s : Shared) (H : Hp) (C : Addr) (cc : List (Str × Addr)) (fp : List Addr), PE (X.blk s H scope (compEnvC scope cc C X.env) fp) elt (tF f WF (ev cl elt'))) ∧
      (∀ x, foldedSetIterable iter X.env x = pure x) ∧ (∀ j, j ∈ t'.slots → j ∈ own.map (·.2))
theorem compLC_ok {g : Cc → Expr → Option E} (ihc : ∀ {X : Cx} {f : Fm} {W : WX} {c : Cc}, Gd X f W c cl → Good X f W cl (g c)) {X : Cx} {f : Fm} {W : WX} {c : Cc} (G : Gd X f W c cl) {elt : Expr} {gs : List Comprehension} {scope : Scope} {ir : E} (h : compLC g c elt gs scope = some ir) :
    LcParts X f W cl elt gs scope ir := by
  unfold compLC at h
  split at h
  · rename_i tg iter ifs as
    split at h
    · rename_i has
      subst has
      have ih := ihc G
      obtain ⟨own, h1, h2⟩ := Option.bind_eq_some_iff.mp h
      split at h2
      · rename_i hb
        rw [Bool.and_eq_true] at hb
        obtain ⟨hb, ho⟩ := hb
        obtain ⟨t', h3, h4⟩ := Option.bind_eq_some_iff.mp h2
        split at h4
        · rename_i hsub
          obtain ⟨it', h5, h6⟩ := Option.bind_eq_some_iff.mp h4
          obtain ⟨elt', h7, h8⟩ := Option.bind_eq_some_iff.mp h6
          obtain ⟨w1, w2⟩ := compW_ok G ih h5
          have gb := fun s H C cc fp => G.blk hb ho s H C cc fp
          have ok : BlkOk X.N X.env.scope scope own := by rw [G.eN, G.sc]; exact blkOk_by hb
          split at h8
          · cases h8
            exact ⟨tg, iter, _, own, t', it', elt', [], rfl, rfl, w1, ok, fun s H C cc fp => compT_ok (gb s H C cc fp) h3, fun s H C cc fp => ⟨fun pins s σ H Q I ⟨gh, Φ, e, w, q⟩ => pts_nil.run pins s σ H Q I (by
              rw [evC.eq_1] at q
              exact q Φ H (Same.refl _) w)⟩, fun s H C cc fp => (ihc (gb s H C cc fp) _ _ h7).1, w2, mem_slots hsub⟩
          · obtain ⟨c', h9, h10⟩ := Option.bind_eq_some_iff.mp h8
            cases h10
            exact ⟨tg, iter, _, own, t', it', elt', [c'], rfl, rfl, w1, ok, fun s H C cc fp => compT_ok (gb s H C cc fp) h3, fun s H C cc fp => pts_one (PT.imp (ihc (gb s H C cc fp) _ _ h9).2 fun σ H Q ⟨gh, Φ, e, w, q⟩ => by
              rw [evC, evC.eq_1] at q
              refine ⟨gh, Φ, e, w, Pst.mono (Pst.bind q) (Same.refl _) fun Φ1 H1 e1 t s1 w1 z => ?_⟩
              cases t with
              | true => exact z Φ1 H1 (Same.refl _) w1
              | false => exact z Φ1 H1 (Same.refl _) w1), fun s H C cc fp => (ihc (gb s H C cc fp) _ _ h7).1, w2, mem_slots hsub⟩
          · cases h8
        · cases h4
      · cases h2
    · cases h
  · cases h
theorem se_lcP {X : Cx} {f : Fm} {W : WX} {c : Cc} (G : Gd X f W c cl) {elt : Expr} {gs : List Comprehension} {scope : Scope} {pos : Pos} {ir : E} (h : LcParts X f W cl elt gs scope ir) : PE X (.ListComp elt gs scope pos) (tF f W (ev cl ir)) ∧ isLogic ir = false := by
  obtain ⟨tg, iter, ifs, own, t', it', elt', cs', rfl, rfl, z1, z2, z3, z4, z5, z6, z7⟩ := h
  exact ⟨se_lc G.eK G.spot.calm G.nd z1 z2 z3 z4 z5 z6 z7, rfl⟩
theorem compE_ok : ∀ (n : Nat) {X : Cx} {f : Fm} {W : WX} {c : Cc}, Gd X f W c cl → Good X f W cl (compE n c)
  | 0, X, f, W, c, G, e, ir, h => by rw [compE] at h; cases h
  | n + 1, X, f, W, c, G, e, ir, h => by
    have ih : Good X f W cl (compE n c) := compE_ok n G
    unfold compE at h
    split at h
    · exact both G (compName_ok G h) fun _ => rfl
    · exact both G (compConst_ok h) fun _ => rfl
    · obtain ⟨a', h1, h2⟩ := Option.bind_eq_some_iff.mp h
      obtain ⟨b', h3, h4⟩ := Option.bind_eq_some_iff.mp h2
      cases h4
      exact both G ⟨se_bin G.spot (ih _ _ h1).1 (ih _ _ h3).1, rfl⟩ fun _ => rfl
    · obtain ⟨a', h1, h2⟩ := Option.bind_eq_some_iff.mp h
      cases h2
      exact both G ⟨se_neg (ih _ _ h1).1, rfl⟩ fun _ => rfl
    · obtain ⟨a', h1, h2⟩ := Option.bind_eq_some_iff.mp h
      cases h2
      exact ⟨se_not G.eK (ih _ _ h1).1, st_not (ih _ _ h1).2⟩
    · exact ⟨compB_E G.eK ih h, (compB_T ih h).pt⟩
    · obtain ⟨t', h1, h2⟩ := Option.bind_eq_some_iff.mp h
      obtain ⟨a', h3, h4⟩ := Option.bind_eq_some_iff.mp h2
      obtain ⟨b', h5, h6⟩ := Option.bind_eq_some_iff.mp h4
      cases h6
      exact ⟨se_ite (ih _ _ h1).2 (ih _ _ h3).1 (ih _ _ h5).1, st_ite (ih _ _ h1).2 (ih _ _ h3).2 (ih _ _ h5).2⟩
    · split at h
      · cases h
      · rename_i hm
        have hm := Bool.eq_false_iff.mpr hm
        obtain ⟨a', h1, h2⟩ := Option.bind_eq_some_iff.mp h
        obtain ⟨b', h3, h4⟩ := Option.bind_eq_some_iff.mp h2
        cases h4
        exact ⟨se_cmp G.spot G.eK (ih _ _ h1).1 (ih _ _ h3).1 hm, st_cmp G.spot G.eK (ih _ _ h1).1 (ih _ _ h3).1 hm⟩
    · split at h
      · cases h
      · rename_i hm
        have hm := Bool.eq_false_iff.mpr hm
        obtain ⟨a', h1, h2⟩ := Option.bind_eq_some_iff.mp h
        obtain ⟨b', h3, h4⟩ := Option.bind_eq_some_iff.mp h2
        obtain ⟨d', h5, h6⟩ := Option.bind_eq_some_iff.mp h4
        cases h6
        exact ⟨se_chain G.spot G.eK (ih _ _ h1).1 (ih _ _ h3).1 (ih _ _ h5).1 hm, st_chain G.spot G.eK (ih _ _ h1).1 (ih _ _ h3).1 (ih _ _ h5).1 hm⟩
    · obtain ⟨es', h1, h2⟩ := Option.bind_eq_some_iff.mp h
      cases h2
      exact both G ⟨se_tup (compL_s ih h1), rfl⟩ fun _ => rfl
    · obtain ⟨es', h1, h2⟩ := Option.bind_eq_some_iff.mp h
      cases h2
      exact both G ⟨se_lst (compL_s ih h1), rfl⟩ fun _ => rfl
    · split at h
      · rename_i keys values pos h15
        have h15 := of_decide_eq_true h15
        obtain ⟨es', h1, h2⟩ := Option.bind_eq_some_iff.mp h
        cases h2
        refine both G ⟨?_, rfl⟩ fun _ => rfl
        obtain ⟨q1, q2, q3⟩ := compD_ok ih (pos := pos) h1
        cases keys with
        | nil =>
          cases values with
          | nil => cases h1; exact se_dct0
          | cons v vs => cases h1
        | cons k ks => exact se_dct q1 q2 q3 (by simp) h15
      · cases h
    · split at h
      · rename_i hr
        obtain ⟨k, p1, p2, p3, rfl⟩ := isRev_of hr
        obtain ⟨a', h1, h2⟩ := Option.bind_eq_some_iff.mp h
        cases h2
        exact both G ⟨se_rev G.eK (ih _ _ h1).1, rfl⟩ fun _ => rfl
      · split at h
        · obtain ⟨a', h1, h2⟩ := Option.bind_eq_some_iff.mp h
          obtain ⟨l', h3, h4⟩ := Option.bind_eq_some_iff.mp h2
          obtain ⟨u', h5, h6⟩ := Option.bind_eq_some_iff.mp h4
          cases h6
          exact both G ⟨se_slc G.eK (ih _ _ h1).1 (compOpt_ok ih h3) (compOpt_ok ih h5), rfl⟩ fun _ => rfl
        · cases h
        · obtain ⟨a', h1, h2⟩ := Option.bind_eq_some_iff.mp h
          obtain ⟨i', h3, h4⟩ := Option.bind_eq_some_iff.mp h2
          cases h4
          exact both G ⟨se_ix G.eK (ih _ _ h1).1 (ih _ _ h3).1 (plain_of h3), rfl⟩ fun _ => rfl
    · exact both G (compCall_ok G ih h) fun _ => rfl
    · exact both G (compMeth_ok ih h) fun _ => rfl
    · exact both G (se_lcP G (compLC_ok (fun G' => compE_ok n G') G h)) fun _ => rfl
    · cases h
end
end Pm
namespace Pm
open PySem PySem.Spec PyProof.Rows L2
theorem swapped_none {ts vs : List Expr} {k k2 : Nat} {pt p2 : Pos} {env : Env} (h : tupOf ts vs = true) : swappedStores [.Tuple ts k pt] (.Tuple vs k2 p2) env = pure none := by
  unfold swappedStores
  simp only
  by_cases h1 : (!(ts.length == 2 || ts.length == 3) || vs.length != ts.length || env.blockKind != .function) = true
  · rw [if_pos h1]
  · rw [if_neg h1]
    simp only [Bool.or_eq_true, not_or] at h1
    obtain ⟨⟨h1, h2⟩, h3⟩ := h1
    have hf : vs.all (foldedForSure 8) = true := by
      unfold tupOf at h
      simp only [Bool.or_eq_true, Bool.and_eq_true] at h
      rcases h with (h | h) | h
      · exact (h1 (by simpa using h)).elim
      · exact (h2 h).elim
      · exact h.1
    split
    · rfl
    · split
      · rfl
      · first | rfl | rw [if_pos hf]
/-- .. so too where some target is no plain local -/
theorem filterMap_short {α β : Type} {f : α → Option β} : ∀ {l : List α}, (∃ x, x ∈ l ∧ f x = none) → (l.filterMap f).length < l.length
  | [], ⟨x, hx, _⟩ => nomatch hx
  | a :: r, ⟨x, hx, hf⟩ => by
    have hle : (r.filterMap f).length ≤ r.length := List.length_filterMap_le f r
    rw [List.filterMap_cons]
    cases e : f a with
    | none =>
      show (r.filterMap f).length < r.length + 1
      omega
    | some b =>
      have : x ∈ r := by
        rcases List.mem_cons.mp hx with q | q
        · rw [q, e] at hf; cases hf
        · exact q
      have := filterMap_short ⟨x, this, hf⟩
      show (r.filterMap f).length + 1 < r.length + 1
      omega
theorem swapped_cell {ts vs : List Expr} {k k2 : Nat} {pt p2 : Pos} {env : Env} {x : Str} {px : Pos} (hm : Expr.Name x px ∈ ts) (hx : env.scope.names.lookup x ≠ some .local) : swappedStores [.Tuple ts k pt] (.Tuple vs k2 p2) env = pure none := by
  have kx : (env.kindOf x == some NameKind.local) = false := by
    have : env.kindOf x ≠ some NameKind.local := hx
    cases e : env.kindOf x == some NameKind.local with
    | false => rfl
    | true => exact (this (by simpa using e)).elim
  unfold swappedStores
  simp only
  by_cases h1 : (!(ts.length == 2 || ts.length == 3) || vs.length != ts.length || env.blockKind != .function) = true
  · rw [if_pos h1]
  · rw [if_neg h1]
    split
    · rfl
    · split
      · rfl
      · rename_i hn
        refine (hn ?_).elim
        rw [Bool.or_eq_true]
        left
        rw [bne_iff_ne]
        refine Nat.ne_of_lt (filterMap_short ⟨_, hm, ?_⟩)
        simp only [kx, Bool.false_and]
        rfl
theorem swaps_plain {e : Expr} {t : Option Expr} {l : Nat} {env : Env} (h : isComp e = false) : swapsWith e t l env = pure false := by
  cases e <;> first | rfl | cases h
theorem swaps_sole {e t : Expr} {l : Nat} {env : Env} (h : isComp e = false) : swapsWithSole [t] e l env = pure false := by
  rw [swapsWithSole]
  exact swaps_plain h
theorem fn_block {env : Env} (h : env.scope.kind = .function) : env.blockKind = .function := by unfold Env.blockKind; rw [h]; rfl
theorem swapped_two {x y : Str} {px py pt p2 : Pos} {k k2 : Nat} {a b : Expr} {env : Env} (hk : env.scope.kind = .function) (hx : env.scope.names.lookup x = some .local) (hy : env.scope.names.lookup y = some .local)
    (hl : (py.line == px.line) = true) (hxy : x ≠ y) (ha : notStar a = true) (hb : notStar b = true) (hf : [a, b].all (foldedForSure 8) = false) (hc : [a, b].all (constantsAlone 8) = false) :
    swappedStores [.Tuple [.Name x px, .Name y py] k pt] (.Tuple [a, b] k2 p2) env = pure (some [x, y]) := by
  have kx : env.kindOf x = some .local := hx
  have ky : env.kindOf y = some .local := hy
  unfold swappedStores
  have star : ∀ e : Expr, notStar e = true → (match e with | .Starred .. => true | _ => false) = false := fun e h => by cases e <;> first | rfl | cases h
  have hs : ([a, b].any fun | .Starred .. => true | _ => false) = false := by
    simp only [List.any_cons, List.any_nil, star a ha, star b hb]
    rfl
  have hd : ([x, y].eraseDups.length != [x, y].length) = false := by
    have : (y == x) = false := by simpa using Ne.symm hxy
    simp [List.eraseDups_cons, this]
  have hp : (px.line == px.line) = true := by simp
  simp only [fn_block hk, hs, hf, hc, List.head?, List.filterMap, kx, ky, Option.map, Option.getD, Expr.pos, hp, hl]
  have e1 : (some NameKind.local == some NameKind.local) = true := by rfl
  simp only [e1, Bool.and_self, if_true, hd]
  refine (if_neg (by simp)).trans ?_
  refine (if_neg (fun z => by cases hs.symm.trans z)).trans ?_
  rfl
theorem swapped_three {x y z : Str} {px py pz pt p2 : Pos} {k k2 : Nat} {a b c : Expr} {env : Env} (hk : env.scope.kind = .function) (hx : env.scope.names.lookup x = some .local) (hy : env.scope.names.lookup y = some .local) (hz : env.scope.names.lookup z = some .local)
    (hl : (py.line == px.line) = true) (hl2 : (pz.line == px.line) = true) (hxy : x ≠ y) (hxz : x ≠ z) (hyz : y ≠ z) (ha : notStar a = true) (hb : notStar b = true) (hcc : notStar c = true) (hf : [a, b, c].all (foldedForSure 8) = false) (hc : [a, b, c].all (constantsAlone 8) = false) :
    swappedStores [.Tuple [.Name x px, .Name y py, .Name z pz] k pt] (.Tuple [a, b, c] k2 p2) env = pure (some [x, y, z]) := by
  have kx : env.kindOf x = some .local := hx
  have ky : env.kindOf y = some .local := hy
  have kz : env.kindOf z = some .local := hz
  unfold swappedStores
  have star : ∀ e : Expr, notStar e = true → (match e with | .Starred .. => true | _ => false) = false := fun e h => by cases e <;> first | rfl | cases h
  have hs : ([a, b, c].any fun | .Starred .. => true | _ => false) = false := by
    simp only [List.any_cons, List.any_nil, star a ha, star b hb, star c hcc]
    rfl
  have hd : ([x, y, z].eraseDups.length != [x, y, z].length) = false := by
    have q1 : (y == x) = false := by simpa using Ne.symm hxy
    have q2 : (z == x) = false := by simpa using Ne.symm hxz
    have q3 : (z == y) = false := by simpa using Ne.symm hyz
    simp [List.eraseDups_cons, q1, q2, q3]
  have hp : (px.line == px.line) = true := by simp
  simp only [fn_block hk, hs, hf, hc, List.head?, List.filterMap, kx, ky, kz, Option.map, Option.getD, Expr.pos, hp, hl, hl2]
  have e1 : (some NameKind.local == some NameKind.local) = true := by rfl
  simp only [e1, Bool.and_self, if_true, hd]
  refine (if_neg (by simp)).trans ?_
  refine (if_neg (fun z => by cases hs.symm.trans z)).trans ?_
  rfl
end Pm
namespace Pm
open PySem PySem.Spec PyProof.Rows L2
section
variable {X : Cx} {f : Fm} {W : WX} {c : Cc} {cl : Cl}
theorem lc_parts (G : Gd X f W c cl) {m : Nat} {elt : Expr} {gs : List Comprehension} {scope : Scope} {pos : Pos} {ir : E} (h : compE m c (.ListComp elt gs scope pos) = some ir)   : LcParts X f W cl elt gs scope ir := by
  cases m with
  | zero => rw [compE] at h; cases h
  | succ n =>
    rw [compE] at h
    exact compLC_ok (fun G' => compE_ok n G') G h
theorem var_of (G : Gd X f W c cl) {x : Str} {i : Nat} {pos : Pos} (h : varI c x = some i) : PE X (.Name x pos) (tVar i) := by
  unfold varI at h
  split at h
  · rename_i hc
    rw [Bool.and_eq_true] at hc
    obtain ⟨n1, n2, n3⟩ := okName_of hc.1
    exact pe_var (by rw [G.eN]; exact ixOf_some h) (vis_of G.sc hc.2) n1 n2
  · cases h
theorem loc_of (G : Gd X f W c cl) {x : Str} (h : locB c x = true) : X.env.scope.names.lookup x = some .local := by
  unfold locB at h
  split at h
  · rename_i q
    rw [G.sc]; exact q
  · cases h
theorem swaps_lc {elt : Expr} {gs : List Comprehension} {scope : Scope} {pos py : Pos} {y : Str} {l : Nat} {env : Env} : ∃ b, swapsWith (.ListComp elt gs scope pos) (some (.Name y py)) l env = pure b ∧ (b = true → env.scope.names.lookup y = some .local) := by
  refine ⟨_, rfl, fun h => ?_⟩
  simp only [Bool.and_eq_true] at h
  have q := h.1.1.2
  have : env.kindOf y = some .local := by simpa using q
  exact this
theorem asg_name (G : Gd X f W c cl) {m : Nat} {x : Str} {px pos : Pos} {e : Expr} {i : Nat} {e' : E} (h1 : tgIx c x = some i) (h2 : compE m c e = some e') : PS X (.Assign [.Name x px] e pos) (tX f W (asgd (.set (.nm i) e')) (ex cl (.set (.nm i) e'))) := by
  obtain ⟨q1, q2⟩ := tgIx_of h1
  obtain ⟨l1, l2⟩ := G.st x q1
  have hi : X.N[i]? = some x := by rw [G.eN]; exact q2
  have hA : asgd (.set (.nm i) e') = (Tg.nm i).slots := by rw [asgd]
  rw [hA]
  have plain : swapsWith e (some (.Name x px)) pos.line X.env = pure false → PS X (.Assign [.Name x px] e pos) (tX f W (Tg.nm i).slots (ex cl (.set (.nm i) e'))) := fun hs =>
    PS.imp (ps_set G.nd hi l1 (compE_ok m G _ _ h2).1 hs l2) fun E σ H h => set_read h
  by_cases hc : isComp e = false
  · exact plain (swaps_plain hc)
  · cases e with
    | ListComp elt gs scope lpos =>
      obtain ⟨b, hb, hl⟩ := swaps_lc (elt := elt) (gs := gs) (scope := scope) (pos := lpos) (py := px) (y := x) (l := pos.line) (env := X.env)
      cases b with
      | false => exact plain hb
      | true =>
        obtain ⟨tg, iter, ifs, own, t', it', elt', cs', rfl, rfl, z1, z2, z3, z4, z5, z6, z7⟩ := lc_parts G h2
        refine PS.imp (ps_setLc G.spot.calm G.nd hi (hl rfl) hb z1 z2 z3 z4 z5 z6) fun E σ H h => ?_
        rw [G.eK]
        exact lc_read z7 (set_read (t := .nm i) h)
    | SetComp elt gs scope lpos => cases m <;> (unfold compE at h2; cases h2)
    | DictComp k v gs scope lpos => cases m <;> (unfold compE at h2; cases h2)
    | _ => exact (hc rfl).elim
end
end Pm
namespace Pm
open PySem PySem.Spec PyProof.Rows L2
section
variable {X : Cx} {f : Fm} {W : WX} {c : Cc} {cl : Cl}
theorem appOf_some {e a : Expr} {x : Str} (h : appOf e = some (x, a)) : ∃ xp apos cpos, e = .Call (.Attribute (.Name x xp) "append" apos) [a] [] cpos ∧ (apos.endLine == cpos.line) = true ∧ notStar a = true := by
  unfold appOf at h
  split at h
  · split at h
    · rename_i hc
      simp only [Bool.and_eq_true, decide_eq_true_eq] at hc
      obtain ⟨⟨h1, h2⟩, h3⟩ := hc
      cases h
      subst h1
      exact ⟨_, _, _, rfl, h2, h3⟩
    · cases h
  · cases h
theorem sub_asg {m : Nat} {o ix : Expr} {ir : E} {pos : Pos} (h : compE m c ix = some ir) : ∀ v, assign (.Subscript o ix pos) X.env v = (do
      let ov ← holding [v] (eval o X.env)
      let iv ← holding [v, ov] (eval ix X.env)
      standAt pos
      holding [v, ov, iv] (setItem ov iv v)
      release [v, ov, iv] []) := by
  cases m with
  | zero => rw [compE] at h; cases h
  | succ n =>
    intro v
    cases ix <;> first | rfl | (unfold compE at h; cases h)
theorem ixOf_inj {N : List Str} {x y : Str} {i : Nat} (h1 : N[i]? = some x) (h2 : N[i]? = some y) : x = y := by
  rw [h1] at h2; cases h2; rfl
theorem asg_par (G : Gd X f W c cl) {m : Nat} {ts vs : List Expr} {k k2 : Nat} {pt p2 pos : Pos} {is : List Nat} {vs' : List E} (h1 : parOf c ts vs = some is) (h2 : compL (compE m c) vs = some vs') :
    PS X (.Assign [.Tuple ts k pt] (.Tuple vs k2 p2) pos) (tX f W (asgd (.par is vs')) (ex cl (.par is vs'))) := by
  have hA : asgd (.par is vs') = is := by rw [asgd]
  rw [hA]
  have ih := compE_ok m G
  have hlen := compL_len h2
  have hr := compL_r ih h2
  have loc : ∀ {x : Str} {i : Nat}, tgIx c x = some i → X.N[i]? = some x := fun h => by rw [G.eN]; exact (tgIx_of h).2
  unfold parOf at h1
  split at h1
  · split at h1
    · rename_i x px y py a b hc
      simp only [Bool.and_eq_true, Bool.not_eq_true', decide_eq_false_iff_not] at hc
      obtain ⟨⟨⟨⟨⟨⟨⟨⟨c1, c2⟩, c3⟩, c4⟩, c5⟩, c6⟩, c7⟩, c8⟩, c9⟩ := hc
      obtain ⟨i, q1, q2⟩ := Option.bind_eq_some_iff.mp h1
      obtain ⟨j, q3, q4⟩ := Option.bind_eq_some_iff.mp q2
      cases q4
      have hij : i ≠ j := fun e => by
        subst e
        exact c5 (ixOf_inj (loc q1) (loc q3))
      rcases vs' with _ | ⟨a', _ | ⟨b', _ | ⟨d', r⟩⟩⟩
      · cases hlen
      · cases hlen
      · exact PS.imp (ps_par G.spot.calm G.nd (loc q1) (loc q3) hij (loc_of G c1) (loc_of G c2) hr (swapped_two G.kd (loc_of G c1) (loc_of G c2) c4 c5 c6 c7 c8 c9) rfl) fun E σ H h => par_read2 h
      · simp at hlen
    · cases h1
  · split at h1
    · rename_i x px y py z pz a b d hc
      simp only [Bool.and_eq_true, Bool.not_eq_true', decide_eq_false_iff_not] at hc
      obtain ⟨⟨⟨⟨⟨⟨⟨⟨⟨⟨⟨⟨c1, c2⟩, c3⟩, c4⟩, c5⟩, c6⟩, c7⟩, c8⟩, c9⟩, c10⟩, c11⟩, c12⟩, c13⟩ := hc
      obtain ⟨i, q1, q2⟩ := Option.bind_eq_some_iff.mp h1
      obtain ⟨j, q3, q4⟩ := Option.bind_eq_some_iff.mp q2
      obtain ⟨l, q5, q6⟩ := Option.bind_eq_some_iff.mp q4
      cases q6
      have ne : ∀ {x y : Str} {i j : Nat}, x ≠ y → X.N[i]? = some x → X.N[j]? = some y → i ≠ j := fun n h1 h2 e => by
        subst e
        exact n (ixOf_inj h1 h2)
      rcases vs' with _ | ⟨a', _ | ⟨b', _ | ⟨d', _ | ⟨r, rr⟩⟩⟩⟩
      · cases hlen
      · cases hlen
      · simp at hlen
      · exact PS.imp (ps_par3 G.spot.calm G.nd (loc q1) (loc q3) (loc q5) (ne c6 (loc q1) (loc q3)) (ne c7 (loc q1) (loc q5)) (ne c8 (loc q3) (loc q5)) (loc_of G c1) (loc_of G c2) (loc_of G c3) hr
          (swapped_three G.kd (loc_of G c1) (loc_of G c2) (loc_of G c3) c4 c5 c6 c7 c8 c9 c10 c11 c12 c13) rfl) fun E σ H h => par_read3 h
      · simp at hlen
    · cases h1
  · cases h1
theorem asg_tup (G : Gd X f W c cl) {m : Nat} {ts : List Expr} {e : Expr} {k : Nat} {pt pos : Pos} {is : List Nat} {e' : E} (h1 : tgNames c ts = some is) (h2 : compE m c e = some e') (hs : isComp e = false) (hw : swappedStores [.Tuple ts k pt] e X.env = pure none) :
    PS X (.Assign [.Tuple ts k pt] e pos) (tX f W (asgd (.set (.tp is) e')) (ex cl (.set (.tp is) e'))) := by
  have hA : asgd (.set (.tp is) e') = (Tg.tp is).slots := by rw [asgd]
  rw [hA]
  obtain ⟨q1, q2, q3⟩ := tgNames_ok G h1
  refine PS.imp (ps_asg (compE_ok m G _ _ h2).1 (pg_tup G.spot.calm q1 q2.symm q3) (swaps_sole hs) hw rfl) fun E σ H h => ?_
  rw [G.eK]
  exact set_read h
/-- what g gives is right -/
def GoodS (X : Cx) (f : Fm) (W : WX) (cl : Cl) (g : Stmt → Option S) : Prop := ∀ s s', g s = some s' → PS X s (tX f W (asgd s') (ex cl s'))
theorem bad_ok {s : Stmt} : PS X s (tX f W (asgd badS) (ex cl badS)) := ⟨fun pins st σ H D I ⟨gh, Φ, e, w, h⟩ => by
  unfold badS ex at h
  exact h.elim⟩
theorem compSs_ok {g : Stmt → Option S} (hg : GoodS X f W cl g) : ∀ {ss : List Stmt} {ss' : List S}, compSs g ss = some ss' → PSs X ss (tX f W (asgds ss') (exs cl ss'))
  | [], ss', h => by
    cases h
    have hA : asgds [] = [] := by rw [asgds]
    rw [hA]
    exact sx_nil
  | s :: ss, ss', h => by
    unfold compSs at h
    obtain ⟨r, h3, h4⟩ := Option.bind_eq_some_iff.mp h
    cases h4
    cases h1 : g s with
    | some s' => exact sx_cons (hg _ _ h1) (compSs_ok hg h3)
    | none => exact sx_cons bad_ok (compSs_ok hg h3)
theorem compS_ok (G : Gd X f W c cl) : ∀ (n m : Nat), GoodS X f W cl (compS n m c)
  | 0, m, s, s', h => by rw [compS] at h; cases h
  | n + 1, m, s, s', h => by
    have ih : GoodS X f W cl (compS n m c) := compS_ok G n m
    have gE : Good X f W cl (compE m c) := compE_ok m G
    unfold compS at h
    split at h
    · rename_i x xp ix ipos e pos
      split at h
      · cases h
      · rename_i hc
        simp only [Bool.or_eq_true, not_or, Bool.not_eq_true] at hc
        obtain ⟨⟨c1, c2⟩, c3⟩ := hc
        obtain ⟨i, h1, h2⟩ := Option.bind_eq_some_iff.mp h
        obtain ⟨ix', h3, h4⟩ := Option.bind_eq_some_iff.mp h2
        obtain ⟨e', h5, h6⟩ := Option.bind_eq_some_iff.mp h4
        cases h6
        have hA : asgd (.put i ix' e') = [] := by rw [asgd]
        rw [hA]
        exact sx_put (var_of G h1) (gE _ _ h3).1 (gE _ _ h5).1 (sub_asg h3) (swaps_sole c2) (by cases e <;> first | rfl | cases c3) rfl
    · split at h
      · rename_i is hp
        obtain ⟨vs', h1, h2⟩ := Option.bind_eq_some_iff.mp h
        cases h2
        exact asg_par G hp h1
      · split at h
        · rename_i ht
          obtain ⟨is, h1, h2⟩ := Option.bind_eq_some_iff.mp h
          obtain ⟨e', h3, h4⟩ := Option.bind_eq_some_iff.mp h2
          cases h4
          rw [Bool.or_eq_true] at ht
          refine asg_tup G h1 h3 rfl ?_
          rcases ht with ht | ht
          · exact swapped_none ht
          · obtain ⟨e, he, hc⟩ := List.any_eq_true.mp ht
            cases e with
            | Name x px =>
              refine swapped_cell he fun q => ?_
              have hc : (!locB c x) = true := hc
              unfold locB at hc
              rw [← G.sc, q] at hc
              cases hc
            | _ => cases hc
        · cases h
    · rename_i hn
      split at h
      · cases h
      · rename_i hc
        obtain ⟨is, h1, h2⟩ := Option.bind_eq_some_iff.mp h
        obtain ⟨e', h3, h4⟩ := Option.bind_eq_some_iff.mp h2
        cases h4
        refine asg_tup G h1 h3 (Bool.eq_false_iff.mpr hc) ?_
        rename_i e _
        cases e <;> first | rfl | exact (hn _ _ _ rfl).elim
    · obtain ⟨i, h1, h2⟩ := Option.bind_eq_some_iff.mp h
      obtain ⟨e', h3, h4⟩ := Option.bind_eq_some_iff.mp h2
      cases h4
      exact asg_name G h1 h3
    · split at h
      · rename_i e pos hd
        cases h
        have hA : asgd .pass = [] := by rw [asgd]
        rw [hA]
        unfold isDoc at hd
        split at hd
        · exact PS.imp ps_doc fun E σ H ⟨gh, Φ, e, w, h⟩ => by
            unfold ex at h
            exact h Φ σ H (Kp.refl _ _) (Same.refl _) w
        · cases hd
      · split at h
        · rename_i x a ha
          obtain ⟨xp, apos, cpos, rfl, q1, q2⟩ := appOf_some ha
          obtain ⟨i, h1, h2⟩ := Option.bind_eq_some_iff.mp h
          obtain ⟨a', h3, h4⟩ := Option.bind_eq_some_iff.mp h2
          cases h4
          have hA : asgd (.app i a') = [] := by rw [asgd]
          rw [hA]
          have e1 := starEach_c (as := []) (env := X.env) q2
          exact sx_app G.eK (var_of G h1) (gE _ _ h3).1 rfl (by rw [e1]; rfl) q1 e1
        · split at h
          · cases h
          · rename_i hc
            obtain ⟨e', h1, h2⟩ := Option.bind_eq_some_iff.mp h
            cases h2
            have hA : asgd (.expr e') = [] := by rw [asgd]
            rw [hA]
            exact sx_expr (gE _ _ h1).1 (swaps_plain (Bool.eq_false_iff.mpr hc))
    · cases h
      have hA : asgd (.ret (.con .non)) = [] := by rw [asgd]
      rw [hA]
      exact sx_retN
    · obtain ⟨e', h1, h2⟩ := Option.bind_eq_some_iff.mp h
      cases h2
      have hA : asgd (.ret e') = [] := by rw [asgd]
      rw [hA]
      exact sx_ret (gE _ _ h1).1
    · obtain ⟨t', h1, h2⟩ := Option.bind_eq_some_iff.mp h
      obtain ⟨a', h3, h4⟩ := Option.bind_eq_some_iff.mp h2
      obtain ⟨b', h5, h6⟩ := Option.bind_eq_some_iff.mp h4
      cases h6
      exact sx_ite (gE _ _ h1).2 (compSs_ok ih h3) (compSs_ok ih h5)
    · obtain ⟨t', h1, h2⟩ := Option.bind_eq_some_iff.mp h
      obtain ⟨it', h3, h4⟩ := Option.bind_eq_some_iff.mp h2
      obtain ⟨b', h5, h6⟩ := Option.bind_eq_some_iff.mp h4
      cases h6
      obtain ⟨w1, w2⟩ := compW_ok G gE h3
      exact sx_for G.eK G.hp G.spot.calm w1 (compT_ok G h1) (compSs_ok ih h5) w2
    · obtain ⟨t', h1, h2⟩ := Option.bind_eq_some_iff.mp h
      obtain ⟨b', h3, h4⟩ := Option.bind_eq_some_iff.mp h2
      cases h4
      exact sx_while G.hp (gE _ _ h1).2 (compSs_ok ih h3)
    · cases h
      have hA : asgd .brk = [] := by rw [asgd]
      rw [hA]; exact sx_brk
    · cases h
      have hA : asgd .cnt = [] := by rw [asgd]
      rw [hA]; exact sx_cnt
    · cases h
      have hA : asgd .pass = [] := by rw [asgd]
      rw [hA]; exact sx_pass
    · cases h
end
end Pm
namespace Pm
open PySem PySem.Spec PyProof.Rows L2

/-- a def of the module -/
structure Ent where
  x : Str
  qual : Str
  st : Stmt
  fa : Addr
  fd : FuncData
  dV : Value
  N : List Str
  ps : List Str
  ls : List Str
  d : Df
structure Tab where
  es : List Ent
  gl : List (Str × Gk)
  bl : List Str
  fm : List Form
def Tab.ds (t : Tab) : List Df := t.es.map (·.d)
def Tab.cc (t : Tab) (e : Ent) : Cc := { N := e.N, sc := defScope e.st, ls := e.ls, gl := t.gl, bl := t.bl, fm := t.fm }
/-- the module is as the table says -/
structure TabOk (kx : Kx) (mg : Str → Option Value) (t : Tab) (n m : Nat) : Prop where
  con : ∀ x d, t.gl.lookup x = some (.con d) → ∃ v u, mg x = some u ∧ RelV v u ∧ ∀ Φ, Rep kx Φ v d
  bl : ∀ x, x ∈ t.bl → mg x = none
  fn : ∀ x i, t.gl.lookup x = some (.fn i) → ∃ e, t.es[i]? = some e ∧ mg x = some (.ref e.fa)
  fm : ∀ fm, fm ∈ t.fm → ∀ e, t.es[fm.f]? = some e → ∃ dV dW, Binds2 kx.K e.fd e.ps fm.ks fm.n fm.ks.length dW fm.pm ∧ Vals dV dW ∧ ∀ Φ, RepL kx Φ dV fm.df
  fun_ : ∀ e, e ∈ t.es → FunD kx.K e.x e.qual e.st e.fa e.fd e.dV
  sc : ∀ e, e ∈ t.es → FnScope e.N e.ps (defScope e.st)
  ls : ∀ e, e ∈ t.es → ∀ x, x ∈ e.ls → Loc (defScope e.st) x
  num : ∀ e, e ∈ t.es → e.d.n = e.N.length ∧ e.d.np = e.ps.length
  code : ∀ e, e ∈ t.es → compSs (compS n m (t.cc e)) (defBody e.st) = some e.d.body
section
variable {P : Program} {w : World} {kx : Kx} {mg : Str → Option Value} {base : Heap} {t : Tab} {n m : Nat}
def Lv (P : Program) (w : World) (kx : Kx) (mg : Str → Option Value) (base : Heap) (t : Tab) (k : Nat) : Prop :=
  ∀ i e, t.es[i]? = some e → FnG P w kx.K mg base k e.fa e.fd e.ps (spD kx (runP t.ds k i))
theorem spD_bad {vs : List V} {H : Hp} {Q : VK} {E : XK} {g : List Sl → CR} (h : spD kx g vs H Q E) (b : ∀ sl, g sl = .bad) : False := by
  obtain ⟨Φ, sl, h1, h2, h3⟩ := h
  rw [b] at h3
  exact h3
theorem lv_zero : Lv P w kx mg base t 0 := fun i e h => ⟨fun vs H Q E q => (spD_bad q fun _ => rfl).elim, fun A outer s H args us vs Q E _ _ _ _ _ q => (spD_bad q fun _ => rfl).elim⟩
theorem gd_of {k : Nat} (ok : TabOk kx mg t n m) (lv : Lv P w kx mg base t k) {e : Ent} (he : e ∈ t.es) {cdv : Value} {A : Around} {outer : List Env} {s : Shared} {H : Hp} {E : XK} {f : Fm} (hf : f.toKx = kx)
    (hr : Room k (A.deeper (envOfC e.qual (defScope e.st) s.heap.objs.size e.fa cdv))) (hg : A.guards = some []) :
    Gd (cxOf (L2.CX P w) P w kx.K mg base e.N e.qual (defScope e.st) e.fa cdv A outer s H E) f (fun cls dd _ H => E cls dd H) (t.cc e) (runP t.ds k) where
  spot := ⟨rfl, by have := hr.un; show (A.deeper _).units + 64 < cLine; omega, hg⟩
  eK := by rw [hf]; rfl
  eN := rfl
  nd := (ok.sc e he).nd
  sc := rfl
  kd := (ok.sc e he).kind
  st := fun x hx => ⟨ok.ls e he x hx, .inl rfl⟩
  tk := takes_of rfl rfl rfl rfl
  hp := passes_of rfl
  con := fun x d h => by
    obtain ⟨v, u, h1, h2, h3⟩ := ok.con x d h
    exact ⟨v, u, h1, h2, fun Φ _ => by rw [hf]; exact h3 Φ⟩
  bl := ok.bl
  fm := fun x i fm h1 h2 h3 => by
    obtain ⟨e', q1, q2⟩ := ok.fn x i h1
    obtain ⟨dV, dW, q3, q4, q5⟩ := ok.fm fm h2 e' (h3 ▸ q1)
    refine ⟨e'.fa, e'.fd, e'.ps, k, dV, dW, q2, (ok.fun_ e' (List.mem_of_getElem? q1)).kp, ?_, hr, q3, q4, fun Φ _ => by rw [hf]; exact q5 Φ⟩
    rw [hf]
    exact lv i e' q1
theorem lv_succ {k : Nat} (ok : TabOk kx mg t n m) (lv : Lv P w kx mg base t k) : Lv P w kx mg base t (k + 1) := fun i e h => by
  have he := List.mem_of_getElem? h
  have q := def_ok (P := P) (w := w) (mg := mg) (base := base) (cl := runP t.ds k) (kx := kx) (k := k) (ok.fun_ e he) (ok.sc e he) (ok.num e he).1 (ok.num e he).2 fun cdv A outer s H E fm hfm hr hg =>
    compSs_ok (compS_ok (gd_of ok lv he hfm hr hg) n m) (ok.code e he)
  have hd : t.ds[i]? = some e.d := by
    unfold Tab.ds
    rw [List.getElem?_map, h]
    rfl
  have e1 : runP t.ds (k + 1) i = fun sl => if sl.length = e.d.np then runD (runP t.ds k) e.d sl else .bad := by
    funext sl
    rw [runP]
    simp only [hd]
  rw [e1]
  exact q
theorem lv_all (ok : TabOk kx mg t n m) : ∀ k, Lv P w kx mg base t k
  | 0 => lv_zero
  | k + 1 => lv_succ ok (lv_all ok k)
end
end Pm
namespace Pm
open PySem PySem.Spec PyProof.Rows L2

/-- the script alone is known: as a list that stays as it is, if it is none of the module's own objects -/
def scrH (K : PySem.W.Frag) (a : Addr) (o : Obj) (xs : List V) : Hp := fun b => if b = a ∧ (K.lookup a).isNone = true then some (.frz o (.lst xs)) else none
theorem scrH_cases (K : PySem.W.Frag) (a : Addr) (o : Obj) (xs : List V) (b : Addr) : scrH K a o xs b = none ∨ (b = a ∧ K.lookup a = none ∧ scrH K a o xs b = some (.frz o (.lst xs))) := by
  by_cases h : b = a ∧ (K.lookup a).isNone = true
  · refine .inr ⟨h.1, by simpa using h.2, if_pos h⟩
  · exact .inl (if_neg h)
theorem spD_true {kx : Kx} {g : List Sl → CR} {a : Addr} {H : Hp} {ns : List Int} {outs : List Sl} (hs : SqL kx.K H a (ns.map V.int)) (hg : g [.fz true (.scr (ns.map D.int))] = .ret false (.bl true) outs) :
    spD kx g [.ref a] H (fun v _ => v = .bl true) fun _ _ _ => False := by
  have ri : ∀ ns : List Int, RepL kx H (ns.map V.int) (ns.map D.int) := fun ns => by
    induction ns with
    | nil => exact .nil
    | cons n r ih => exact .cons (.int n) ih
  refine ⟨H, [.fz true (.scr (ns.map D.int))], Same.refl H, ⟨rfl, fun j s hj => ?_, fun i j d d' b hi hj _ _ => ?_⟩, ?_⟩
  · match j, hj with
    | 0, hj =>
      cases hj
      exact ⟨.ref a, rfl, Rep.scr hs (ri ns)⟩
    | j + 1, hj => simp at hj
  · match i, hi with
    | 0, hi => cases hi
    | i + 1, hi => simp at hi
  · rw [hg]
    intro Φ' H' v _ r
    have r' : Rep kx Φ' v (.bl true) := by simpa [RV] using r
    cases r'
    rfl
section
variable {P : Program} {w : World} {K : PySem.W.Frag} {mg mb : Str → Option Value} {k : Nat} {fa a : Addr} {fd : FuncData} {x : Str} {sp : Sp} {s₁ : Shared} {vs : List Value} {ns : List Int}
theorem ints_vals : ∀ {vs : List Value} {ns : List Int}, IntsAre vs ns → Vals (ns.map V.int) vs := fun h => by
  induction h with
  | nil => exact .nil
  | cons n t _ ih => exact .cons ⟨t, rfl⟩ ih
theorem ground_call (hK : K.In s₁.heap) (hN : s₁.heap.Ns mainGlobals mg) (hB : s₁.heap.Ns builtinsNs mb) (hboot : ∀ y : Str, y ≠ "__name__" → mb y = bootBuiltins y) (hL : s₁.heap.NoLimit) (hg : s₁.gens = #[])
    (ha : s₁.heap.get? a = some { cls := .type "list", data := .seq vs.toArray }) (hi : IntsAre vs ns) (hl : ns.length ≤ sizeLine) (hr : Room k callerA) (hgd : callerA.guards = some [])
    (F : ∀ base : Heap, FnG P w K mg base k fa fd [x] sp) (hbind : ∀ (s : Shared) (u : Value), BindsTo s fd ⟨[u], []⟩ [(x, u)])
    (hsp : ∀ H : Hp, SqL K H a (ns.map V.int) → sp [.ref a] H (fun v _ => v = .bl true) fun _ _ _ => False) :
    codeAny (model P w) callerA (.call (.ref fa) ⟨[.ref a], []⟩) (fun r s' => r = .ok (.ret (.bool true)) ∧ OldK s₁.heap s'.heap ∧ s'.os = s₁.os ∧ AllBare s'.gens) s₁ := by
  have hv := ints_vals hi
  let o : Obj := { cls := .type "list", data := .seq vs.toArray }
  let H : Hp := scrH K a o (ns.map V.int)
  have cs := scrH_cases K a o (ns.map V.int)
  -- what stands on the heap and is no list is not known to H
  have off : ∀ {b : Addr} {ob : Obj}, s₁.heap.get? b = some ob → (∀ vs n, ob.data ≠ .seq vs n) → H b = none := fun {b ob} e n => by
    rcases cs b with z | ⟨rfl, _, _⟩
    · exact z
    · rw [ha] at e
      cases e
      exact (n _ _ rfl).elim
  have offK : ∀ {b : Addr} {ob : Obj}, K.lookup b = some ob → H b = none := fun {b ob} e => by
    rcases cs b with z | ⟨rfl, h, _⟩
    · exact z
    · rw [h] at e; cases e
  have names : ∀ {b : Addr} {m : Str → Option Value}, s₁.heap.Ns b m → (hidT s₁.heap H).Ns b m := fun {b m} ⟨ob, es, ep, e, d, z⟩ =>
    ⟨ob, es, ep, hidT_get e (off e fun vs n q => by rw [d] at q; cases q), d, z⟩
  have hM : Mod K mg (hidT s₁.heap H) := by
    obtain ⟨mc, q1, q2⟩ := hL
    exact { kin := fun b ob e => hidT_get (hK b ob e) (offK e), glob := names hN, blt := ⟨mb, names hB, hboot⟩, nolimit := ⟨mc, names q1, q2⟩ }
  have lens : (ns.map V.int).length ≤ sizeLine := by rw [List.length_map]; exact hl
  have hok : HOk P w H s₁.heap := fun b u z => by
    rcases cs b with q | ⟨rfl, _, q⟩
    · exact absurd (q.symm.trans z) (by intro n; cases n)
    · cases q.symm.trans z
      exact ⟨ha, lens, vs, _, hv, ha⟩
  have hS : SqL K H a (ns.map V.int) := by
    cases q : K.lookup a with
    | none =>
      have z : H a = some (.frz o (.lst (ns.map V.int))) := if_pos ⟨rfl, by rw [q]; rfl⟩
      exact .inl (.inr ⟨o, z⟩)
    | some ob =>
      cases ha.symm.trans (hK a ob q)
      refine .inr ⟨_, vs.toArray, _, q, rfl, rfl, rfl, ?_, by simpa using hv⟩
      rw [List.size_toArray, hi.length]
      exact hl
  have e0 : Env0 P w K mg (hidT s₁.heap H) callerA [] s₁ H :=
    { frames := rfl, mod := hM, bs := fun _ _ e => of_hidT e, bsz := Nat.le_of_eq (hidT_size _ _), funs := trivial, frf := fun _ q => (nomatch q), hok := hok, bare := .of_eq hg }
  have run := (F (hidT s₁.heap H)).run callerA [] s₁ H ⟨[.ref a], []⟩ [.ref a] [.ref a] _ _ hr hgd e0 (hbind s₁ (.ref a)) (.cons rfl .nil) (hsp H hS)
  refine codeAny_mono run fun r s' z => ?_
  rcases r with e | fl
  · obtain ⟨_, _, _, _, _, _, _, _, _, _, _, _, no⟩ := z
    exact no.elim
  · cases fl with
    | ret u =>
      obtain ⟨v, H', os, bare, un, hok', rv, q⟩ := z
      subst q
      cases rv
      refine ⟨rfl, OldK.of_keep fun b ob e => ?_, os, bare⟩
      rcases cs b with q | ⟨rfl, _, q⟩
      · exact un.keep b ob e q (fun n => nomatch n) fun n => nomatch n
      · cases ha.symm.trans e
        exact (hok' b _ (un.frzs b _ _ q)).1
    | _ => exact False.elim z
end
/-- the law's row from the table of its program: what the evaluator says of the law is all that is left -/
theorem walk_pm {l : PySem.W.OpenLaw} {n k n1 n2 : Nat} {q : Program} {loose : List Str} {XP : (Str → Option Value) → Heap → Prop} {YP : World → Heap → Prop} {d : DefRec} {K : Params → PySem.W.Frag} {x : Str}
    (hn : l.most = some n) (hn2 : n ≤ sizeLine) (hdf : d.params.defaults = []) (hr : Room k callerA) (hgd : callerA.guards = some []) (hY : ∀ (w : World) (h : Heap), YP w h → (K w.params).In h)
    (F : ∀ (w : World) (mg : Str → Option Value) (fa : Addr) (h : Heap), (K w.params).In h → h.Ns mainGlobals mg → mg d.name = some (.ref fa) →
      ∃ (ca : Nat → Addr) (t : Tab) (i : Nat) (e : Ent), TabOk ⟨K w.params, ca⟩ mg t n1 n2 ∧ t.es[i]? = some e ∧ e.fa = fa ∧ e.ps = [x] ∧ (∀ (s : Shared) (u : Value), BindsTo s e.fd ⟨[u], []⟩ [(x, u)]) ∧
        ∀ ns : List Int, ns.length ≤ n → ∃ outs, runP t.ds k i [.fz true (.scr (ns.map D.int))] = .ret false (.bl true) outs) :
    PySem.W.WalkO q loose XP YP l.row.toRowW d [] (fun f vs => PySem.call f vs) := by
  refine Att.attach_call hn hdf fun w s₀ s₁ mg mb fa o pm cd doc a vs ns G Y ho hd hcd hmg hobj hints hlen hg => ?_
  have hK := hY w _ Y
  obtain ⟨ca, t, i, e, ok, he, rfl, hps, hb, law⟩ := F w mg fa _ hK G.T.g hmg
  obtain ⟨outs, ho⟩ := law ns hlen
  refine ground_call hK G.T.g G.T.b G.T.builtins G.T.nolimit hg hobj hints (Nat.le_trans hlen hn2) hr hgd (sp := spD ⟨K w.params, ca⟩ (runP t.ds k i)) (fun base => ?_) hb fun H hS => spD_true (kx := ⟨K w.params, ca⟩) hS ho
  rw [← hps]
  exact lv_all ok k i e he
theorem fun_of {K : PySem.W.Frag} {x qual : Str} {st : Stmt} {f : Addr} {oc : Value} {od an : Option Addr} {osl : Array (Option Value)} {dV kV doc pm cdv ct : Value}
    (l : K.lookup f = some ⟨oc, od, .func (PySem.W.fnOf x qual (defArgs st) (defBody st) (defScope st) dV kV doc pm an cdv ct), osl⟩) (c : PySem.W.codeIn K cdv qual = true) (k : PySem.W.keepIn K (.ref f) = true) :
    FunD K x qual st f (PySem.W.fnOf x qual (defArgs st) (defBody st) (defScope st) dV kV doc pm an cdv ct) dV := ⟨⟨oc, od, kV, doc, pm, an, cdv, ct, osl, rfl, l, c⟩, k⟩
/-- the module's names, one by one -/
def GlOk (kx : Kx) (mg : Str → Option Value) (es : List Ent) (p : Str × Gk) : Prop := match p.2 with
  | .con d => ∃ v u, mg p.1 = some u ∧ RelV v u ∧ ∀ Φ, Rep kx Φ v d
  | .fn i => ∃ e, es[i]? = some e ∧ mg p.1 = some (.ref e.fa)
def EntOk (K : PySem.W.Frag) (t : Tab) (n m : Nat) (e : Ent) : Prop :=
  FunD K e.x e.qual e.st e.fa e.fd e.dV ∧ FnScope e.N e.ps (defScope e.st) ∧ (∀ x, x ∈ e.ls → L2.Loc (defScope e.st) x) ∧ (e.d.n = e.N.length ∧ e.d.np = e.ps.length) ∧ compSs (compS n m (t.cc e)) (defBody e.st) = some e.d.body
def FmOk (kx : Kx) (es : List Ent) (fm : Form) : Prop :=
  ∀ e, es[fm.f]? = some e → ∃ dV dW, Binds2 kx.K e.fd e.ps fm.ks fm.n fm.ks.length dW fm.pm ∧ Vals dV dW ∧ ∀ Φ, RepL kx Φ dV fm.df
theorem tab_of {kx : Kx} {mg : Str → Option Value} {t : Tab} {n m : Nat} (g : ∀ p, p ∈ t.gl → GlOk kx mg t.es p) (b : ∀ x, x ∈ t.bl → mg x = none) (f : ∀ fm, fm ∈ t.fm → FmOk kx t.es fm) (e : ∀ e, e ∈ t.es → EntOk kx.K t n m e) : TabOk kx mg t n m where
  con := fun x d h => g (x, .con d) (PySem.mem_of_lookup h)
  bl := b
  fn := fun x i h => g (x, .fn i) (PySem.mem_of_lookup h)
  fm := f
  fun_ := fun x h => (e x h).1
  sc := fun x h => (e x h).2.1
  ls := fun x h => (e x h).2.2.1
  num := fun x h => (e x h).2.2.2.1
  code := fun x h => (e x h).2.2.2.2
theorem all_nil {α : Type} {p : α → Prop} : ∀ x, x ∈ ([] : List α) → p x := fun _ h => nomatch h
theorem all_cons {α : Type} {p : α → Prop} {a : α} {l : List α} (h : p a) (r : ∀ x, x ∈ l → p x) : ∀ x, x ∈ a :: l → p x := fun x hx => by
  rcases List.mem_cons.mp hx with e | e
  · rw [e]; exact h
  · exact r x e
end Pm
namespace Pm
open PySem L2

/-- it ends well, and then Q -/
def Rn {α : Type} (m : M α) (σ : Ev) (Q : α → Ev → Prop) : Prop := ∃ a σ', m σ = .ok a σ' ∧ Q a σ'
section
variable {α β : Type} {σ : Ev} {cl : Cl}
theorem rn_pure {a : α} {Q : α → Ev → Prop} : Rn (M.pure a) σ Q = Q a σ := propext ⟨fun ⟨_, _, h, q⟩ => by cases h; exact q, fun q => ⟨_, _, rfl, q⟩⟩
theorem rn_bad {Q : α → Ev → Prop} : Rn (M.bad : M α) σ Q = False := propext ⟨fun ⟨_, _, h, _⟩ => (nomatch h), fun q => False.elim q⟩
theorem rn_ok {m : M α} {a : α} {σ' : Ev} {Q : α → Ev → Prop} (h : m σ = .ok a σ') : Rn m σ Q = Q a σ' := propext ⟨fun ⟨_, _, h', q⟩ => by rw [h] at h'; cases h'; exact q, fun q => ⟨_, _, h, q⟩⟩
theorem rn_no {m : M α} {Q : α → Ev → Prop} (h : m σ = .bad) : Rn m σ Q = False := propext ⟨fun ⟨_, _, h', _⟩ => (nomatch h.symm.trans h'), fun q => False.elim q⟩
theorem rn_bind {m : M α} {f : α → M β} {Q : β → Ev → Prop} : Rn (M.bind m f) σ Q = Rn m σ fun a σ' => Rn (f a) σ' Q := by
  refine propext ⟨fun ⟨b, σ2, h, q⟩ => ?_, fun ⟨a, σ1, h1, b, σ2, h2, q⟩ => ⟨b, σ2, ?_, q⟩⟩
  · unfold M.bind at h
    cases e : m σ with
    | ok a σ1 => rw [e] at h; exact ⟨a, σ1, e, b, σ2, h, q⟩
    | ex x σ1 => rw [e] at h; cases h
    | bad => rw [e] at h; cases h
  · unfold M.bind
    rw [h1]
    exact h2
theorem Rn.mono {m : M α} {Q Q' : α → Ev → Prop} (h : Rn m σ Q) (i : ∀ a σ', Q a σ' → Q' a σ') : Rn m σ Q' := by
  obtain ⟨a, σ1, h1, q⟩ := h
  exact ⟨a, σ1, h1, i _ _ q⟩

/-- a value's content -/
def cont : Option Sl → Option D
  | some (.ow _ d) => some d
  | some (.fz _ d) => some d
  | _ => none
theorem cont_ow {l : Bool} {d : D} : cont (some (.ow l d)) = some d := rfl
theorem cont_fz {l : Bool} {d : D} : cont (some (.fz l d)) = some d := rfl
def pk : KD → Ev → Option D
  | (.sl i, _), σ => cont σ[i]?
  | (_, d), _ => some d
theorem pk_fz {d : D} : pk (.fz, d) σ = some d := rfl
theorem pk_fr {d : D} : pk (.fr, d) σ = some d := rfl
theorem pk_sl {i : Nat} {d : D} : pk (.sl i, d) σ = cont σ[i]? := rfl
def onP (o : Option D) (Q : D → Prop) : Prop := ∃ d, o = some d ∧ Q d
theorem peek_pk {x : KD} : peek x σ = match pk x σ with | some d => .ok d σ | none => .bad := by
  obtain ⟨k, d⟩ := x
  cases k with
  | fz => rfl
  | fr => rfl
  | sl i =>
    show (match σ[i]? with | some (.ow _ d) => R.ok d σ | some (.fz _ d) => .ok d σ | _ => .bad) = match cont σ[i]? with | some d => R.ok d σ | none => .bad
    cases σ[i]? with
    | none => rfl
    | some s => cases s <;> rfl
theorem rn_peek {x : KD} {Q : D → Ev → Prop} : Rn (peek x) σ Q = match pk x σ with | some d => Q d σ | none => False := by
  have h := peek_pk (x := x) (σ := σ)
  cases e : pk x σ with
  | some d => rw [e] at h; exact rn_ok h
  | none => rw [e] at h; exact rn_no h
/-- an operation's outcome -/
def oU : Out → (KD → Ev → Prop) → Ev → Prop
  | some (true, d), Q, σ => Q (.fr, d) σ
  | some (false, d), Q, σ => Q (.fz, d) σ
  | none, _, _ => False
theorem oU_t {d : D} {Q : KD → Ev → Prop} : oU (some (true, d)) Q σ = Q (.fr, d) σ := rfl
theorem oU_f {d : D} {Q : KD → Ev → Prop} : oU (some (false, d)) Q σ = Q (.fz, d) σ := rfl
theorem oU_n {Q : KD → Ev → Prop} : oU none Q σ = False := rfl
theorem oU_if {c : Prop} [Decidable c] {o : Out} {Q : KD → Ev → Prop} : oU (if c then o else none) Q σ = (c ∧ oU o Q σ) := by
  by_cases h : c
  · simp [h]
  · simp [h, oU]
theorem oU_map {o : Option α} {f : α → Bool × D} {Q : KD → Ev → Prop} : oU (o.map f) Q σ = ∃ a, o = some a ∧ oU (some (f a)) Q σ := by
  cases o with
  | none => simp [oU]
  | some a => simp
theorem rn_out {o : Out} {Q : KD → Ev → Prop} : Rn (out o) σ Q = oU o Q σ := by
  cases o with
  | none => exact rn_bad
  | some x =>
    obtain ⟨b, d⟩ := x
    cases b <;> exact rn_pure
/-- an option's -/
def oV : Option α → (α → Ev → Prop) → Ev → Prop
  | some a, Q, σ => Q a σ
  | none, _, _ => False
theorem oV_s {a : α} {Q : α → Ev → Prop} : oV (some a) Q σ = Q a σ := rfl
theorem oV_n {Q : α → Ev → Prop} : oV none Q σ = False := rfl
theorem oV_if {c : Prop} [Decidable c] {o : Option α} {Q : α → Ev → Prop} : oV (if c then o else none) Q σ = (c ∧ oV o Q σ) := by
  by_cases h : c
  · simp [h]
  · simp [h, oV]
theorem oV_map {o : Option α} {f : α → β} {Q : β → Ev → Prop} : oV (o.map f) Q σ = oV o (fun a σ' => Q (f a) σ') σ := by
  cases o <;> rfl
theorem rn_opt {o : Option α} {Q : α → Ev → Prop} : Rn (opt o) σ Q = oV o Q σ := by
  cases o with
  | none => exact rn_bad
  | some x => exact rn_pure

variable {Q : KD → Ev → Prop} {QT : Bool → Ev → Prop}
theorem rv_var {i : Nat} : Rn (ev cl (.var i)) σ Q = match σ[i]? with | some (.fz _ d) => Q (.fz, d) σ | some (.ow _ d) => Q (.sl i, d) σ | _ => False := by
  rw [ev]
  cases e : σ[i]? with
  | none => exact rn_no (by simp only [e])
  | some s =>
    cases s with
    | no => exact rn_no (by simp only [e])
    | fz l d => exact rn_ok (by simp only [e])
    | ow l d => exact rn_ok (by simp only [e])
theorem rv_con {d : D} : Rn (ev cl (.con d)) σ Q = Q (.fz, d) σ := by rw [ev]; exact rn_pure
def bO (op : Operator) : Option D → Option D → Out
  | some x, some y => bop op x y
  | _, _ => none
theorem bO_s {op : Operator} {x y : D} : bO op (some x) (some y) = bop op x y := rfl
def kBin2 (op : Operator) (x : KD) (Q : KD → Ev → Prop) (y : KD) (σ : Ev) : Prop := oU (bO op (pk x σ) (pk y σ)) Q σ
def kBin1 (cl : Cl) (op : Operator) (b : E) (Q : KD → Ev → Prop) (x : KD) (σ : Ev) : Prop := Rn (ev cl b) σ (kBin2 op x Q)
theorem rv_bin {op : Operator} {a b : E} : Rn (ev cl (.bin op a b)) σ Q = Rn (ev cl a) σ (kBin1 cl op b Q) := by
  rw [ev, rn_bind]
  congr 1; funext x σ1
  rw [rn_bind]
  show _ = Rn (ev cl b) σ1 (kBin2 op x Q)
  congr 1; funext y σ2
  rw [rn_bind, rn_peek]
  unfold kBin2
  cases pk x σ2 with
  | none => cases pk y σ2 <;> rfl
  | some dx =>
    show Rn (M.bind (peek y) _) σ2 Q = _
    rw [rn_bind, rn_peek]
    cases pk y σ2 with
    | none => rfl
    | some dy => exact rn_out
def nO : Option D → Out
  | some (.int i) => some (false, .int (-i))
  | _ => none
def kNeg (Q : KD → Ev → Prop) (x : KD) (σ : Ev) : Prop := oU (nO (pk x σ)) Q σ
theorem rv_neg {a : E} : Rn (ev cl (.neg a)) σ Q = Rn (ev cl a) σ (kNeg Q) := by
  rw [ev, rn_bind]
  congr 1; funext x σ1
  rw [rn_bind, rn_peek]
  unfold kNeg
  cases pk x σ1 with
  | none => rfl
  | some d => cases d <;> first | exact rn_pure | exact rn_bad
def tO : Option D → Option Bool
  | some d => truth d
  | none => none
theorem tO_s {d : D} : tO (some d) = truth d := rfl
def kNot2 (Q : KD → Ev → Prop) (b : Bool) (σ : Ev) : Prop := Q (.fz, .bl (!b)) σ
def kNot (Q : KD → Ev → Prop) (x : KD) (σ : Ev) : Prop := oV (tO (pk x σ)) (kNot2 Q) σ
theorem rv_not {a : E} : Rn (ev cl (.not a)) σ Q = Rn (ev cl a) σ (kNot Q) := by
  rw [ev, rn_bind]
  congr 1; funext x σ1
  rw [rn_bind, rn_peek]
  unfold kNot
  cases pk x σ1 with
  | none => rfl
  | some d =>
    show Rn (M.bind (opt (truth d)) _) σ1 Q = oV (truth d) (kNot2 Q) σ1
    rw [rn_bind, rn_opt]
    cases truth d with
    | none => rfl
    | some t => exact rn_pure
def kAnd2 (cl : Cl) (b : E) (x : KD) (Q : KD → Ev → Prop) (t : Bool) (σ : Ev) : Prop := if t = true then Rn (ev cl b) σ Q else Q (soft x) σ
def kAnd (cl : Cl) (b : E) (Q : KD → Ev → Prop) (x : KD) (σ : Ev) : Prop := oV (tO (pk x σ)) (kAnd2 cl b x Q) σ
theorem rv_and {a b : E} : Rn (ev cl (.and a b)) σ Q = Rn (ev cl a) σ (kAnd cl b Q) := by
  rw [ev, rn_bind]
  congr 1; funext x σ1
  rw [rn_bind, rn_peek]
  unfold kAnd
  cases pk x σ1 with
  | none => rfl
  | some d =>
    show Rn (M.bind (opt (truth d)) _) σ1 Q = oV (truth d) (kAnd2 cl b x Q) σ1
    rw [rn_bind, rn_opt]
    cases truth d with
    | none => rfl
    | some t =>
      cases t with
      | true => rfl
      | false => exact rn_pure
def kOr2 (cl : Cl) (b : E) (x : KD) (Q : KD → Ev → Prop) (t : Bool) (σ : Ev) : Prop := if t = true then Q (soft x) σ else Rn (ev cl b) σ Q
def kOr (cl : Cl) (b : E) (Q : KD → Ev → Prop) (x : KD) (σ : Ev) : Prop := oV (tO (pk x σ)) (kOr2 cl b x Q) σ
theorem rv_or {a b : E} : Rn (ev cl (.or a b)) σ Q = Rn (ev cl a) σ (kOr cl b Q) := by
  rw [ev, rn_bind]
  congr 1; funext x σ1
  rw [rn_bind, rn_peek]
  unfold kOr
  cases pk x σ1 with
  | none => rfl
  | some d =>
    show Rn (M.bind (opt (truth d)) _) σ1 Q = oV (truth d) (kOr2 cl b x Q) σ1
    rw [rn_bind, rn_opt]
    cases truth d with
    | none => rfl
    | some t =>
      cases t with
      | false => rfl
      | true => exact rn_pure
def kIte (cl : Cl) (a b : E) (Q : KD → Ev → Prop) (t : Bool) (σ : Ev) : Prop := if t = true then Rn (ev cl a) σ Q else Rn (ev cl b) σ Q
theorem rv_ite {c a b : E} : Rn (ev cl (.ite c a b)) σ Q = Rn (evT cl c) σ (kIte cl a b Q) := by
  rw [ev, rn_bind]
  congr 1; funext t σ1
  cases t <;> rfl
def cO (op : CmpOp) : Option D → Option D → Option Bool
  | some x, some y => cop op x y
  | _, _ => none
theorem cO_s {op : CmpOp} {x y : D} : cO op (some x) (some y) = cop op x y := rfl
def kBl (Q : KD → Ev → Prop) (t : Bool) (σ : Ev) : Prop := Q (.fz, .bl t) σ
def kCmp2 (op : CmpOp) (x : KD) (Q : KD → Ev → Prop) (y : KD) (σ : Ev) : Prop := oV (cO op (pk x σ) (pk y σ)) (kBl Q) σ
def kCmp1 (cl : Cl) (op : CmpOp) (b : E) (Q : KD → Ev → Prop) (x : KD) (σ : Ev) : Prop := Rn (ev cl b) σ (kCmp2 op x Q)
theorem rn_cO {op : CmpOp} {x y : KD} {f : Bool → M β} {QB : β → Ev → Prop} : Rn (M.bind (peek x) fun dx => M.bind (peek y) fun dy => M.bind (opt (cop op dx dy)) f) σ QB = oV (cO op (pk x σ) (pk y σ)) (fun t σ' => Rn (f t) σ' QB) σ := by
  rw [rn_bind, rn_peek]
  cases pk x σ with
  | none => cases pk y σ <;> rfl
  | some dx =>
    show Rn (M.bind (peek y) _) σ QB = _
    rw [rn_bind, rn_peek]
    cases pk y σ with
    | none => rfl
    | some dy =>
      show Rn (M.bind (opt _) _) σ QB = _
      rw [rn_bind, rn_opt]
      rfl
theorem rv_cmp {op : CmpOp} {a b : E} : Rn (ev cl (.cmp op a b)) σ Q = Rn (ev cl a) σ (kCmp1 cl op b Q) := by
  rw [ev, rn_bind]
  congr 1; funext x σ1
  rw [rn_bind]
  show _ = Rn (ev cl b) σ1 (kCmp2 op x Q)
  congr 1; funext y σ2
  rw [rn_cO]
  show oV _ _ σ2 = oV _ (kBl Q) σ2
  congr 1; funext t σ3
  exact rn_pure
def kCh4 (op' : CmpOp) (y : KD) (Q : KD → Ev → Prop) (z : KD) (σ : Ev) : Prop := oV (cO op' (pk y σ) (pk z σ)) (kBl Q) σ
def kCh3 (cl : Cl) (op' : CmpOp) (c : E) (y : KD) (Q : KD → Ev → Prop) (t : Bool) (σ : Ev) : Prop := if t = true then Rn (ev cl c) σ (kCh4 op' y Q) else Q (.fz, .bl false) σ
def kCh2 (cl : Cl) (op op' : CmpOp) (c : E) (x : KD) (Q : KD → Ev → Prop) (y : KD) (σ : Ev) : Prop := oV (cO op (pk x σ) (pk y σ)) (kCh3 cl op' c y Q) σ
def kCh1 (cl : Cl) (op op' : CmpOp) (b c : E) (Q : KD → Ev → Prop) (x : KD) (σ : Ev) : Prop := Rn (ev cl b) σ (kCh2 cl op op' c x Q)
theorem rv_chain {op op' : CmpOp} {a b c : E} : Rn (ev cl (.chain op op' a b c)) σ Q = Rn (ev cl a) σ (kCh1 cl op op' b c Q) := by
  rw [ev, rn_bind]
  congr 1; funext x σ1
  rw [rn_bind]
  show _ = Rn (ev cl b) σ1 (kCh2 cl op op' c x Q)
  congr 1; funext y σ2
  rw [rn_cO]
  show oV _ _ σ2 = oV _ (kCh3 cl op' c y Q) σ2
  congr 1; funext t σ3
  cases t with
  | false => exact rn_pure
  | true =>
    show Rn (M.bind (ev cl c) _) σ3 Q = Rn (ev cl c) σ3 (kCh4 op' y Q)
    rw [rn_bind]
    congr 1; funext z σ4
    rw [rn_cO]
    show oV _ _ σ4 = oV _ (kBl Q) σ4
    congr 1; funext t σ5
    exact rn_pure
def frz : KD → Ev → Option (D × Ev)
  | (.sl i, _), σ => match σ[i]? with
    | some (.ow l d) => some (d, σ.set i (.fz l d))
    | some (.fz _ d) => some (d, σ)
    | _ => none
  | (_, d), σ => some (d, σ)
theorem frz_fz {d : D} : frz (.fz, d) σ = some (d, σ) := rfl
theorem frz_fr {d : D} : frz (.fr, d) σ = some (d, σ) := rfl
theorem frz_sl {i : Nat} {d : D} : frz (.sl i, d) σ = match σ[i]? with
    | some (.ow l d) => some (d, σ.set i (.fz l d))
    | some (.fz _ d) => some (d, σ)
    | _ => none := rfl
def oF : Option (D × Ev) → (D → Ev → Prop) → Prop
  | some (d, σ), Q => Q d σ
  | none, _ => False
theorem oF_s {d : D} {Q : D → Ev → Prop} : oF (some (d, σ)) Q = Q d σ := rfl
theorem rn_frz {x : KD} {Q : D → Ev → Prop} : Rn (freeze x) σ Q = oF (frz x σ) Q := by
  obtain ⟨k, d⟩ := x
  cases k with
  | fz => exact rn_pure
  | fr => exact rn_pure
  | sl i =>
    rw [frz_sl]
    cases e : σ[i]? with
    | none => exact rn_no (by simp only [freeze, e])
    | some s =>
      cases s with
      | no => exact rn_no (by simp only [freeze, e])
      | fz l d => exact rn_ok (by simp only [freeze, e])
      | ow l d => exact rn_ok (by simp only [freeze, e])
def kCons (d : D) (QL : List D → Ev → Prop) (ds : List D) (σ : Ev) : Prop := QL (d :: ds) σ
def kEs2 (cl : Cl) (es : List E) (QL : List D → Ev → Prop) (d : D) (σ : Ev) : Prop := Rn (evs cl es) σ (kCons d QL)
def kEs (cl : Cl) (es : List E) (QL : List D → Ev → Prop) (x : KD) (σ : Ev) : Prop := oF (frz x σ) (kEs2 cl es QL)
theorem rs_nil {QL : List D → Ev → Prop} : Rn (evs cl []) σ QL = QL [] σ := by rw [evs]; exact rn_pure
theorem rs_cons {e : E} {es : List E} {QL : List D → Ev → Prop} : Rn (evs cl (e :: es)) σ QL = Rn (ev cl e) σ (kEs cl es QL) := by
  rw [evs, rn_bind]
  congr 1; funext x σ1
  rw [rn_bind, rn_frz]
  show oF _ _ = oF _ (kEs2 cl es QL)
  congr 1; funext d σ2
  rw [rn_bind]
  show _ = Rn (evs cl es) σ2 (kCons d QL)
  congr 1; funext ds σ3
  exact rn_pure
def kLst (Q : KD → Ev → Prop) (ds : List D) (σ : Ev) : Prop := line ds.length = true ∧ Q (.fr, .lst ds) σ
def kTup (Q : KD → Ev → Prop) (ds : List D) (σ : Ev) : Prop := line ds.length = true ∧ Q (.fz, .tup ds) σ
theorem rv_lst {es : List E} : Rn (ev cl (.lst es)) σ Q = Rn (evs cl es) σ (kLst Q) := by
  rw [ev, rn_bind]
  congr 1; funext ds σ1
  by_cases h : line ds.length = true
  · simp only [h, if_true, kLst, true_and]; exact rn_pure
  · simp only [h, kLst]
    simp [rn_bad]
theorem rv_tup {es : List E} : Rn (ev cl (.tup es)) σ Q = Rn (evs cl es) σ (kTup Q) := by
  rw [ev, rn_bind]
  congr 1; funext ds σ1
  by_cases h : line ds.length = true
  · simp only [h, if_true, kTup, true_and]; exact rn_pure
  · simp only [h, kTup]
    simp [rn_bad]
def kConsP (x : KD) (QP : List KD → Ev → Prop) (xs : List KD) (σ : Ev) : Prop := QP (soft x :: xs) σ
def kPs (cl : Cl) (es : List E) (QP : List KD → Ev → Prop) (x : KD) (σ : Ev) : Prop := Rn (evPs cl es) σ (kConsP x QP)
theorem rp_nil {QP : List KD → Ev → Prop} : Rn (evPs cl []) σ QP = QP [] σ := by rw [evPs]; exact rn_pure
theorem rp_cons {e : E} {es : List E} {QP : List KD → Ev → Prop} : Rn (evPs cl (e :: es)) σ QP = Rn (ev cl e) σ (kPs cl es QP) := by
  rw [evPs, rn_bind]
  congr 1; funext x σ1
  rw [rn_bind]
  show _ = Rn (evPs cl es) σ1 (kConsP x QP)
  congr 1; funext xs σ2
  exact rn_pure
def xO : Option D → Option D → Option D
  | some x, some y => ixd x y
  | _, _ => none
theorem xO_s {x y : D} : xO (some x) (some y) = ixd x y := rfl
def kFz (Q : KD → Ev → Prop) (d : D) (σ : Ev) : Prop := Q (.fz, d) σ
def kIx2 (x : KD) (Q : KD → Ev → Prop) (y : KD) (σ : Ev) : Prop := oV (xO (pk x σ) (pk y σ)) (kFz Q) σ
def kIx1 (cl : Cl) (i : E) (Q : KD → Ev → Prop) (x : KD) (σ : Ev) : Prop := Rn (ev cl i) σ (kIx2 x Q)
theorem rv_ix {a i : E} : Rn (ev cl (.ix a i)) σ Q = Rn (ev cl a) σ (kIx1 cl i Q) := by
  rw [ev, rn_bind]
  congr 1; funext x σ1
  rw [rn_bind]
  show _ = Rn (ev cl i) σ1 (kIx2 x Q)
  congr 1; funext y σ2
  rw [rn_bind, rn_peek]
  unfold kIx2
  cases pk x σ2 with
  | none => cases pk y σ2 <;> rfl
  | some dx =>
    show Rn (M.bind (peek y) _) σ2 Q = _
    rw [rn_bind, rn_peek]
    cases pk y σ2 with
    | none => rfl
    | some dy =>
      show Rn (M.bind (opt (ixd dx dy)) _) σ2 Q = oV (ixd dx dy) (kFz Q) σ2
      rw [rn_bind, rn_opt]
      congr 1; funext d σ3
      exact rn_pure
def iO : Option D → Option Int
  | some (.int i) => some i
  | _ => none
def kO (QO : Option Int → Ev → Prop) (x : KD) (σ : Ev) : Prop := oV (iO (pk x σ)) (fun i σ' => QO (some i) σ') σ
theorem ro_none {QO : Option Int → Ev → Prop} : Rn (evO cl (.con .non)) σ QO = QO none σ := by rw [evO.eq_1]; exact rn_pure
theorem ro_some {e : E} {QO : Option Int → Ev → Prop} (h : e ≠ .con .non) : Rn (evO cl e) σ QO = Rn (ev cl e) σ (kO QO) := by
  rw [evO.eq_2 cl e h, rn_bind]
  congr 1; funext x σ1
  rw [rn_bind, rn_peek]
  unfold kO
  cases pk x σ1 with
  | none => rfl
  | some d =>
    show Rn (M.bind (opt (intD d)) _) σ1 QO = _
    rw [rn_bind, rn_opt]
    cases d <;> first | exact rn_pure | rfl
def sO (x : Option D) (l h : Option Int) : Out := match x with
  | some d => slcd d l h
  | none => none
theorem sO_s {d : D} {l h : Option Int} : sO (some d) l h = slcd d l h := rfl
def kSl3 (x : KD) (l : Option Int) (Q : KD → Ev → Prop) (h : Option Int) (σ : Ev) : Prop := oU (sO (pk x σ) l h) Q σ
def kSl2 (cl : Cl) (hi : E) (x : KD) (Q : KD → Ev → Prop) (l : Option Int) (σ : Ev) : Prop := Rn (evO cl hi) σ (kSl3 x l Q)
def kSl1 (cl : Cl) (lo hi : E) (Q : KD → Ev → Prop) (x : KD) (σ : Ev) : Prop := Rn (evO cl lo) σ (kSl2 cl hi x Q)
theorem rv_slc {a lo hi : E} : Rn (ev cl (.slc a lo hi)) σ Q = Rn (ev cl a) σ (kSl1 cl lo hi Q) := by
  rw [ev, rn_bind]
  congr 1; funext x σ1
  rw [rn_bind]
  show _ = Rn (evO cl lo) σ1 (kSl2 cl hi x Q)
  congr 1; funext l σ2
  rw [rn_bind]
  show _ = Rn (evO cl hi) σ2 (kSl3 x l Q)
  congr 1; funext u σ3
  rw [rn_bind, rn_peek]
  unfold kSl3
  cases pk x σ3 with
  | none => rfl
  | some d => exact rn_out
def rO : Option D → Out
  | some (.lst xs) => some (true, .lst xs.reverse)
  | _ => none
def kRev (Q : KD → Ev → Prop) (x : KD) (σ : Ev) : Prop := oU (rO (pk x σ)) Q σ
theorem rv_rev {a : E} : Rn (ev cl (.rev a)) σ Q = Rn (ev cl a) σ (kRev Q) := by
  rw [ev, rn_bind]
  congr 1; funext x σ1
  rw [rn_bind, rn_peek]
  unfold kRev
  cases pk x σ1 with
  | none => rfl
  | some d => cases d <;> first | exact rn_pure | exact rn_bad
def pks : List KD → Ev → Option (List D)
  | [], _ => some []
  | x :: xs, σ => (pk x σ).bind fun d => (pks xs σ).map (d :: ·)
theorem rn_peeks : ∀ {xs : List KD} {QL : List D → Ev → Prop}, Rn (peeks xs) σ QL = oV (pks xs σ) QL σ
  | [], QL => rn_pure
  | x :: xs, QL => by
    rw [peeks, rn_bind, rn_peek]
    unfold pks
    cases pk x σ with
    | none => rfl
    | some d =>
      show Rn (M.bind (peeks xs) _) σ QL = oV ((pks xs σ).map (d :: ·)) QL σ
      rw [rn_bind, rn_peeks, oV_map]
      congr 1; funext ds σ1
      exact rn_pure
def bbO (f : String) : Option (List D) → Out
  | some ds => bid f ds
  | none => none
theorem bbO_s {f : String} {ds : List D} : bbO f (some ds) = bid f ds := rfl
def kBi (f : String) (Q : KD → Ev → Prop) (xs : List KD) (σ : Ev) : Prop := oU (bbO f (pks xs σ)) Q σ
theorem rv_bi {f : String} {es : List E} : Rn (ev cl (.bi f es)) σ Q = Rn (evPs cl es) σ (kBi f Q) := by
  rw [ev, rn_bind]
  congr 1; funext xs σ1
  rw [rn_bind, rn_peeks]
  unfold kBi
  cases pks xs σ1 with
  | none => rfl
  | some ds => exact rn_out
def isO (ty : String) : Option D → Option Bool
  | some d => isid d ty
  | none => none
theorem isO_s {ty : String} {d : D} : isO ty (some d) = isid d ty := rfl
def kIsi (ty : String) (Q : KD → Ev → Prop) (x : KD) (σ : Ev) : Prop := oV (isO ty (pk x σ)) (kBl Q) σ
theorem rv_isi {a : E} {ty : String} : Rn (ev cl (.isi a ty)) σ Q = Rn (ev cl a) σ (kIsi ty Q) := by
  rw [ev, rn_bind]
  congr 1; funext x σ1
  rw [rn_bind, rn_peek]
  unfold kIsi
  cases pk x σ1 with
  | none => rfl
  | some d =>
    show Rn (M.bind (opt (isid d ty)) _) σ1 Q = oV (isid d ty) (kBl Q) σ1
    rw [rn_bind, rn_opt]
    congr 1; funext t σ2
    exact rn_pure
def mO (m : String) (z : Str) : Option (List D) → Out
  | some ds => med m z ds
  | none => none
theorem mO_s {m : String} {z : Str} {ds : List D} : mO m z (some ds) = med m z ds := rfl
def kMe2 (m : String) (z : Str) (Q : KD → Ev → Prop) (xs : List KD) (σ : Ev) : Prop := oU (mO m z (pks xs σ)) Q σ
def stO : Option D → Option Str
  | some (.str z) => some z
  | _ => none
def kMe1 (cl : Cl) (m : String) (es : List E) (Q : KD → Ev → Prop) (z : Str) (σ : Ev) : Prop := Rn (evPs cl es) σ (kMe2 m z Q)
def kMe (cl : Cl) (m : String) (es : List E) (Q : KD → Ev → Prop) (x : KD) (σ : Ev) : Prop := oV (stO (pk x σ)) (kMe1 cl m es Q) σ
theorem rv_me {m : String} {o : E} {es : List E} : Rn (ev cl (.me m o es)) σ Q = Rn (ev cl o) σ (kMe cl m es Q) := by
  rw [ev, rn_bind]
  congr 1; funext x σ1
  rw [rn_bind, rn_peek]
  unfold kMe
  cases pk x σ1 with
  | none => rfl
  | some d =>
    cases d with
    | str z =>
      show Rn (M.bind (evPs cl es) _) σ1 Q = Rn (evPs cl es) σ1 (kMe2 m z Q)
      rw [rn_bind]
      congr 1; funext ys σ2
      rw [rn_bind, rn_peeks]
      unfold kMe2
      cases pks ys σ2 with
      | none => rfl
      | some ds => exact rn_out
    | _ => exact rn_bad
end
end Pm
namespace Pm
open PySem L2
section
variable {α β : Type} {σ : Ev} {cl : Cl} {Q : KD → Ev → Prop} {QT : Bool → Ev → Prop} {QS : Fl → Ev → Prop} {QI : It → Ev → Prop}
def kTn (QT : Bool → Ev → Prop) (t : Bool) (σ : Ev) : Prop := QT (!t) σ
theorem rt_not {a : E} : Rn (evT cl (.not a)) σ QT = Rn (evT cl a) σ (kTn QT) := by
  rw [evT, rn_bind]
  congr 1; funext t σ1
  exact rn_pure
def kTa (cl : Cl) (b : E) (QT : Bool → Ev → Prop) (t : Bool) (σ : Ev) : Prop := if t = true then Rn (evT cl b) σ QT else QT false σ
theorem rt_and {a b : E} : Rn (evT cl (.and a b)) σ QT = Rn (evT cl a) σ (kTa cl b QT) := by
  rw [evT, rn_bind]
  congr 1; funext t σ1
  cases t with
  | true => rfl
  | false => exact rn_pure
def kTo (cl : Cl) (b : E) (QT : Bool → Ev → Prop) (t : Bool) (σ : Ev) : Prop := if t = true then QT true σ else Rn (evT cl b) σ QT
theorem rt_or {a b : E} : Rn (evT cl (.or a b)) σ QT = Rn (evT cl a) σ (kTo cl b QT) := by
  rw [evT, rn_bind]
  congr 1; funext t σ1
  cases t with
  | false => rfl
  | true => exact rn_pure
def kTi (cl : Cl) (a b : E) (QT : Bool → Ev → Prop) (t : Bool) (σ : Ev) : Prop := if t = true then Rn (evT cl a) σ QT else Rn (evT cl b) σ QT
theorem rt_ite {c a b : E} : Rn (evT cl (.ite c a b)) σ QT = Rn (evT cl c) σ (kTi cl a b QT) := by
  rw [evT, rn_bind]
  congr 1; funext t σ1
  cases t <;> rfl
def kT (QT : Bool → Ev → Prop) (x : KD) (σ : Ev) : Prop := oV (tO (pk x σ)) QT σ
theorem rt_val {e : E} (h : isLogic e = false) : Rn (evT cl e) σ QT = Rn (ev cl e) σ (kT QT) := by
  rw [evT_val e h, rn_bind]
  congr 1; funext x σ1
  rw [rn_bind, rn_peek]
  unfold kT
  cases pk x σ1 with
  | none => rfl
  | some d => exact rn_opt
theorem rt_var {i : Nat} : Rn (evT cl (.var i)) σ QT = Rn (ev cl (.var i)) σ (kT QT) := rt_val rfl
theorem rt_con {d : D} : Rn (evT cl (.con d)) σ QT = Rn (ev cl (.con d)) σ (kT QT) := rt_val rfl
theorem rt_bin {op : Operator} {a b : E} : Rn (evT cl (.bin op a b)) σ QT = Rn (ev cl (.bin op a b)) σ (kT QT) := rt_val rfl
theorem rt_neg {a : E} : Rn (evT cl (.neg a)) σ QT = Rn (ev cl (.neg a)) σ (kT QT) := rt_val rfl
theorem rt_cmp {op : CmpOp} {a b : E} : Rn (evT cl (.cmp op a b)) σ QT = Rn (ev cl (.cmp op a b)) σ (kT QT) := rt_val rfl
theorem rt_chain {op op' : CmpOp} {a b c : E} : Rn (evT cl (.chain op op' a b c)) σ QT = Rn (ev cl (.chain op op' a b c)) σ (kT QT) := rt_val rfl
theorem rt_lst {es : List E} : Rn (evT cl (.lst es)) σ QT = Rn (ev cl (.lst es)) σ (kT QT) := rt_val rfl
theorem rt_ix {a b : E} : Rn (evT cl (.ix a b)) σ QT = Rn (ev cl (.ix a b)) σ (kT QT) := rt_val rfl
theorem rt_slc {a b c : E} : Rn (evT cl (.slc a b c)) σ QT = Rn (ev cl (.slc a b c)) σ (kT QT) := rt_val rfl
theorem rt_bi {f : String} {es : List E} : Rn (evT cl (.bi f es)) σ QT = Rn (ev cl (.bi f es)) σ (kT QT) := rt_val rfl
theorem rt_isi {a : E} {ty : String} : Rn (evT cl (.isi a ty)) σ QT = Rn (ev cl (.isi a ty)) σ (kT QT) := rt_val rfl
theorem rt_call {f : Nat} {es : List E} {pm : List Nat} {bs : List Bool} : Rn (evT cl (.call f es pm bs)) σ QT = Rn (ev cl (.call f es pm bs)) σ (kT QT) := rt_val rfl
theorem rt_lc {elt : E} {tg : Tg} {it : E} {cs : List E} {own : List Nat} : Rn (evT cl (.lc elt tg it cs own)) σ QT = Rn (ev cl (.lc elt tg it cs own)) σ (kT QT) := rt_val rfl

def oA : Option Ev → (Ev → Prop) → Prop
  | some σ, P => P σ
  | none, _ => False
theorem oA_s {P : Ev → Prop} : oA (some σ) P = P σ := rfl
theorem oA_if {c : Prop} [Decidable c] {o : Option Ev} {P : Ev → Prop} : oA (if c then o else none) P = (c ∧ oA o P) := by
  by_cases h : c
  · simp [h]
  · simp [h, oA]
def snd (o : Option (D × Ev)) : Option Ev := o.map (·.2)
theorem snd_s {d : D} : snd (some (d, σ)) = some σ := rfl
def frzA : List Bool → List KD → Ev → Option Ev
  | true :: bs, _ :: xs, σ => frzA bs xs σ
  | false :: bs, x :: xs, σ => (snd (frz x σ)).bind (frzA bs xs)
  | [], x :: xs, σ => (snd (frz x σ)).bind (frzA [] xs)
  | _, [], σ => some σ
theorem rn_frzM {x : KD} {m : M Unit} {QU : Unit → Ev → Prop} : Rn (M.bind (freeze x) fun _ => m) σ QU = oA (snd (frz x σ)) fun σ1 => Rn m σ1 QU := by
  rw [rn_bind, rn_frz]
  cases frz x σ with
  | none => rfl
  | some p => rfl
theorem rn_frzA : ∀ {bs : List Bool} {xs : List KD} {σ : Ev} {QU : Unit → Ev → Prop}, Rn (freezeArgs bs xs) σ QU = oA (frzA bs xs σ) (QU ())
  | true :: bs, x :: xs, σ, QU => by rw [freezeArgs, rn_frzA]; rfl
  | false :: bs, x :: xs, σ, QU => by
    rw [freezeArgs, rn_frzM, frzA]
    · cases snd (frz x σ) with
      | none => rfl
      | some σ1 => exact rn_frzA
    · intro h; cases h
  | [], x :: xs, σ, QU => by
    rw [freezeArgs, rn_frzM, frzA]
    cases snd (frz x σ) with
    | none => rfl
    | some σ1 => exact rn_frzA
  | [], [], σ, QU => rn_pure
  | true :: bs, [], σ, QU => rn_pure
  | false :: bs, [], σ, QU => rn_pure
def entS (b : Bool) : Option Sl → Option Sl
  | some (.ow _ d) => if b then some (.ow false d) else none
  | some (.fz _ d) => some (.fz true d)
  | _ => none
theorem entS_ow {l : Bool} {d : D} : entS true (some (.ow l d)) = some (.ow false d) := rfl
theorem entS_fz {b l : Bool} {d : D} : entS b (some (.fz l d)) = some (.fz true d) := rfl
def ent1 (b : Bool) : KD → Ev → Option Sl
  | (.sl i, _), σ => entS b σ[i]?
  | (_, d), _ => some (.fz true d)
theorem ent1_sl {b : Bool} {i : Nat} {d : D} : ent1 b (.sl i, d) σ = entS b σ[i]? := rfl
theorem ent1_fz {b : Bool} {d : D} : ent1 b (.fz, d) σ = some (.fz true d) := rfl
theorem ent1_fr {b : Bool} {d : D} : ent1 b (.fr, d) σ = some (.fz true d) := rfl
def entA : List Bool → List KD → Ev → Option (List Sl)
  | b :: bs, x :: xs, σ => (ent1 b x σ).bind fun s => (entA bs xs σ).map (s :: ·)
  | [], x :: xs, σ => (ent1 false x σ).bind fun s => (entA [] xs σ).map (s :: ·)
  | _, [], _ => some []
theorem rn_ent1 {b : Bool} {x : KD} {QL : Sl → Ev → Prop} : Rn (entrySl b x) σ QL = oV (ent1 b x σ) QL σ := by
  obtain ⟨k, d⟩ := x
  cases k with
  | fz => exact rn_pure
  | fr => exact rn_pure
  | sl i =>
    rw [ent1_sl]
    cases e : σ[i]? with
    | none => exact rn_no (by simp only [entrySl, e])
    | some s =>
      cases s with
      | no => exact rn_no (by simp only [entrySl, e])
      | fz l d => exact rn_ok (by simp only [entrySl, e])
      | ow l d =>
        cases b with
        | true => exact rn_ok (by simp only [entrySl, e, if_true])
        | false => exact rn_no (by simp only [entrySl, e]; rfl)
theorem rn_entA : ∀ {bs : List Bool} {xs : List KD} {QL : List Sl → Ev → Prop}, Rn (entrySls bs xs) σ QL = oV (entA bs xs σ) QL σ
  | b :: bs, x :: xs, QL => by
    rw [entrySls, entA, rn_bind, rn_ent1]
    cases ent1 b x σ with
    | none => rfl
    | some s =>
      show Rn (M.bind (entrySls bs xs) _) σ QL = oV ((entA bs xs σ).map (s :: ·)) QL σ
      rw [rn_bind, rn_entA, oV_map]
      congr 1; funext r σ1
      exact rn_pure
  | [], x :: xs, QL => by
    rw [entrySls, entA, rn_bind, rn_ent1]
    cases ent1 false x σ with
    | none => rfl
    | some s =>
      show Rn (M.bind (entrySls [] xs) _) σ QL = oV ((entA [] xs σ).map (s :: ·)) QL σ
      rw [rn_bind, rn_entA, oV_map]
      congr 1; funext r σ1
      exact rn_pure
  | [], [], QL => rn_pure
  | b :: bs, [], QL => rn_pure
/-- behind the call -/
def aft (r : CR) (xs : List KD) (sl : List Sl) (Q : KD → Ev → Prop) (σ : Ev) : Prop := match r with
  | .ret fr d outs => oA (takeBack xs sl outs σ) fun σ' => Q (if fr then .fr else .fz, d) σ'
  | _ => False
theorem aft_t {d : D} {outs : List Sl} {xs : List KD} {sl : List Sl} : aft (.ret true d outs) xs sl Q σ = oA (takeBack xs sl outs σ) (Q (.fr, d)) := rfl
theorem aft_f {d : D} {outs : List Sl} {xs : List KD} {sl : List Sl} : aft (.ret false d outs) xs sl Q σ = oA (takeBack xs sl outs σ) (Q (.fz, d)) := rfl
theorem tb_nil {ss os : List Sl} : takeBack [] ss os σ = some σ := by unfold takeBack; rfl
theorem tb_fz {d : D} {xs : List KD} {s o : Sl} {ss os : List Sl} : takeBack ((.fz, d) :: xs) (s :: ss) (o :: os) σ = takeBack xs ss os σ := rfl
theorem tb_fr {d : D} {xs : List KD} {s o : Sl} {ss os : List Sl} : takeBack ((.fr, d) :: xs) (s :: ss) (o :: os) σ = takeBack xs ss os σ := rfl
theorem tb_sf {i : Nat} {d d1 : D} {l : Bool} {xs : List KD} {o : Sl} {ss os : List Sl} : takeBack ((.sl i, d) :: xs) (.fz l d1 :: ss) (o :: os) σ = takeBack xs ss os σ := rfl
def tbS (i : Nat) (d : D) (o : Option Sl) (σ : Ev) : Option Ev := match o with
  | some (.ow l _) => some (σ.set i (.ow l d))
  | _ => none
theorem tbS_ow {i : Nat} {d d1 : D} {l : Bool} : tbS i d (some (.ow l d1)) σ = some (σ.set i (.ow l d)) := rfl
def tbF (i : Nat) (d : D) (o : Option Sl) (σ : Ev) : Option Ev := match o with
  | some (.ow l _) => some (σ.set i (.fz l d))
  | _ => none
theorem tbF_ow {i : Nat} {d d1 : D} {l : Bool} : tbF i d (some (.ow l d1)) σ = some (σ.set i (.fz l d)) := rfl
theorem tb_ow {i : Nat} {d d1 d2 : D} {l l2 : Bool} {xs : List KD} {ss os : List Sl} : takeBack ((.sl i, d) :: xs) (.ow l d1 :: ss) (.ow l2 d2 :: os) σ = (tbS i d2 σ[i]? σ).bind (takeBack xs ss os) := by
  show (match σ[i]?, Sl.ow l2 d2 with
    | some (.ow l _), .ow _ d => takeBack xs ss os (σ.set i (.ow l d))
    | some (.ow l _), .fz _ d => takeBack xs ss os (σ.set i (.fz l d))
    | _, _ => none) = _
  cases σ[i]? with
  | none => rfl
  | some s => cases s <;> rfl
theorem tb_of {i : Nat} {d d1 d2 : D} {l l2 : Bool} {xs : List KD} {ss os : List Sl} : takeBack ((.sl i, d) :: xs) (.ow l d1 :: ss) (.fz l2 d2 :: os) σ = (tbF i d2 σ[i]? σ).bind (takeBack xs ss os) := by
  show (match σ[i]?, Sl.fz l2 d2 with
    | some (.ow l _), .ow _ d => takeBack xs ss os (σ.set i (.ow l d))
    | some (.ow l _), .fz _ d => takeBack xs ss os (σ.set i (.fz l d))
    | _, _ => none) = _
  cases σ[i]? with
  | none => rfl
  | some s => cases s <;> rfl
theorem lo_nil {ss : List Sl} : lentOnce [] ss = [] := by cases ss <;> rfl
theorem lo_fz {d : D} {xs : List KD} {s : Sl} {ss : List Sl} : lentOnce ((.fz, d) :: xs) (s :: ss) = lentOnce xs ss := rfl
theorem lo_fr {d : D} {xs : List KD} {s : Sl} {ss : List Sl} : lentOnce ((.fr, d) :: xs) (s :: ss) = lentOnce xs ss := rfl
theorem lo_sf {i : Nat} {d d1 : D} {l : Bool} {xs : List KD} {ss : List Sl} : lentOnce ((.sl i, d) :: xs) (.fz l d1 :: ss) = lentOnce xs ss := rfl
theorem lo_ow {i : Nat} {d d1 : D} {l : Bool} {xs : List KD} {ss : List Sl} : lentOnce ((.sl i, d) :: xs) (.ow l d1 :: ss) = i :: lentOnce xs ss := rfl
def kC2 (cl : Cl) (f : Nat) (ys : List KD) (Q : KD → Ev → Prop) (sl : List Sl) (σ : Ev) : Prop := (lentOnce ys sl).Nodup ∧ aft (cl f sl) ys sl Q σ
def kC1 (cl : Cl) (f : Nat) (bs : List Bool) (ys : List KD) (Q : KD → Ev → Prop) (σ : Ev) : Prop := oV (entA bs ys σ) (kC2 cl f ys Q) σ
def kC (cl : Cl) (f : Nat) (bs : List Bool) (Q : KD → Ev → Prop) (ys : List KD) (σ : Ev) : Prop := oA (frzA bs ys σ) (kC1 cl f bs ys Q)
def kCall (cl : Cl) (f : Nat) (pm : List Nat) (bs : List Bool) (Q : KD → Ev → Prop) (xs : List KD) (σ : Ev) : Prop := oV (permuted xs pm) (kC cl f bs Q) σ
theorem rn_callM {f : Nat} {bs : List Bool} {ys : List KD} : Rn (callM cl f bs ys) σ Q = kC cl f bs Q ys σ := by
  unfold callM kC
  rw [rn_bind, rn_frzA]
  congr 1; funext σ1
  unfold kC1
  refine Eq.trans (rn_bind (α := List Sl) (β := KD)) ?_
  rw [rn_entA]
  congr 1; funext sl σ2
  unfold kC2
  refine propext ⟨fun ⟨a, σ3, h, q⟩ => ?_, fun ⟨hn, h⟩ => ?_⟩
  · by_cases hn : (lentOnce ys sl).Nodup
    · refine ⟨hn, ?_⟩
      simp only [hn, if_true] at h
      cases r : cl f sl with
      | ret fr d outs =>
        simp only [r] at h
        cases t : takeBack ys sl outs σ2 with
        | none => simp only [t] at h; cases h
        | some σ4 =>
          simp only [t] at h
          cases h
          show oA (takeBack ys sl outs σ2) _
          rw [t]
          exact q
      | exc x outs =>
        simp only [r] at h
        cases t : takeBack ys sl outs σ2 with
        | none => simp only [t] at h; cases h
        | some σ4 => simp only [t] at h; cases h
      | bad => simp only [r] at h; cases h
    · simp only [hn] at h
      cases h
  · cases r : cl f sl with
    | ret fr d outs =>
      rw [r] at h
      have h : oA (takeBack ys sl outs σ2) _ := h
      cases t : takeBack ys sl outs σ2 with
      | none => rw [t] at h; exact h.elim
      | some σ4 =>
        rw [t] at h
        exact ⟨_, σ4, by simp only [hn, if_true, r, t], h⟩
    | exc x outs => rw [r] at h; exact h.elim
    | bad => rw [r] at h; exact h.elim
theorem rv_call {f : Nat} {es : List E} {pm : List Nat} {bs : List Bool} : Rn (ev cl (.call f es pm bs)) σ Q = Rn (evPs cl es) σ (kCall cl f pm bs Q) := by
  rw [ev, rn_bind]
  congr 1; funext xs σ1
  rw [rn_bind, rn_opt]
  unfold kCall
  congr 1; funext ys σ2
  exact rn_callM
end
end Pm
namespace Pm
open PySem L2
section
variable {α β : Type} {σ : Ev} {cl : Cl} {Q : KD → Ev → Prop} {QT : Bool → Ev → Prop} {QS : Fl → Ev → Prop} {QI : It → Ev → Prop}
def rgO : Option D → Option D → Option (List D)
  | some x, some y => rngD x y
  | _, _ => none
theorem rgO_s {x y : D} : rgO (some x) (some y) = rngD x y := Eq.trans (Eq.refl (rgO (some x) (some y))) rfl
def kItems (QI : It → Ev → Prop) (ds : List D) (σ : Ev) : Prop := QI (.items ds) σ
def kRg2 (x : KD) (QI : It → Ev → Prop) (y : KD) (σ : Ev) : Prop := oV (rgO (pk x σ) (pk y σ)) (kItems QI) σ
def kRg1 (cl : Cl) (hi : E) (QI : It → Ev → Prop) (x : KD) (σ : Ev) : Prop := Rn (ev cl hi) σ (kRg2 x QI)
theorem ri_rng {lo hi : E} : Rn (evI cl (.rng lo hi)) σ QI = Rn (ev cl lo) σ (kRg1 cl hi QI) := by
  rw [evI, rn_bind]
  congr 1; funext x σ1
  rw [rn_bind]
  show _ = Rn (ev cl hi) σ1 (kRg2 x QI)
  congr 1; funext y σ2
  rw [rn_bind, rn_peek]
  unfold kRg2
  cases pk x σ2 with
  | none => cases pk y σ2 <;> rfl
  | some dx =>
    show Rn (M.bind (peek y) _) σ2 QI = _
    rw [rn_bind, rn_peek]
    cases pk y σ2 with
    | none => rfl
    | some dy =>
      show Rn (M.bind (opt (rngD dx dy)) _) σ2 QI = oV (rngD dx dy) (kItems QI) σ2
      rw [rn_bind, rn_opt]
      congr 1; funext d σ3
      exact rn_pure
def lsO (d : D) : Option (List D) := itemsD d
theorem lsO_s {xs : List D} : lsO (.lst xs) = some xs := rfl
theorem lsO_t {xs : List D} : lsO (.tup xs) = some xs := rfl
def kEn2 (QI : It → Ev → Prop) (d : D) (σ : Ev) : Prop := oV (lsO d) (fun xs σ => QI (.items (enumFrom 0 xs)) σ) σ
def kEn (QI : It → Ev → Prop) (x : KD) (σ : Ev) : Prop := oF (frz x σ) (kEn2 QI)
theorem ri_enum {a : E} : Rn (evI cl (.enum a)) σ QI = Rn (ev cl a) σ (kEn QI) := by
  rw [evI, rn_bind]
  congr 1; funext x σ1
  rw [rn_bind, rn_frz]
  unfold kEn
  congr 1; funext d σ2
  rw [rn_bind, rn_opt]
  show oV _ _ σ2 = oV (itemsD d) _ σ2
  congr 1; funext xs σ3
  exact rn_pure
def kZp4 (dx : D) (QI : It → Ev → Prop) (dy : D) (σ : Ev) : Prop := oV (lsO dx) (fun xs σ => oV (lsO dy) (fun ys σ => QI (.items (zipD xs ys)) σ) σ) σ
def kZp3 (dx : D) (QI : It → Ev → Prop) (y : KD) (σ : Ev) : Prop := oF (frz y σ) (kZp4 dx QI)
def kZp2 (cl : Cl) (b : E) (QI : It → Ev → Prop) (dx : D) (σ : Ev) : Prop := Rn (ev cl b) σ (kZp3 dx QI)
def kZp1 (cl : Cl) (b : E) (QI : It → Ev → Prop) (x : KD) (σ : Ev) : Prop := oF (frz x σ) (kZp2 cl b QI)
theorem ri_zip {a b : E} : Rn (evI cl (.zip a b)) σ QI = Rn (ev cl a) σ (kZp1 cl b QI) := by
  rw [evI, rn_bind]
  congr 1; funext x σ1
  rw [rn_bind, rn_frz]
  unfold kZp1
  congr 1; funext dx σ2
  rw [rn_bind]
  show _ = Rn (ev cl b) σ2 (kZp3 dx QI)
  congr 1; funext y σ3
  rw [rn_bind, rn_frz]
  unfold kZp3
  congr 1; funext dy σ4
  unfold kZp4
  rw [rn_bind, rn_opt]
  show oV _ _ σ4 = oV (itemsD dx) _ σ4
  congr 1; funext xs σ5
  rw [rn_bind, rn_opt]
  show oV _ _ σ5 = oV (itemsD dy) _ σ5
  congr 1; funext ys σ6
  exact rn_pure
/-- the items of a value -/
def wO : D → Option (List D)
  | .lst xs => some xs
  | .tup xs => some xs
  | .scr xs => some xs
  | .str x => some (signs x)
  | _ => none
def wS (i : Nat) : Option Sl → Option It
  | some (.ow _ (.lst xs)) => some (.al i xs.length)
  | some (.fz _ (.lst xs)) => some (.items xs)
  | _ => none
theorem wS_ow {i : Nat} {l : Bool} {xs : List D} : wS i (some (.ow l (.lst xs))) = some (.al i xs.length) := rfl
theorem wS_fz {i : Nat} {l : Bool} {xs : List D} : wS i (some (.fz l (.lst xs))) = some (.items xs) := rfl
def kWk (QI : It → Ev → Prop) : KD → Ev → Prop
  | (.sl i, _), σ => oV (wS i σ[i]?) QI σ
  | (_, d), σ => oV (wO d) (kItems QI) σ
theorem kWk_sl {i : Nat} {d : D} : kWk QI (.sl i, d) σ = oV (wS i σ[i]?) QI σ := rfl
theorem kWk_fz {d : D} : kWk QI (.fz, d) σ = oV (wO d) (kItems QI) σ := rfl
theorem kWk_fr {d : D} : kWk QI (.fr, d) σ = oV (wO d) (kItems QI) σ := rfl
def isWalk : E → Bool
  | .rng _ _ => true
  | .enum _ => true
  | .zip _ _ => true
  | _ => false
theorem ri_val {e : E} (h : isWalk e = false) : Rn (evI cl e) σ QI = Rn (ev cl e) σ (kWk QI) := by
  have hI : evI cl e = M.bind (ev cl e) fun x => walkOf (soft x) := by
    cases e with
    | rng lo hi => cases h
    | enum a => cases h
    | zip a b => cases h
    | _ => rw [evI] <;> (intros; contradiction)
  rw [hI, rn_bind]
  congr 1; funext x σ1
  have fzc : ∀ d : D, Rn (walkOf (.fz, d)) σ1 QI = oV (wO d) (kItems QI) σ1 := fun d => by
    cases d <;> first | exact rn_pure | exact rn_bad
  obtain ⟨k, d⟩ := x
  cases k with
  | fz => exact fzc d
  | fr => exact fzc d
  | sl i =>
    show Rn (walkOf (.sl i, d)) σ1 QI = oV (wS i σ1[i]?) QI σ1
    cases e1 : σ1[i]? with
    | none => exact rn_no (by rw [wo_sl, e1])
    | some s =>
      cases s with
      | no => exact rn_no (by rw [wo_sl, e1])
      | fz l d2 => cases d2 <;> first | exact rn_ok (by rw [wo_sl, e1]) | exact rn_no (by rw [wo_sl, e1])
      | ow l d2 => cases d2 <;> first | exact rn_ok (by rw [wo_sl, e1]) | exact rn_no (by rw [wo_sl, e1])
theorem ri_var {i : Nat} : Rn (evI cl (.var i)) σ QI = Rn (ev cl (.var i)) σ (kWk QI) := ri_val rfl
theorem ri_con {d : D} : Rn (evI cl (.con d)) σ QI = Rn (ev cl (.con d)) σ (kWk QI) := ri_val rfl
theorem ri_bin {op : Operator} {a b : E} : Rn (evI cl (.bin op a b)) σ QI = Rn (ev cl (.bin op a b)) σ (kWk QI) := ri_val rfl
theorem ri_lst {es : List E} : Rn (evI cl (.lst es)) σ QI = Rn (ev cl (.lst es)) σ (kWk QI) := ri_val rfl
theorem ri_tup {es : List E} : Rn (evI cl (.tup es)) σ QI = Rn (ev cl (.tup es)) σ (kWk QI) := ri_val rfl
theorem ri_slc {a b c : E} : Rn (evI cl (.slc a b c)) σ QI = Rn (ev cl (.slc a b c)) σ (kWk QI) := ri_val rfl
theorem ri_ix {a b : E} : Rn (evI cl (.ix a b)) σ QI = Rn (ev cl (.ix a b)) σ (kWk QI) := ri_val rfl
theorem ri_call {f : Nat} {es : List E} {pm : List Nat} {bs : List Bool} : Rn (evI cl (.call f es pm bs)) σ QI = Rn (ev cl (.call f es pm bs)) σ (kWk QI) := ri_val rfl
theorem ri_lc {elt : E} {tg : Tg} {it : E} {cs : List E} {own : List Nat} : Rn (evI cl (.lc elt tg it cs own)) σ QI = Rn (ev cl (.lc elt tg it cs own)) σ (kWk QI) := ri_val rfl
theorem ri_rev {a : E} : Rn (evI cl (.rev a)) σ QI = Rn (ev cl (.rev a)) σ (kWk QI) := ri_val rfl
theorem ri_bi {f : String} {es : List E} : Rn (evI cl (.bi f es)) σ QI = Rn (ev cl (.bi f es)) σ (kWk QI) := ri_val rfl

abbrev KQ := List (Key × D) → Ev → Prop
def keO : Option D → Option Key
  | some d => keyOf d
  | none => none
theorem keO_s {d : D} : keO (some d) = keyOf d := rfl
def kD5 (key : Key) (dv : D) (QD : KQ) (ps : List (Key × D)) (σ : Ev) : Prop := QD ((key, dv) :: ps) σ
def kD4 (cl : Cl) (r : List E) (key : Key) (QD : KQ) (dv : D) (σ : Ev) : Prop := Rn (evD cl r) σ (kD5 key dv QD)
def kD3 (cl : Cl) (r : List E) (key : Key) (QD : KQ) (y : KD) (σ : Ev) : Prop := oF (frz y σ) (kD4 cl r key QD)
def kD2 (cl : Cl) (v : E) (r : List E) (QD : KQ) (key : Key) (σ : Ev) : Prop := Rn (ev cl v) σ (kD3 cl r key QD)
def kD1 (cl : Cl) (v : E) (r : List E) (QD : KQ) (x : KD) (σ : Ev) : Prop := oV (keO (pk x σ)) (kD2 cl v r QD) σ
theorem rd_nil {QD : KQ} : Rn (evD cl []) σ QD = QD [] σ := by rw [evD]; exact rn_pure
theorem rd_cons {k v : E} {r : List E} {QD : KQ} : Rn (evD cl (k :: v :: r)) σ QD = Rn (ev cl k) σ (kD1 cl v r QD) := by
  rw [evD, rn_bind]
  congr 1; funext x σ1
  rw [rn_bind, rn_peek]
  unfold kD1
  cases pk x σ1 with
  | none => rfl
  | some d =>
    show Rn (M.bind (opt (keyOf d)) _) σ1 QD = oV (keyOf d) (kD2 cl v r QD) σ1
    rw [rn_bind, rn_opt]
    congr 1; funext key σ2
    rw [rn_bind]
    show _ = Rn (ev cl v) σ2 (kD3 cl r key QD)
    congr 1; funext y σ3
    rw [rn_bind, rn_frz]
    show oF _ _ = oF _ (kD4 cl r key QD)
    congr 1; funext dv σ4
    rw [rn_bind]
    show _ = Rn (evD cl r) σ4 (kD5 key dv QD)
    congr 1; funext ps σ5
    exact rn_pure
def kDct (Q : KD → Ev → Prop) (ps : List (Key × D)) (σ : Ev) : Prop := ((ps.map (·.1)).Nodup ∧ ps.length ≤ 15) ∧ Q (.fr, .dct (ps.map (·.1)) (ps.map (·.2))) σ
theorem rv_dct {es : List E} : Rn (ev cl (.dct es)) σ Q = Rn (evD cl es) σ (kDct Q) := by
  rw [ev, rn_bind]
  congr 1; funext ps σ1
  unfold kDct
  by_cases h : ((ps.map (·.1)).Nodup ∧ ps.length ≤ 15)
  · rw [if_pos (decide_eq_true h), rn_pure]
    simp [h]
  · rw [if_neg (by simpa using h), rn_bad]
    simp [h]

/-- one turn -/
def turnC (cl : Cl) (elt : E) (tg : Tg) (cs : List E) (own : List Nat) : D → M (Option D) := fun x => M.bind (store tg x) fun _ => M.bind (evC cl cs) fun t =>
  if t = true then M.bind (ev cl elt) fun y => M.bind (freeze y) fun d => M.bind (hideM own) fun _ => M.pure (some d) else M.bind (hideM own) fun _ => M.pure none
def okZ : Option Sl → Bool
  | some (.ow false _) => false
  | some (.fz false _) => false
  | some _ => true
  | none => false
theorem okZ_no : okZ (some .no) = true := rfl
theorem okZ_fz {d : D} : okZ (some (.fz true d)) = true := rfl
theorem okZ_ow {d : D} : okZ (some (.ow true d)) = true := rfl
def stZ (i : Nat) (d : D) (σ : Ev) : Option Ev := if okZ σ[i]? = true then some (σ.set i (.fz true d)) else none
theorem rn_setFz {i : Nat} {d : D} {QU : Unit → Ev → Prop} : Rn (setFz i d) σ QU = oA (stZ i d σ) (QU ()) := by
  unfold stZ
  cases e : σ[i]? with
  | none => exact rn_no (by simp only [setFz, e])
  | some s =>
    cases s with
    | no => exact rn_ok (by simp only [setFz, e])
    | fz l d2 => cases l <;> first | exact rn_no (by simp only [setFz, e]) | exact rn_ok (by simp only [setFz, e])
    | ow l d2 => cases l <;> first | exact rn_no (by simp only [setFz, e]) | exact rn_ok (by simp only [setFz, e])
def stE : List Nat → List D → Ev → Option Ev
  | [], [], σ => some σ
  | i :: is, d :: ds, σ => (stZ i d σ).bind (stE is ds)
  | _, _, _ => none
theorem rn_setEach : ∀ {is : List Nat} {ds : List D} {σ : Ev} {QU : Unit → Ev → Prop}, Rn (setEach is ds) σ QU = oA (stE is ds σ) (QU ())
  | [], [], σ, QU => rn_pure
  | i :: is, d :: ds, σ, QU => by
    rw [setEach, rn_bind, rn_setFz, stE]
    cases stZ i d σ with
    | none => rfl
    | some σ1 => exact rn_setEach
  | [], d :: ds, σ, QU => rn_bad
  | i :: is, [], σ, QU => rn_bad
def stD : Tg → D → Ev → Option Ev
  | .nm i, d, σ => stZ i d σ
  | .tp is, .tup ds, σ => stE is ds σ
  | _, _, _ => none
theorem stD_nm {i : Nat} {d : D} : stD (.nm i) d σ = stZ i d σ := rfl
theorem stD_tp {is : List Nat} {ds : List D} : stD (.tp is) (.tup ds) σ = stE is ds σ := rfl
theorem rn_store {t : Tg} {d : D} {QU : Unit → Ev → Prop} : Rn (store t d) σ QU = oA (stD t d σ) (QU ()) := by
  cases t with
  | nm i => exact rn_setFz
  | tp is => cases d <;> first | exact rn_setEach | exact rn_bad
def kEl2 (own : List Nat) (QO : Option D → Ev → Prop) (d : D) (σ : Ev) : Prop := QO (some d) (hide σ own)
def kEl (own : List Nat) (QO : Option D → Ev → Prop) (y : KD) (σ : Ev) : Prop := oF (frz y σ) (kEl2 own QO)
def kCs (cl : Cl) (elt : E) (own : List Nat) (QO : Option D → Ev → Prop) (t : Bool) (σ : Ev) : Prop := if t = true then Rn (ev cl elt) σ (kEl own QO) else QO none (hide σ own)
def kSt (cl : Cl) (elt : E) (cs : List E) (own : List Nat) (QO : Option D → Ev → Prop) (σ : Ev) : Prop := Rn (evC cl cs) σ (kCs cl elt own QO)
theorem rn_hide {own : List Nat} {m : M β} {QB : β → Ev → Prop} : Rn (M.bind (hideM own) fun _ => m) σ QB = Rn m (hide σ own) QB := by
  rw [rn_bind]
  exact rn_ok rfl
theorem rn_turnC {elt : E} {tg : Tg} {cs : List E} {own : List Nat} {x : D} {QO : Option D → Ev → Prop} : Rn (turnC cl elt tg cs own x) σ QO = oA (stD tg x σ) (kSt cl elt cs own QO) := by
  unfold turnC
  rw [rn_bind, rn_store]
  congr 1; funext σ1
  show Rn (M.bind (evC cl cs) _) σ1 QO = Rn (evC cl cs) σ1 (kCs cl elt own QO)
  rw [rn_bind]
  congr 1; funext t σ2
  cases t with
  | true =>
    show Rn (M.bind (ev cl elt) _) σ2 QO = Rn (ev cl elt) σ2 (kEl own QO)
    rw [rn_bind]
    congr 1; funext y σ3
    rw [rn_bind, rn_frz]
    show oF _ _ = oF _ (kEl2 own QO)
    congr 1; funext d σ4
    rw [rn_hide]
    exact rn_pure
  | false =>
    show Rn (M.bind (hideM own) fun _ => M.pure none) σ2 QO = QO none (hide σ2 own)
    rw [rn_hide]
    exact rn_pure
def kEc (cl : Cl) (es : List E) (QT : Bool → Ev → Prop) (t : Bool) (σ : Ev) : Prop := if t = true then Rn (evC cl es) σ QT else QT false σ
theorem rc_nil : Rn (evC cl []) σ QT = QT true σ := by rw [evC]; exact rn_pure
theorem rc_cons {e : E} {es : List E} : Rn (evC cl (e :: es)) σ QT = Rn (evT cl e) σ (kEc cl es QT) := by
  rw [evC, rn_bind]
  congr 1; funext t σ1
  cases t with
  | true => rfl
  | false => exact rn_pure
def kLc2 (σ0 : Ev) (own : List Nat) (Q : KD → Ev → Prop) (ds : List D) (σ : Ev) : Prop := line ds.length = true ∧ Q (.fr, .lst ds) (unhide σ0 σ own)
def kLc (cl : Cl) (elt : E) (tg : Tg) (cs : List E) (own : List Nat) (Q : KD → Ev → Prop) (w : It) (σ : Ev) : Prop :=
  (ownFree σ own && alFree w own) = true ∧ Rn (lcRun (turnC cl elt tg cs own) w) (hide σ own) (kLc2 σ own Q)
theorem rv_lc {elt : E} {tg : Tg} {it : E} {cs : List E} {own : List Nat} : Rn (ev cl (.lc elt tg it cs own)) σ Q = Rn (evI cl it) σ (kLc cl elt tg cs own Q) := by
  rw [ev]
  refine Eq.trans (rn_bind (α := It) (β := KD)) ?_
  congr 1; funext w σ1
  unfold kLc
  refine Eq.trans (b := Rn (fun _ => if (ownFree σ1 own && alFree w own) = true then (match lcRun (turnC cl elt tg cs own) w (hide σ1 own) with
    | .ok ds e' => if line ds.length = true then .ok (Kd.fr, D.lst ds) (unhide σ1 e' own) else .bad
    | _ => .bad) else .bad) σ1 Q) rfl ?_
  by_cases hc : (ownFree σ1 own && alFree w own) = true
  · simp only [hc, if_true, true_and]
    cases r : lcRun (turnC cl elt tg cs own) w (hide σ1 own) with
    | ok ds σ3 =>
      rw [rn_ok (m := lcRun (turnC cl elt tg cs own) w) r]
      by_cases hl : line ds.length = true
      · refine Eq.trans (rn_ok (α := KD) (a := (Kd.fr, D.lst ds)) (σ' := unhide σ1 σ3 own) (by simp only [hl, if_true])) ?_
        simp [kLc2, hl]
      · refine Eq.trans (rn_no (α := KD) (by simp only [hl]; rfl)) ?_
        simp [kLc2, hl]
    | ex x σ3 =>
      refine Eq.trans (rn_no (α := KD) (by rfl)) ?_
      refine propext ⟨fun h => h.elim, fun ⟨_, _, h, _⟩ => ?_⟩
      rw [r] at h; cases h
    | bad =>
      refine Eq.trans (rn_no (α := KD) (by rfl)) ?_
      refine propext ⟨fun h => h.elim, fun ⟨_, _, h, _⟩ => ?_⟩
      rw [r] at h; cases h
  · refine Eq.trans (rn_no (α := KD) (by simp only [hc]; rfl)) ?_
    simp [hc]
theorem lc_items {turn : D → M (Option D)} {QL : List D → Ev → Prop} (I : Nat → List D → Ev → Prop) : ∀ {ds : List D} {k : Nat} {acc : List D} {σ : Ev}, I k acc σ → (∀ j d acc σ, ds[j]? = some d → I (k + j) acc σ → Rn (turn d) σ fun y σ' => I (k + j + 1) (acc ++ y.toList) σ') →
    (∀ acc' σ, I (k + ds.length) (acc ++ acc') σ → QL acc' σ) → Rn (lcGo turn ds) σ QL
  | [], k, acc, σ, h, st, fin => by
    rw [lcGo, rn_pure]
    exact fin [] σ (by simpa using h)
  | d :: ds, k, acc, σ, h, st, fin => by
    rw [lcGo, rn_bind]
    refine Rn.mono (st 0 d acc σ rfl h) fun y σ1 h1 => ?_
    rw [rn_bind]
    refine Rn.mono (lc_items I (QL := fun ys σ' => QL (y.toList ++ ys) σ') (k := k + 1) (acc := acc ++ y.toList) h1 (fun j d acc σ hj hi => ?_) fun acc' σ hi => ?_) fun ys σ2 h2 => ?_
    · have e : k + 1 + j = k + (j + 1) := by omega
      rw [e] at hi ⊢
      exact st (j + 1) d acc σ (by simpa using hj) hi
    · refine fin _ σ ?_
      have e : k + (d :: ds).length = k + 1 + ds.length := by simp only [List.length_cons]; omega
      rw [e, ← List.append_assoc]
      exact hi
    · rw [rn_pure]
      exact h2
/-- over the items of a list: what holds at the k-th turn's head -/
theorem lc_inv {turn : D → M (Option D)} {ds : List D} {QL : List D → Ev → Prop} (I : Nat → List D → Ev → Prop) (h : I 0 [] σ) (st : ∀ k d acc σ, ds[k]? = some d → I k acc σ → Rn (turn d) σ fun y σ' => I (k + 1) (acc ++ y.toList) σ')
    (fin : ∀ acc σ, I ds.length acc σ → QL acc σ) : Rn (lcRun turn (.items ds)) σ QL :=
  lc_items I (k := 0) (acc := []) h (fun j d acc σ hj hi => by rw [Nat.zero_add] at hi ⊢; exact st j d acc σ hj hi) fun acc σ hi => fin acc σ (by simpa using hi)
/-- a comprehension that maps -/
theorem lc_map {turn : D → M (Option D)} {ds : List D} {QL : List D → Ev → Prop} (g : D → D) (st : ∀ d, d ∈ ds → turn d σ = .ok (some (g d)) σ) (fin : QL (ds.map g) σ) : Rn (lcRun turn (.items ds)) σ QL := by
  refine lc_inv (fun k acc σ' => σ' = σ ∧ acc = (ds.take k).map g) ⟨rfl, rfl⟩ (fun k d acc σ' hk hi => ?_) fun acc σ' hi => ?_
  · obtain ⟨rfl, rfl⟩ := hi
    refine ⟨_, _, st d (List.mem_of_getElem? hk), rfl, ?_⟩
    rw [List.take_add_one, hk, List.map_append]
    rfl
  · obtain ⟨rfl, rfl⟩ := hi
    rw [List.take_length]
    exact fin
end
end Pm
namespace Pm
open PySem L2
section
variable {α β : Type} {σ : Ev} {cl : Cl} {Q : KD → Ev → Prop} {QT : Bool → Ev → Prop} {QS : Fl → Ev → Prop} {QI : It → Ev → Prop}
def owZ (i : Nat) (d : D) (σ : Ev) : Option Ev := if okZ σ[i]? = true then some (σ.set i (.ow true d)) else none
theorem rn_setOw {i : Nat} {d : D} {QU : Unit → Ev → Prop} : Rn (setOw i d) σ QU = oA (owZ i d σ) (QU ()) := by
  unfold owZ
  cases e : σ[i]? with
  | none => exact rn_no (by simp only [setOw, e])
  | some s =>
    cases s with
    | no => exact rn_ok (by simp only [setOw, e])
    | fz l d2 => cases l <;> first | exact rn_no (by simp only [setOw, e]) | exact rn_ok (by simp only [setOw, e])
    | ow l d2 => cases l <;> first | exact rn_no (by simp only [setOw, e]) | exact rn_ok (by simp only [setOw, e])
/-- target = value -/
def stK : Tg → KD → Ev → (Ev → Prop) → Prop
  | .nm i, (.fr, d), σ, P => oA (owZ i d σ) P
  | t, x, σ, P => oF (frz x σ) fun d σ' => oA (stD t d σ') P
theorem stK_fr {i : Nat} {d : D} {P : Ev → Prop} : stK (.nm i) (.fr, d) σ P = oA (owZ i d σ) P := rfl
theorem stK_fz {t : Tg} {d : D} {P : Ev → Prop} : stK t (.fz, d) σ P = oA (stD t d σ) P := by cases t <;> rfl
theorem stK_sl {t : Tg} {i : Nat} {d : D} {P : Ev → Prop} : stK t (.sl i, d) σ P = oF (frz (.sl i, d) σ) fun d σ' => oA (stD t d σ') P := by cases t <;> rfl
theorem rn_storeK {t : Tg} {x : KD} {QU : Unit → Ev → Prop} : Rn (storeK t x) σ QU = stK t x σ (QU ()) := by
  obtain ⟨k, d⟩ := x
  have gen : ∀ y : KD, Rn (M.bind (freeze y) fun d => store t d) σ QU = oF (frz y σ) fun d σ' => oA (stD t d σ') (QU ()) := fun y => by
    rw [rn_bind, rn_frz]
    congr 1; funext d σ1
    exact rn_store
  cases k with
  | fz => cases t <;> exact gen (.fz, d)
  | sl i => cases t <;> exact gen (.sl i, d)
  | fr =>
    cases t with
    | nm i => exact rn_setOw
    | tp is => exact gen (.fr, d)
def kNx (QS : Fl → Ev → Prop) (σ : Ev) : Prop := QS .nx σ
def kSet (t : Tg) (QS : Fl → Ev → Prop) (x : KD) (σ : Ev) : Prop := stK t x σ (kNx QS)
theorem rn_nx {m : M Unit} {P : Ev → Prop} (h : Rn m σ (fun _ σ' => kNx QS σ') = P σ) : Rn (M.bind m fun _ => M.pure Fl.nx) σ QS = P σ := by
  rw [rn_bind, ← h]
  congr 1; funext _ σ1
  exact rn_pure
theorem rx_set {t : Tg} {e : E} : Rn (ex cl (.set t e)) σ QS = Rn (ev cl e) σ (kSet t QS) := by
  rw [ex, rn_bind]
  congr 1; funext x σ1
  exact rn_nx (P := fun σ1 => stK t x σ1 (kNx QS)) rn_storeK
def kRs (x : KD) (QP : List KD → Ev → Prop) (xs : List KD) (σ : Ev) : Prop := QP (x :: xs) σ
def kRs1 (cl : Cl) (es : List E) (QP : List KD → Ev → Prop) (x : KD) (σ : Ev) : Prop := Rn (evRs cl es) σ (kRs x QP)
theorem rr_nil {QP : List KD → Ev → Prop} : Rn (evRs cl []) σ QP = QP [] σ := by rw [evRs]; exact rn_pure
theorem rr_cons {e : E} {es : List E} {QP : List KD → Ev → Prop} : Rn (evRs cl (e :: es)) σ QP = Rn (ev cl e) σ (kRs1 cl es QP) := by
  rw [evRs, rn_bind]
  congr 1; funext x σ1
  rw [rn_bind]
  show _ = Rn (evRs cl es) σ1 (kRs x QP)
  congr 1; funext xs σ2
  exact rn_pure
def hrd : List KD → Ev → Option (List KD × Ev)
  | [], σ => some ([], σ)
  | (.fr, d) :: xs, σ => (hrd xs σ).map fun p => ((.fr, d) :: p.1, p.2)
  | x :: xs, σ => (frz x σ).bind fun q => (hrd xs q.2).map fun p => ((.fz, q.1) :: p.1, p.2)
theorem hrd_nil : hrd [] σ = some ([], σ) := rfl
theorem hrd_fr {d : D} {xs : List KD} : hrd ((.fr, d) :: xs) σ = (hrd xs σ).map fun p => ((.fr, d) :: p.1, p.2) := rfl
theorem hrd_fz {d : D} {xs : List KD} : hrd ((.fz, d) :: xs) σ = (hrd xs σ).map fun p => ((.fz, d) :: p.1, p.2) := rfl
theorem hrd_sl {i : Nat} {d : D} {xs : List KD} : hrd ((.sl i, d) :: xs) σ = (frz (.sl i, d) σ).bind fun q => (hrd xs q.2).map fun p => ((.fz, q.1) :: p.1, p.2) := rfl
def oH : Option (List KD × Ev) → (List KD → Ev → Prop) → Prop
  | some p, P => P p.1 p.2
  | none, _ => False
theorem oH_s {p : List KD × Ev} {P : List KD → Ev → Prop} : oH (some p) P = P p.1 p.2 := rfl
theorem rn_hrd : ∀ {xs : List KD} {σ : Ev} {QP : List KD → Ev → Prop}, Rn (hardens xs) σ QP = oH (hrd xs σ) QP
  | [], σ, QP => rn_pure
  | (.fr, d) :: xs, σ, QP => by
    rw [hardens, rn_bind, rn_hrd, hrd_fr]
    cases hrd xs σ with
    | none => rfl
    | some p => exact rn_pure
  | (.fz, d) :: xs, σ, QP => by
    show Rn (M.bind (freeze (.fz, d)) fun d => M.bind (hardens xs) fun ys => M.pure ((.fz, d) :: ys)) σ QP = _
    rw [rn_bind, rn_frz, hrd_fz]
    show Rn (M.bind (hardens xs) _) σ QP = _
    rw [rn_bind, rn_hrd]
    cases hrd xs σ with
    | none => rfl
    | some p => exact rn_pure
  | (.sl i, d) :: xs, σ, QP => by
    show Rn (M.bind (freeze (.sl i, d)) fun d => M.bind (hardens xs) fun ys => M.pure ((.fz, d) :: ys)) σ QP = _
    rw [rn_bind, rn_frz, hrd_sl]
    cases frz (.sl i, d) σ with
    | none => rfl
    | some q =>
      show Rn (M.bind (hardens xs) _) q.2 QP = oH ((hrd xs q.2).map _) QP
      rw [rn_bind, rn_hrd]
      cases hrd xs q.2 with
      | none => rfl
      | some p => exact rn_pure
def stA : List Nat → List KD → Ev → Option Ev
  | [], [], σ => some σ
  | i :: is, (.fr, d) :: xs, σ => (owZ i d σ).bind (stA is xs)
  | i :: is, (_, d) :: xs, σ => (stZ i d σ).bind (stA is xs)
  | _, _, _ => none
theorem stA_nil : stA [] [] σ = some σ := rfl
theorem stA_fr {i : Nat} {d : D} {is : List Nat} {xs : List KD} : stA (i :: is) ((.fr, d) :: xs) σ = (owZ i d σ).bind (stA is xs) := rfl
theorem stA_fz {i : Nat} {d : D} {is : List Nat} {xs : List KD} : stA (i :: is) ((.fz, d) :: xs) σ = (stZ i d σ).bind (stA is xs) := rfl
theorem rn_setAll : ∀ {is : List Nat} {xs : List KD} {σ : Ev} {QU : Unit → Ev → Prop}, Rn (setAll is xs) σ QU = oA (stA is xs σ) (QU ())
  | [], [], σ, QU => rn_pure
  | i :: is, (.fr, d) :: xs, σ, QU => by
    rw [setAll, rn_bind, rn_setOw, stA_fr]
    cases owZ i d σ with
    | none => rfl
    | some σ1 => exact rn_setAll
  | i :: is, (.fz, d) :: xs, σ, QU => by
    show Rn (M.bind (setFz i d) fun _ => setAll is xs) σ QU = oA ((stZ i d σ).bind (stA is xs)) (QU ())
    rw [rn_bind, rn_setFz]
    cases stZ i d σ with
    | none => rfl
    | some σ1 => exact rn_setAll
  | i :: is, (.sl j, d) :: xs, σ, QU => by
    show Rn (M.bind (setFz i d) fun _ => setAll is xs) σ QU = oA ((stZ i d σ).bind (stA is xs)) (QU ())
    rw [rn_bind, rn_setFz]
    cases stZ i d σ with
    | none => rfl
    | some σ1 => exact rn_setAll
  | [], x :: xs, σ, QU => rn_bad
  | i :: is, [], σ, QU => rn_bad
def kPar2 (is : List Nat) (QS : Fl → Ev → Prop) (ys : List KD) (σ : Ev) : Prop := oA (stA is ys σ) (kNx QS)
def kPar (is : List Nat) (QS : Fl → Ev → Prop) (xs : List KD) (σ : Ev) : Prop := oH (hrd xs σ) (kPar2 is QS)
theorem rx_par {is : List Nat} {es : List E} : Rn (ex cl (.par is es)) σ QS = Rn (evRs cl es) σ (kPar is QS) := by
  rw [ex, rn_bind]
  congr 1; funext xs σ1
  rw [rn_bind, rn_hrd]
  unfold kPar
  congr 1; funext ys σ2
  exact rn_nx (P := fun σ2 => oA (stA is ys σ2) (kNx QS)) rn_setAll
def olO : Option Sl → Option (List D)
  | some (.ow _ (.lst xs)) => some xs
  | _ => none
theorem olO_s {l : Bool} {xs : List D} : olO (some (.ow l (.lst xs))) = some xs := rfl
theorem rn_ownL {i : Nat} {QL : List D → Ev → Prop} : Rn (ownL i) σ QL = oV (olO σ[i]?) QL σ := by
  cases e : σ[i]? with
  | none => exact rn_no (by simp only [ownL, e])
  | some s =>
    cases s with
    | no => exact rn_no (by simp only [ownL, e])
    | fz l d => exact rn_no (by simp only [ownL, e])
    | ow l d => cases d <;> first | exact rn_ok (by simp only [ownL, e]) | exact rn_no (by simp only [ownL, e])
def seL (i : Nat) (xs : List D) (o : Option Sl) (σ : Ev) : Option Ev := match o with
  | some (.ow l (.lst _)) => some (σ.set i (.ow l (.lst xs)))
  | _ => none
theorem seL_s {i : Nat} {xs ys : List D} {l : Bool} : seL i xs (some (.ow l (.lst ys))) σ = some (σ.set i (.ow l (.lst xs))) := rfl
theorem rn_setL {i : Nat} {xs : List D} {QU : Unit → Ev → Prop} : Rn (setL i xs) σ QU = oA (seL i xs σ[i]? σ) (QU ()) := by
  cases e : σ[i]? with
  | none => exact rn_no (by simp only [setL, e])
  | some s =>
    cases s with
    | no => exact rn_no (by simp only [setL, e])
    | fz l d => exact rn_no (by simp only [setL, e])
    | ow l d => cases d <;> first | exact rn_ok (by simp only [setL, e]) | exact rn_no (by simp only [setL, e])
def kPut5 (i : Nat) (d : D) (xs : List D) (QS : Fl → Ev → Prop) (j : Nat) (σ : Ev) : Prop := oA (seL i (xs.set j d) σ[i]? σ) (kNx QS)
def kPut4 (i : Nat) (d : D) (k : Int) (QS : Fl → Ev → Prop) (xs : List D) (σ : Ev) : Prop := oV (ixN xs.length k) (kPut5 i d xs QS) σ
def kPut3 (i : Nat) (d : D) (QS : Fl → Ev → Prop) (k : Int) (σ : Ev) : Prop := oV (olO σ[i]?) (kPut4 i d k QS) σ
def kPut2 (i : Nat) (d : D) (QS : Fl → Ev → Prop) (y : KD) (σ : Ev) : Prop := oV (iO (pk y σ)) (kPut3 i d QS) σ
def kPut1 (cl : Cl) (i : Nat) (ix : E) (QS : Fl → Ev → Prop) (d : D) (σ : Ev) : Prop := (∃ xs, olO σ[i]? = some xs) ∧ Rn (ev cl ix) σ (kPut2 i d QS)
def kPut (cl : Cl) (i : Nat) (ix : E) (QS : Fl → Ev → Prop) (x : KD) (σ : Ev) : Prop := oF (frz x σ) (kPut1 cl i ix QS)
theorem iO_d {d : D} : iO (some d) = intD d := by cases d <;> rfl
theorem rx_put {i : Nat} {ix e : E} : Rn (ex cl (.put i ix e)) σ QS = Rn (ev cl e) σ (kPut cl i ix QS) := by
  rw [ex, rn_bind]
  congr 1; funext x σ1
  rw [rn_bind, rn_frz]
  show oF _ _ = oF _ (kPut1 cl i ix QS)
  congr 1; funext d σ2
  unfold kPut1
  rw [rn_bind, rn_ownL]
  cases e1 : olO σ2[i]? with
  | none => simp [oV]
  | some xs0 =>
    simp only [oV_s, Option.some.injEq, exists_eq', true_and]
    rw [rn_bind]
    show _ = Rn (ev cl ix) σ2 (kPut2 i d QS)
    congr 1; funext y σ3
    rw [rn_bind, rn_peek]
    unfold kPut2
    cases pk y σ3 with
    | none => rfl
    | some dy =>
      rw [iO_d]
      show Rn (M.bind (opt (intD dy)) _) σ3 QS = oV (intD dy) (kPut3 i d QS) σ3
      rw [rn_bind, rn_opt]
      congr 1; funext k σ4
      rw [rn_bind, rn_ownL]
      show oV _ _ σ4 = oV _ (kPut4 i d k QS) σ4
      congr 1; funext xs σ5
      rw [rn_bind, rn_opt]
      show oV _ _ σ5 = oV _ (kPut5 i d xs QS) σ5
      congr 1; funext j σ6
      exact rn_nx (P := fun σ6 => oA (seL i (xs.set j d) σ6[i]? σ6) (kNx QS)) rn_setL
def kApp3 (i : Nat) (d : D) (QS : Fl → Ev → Prop) (xs : List D) (σ : Ev) : Prop := xs.length < sizeLine ∧ oA (seL i (xs ++ [d]) σ[i]? σ) (kNx QS)
def kApp2 (i : Nat) (QS : Fl → Ev → Prop) (d : D) (σ : Ev) : Prop := oV (olO σ[i]?) (kApp3 i d QS) σ
def kApp1 (i : Nat) (QS : Fl → Ev → Prop) (x : KD) (σ : Ev) : Prop := oF (frz x σ) (kApp2 i QS)
theorem rx_app {i : Nat} {e : E} : Rn (ex cl (.app i e)) σ QS = ((∃ xs, olO σ[i]? = some xs) ∧ Rn (ev cl e) σ (kApp1 i QS)) := by
  rw [ex, rn_bind, rn_ownL]
  cases e1 : olO σ[i]? with
  | none => simp [oV]
  | some xs0 =>
    simp only [oV_s, Option.some.injEq, exists_eq', true_and]
    rw [rn_bind]
    congr 1; funext x σ1
    rw [rn_bind, rn_frz]
    show oF _ _ = oF _ (kApp2 i QS)
    congr 1; funext d σ2
    rw [rn_bind, rn_ownL]
    show oV _ _ σ2 = oV _ (kApp3 i d QS) σ2
    congr 1; funext xs σ3
    unfold kApp3
    by_cases hl : xs.length < sizeLine
    · rw [if_pos (decide_eq_true hl), rn_nx (P := fun σ3 => oA (seL i (xs ++ [d]) σ3[i]? σ3) (kNx QS)) rn_setL]
      simp [hl]
    · rw [if_neg (by simpa using hl), rn_bad]
      simp [hl]
def kDrop (QS : Fl → Ev → Prop) (_ : KD) (σ : Ev) : Prop := QS .nx σ
theorem rx_expr {e : E} : Rn (ex cl (.expr e)) σ QS = Rn (ev cl e) σ (kDrop QS) := by
  rw [ex, rn_bind]
  congr 1; funext x σ1
  exact rn_pure
def hoS (QS : Fl → Ev → Prop) (i : Nat) (o : Option Sl) (σ : Ev) : Prop := match o with
  | some (.ow true d) => QS (.ret true d) (σ.set i .no)
  | some (.ow false d) => QS (.ret false d) (σ.set i (.fz false d))
  | some (.fz _ d) => QS (.ret false d) σ
  | _ => False
theorem hoS_t {i : Nat} {d : D} : hoS QS i (some (.ow true d)) σ = QS (.ret true d) (σ.set i .no) := rfl
theorem hoS_f {i : Nat} {d : D} : hoS QS i (some (.ow false d)) σ = QS (.ret false d) (σ.set i (.fz false d)) := rfl
theorem hoS_z {i : Nat} {l : Bool} {d : D} : hoS QS i (some (.fz l d)) σ = QS (.ret false d) σ := rfl
def kRet (QS : Fl → Ev → Prop) : KD → Ev → Prop
  | (.fr, d), σ => QS (.ret true d) σ
  | (.fz, d), σ => QS (.ret false d) σ
  | (.sl i, _), σ => hoS QS i σ[i]? σ
theorem kRet_fr {d : D} : kRet QS (.fr, d) σ = QS (.ret true d) σ := rfl
theorem kRet_fz {d : D} : kRet QS (.fz, d) σ = QS (.ret false d) σ := rfl
theorem kRet_sl {i : Nat} {d : D} : kRet QS (.sl i, d) σ = hoS QS i σ[i]? σ := rfl
theorem rx_ret {e : E} : Rn (ex cl (.ret e)) σ QS = Rn (ev cl e) σ (kRet QS) := by
  rw [ex, rn_bind]
  congr 1; funext x σ1
  obtain ⟨k, d⟩ := x
  cases k with
  | fz => exact rn_pure
  | fr => exact rn_pure
  | sl i =>
    show _ = hoS QS i σ1[i]? σ1
    cases e : σ1[i]? with
    | none => exact rn_no (by simp only [handOut, e])
    | some s =>
      cases s with
      | no => exact rn_no (by simp only [handOut, e])
      | fz l d => exact rn_ok (by simp only [handOut, e])
      | ow l d => cases l <;> exact rn_ok (by simp only [handOut, e])
def kIf (cl : Cl) (a b : List S) (QS : Fl → Ev → Prop) (t : Bool) (σ : Ev) : Prop := if t = true then Rn (exs cl a) σ QS else Rn (exs cl b) σ QS
theorem rx_ite {c : E} {a b : List S} : Rn (ex cl (.ite c a b)) σ QS = Rn (evT cl c) σ (kIf cl a b QS) := by
  rw [ex, rn_bind]
  congr 1; funext t σ1
  cases t <;> rfl
theorem rx_brk : Rn (ex cl .brk) σ QS = QS .brk σ := by rw [ex]; exact rn_pure
theorem rx_cnt : Rn (ex cl .cnt) σ QS = QS .cnt σ := by rw [ex]; exact rn_pure
theorem rx_pass : Rn (ex cl .pass) σ QS = QS .nx σ := by rw [ex]; exact rn_pure
def kSeq (cl : Cl) (ss : List S) (QS : Fl → Ev → Prop) (fl : Fl) (σ : Ev) : Prop := match fl with
  | .nx => Rn (exs cl ss) σ QS
  | .brk => QS .brk σ
  | .cnt => QS .cnt σ
  | .ret fr d => QS (.ret fr d) σ
theorem kSeq_nx {ss : List S} : kSeq cl ss QS .nx σ = Rn (exs cl ss) σ QS := rfl
theorem kSeq_brk {ss : List S} : kSeq cl ss QS .brk σ = QS .brk σ := rfl
theorem kSeq_cnt {ss : List S} : kSeq cl ss QS .cnt σ = QS .cnt σ := rfl
theorem kSeq_ret {ss : List S} {fr : Bool} {d : D} : kSeq cl ss QS (.ret fr d) σ = QS (.ret fr d) σ := rfl
theorem rxs_nil : Rn (exs cl []) σ QS = QS .nx σ := by rw [exs]; exact rn_pure
theorem rxs_cons {s : S} {ss : List S} : Rn (exs cl (s :: ss)) σ QS = Rn (ex cl s) σ (kSeq cl ss QS) := by
  rw [exs, rn_bind]
  congr 1; funext fl σ1
  cases fl <;> first | rfl | exact rn_pure
def turnF (cl : Cl) (t : Tg) (b : List S) : D → M Fl := fun x => M.bind (store t x) fun _ => exs cl b
def kB (cl : Cl) (b : List S) (QS : Fl → Ev → Prop) (σ : Ev) : Prop := Rn (exs cl b) σ QS
theorem rn_turnF {t : Tg} {b : List S} {x : D} : Rn (turnF cl t b x) σ QS = oA (stD t x σ) (kB cl b QS) := by
  unfold turnF
  rw [rn_bind, rn_store]
  rfl
def kFor (cl : Cl) (t : Tg) (b : List S) (QS : Fl → Ev → Prop) (w : It) (σ : Ev) : Prop := match w with
  | .items ds => Rn (forGo (turnF cl t b) ds) σ QS
  | .al i n => (t.slots ++ asgds b).contains i = false ∧ Rn (forAl (turnF cl t b) i n n) σ QS
theorem kFor_items {t : Tg} {b : List S} {ds : List D} : kFor cl t b QS (.items ds) σ = Rn (forGo (turnF cl t b) ds) σ QS := rfl
theorem kFor_al {t : Tg} {b : List S} {i n : Nat} : kFor cl t b QS (.al i n) σ = ((t.slots ++ asgds b).contains i = false ∧ Rn (forAl (turnF cl t b) i n n) σ QS) := rfl
theorem rx_for {t : Tg} {it : E} {b : List S} : Rn (ex cl (.for_ t it b)) σ QS = Rn (evI cl it) σ (kFor cl t b QS) := by
  rw [ex, rn_bind]
  congr 1; funext w σ1
  cases w with
  | items ds => rfl
  | al i n =>
    show Rn (if (t.slots ++ asgds b).contains i = true then M.bad else forAl (turnF cl t b) i n n) σ1 QS = _
    by_cases h : (t.slots ++ asgds b).contains i = true
    · rw [if_pos h, rn_bad, kFor_al, h]
      simp
    · rw [if_neg h, kFor_al]
      simp only [Bool.not_eq_true] at h
      rw [h]
      simp
/-- how a turn ends -/
def kTurn (I : Ev → Prop) (QS : Fl → Ev → Prop) (fl : Fl) (σ : Ev) : Prop := match fl with
  | .nx => I σ
  | .cnt => I σ
  | .brk => QS .nx σ
  | .ret fr d => QS (.ret fr d) σ
theorem kTurn_nx {I : Ev → Prop} : kTurn I QS .nx σ = I σ := rfl
theorem kTurn_cnt {I : Ev → Prop} : kTurn I QS .cnt σ = I σ := rfl
theorem kTurn_brk {I : Ev → Prop} : kTurn I QS .brk σ = QS .nx σ := rfl
theorem kTurn_ret {I : Ev → Prop} {fr : Bool} {d : D} : kTurn I QS (.ret fr d) σ = QS (.ret fr d) σ := rfl
theorem for_from {turn : D → M Fl} (I : Nat → Ev → Prop) : ∀ {ds : List D} {k : Nat} {σ : Ev}, I k σ → (∀ j d σ, ds[j]? = some d → I (k + j) σ → Rn (turn d) σ (kTurn (I (k + j + 1)) QS)) → (∀ σ, I (k + ds.length) σ → QS .nx σ) → Rn (forGo turn ds) σ QS
  | [], k, σ, h, st, fin => by
    rw [forGo, rn_pure]
    exact fin σ h
  | d :: ds, k, σ, h, st, fin => by
    rw [forGo, rn_bind]
    refine Rn.mono (st 0 d σ rfl h) fun fl σ1 h1 => ?_
    have go : I (k + 1) σ1 → Rn (forGo turn ds) σ1 QS := fun hi => for_from I hi (fun j d σ hj hi => by
      have e : k + 1 + j = k + (j + 1) := by omega
      rw [e] at hi ⊢
      exact st (j + 1) d σ (by simpa using hj) hi) fun σ hi => fin σ (by
      have e : k + (d :: ds).length = k + 1 + ds.length := by simp only [List.length_cons]; omega
      rw [e]; exact hi)
    cases fl with
    | nx => exact go h1
    | cnt => exact go h1
    | brk => rw [rn_pure]; exact h1
    | ret fr d => rw [rn_pure]; exact h1
/-- for over items: what holds at the k-th turn's head -/
theorem for_inv {turn : D → M Fl} {ds : List D} (I : Nat → Ev → Prop) (h : I 0 σ) (st : ∀ k d σ, ds[k]? = some d → I k σ → Rn (turn d) σ (kTurn (I (k + 1)) QS)) (fin : ∀ σ, I ds.length σ → QS .nx σ) : Rn (forGo turn ds) σ QS :=
  for_from I (k := 0) h (fun j d σ hj hi => by rw [Nat.zero_add] at hi ⊢; exact st j d σ hj hi) fun σ hi => fin σ (by simpa using hi)
/-- .. where every turn keeps the same -/
theorem for_all {turn : D → M Fl} {ds : List D} (I : Ev → Prop) (h : I σ) (st : ∀ d σ, d ∈ ds → I σ → Rn (turn d) σ (kTurn I QS)) (fin : ∀ σ, I σ → QS .nx σ) : Rn (forGo turn ds) σ QS :=
  for_inv (fun _ => I) h (fun k d σ hk hi => st d σ (List.mem_of_getElem? hk) hi) fin
def kFin (P : CR → Prop) (np : Nat) (fl : Fl) (σ : Ev) : Prop := match fl with
  | .nx => P (.ret false .non (σ.take np))
  | .ret fr d => P (.ret fr d (σ.take np))
  | _ => False
theorem kFin_nx {P : CR → Prop} {np : Nat} : kFin P np .nx σ = P (.ret false .non (σ.take np)) := rfl
theorem kFin_ret {P : CR → Prop} {np : Nat} {fr : Bool} {d : D} : kFin P np (.ret fr d) σ = P (.ret fr d (σ.take np)) := rfl
theorem run_of {ds : List Df} {f k : Nat} {d : Df} {args : List Sl} {P : CR → Prop} (hd : ds[f]? = some d) (hl : args.length = d.np) (h : Rn (exs (runP ds k) d.body) (args ++ List.replicate (d.n - args.length) .no) (kFin P d.np)) : P (runP ds (k + 1) f args) := by
  rw [runP]
  simp only [hd, hl, if_true]
  obtain ⟨fl, σ1, h1, q⟩ := h
  unfold runD
  rw [h1]
  cases fl with
  | nx => exact q
  | ret fr v => exact q
  | brk => exact q.elim
  | cnt => exact q.elim
end
end Pm
namespace Pm
open PySem L2
section
variable {α : Type} {xs : List α}
theorem ixN_0 {n : Nat} : ixN (n + 1) 0 = some 0 := by
  unfold ixN
  rw [if_pos (by omega), if_pos (by omega)]
  rfl
theorem ixN_n {n k : Nat} : ixN n (k : Int) = if k < n then some k else none := by
  unfold ixN
  rw [if_pos (by omega)]
  by_cases h : k < n
  · rw [if_pos (by omega), if_pos h]; rfl
  · rw [if_neg (by omega), if_neg h]
theorem ixN_1 {n : Nat} : ixN n 1 = if 1 < n then some 1 else none := ixN_n (k := 1)
theorem ixN_l {n k : Nat} : ixN n (no_index (OfNat.ofNat k : Int)) = if OfNat.ofNat k < n then some (OfNat.ofNat k) else none := ixN_n (k := k)
theorem atI_n {k : Nat} : atI xs (k : Int) = xs[k]? := by
  unfold atI
  rw [ixN_n]
  by_cases h : k < xs.length
  · rw [if_pos h]; rfl
  · rw [if_neg h, List.getElem?_eq_none (by omega)]; rfl
theorem atI_0 : atI xs 0 = xs[0]? := atI_n (k := 0)
theorem atI_1 : atI xs 1 = xs[1]? := atI_n (k := 1)
theorem atI_l {k : Nat} : atI xs (no_index (OfNat.ofNat k : Int)) = xs[OfNat.ofNat k]? := atI_n (k := k)
end
end Pm
namespace Pm
open PySem L2
section
variable {σ : Ev}
/-- a comprehension that maps, its turns read -/
theorem lc_mapR {turn : D → M (Option D)} {ds : List D} {QL : List D → Ev → Prop} (g : D → D) (st : ∀ d, d ∈ ds → Rn (turn d) σ fun y σ' => y = some (g d) ∧ σ' = σ) (fin : QL (ds.map g) σ) : Rn (lcRun turn (.items ds)) σ QL :=
  lc_map g (fun d hd => by
    obtain ⟨y, σ', h, rfl, rfl⟩ := st d hd
    exact h) fin
theorem mulOk_l {i j : Int} (h0 : -(2 ^ 64) < i) (h1 : i < 2 ^ 64) : mulOk i j = true := by
  unfold mulOk
  rw [decide_eq_true (Or.inl (show i.natAbs < 2 ^ 64 by omega))]
  rfl
theorem mulOk_r {i j : Int} (h0 : -(2 ^ 64) < j) (h1 : j < 2 ^ 64) : mulOk i j = true := by
  unfold mulOk
  rw [decide_eq_true (Or.inr (show j.natAbs < 2 ^ 64 by omega))]
  rfl
theorem fdOk_of {j : Int} (h : j ≠ 0) (h2 : j.natAbs < 2 ^ 9000) : fdOk j = true := by
  have : j.natAbs.log2 < 9000 := by
    by_cases h0 : j.natAbs = 0
    · omega
    · exact (Nat.log2_lt h0).mpr h2
  exact decide_eq_true ⟨h, this⟩
theorem fdOk_s {j : Int} (h : j ≠ 0) (h1 : -(2 ^ 64) < j) (h2 : j < 2 ^ 64) : fdOk j = true := by
  refine fdOk_of h (Nat.lt_of_lt_of_le (by omega : j.natAbs < 2 ^ 64) (Nat.pow_le_pow_right (by decide) (by decide)))
theorem fdv_pos {i j : Int} (h : 0 < j) : fdv i j = i / j := if_pos h
theorem line_le {n : Nat} (h : n ≤ 1000) : line n = true := decide_eq_true (Nat.le_of_lt (small1000 h))
theorem allB_map {α : Type} (f : α → Bool) : ∀ ds : List α, allB (ds.map fun d => .bl (f d)) = some (ds.map f)
  | [] => rfl
  | d :: ds => by
    rw [List.map_cons, allB, allB_map f ds]
    rfl
/-- an index within -/
theorem atI_in {α : Type} {xs : List α} {i : Int} (h0 : 0 ≤ i) (h1 : i < xs.length) : ∃ x, atI xs i = some x ∧ x ∈ xs := by
  obtain ⟨k, rfl⟩ := Int.eq_ofNat_of_zero_le h0
  have hk : k < xs.length := by omega
  refine ⟨xs[k], ?_, List.getElem_mem hk⟩
  have := atI_n (xs := xs) (k := k)
  rw [List.getElem?_eq_getElem hk] at this
  exact this
theorem ixd_str {z : Str} {i : Int} (hl : line z.length = true) (h0 : 0 ≤ i) (h1 : i < z.length) : ∃ c, ixd (.str z) (.int i) = some (.str ⟨#[c]⟩) := by
  obtain ⟨c, h, _⟩ := atI_in (xs := z.cps.toList) h0 (by rw [Array.length_toList]; exact h1)
  refine ⟨c, ?_⟩
  show (if line z.length = true then (atI z.cps.toList i).map fun c => D.str ⟨#[c]⟩ else none) = _
  rw [if_pos hl, h]
  rfl
end
end Pm
namespace Pm
open PySem L2
theorem ixd_lst {xs : List D} {i : Int} : ixd (.lst xs) (.int i) = atI xs i := rfl
theorem ixd_tup {xs : List D} {i : Int} : ixd (.tup xs) (.int i) = atI xs i := rfl
theorem ixd_scr {xs : List D} {i : Int} : ixd (.scr xs) (.int i) = atI xs i := rfl
theorem eqd_int {a b : Int} : eqd (.int a) (.int b) = some (decide (a = b)) := by
  have : eqd (.int a) (.int b) = some (a == b) := rfl
  rw [this]
  by_cases h : a = b
  · subst h; simp
  · have : (a == b) = false := by simpa using h
    rw [this]; simp [h]
end Pm
namespace Pm
open PySem L2
theorem join_len (e : Str) (he : e.length = 0) (ss : List Str) : (Txt.join e ss).length ≤ (ss.map Str.length).sum := by
  have h := StrLaws.join_length_le e ss
  rw [he, Nat.mul_zero, Nat.add_zero] at h
  rw [TL.join_eq]
  exact h
theorem sum_le {α : Type} {f : α → Nat} {m : Nat} : ∀ {xs : List α}, (∀ x, x ∈ xs → f x ≤ m) → (xs.map f).sum ≤ m * xs.length
  | [], _ => by simp
  | x :: xs, h => by
    have h1 := h x List.mem_cons_self
    have h2 := sum_le (xs := xs) fun y hy => h y (List.mem_cons_of_mem _ hy)
    simp only [List.map_cons, List.sum_cons, List.length_cons]
    have : m * (xs.length + 1) = m * xs.length + m := by rw [Nat.mul_add, Nat.mul_one]
    omega
theorem allS_map : ∀ ss : List Str, allS (ss.map .str) = some ss
  | [] => rfl
  | x :: xs => by
    rw [List.map_cons, allS, allS_map xs]
    rfl
theorem rngD_ok {i j : Int} (h1 : -(2 ^ 62) < i) (h2 : i < 2 ^ 62) (h3 : -(2 ^ 62) < j) (h4 : j < 2 ^ 62) : rngD (.int i) (.int j) = some ((List.range (j - i).toNat).map fun (k : Nat) => D.int (i + k)) := by
  show (if decide (i.natAbs < 2 ^ 62 ∧ j.natAbs < 2 ^ 62) = true then _ else none) = _
  rw [if_pos (decide_eq_true ⟨by omega, by omega⟩)]
/-- pieces of at most m signs, joined by nothing -/
theorem med_join0 {e : Str} (he : e.length = 0) {ss : List Str} {m : Nat} (h : ∀ s, s ∈ ss → s.length ≤ m) (hm : m * ss.length ≤ 16777216) : med "join" e [.lst (ss.map .str)] = some (false, .str (Txt.join e ss)) ∧ (Txt.join e ss).length ≤ m * ss.length := by
  have h1 := sum_le h
  refine ⟨?_, Nat.le_trans (join_len e he ss) h1⟩
  show (match allS (ss.map .str) with | some ss => if decide ((ss.map Str.length).sum + ss.length * e.length ≤ 16777216) = true then some (false, D.str (Txt.join e ss)) else none | none => none) = _
  rw [allS_map]
  simp only
  rw [if_pos (decide_eq_true (by rw [he]; omega))]
end Pm
namespace Pm
open PySem L2
theorem med_upper {x : Str} : med "upper" x [] = if decide (x.length ≤ 5592405) then some (false, .str (Txt.upper x)) else none := rfl
theorem slcd_lst {xs : List D} {l h : Option Int} : slcd (.lst xs) l h = some (true, .lst (cutD xs l h)) := rfl
theorem slcd_scr {xs : List D} {l h : Option Int} : slcd (.scr xs) l h = some (true, .lst (cutD xs l h)) := rfl
/-- a part of a text -/
theorem slcd_str {z : Str} {l h : Option Int} (hl : line z.length = true) : ∃ y, slcd (.str z) l h = some (false, .str y) ∧ y.length ≤ z.length := by
  refine ⟨⟨(cutD z.cps.toList l h).toArray⟩, ?_, ?_⟩
  · show (if line z.length = true then some (false, D.str ⟨(cutD z.cps.toList l h).toArray⟩) else none) = _
    rw [if_pos hl]
  · show (cutD z.cps.toList l h).toArray.size ≤ z.cps.size
    rw [List.size_toArray]
    unfold cutD
    rw [List.length_take, List.length_drop, Array.length_toList]
    omega
theorem isid_of {d : D} {ty : String} (h : ∀ C fs vs, d ≠ .ins C fs vs) : isid d ty = kitB (tyD d) ty := by
  cases d <;> first | rfl | exact (h _ _ _ rfl).elim
end Pm
namespace Pm
open PySem L2
section
variable {σ : Ev} {cl : Cl} {QO : Option Int → Ev → Prop}
theorem ro_var {i : Nat} : Rn (evO cl (.var i)) σ QO = Rn (ev cl (.var i)) σ (kO QO) := ro_some (fun h => nomatch h)
theorem ro_int {i : Int} : Rn (evO cl (.con (.int i))) σ QO = Rn (ev cl (.con (.int i))) σ (kO QO) := ro_some (fun h => nomatch h)
theorem ro_bin {op : Operator} {a b : E} : Rn (evO cl (.bin op a b)) σ QO = Rn (ev cl (.bin op a b)) σ (kO QO) := ro_some (fun h => nomatch h)
theorem ro_neg {a : E} : Rn (evO cl (.neg a)) σ QO = Rn (ev cl (.neg a)) σ (kO QO) := ro_some (fun h => nomatch h)
theorem ro_ix {a b : E} : Rn (evO cl (.ix a b)) σ QO = Rn (ev cl (.ix a b)) σ (kO QO) := ro_some (fun h => nomatch h)
theorem ro_bi {f : String} {es : List E} : Rn (evO cl (.bi f es)) σ QO = Rn (ev cl (.bi f es)) σ (kO QO) := ro_some (fun h => nomatch h)
theorem ro_call {f : Nat} {es : List E} {pm : List Nat} {bs : List Bool} : Rn (evO cl (.call f es pm bs)) σ QO = Rn (ev cl (.call f es pm bs)) σ (kO QO) := ro_some (fun h => nomatch h)
end
end Pm
namespace Pm
open PySem L2
theorem bid_abs {i : Int} : bid "abs" [.int i] = some (false, .int (if i < 0 then -i else i)) := rfl
theorem bid_max {i j : Int} : bid "max" [.int i, .int j] = some (false, .int (if j > i then j else i)) := rfl
theorem bid_min {i j : Int} : bid "min" [.int i, .int j] = some (false, .int (if j < i then j else i)) := rfl
theorem bid_int {i : Int} : bid "int" [.int i] = some (false, .int i) := rfl
theorem bid_intB {k : Bool} : bid "int" [.bl k] = some (false, .int (if k then 1 else 0)) := rfl
theorem bid_lenL {xs : List D} : bid "len" [.lst xs] = some (false, .int xs.length) := rfl
theorem bid_lenT {xs : List D} : bid "len" [.tup xs] = some (false, .int xs.length) := rfl
theorem bid_lenC {xs : List D} : bid "len" [.scr xs] = some (false, .int xs.length) := rfl
theorem bid_lenS {x : Str} : bid "len" [.str x] = if line x.length then some (false, .int x.length) else none := rfl
theorem bid_all {xs : List D} : bid "all" [.lst xs] = (allB xs).map fun bs => (false, .bl (bs.all id)) := rfl
theorem bid_any {xs : List D} : bid "any" [.lst xs] = (allB xs).map fun bs => (false, .bl (bs.any id)) := rfl
theorem bid_sum {xs : List D} : bid "sum" [.lst xs] = (allI xs).map fun ns => (false, .int ns.sum) := rfl
theorem bid_listL {xs : List D} : bid "list" [.lst xs] = some (true, .lst xs) := rfl
theorem bid_listT {xs : List D} : bid "list" [.tup xs] = some (true, .lst xs) := rfl
theorem bid_tupL {xs : List D} : bid "tuple" [.lst xs] = some (false, .tup xs) := rfl
theorem bid_tupT {xs : List D} : bid "tuple" [.tup xs] = some (false, .tup xs) := rfl
theorem bid_repr {x : D} {p : PyData} (h : toP x = some p) (h2 : (PyData.showable p && line p.shown.length && decide (p.depth ≤ 32)) = true) : bid "repr" [x] = some (false, .str p.shown) := by
  show (match toP x with
    | some p => if (PyData.showable p && line p.shown.length && decide (p.depth ≤ 32)) = true then some (false, D.str p.shown) else none
    | none => none) = _
  rw [h]
  exact if_pos h2
end Pm
namespace K01
open PySem L2 Pm
def top (i : Nat) : Stmt := PySem.Challenge.pw_raggedtotals_k01_names.main.body.getD i (.Pass ⟨0, 0, 0, 0⟩)
def gl : List (Str × Gk) := [("is_name", .fn 0), ("_law_cell", .fn 1), ("_law_bag", .fn 2), ("_law_draw", .fn 3), ("_law_sign", .fn 4), ("_law_word", .fn 5), ("_law_bent", .fn 6), ("_law_due", .fn 7), ("_law_odd", .fn 8), ("law", .fn 9), ("LETTERS", .con (.str "abcdefghijklmnopqrstuvwxyz")), ("SIGNS", .con (.str "abcdefghijklmnopqrstuvwxyz0123456789")), ("MAX_LENGTH", .con (.int 8))]
def bl : List Str := ["abs", "all", "int", "isinstance", "len", "max", "min", "range", "repr", "str"]
def fm : List Form := [{ f := 3, n := 2, ks := [], df := [], pm := [0, 1], bs := [true, false] }, { f := 4, n := 1, ks := [], df := [], pm := [0], bs := [true] }, { f := 2, n := 1, ks := [], df := [], pm := [0], bs := [false] }, { f := 0, n := 1, ks := [], df := [], pm := [0], bs := [false] }, { f := 1, n := 2, ks := [], df := [], pm := [0, 1], bs := [false, false] }, { f := 5, n := 1, ks := [], df := [], pm := [0], bs := [true] }, { f := 6, n := 2, ks := [], df := [], pm := [0, 1], bs := [true, false] }, { f := 8, n := 2, ks := [], df := [], pm := [0, 1], bs := [true, false] }, { f := 0, n := 0, ks := ["value"], df := [], pm := [0], bs := [false] }, { f := 7, n := 1, ks := [], df := [], pm := [0], bs := [false] }]
/-- is_name -/
abbrev s0 : Stmt := top 4
def N0 : List Str := ["value", "sign"]
def ps0 : List Str := ["value"]
def ls0 : List Str := ["value"]
def c0 : Cc := { N := N0, sc := defScope s0, ls := ls0, gl := gl, bl := bl, fm := fm }
def b0 : List S := [
  .ite (.or (.not (.isi (.var 0) "str")) (.not (.chain .LtE .LtE (.con (.int 1)) (.bi "len" [(.var 0)]) (.con (.int 8))))) [.ret (.con (.bl false))] [],
  .ret (.and (.cmp .In (.ix (.var 0) (.con (.int 0))) (.con (.str "abcdefghijklmnopqrstuvwxyz"))) (.bi "all" [(.lc (.cmp .In (.var 1) (.con (.str "abcdefghijklmnopqrstuvwxyz0123456789"))) (.nm 1) (.var 0) [] [1])]))]
theorem code0 : compSs (compS 30 30 c0) (defBody s0) = some b0 := by rfl
def d0 : Df := { np := 1, n := 2, body := b0 }
theorem sc0 : FnScope N0 ps0 (defScope s0) := ⟨rfl, rfl, rfl, by decide +kernel, rfl, by decide +kernel, by decide +kernel⟩
theorem lo0 : ∀ x, x ∈ ls0 → Loc (defScope s0) x := by unfold L2.Loc; decide +kernel
/-- _law_cell -/
abbrev s1 : Stmt := top 6
def N1 : List Str := ["_law_script", "_law_k", "_law_number", "_law_cell_here"]
def ps1 : List Str := ["_law_script", "_law_k"]
def ls1 : List Str := ["_law_script", "_law_k", "_law_number", "_law_cell_here"]
def c1 : Cc := { N := N1, sc := defScope s1, ls := ls1, gl := gl, bl := bl, fm := fm }
def b1 : List S := [
  .ite (.cmp .Lt (.var 1) (.bi "len" [(.var 0)])) [.ret (.bi "int" [(.ix (.var 0) (.var 1))])] [],
  .set (.nm 2) (.bin .Add (.con (.int 90001)) (.bin .Mult (.bin .Mult (.con (.int 7919)) (.var 1)) (.var 1))),
  .for_ (.nm 3) (.slc (.var 0) (.con .non) (.con (.int 4))) [.set (.nm 2) (.bin .Mod (.bi "int" [(.bin .Add (.bin .Add (.bin .Mult (.var 2) (.con (.int 31511))) (.bin .Mult (.bin .Mod (.bi "int" [(.var 3)]) (.con (.int 1000003))) (.bin .Add (.var 1) (.con (.int 1))))) (.con (.int 77)))]) (.con (.int 2147483629)))],
  .ret (.var 2)]
theorem code1 : compSs (compS 30 30 c1) (defBody s1) = some b1 := by rfl
def d1 : Df := { np := 2, n := 4, body := b1 }
theorem sc1 : FnScope N1 ps1 (defScope s1) := ⟨rfl, rfl, rfl, by decide +kernel, rfl, by decide +kernel, by decide +kernel⟩
theorem lo1 : ∀ x, x ∈ ls1 → Loc (defScope s1) x := by unfold L2.Loc; decide +kernel
/-- _law_bag -/
abbrev s2 : Stmt := top 7
def N2 : List Str := ["_law_cell_here", "_law_great"]
def ps2 : List Str := ["_law_cell_here"]
def ls2 : List Str := ["_law_cell_here", "_law_great"]
def c2 : Cc := { N := N2, sc := defScope s2, ls := ls2, gl := gl, bl := bl, fm := fm }
def b2 : List S := [
  .set (.nm 1) (.ite (.or (.cmp .Lt (.var 0) (.con (.int 0))) (.cmp .GtE (.var 0) (.bin .Pow (.con (.int 10)) (.con (.int 18))))) (.bi "abs" [(.var 0)]) (.con (.int 0))),
  .ret (.lst [(.var 1), (.bin .Mod (.bi "int" [(.var 0)]) (.con (.int 2147483629))), (.con (.int 0))])]
theorem code2 : compSs (compS 30 30 c2) (defBody s2) = some b2 := by rfl
def d2 : Df := { np := 1, n := 2, body := b2 }
theorem sc2 : FnScope N2 ps2 (defScope s2) := ⟨rfl, rfl, rfl, by decide +kernel, rfl, by decide +kernel, by decide +kernel⟩
theorem lo2 : ∀ x, x ∈ ls2 → Loc (defScope s2) x := by unfold L2.Loc; decide +kernel
/-- _law_draw -/
abbrev s3 : Stmt := top 8
def N3 : List Str := ["_law_bag_here", "_law_many", "_law_digit", "_law_seed", "_law_shift"]
def ps3 : List Str := ["_law_bag_here", "_law_many"]
def ls3 : List Str := ["_law_bag_here", "_law_many", "_law_digit", "_law_seed", "_law_shift"]
def c3 : Cc := { N := N3, sc := defScope s3, ls := ls3, gl := gl, bl := bl, fm := fm }
def b3 : List S := [
  .put 0 (.con (.int 2)) (.bin .Add (.ix (.var 0) (.con (.int 2))) (.con (.int 1))),
  .ite (.cmp .Gt (.ix (.var 0) (.con (.int 0))) (.con (.int 0))) [.set (.nm 2) (.bin .Mod (.bi "int" [(.ix (.var 0) (.con (.int 0)))]) (.var 1)), .put 0 (.con (.int 0)) (.bin .FloorDiv (.ix (.var 0) (.con (.int 0))) (.var 1)), .ret (.var 2)] [],
  .set (.nm 3) (.ix (.var 0) (.con (.int 1))),
  .set (.nm 4) (.bin .Add (.con (.int 40961)) (.bin .Mult (.con (.int 2)) (.ix (.var 0) (.con (.int 2))))),
  .put 0 (.con (.int 1)) (.bin .Mod (.bi "int" [(.bin .Add (.bin .Add (.bin .Mult (.var 3) (.bin .Add (.var 3) (.var 4))) (.bin .Mult (.con (.int 71993)) (.ix (.var 0) (.con (.int 2))))) (.con (.int 17)))]) (.con (.int 2147483629))),
  .ret (.bin .Mod (.bi "int" [(.bin .FloorDiv (.ix (.var 0) (.con (.int 1))) (.con (.int 127)))]) (.var 1))]
theorem code3 : compSs (compS 30 30 c3) (defBody s3) = some b3 := by rfl
def d3 : Df := { np := 2, n := 5, body := b3 }
theorem sc3 : FnScope N3 ps3 (defScope s3) := ⟨rfl, rfl, rfl, by decide +kernel, rfl, by decide +kernel, by decide +kernel⟩
theorem lo3 : ∀ x, x ∈ ls3 → Loc (defScope s3) x := by unfold L2.Loc; decide +kernel
/-- _law_sign -/
abbrev s4 : Stmt := top 9
def N4 : List Str := ["_law_bag_here", "_law_way", "_law_small", "_law_others"]
def ps4 : List Str := ["_law_bag_here"]
def ls4 : List Str := ["_law_bag_here", "_law_way", "_law_small", "_law_others"]
def c4 : Cc := { N := N4, sc := defScope s4, ls := ls4, gl := gl, bl := bl, fm := fm }
def b4 : List S := [
  .set (.nm 1) (.call 3 [(.var 0), (.con (.int 5))] [0, 1] [true, false]),
  .set (.nm 2) (.con (.str "abcdefghijklmnopqrstuvwxyz")),
  .ite (.cmp .Lt (.var 1) (.con (.int 2))) [.ret (.ix (.var 2) (.call 3 [(.var 0), (.con (.int 26))] [0, 1] [true, false]))] [],
  .ite (.cmp .Eq (.var 1) (.con (.int 2))) [.ret (.ix (.con (.str "0123456789")) (.call 3 [(.var 0), (.con (.int 10))] [0, 1] [true, false]))] [],
  .ite (.cmp .Eq (.var 1) (.con (.int 3))) [.ret (.ix (.me "upper" (.var 2) []) (.call 3 [(.var 0), (.con (.int 26))] [0, 1] [true, false]))] [],
  .set (.nm 3) (.con (.str " !\"\x23$&'()*+,-./:;<=>?\x40[\\]^_`{|}~\n")),
  .ret (.ix (.var 3) (.call 3 [(.var 0), (.bi "len" [(.var 3)])] [0, 1] [true, false]))]
theorem code4 : compSs (compS 30 30 c4) (defBody s4) = some b4 := by rfl
def d4 : Df := { np := 1, n := 4, body := b4 }
theorem sc4 : FnScope N4 ps4 (defScope s4) := ⟨rfl, rfl, rfl, by decide +kernel, rfl, by decide +kernel, by decide +kernel⟩
theorem lo4 : ∀ x, x ∈ ls4 → Loc (defScope s4) x := by unfold L2.Loc; decide +kernel
/-- _law_word -/
abbrev s5 : Stmt := top 10
def N5 : List Str := ["_law_bag_here", "_law_small", "_law_size", "_law_more", "_law_k"]
def ps5 : List Str := ["_law_bag_here"]
def ls5 : List Str := ["_law_bag_here", "_law_small", "_law_size", "_law_more"]
def c5 : Cc := { N := N5, sc := defScope s5, ls := ls5, gl := gl, bl := bl, fm := fm }
def b5 : List S := [
  .set (.nm 1) (.con (.str "abcdefghijklmnopqrstuvwxyz")),
  .set (.nm 2) (.ix (.lst [(.con (.int 0)), (.con (.int 1)), (.con (.int 6)), (.con (.int 7)), (.con (.int 7)), (.con (.int 3))]) (.call 3 [(.var 0), (.con (.int 6))] [0, 1] [true, false])),
  .set (.nm 3) (.lc (.ix (.bin .Add (.var 1) (.con (.str "0123456789"))) (.call 3 [(.var 0), (.con (.int 36))] [0, 1] [true, false])) (.nm 4) (.rng (.con (.int 0)) (.var 2)) [] [4]),
  .ret (.bin .Add (.ix (.var 1) (.call 3 [(.var 0), (.con (.int 26))] [0, 1] [true, false])) (.me "join" (.con (.str "")) [(.var 3)]))]
theorem code5 : compSs (compS 30 30 c5) (defBody s5) = some b5 := by rfl
def d5 : Df := { np := 1, n := 5, body := b5 }
theorem sc5 : FnScope N5 ps5 (defScope s5) := ⟨rfl, rfl, rfl, by decide +kernel, rfl, by decide +kernel, by decide +kernel⟩
theorem lo5 : ∀ x, x ∈ ls5 → Loc (defScope s5) x := by unfold L2.Loc; decide +kernel
/-- _law_bent -/
abbrev s6 : Stmt := top 11
def N6 : List Str := ["_law_bag_here", "_law_word_here", "_law_way", "_law_at", "_law_sign_here"]
def ps6 : List Str := ["_law_bag_here", "_law_word_here"]
def ls6 : List Str := ["_law_bag_here", "_law_word_here", "_law_way", "_law_at", "_law_sign_here"]
def c6 : Cc := { N := N6, sc := defScope s6, ls := ls6, gl := gl, bl := bl, fm := fm }
def b6 : List S := [
  .par [2, 3] [(.call 3 [(.var 0), (.con (.int 3))] [0, 1] [true, false]), (.call 3 [(.var 0), (.bin .Add (.bi "len" [(.var 1)]) (.con (.int 1)))] [0, 1] [true, false])],
  .set (.nm 4) (.call 4 [(.var 0)] [0] [true]),
  .ite (.cmp .Eq (.var 2) (.con (.int 0))) [.ret (.bin .Add (.bin .Add (.slc (.var 1) (.con .non) (.var 3)) (.var 4)) (.slc (.var 1) (.var 3) (.con .non)))] [],
  .ret (.bin .Add (.bin .Add (.slc (.var 1) (.con .non) (.var 3)) (.ix (.lst [(.con (.str "")), (.con (.str "")), (.var 4)]) (.var 2))) (.slc (.var 1) (.bin .Add (.var 3) (.con (.int 1))) (.con .non)))]
theorem code6 : compSs (compS 30 30 c6) (defBody s6) = some b6 := by rfl
def d6 : Df := { np := 2, n := 5, body := b6 }
theorem sc6 : FnScope N6 ps6 (defScope s6) := ⟨rfl, rfl, rfl, by decide +kernel, rfl, by decide +kernel, by decide +kernel⟩
theorem lo6 : ∀ x, x ∈ ls6 → Loc (defScope s6) x := by unfold L2.Loc; decide +kernel
/-- _law_due -/
abbrev s7 : Stmt := top 12
def N7 : List Str := ["_law_thing", "_law_small", "_law_sign_here"]
def ps7 : List Str := ["_law_thing"]
def ls7 : List Str := ["_law_thing", "_law_small"]
def c7 : Cc := { N := N7, sc := defScope s7, ls := ls7, gl := gl, bl := bl, fm := fm }
def b7 : List S := [
  .ite (.or (.not (.isi (.var 0) "str")) (.not (.chain .Lt .Lt (.con (.int 0)) (.bi "len" [(.var 0)]) (.con (.int 9))))) [.ret (.con (.bl false))] [],
  .set (.nm 1) (.con (.str "abcdefghijklmnopqrstuvwxyz")),
  .ret (.and (.cmp .In (.ix (.var 0) (.con (.int 0))) (.var 1)) (.bi "all" [(.lc (.cmp .In (.var 2) (.bin .Add (.var 1) (.con (.str "0123456789")))) (.nm 2) (.var 0) [] [2])]))]
theorem code7 : compSs (compS 30 30 c7) (defBody s7) = some b7 := by rfl
def d7 : Df := { np := 1, n := 3, body := b7 }
theorem sc7 : FnScope N7 ps7 (defScope s7) := ⟨rfl, rfl, rfl, by decide +kernel, rfl, by decide +kernel, by decide +kernel⟩
theorem lo7 : ∀ x, x ∈ ls7 → Loc (defScope s7) x := by unfold L2.Loc; decide +kernel
/-- _law_odd -/
abbrev s8 : Stmt := top 13
def N8 : List Str := ["_law_bag_here", "_law_word_here", "_law_menu"]
def ps8 : List Str := ["_law_bag_here", "_law_word_here"]
def ls8 : List Str := ["_law_bag_here", "_law_word_here", "_law_menu"]
def c8 : Cc := { N := N8, sc := defScope s8, ls := ls8, gl := gl, bl := bl, fm := fm }
def b8 : List S := [
  .set (.nm 2) (.lst [(.con .non), (.con (.bl true)), (.con (.bl false)), (.con (.int 0)), (.con (.int 1)), (.neg (.con (.int 7))), (.tup [(.var 1)]), (.lst [(.var 1)]), (.lst []), (.dct [])]),
  .set (.nm 2) (.bin .Add (.var 2) (.lst [(.dct [(.var 1), (.con (.int 1))]), (.tup []), (.tup [(.var 1), (.var 1)]), (.lst [(.lst [(.var 1)])]), (.bin .Pow (.con (.int 10)) (.con (.int 40)))])),
  .ret (.ix (.var 2) (.call 3 [(.var 0), (.con (.int 15))] [0, 1] [true, false]))]
theorem code8 : compSs (compS 30 30 c8) (defBody s8) = some b8 := by rfl
def d8 : Df := { np := 2, n := 3, body := b8 }
theorem sc8 : FnScope N8 ps8 (defScope s8) := ⟨rfl, rfl, rfl, by decide +kernel, rfl, by decide +kernel, by decide +kernel⟩
theorem lo8 : ∀ x, x ∈ ls8 → Loc (defScope s8) x := by unfold L2.Loc; decide +kernel
/-- law -/
abbrev s9 : Stmt := top 14
def N9 : List Str := ["_law_script", "_law_k", "_law_bag_here", "_law_things", "_law_turn", "_law_word_here", "_law_thing", "_law_seen", "_law_j", "_law_each"]
def ps9 : List Str := ["_law_script"]
def ls9 : List Str := ["_law_script", "_law_k", "_law_bag_here", "_law_things", "_law_turn", "_law_word_here", "_law_thing", "_law_seen"]
def c9 : Cc := { N := N9, sc := defScope s9, ls := ls9, gl := gl, bl := bl, fm := fm }
def b9 : List S := [
  .for_ (.nm 1) (.rng (.con (.int 0)) (.bi "max" [(.con (.int 3)), (.bi "min" [(.bi "len" [(.var 0)]), (.con (.int 6))])])) [.set (.nm 2) (.call 2 [(.call 1 [(.var 0), (.var 1)] [0, 1] [false, false])] [0] [false]), .set (.nm 3) (.lst []), .for_ (.nm 4) (.rng (.con (.int 0)) (.con (.int 5))) [.set (.nm 5) (.call 5 [(.var 2)] [0] [true]), .set (.nm 3) (.bin .Add (.var 3) (.lst [(.var 5), (.call 6 [(.var 2), (.var 5)] [0, 1] [true, false]), (.call 8 [(.var 2), (.var 5)] [0, 1] [true, false])])), .app 3 (.me "join" (.con (.str "")) [(.lc (.call 4 [(.var 2)] [0] [true]) (.nm 8) (.rng (.con (.int 0)) (.call 3 [(.var 2), (.con (.int 11))] [0, 1] [true, false])) [] [8])])], .for_ (.nm 6) (.bin .Add (.var 3) (.rev (.var 3))) [.ite (.cmp .NotEq (.bi "repr" [(.lst [(.call 0 [(.var 6)] [0] [false]), (.call 0 [(.var 6)] [0] [false])])]) (.bi "repr" [(.bin .Mult (.lst [(.call 7 [(.var 6)] [0] [false])]) (.con (.int 2)))])) [.ret (.con (.bl false))] []]],
  .set (.nm 7) (.lc (.call 0 [(.var 9)] [0] [false]) (.nm 9) (.lst [(.con (.str "")), (.con (.str "7a")), (.con (.str "abcdefghi")), (.con (.str "abcdefg-")), (.con (.str "aB")), (.con (.str "a\n")), (.con (.str "a")), (.con (.str "a7")), (.con (.str "abcdefgh"))]) [] [9]),
  .ret (.cmp .Eq (.bi "repr" [(.var 7)]) (.bi "repr" [(.bin .Add (.bin .Mult (.lst [(.con (.bl false))]) (.con (.int 6))) (.bin .Mult (.lst [(.con (.bl true))]) (.con (.int 3))))]))]
theorem code9 : compSs (compS 30 30 c9) (defBody s9) = some b9 := by rfl
def d9 : Df := { np := 1, n := 10, body := b9 }
theorem sc9 : FnScope N9 ps9 (defScope s9) := ⟨rfl, rfl, rfl, by decide +kernel, rfl, by decide +kernel, by decide +kernel⟩
theorem lo9 : ∀ x, x ∈ ls9 → Loc (defScope s9) x := by unfold L2.Loc; decide +kernel
def ds : List Df := [d0, d1, d2, d3, d4, d5, d6, d7, d8, d9]
end K01
namespace K01
open PySem PySem.Spec PyProof.Rows L2 Pm
def tab (f0 f1 f2 f3 f4 f5 f6 f7 f8 f9 : Addr) (g0 g1 g2 g3 g4 g5 g6 g7 g8 g9 : FuncData) : Tab := { es := [⟨"is_name", "is_name", s0, f0, g0, .none, N0, ps0, ls0, d0⟩, ⟨"_law_cell", "_law_cell", s1, f1, g1, .none, N1, ps1, ls1, d1⟩, ⟨"_law_bag", "_law_bag", s2, f2, g2, .none, N2, ps2, ls2, d2⟩, ⟨"_law_draw", "_law_draw", s3, f3, g3, .none, N3, ps3, ls3, d3⟩, ⟨"_law_sign", "_law_sign", s4, f4, g4, .none, N4, ps4, ls4, d4⟩, ⟨"_law_word", "_law_word", s5, f5, g5, .none, N5, ps5, ls5, d5⟩, ⟨"_law_bent", "_law_bent", s6, f6, g6, .none, N6, ps6, ls6, d6⟩, ⟨"_law_due", "_law_due", s7, f7, g7, .none, N7, ps7, ls7, d7⟩, ⟨"_law_odd", "_law_odd", s8, f8, g8, .none, N8, ps8, ls8, d8⟩, ⟨"law", "law", s9, f9, g9, .none, N9, ps9, ls9, d9⟩], gl := gl, bl := bl, fm := fm }
section
variable {K : PySem.W.Frag} {h : Heap} {mg : Str → Option Value}
abbrev fnd (x : Str) (st : Stmt) (kV doc pm : Value) (an : Option Addr) (cdv ct : Value) : FuncData := PySem.W.fnOf x x (defArgs st) (defBody st) (defScope st) .none kV doc pm an cdv ct
theorem form0 {kV doc pm : Value} {an : Option Addr} {cdv ct : Value} : Binds2 K (fnd "_law_draw" s3 kV doc pm an cdv ct) ps3 [] 2 0 [] [0, 1] := fun s us ws zs _ hl hm hp => match us, ws, hl, hm, hp with
  | [_, _], [], _, _, hp => by
    cases hp
    exact .of_eq rfl
theorem form1 {kV doc pm : Value} {an : Option Addr} {cdv ct : Value} : Binds2 K (fnd "_law_sign" s4 kV doc pm an cdv ct) ps4 [] 1 0 [] [0] := fun s us ws zs _ hl hm hp => match us, ws, hl, hm, hp with
  | [_], [], _, _, hp => by
    cases hp
    exact .of_eq rfl
theorem form2 {kV doc pm : Value} {an : Option Addr} {cdv ct : Value} : Binds2 K (fnd "_law_bag" s2 kV doc pm an cdv ct) ps2 [] 1 0 [] [0] := fun s us ws zs _ hl hm hp => match us, ws, hl, hm, hp with
  | [_], [], _, _, hp => by
    cases hp
    exact .of_eq rfl
theorem form3 {kV doc pm : Value} {an : Option Addr} {cdv ct : Value} : Binds2 K (fnd "is_name" s0 kV doc pm an cdv ct) ps0 [] 1 0 [] [0] := fun s us ws zs _ hl hm hp => match us, ws, hl, hm, hp with
  | [_], [], _, _, hp => by
    cases hp
    exact .of_eq rfl
theorem form4 {kV doc pm : Value} {an : Option Addr} {cdv ct : Value} : Binds2 K (fnd "_law_cell" s1 kV doc pm an cdv ct) ps1 [] 2 0 [] [0, 1] := fun s us ws zs _ hl hm hp => match us, ws, hl, hm, hp with
  | [_, _], [], _, _, hp => by
    cases hp
    exact .of_eq rfl
theorem form5 {kV doc pm : Value} {an : Option Addr} {cdv ct : Value} : Binds2 K (fnd "_law_word" s5 kV doc pm an cdv ct) ps5 [] 1 0 [] [0] := fun s us ws zs _ hl hm hp => match us, ws, hl, hm, hp with
  | [_], [], _, _, hp => by
    cases hp
    exact .of_eq rfl
theorem form6 {kV doc pm : Value} {an : Option Addr} {cdv ct : Value} : Binds2 K (fnd "_law_bent" s6 kV doc pm an cdv ct) ps6 [] 2 0 [] [0, 1] := fun s us ws zs _ hl hm hp => match us, ws, hl, hm, hp with
  | [_, _], [], _, _, hp => by
    cases hp
    exact .of_eq rfl
theorem form7 {kV doc pm : Value} {an : Option Addr} {cdv ct : Value} : Binds2 K (fnd "_law_odd" s8 kV doc pm an cdv ct) ps8 [] 2 0 [] [0, 1] := fun s us ws zs _ hl hm hp => match us, ws, hl, hm, hp with
  | [_, _], [], _, _, hp => by
    cases hp
    exact .of_eq rfl
theorem form8 {kV doc pm : Value} {an : Option Addr} {cdv ct : Value} : Binds2 K (fnd "is_name" s0 kV doc pm an cdv ct) ps0 ["value"] 0 1 [] [0] := fun s us ws zs _ hl hm hp => match us, ws, hl, hm, hp with
  | [], [_], _, _, hp => by
    cases hp
    exact .of_eq rfl
theorem form9 {kV doc pm : Value} {an : Option Addr} {cdv ct : Value} : Binds2 K (fnd "_law_due" s7 kV doc pm an cdv ct) ps7 [] 1 0 [] [0] := fun s us ws zs _ hl hm hp => match us, ws, hl, hm, hp with
  | [_], [], _, _, hp => by
    cases hp
    exact .of_eq rfl
theorem all_mk {fa : Addr} (X : K.In h) (G : h.Ns mainGlobals mg) (hfa : mg "law" = some (.ref fa))
    {f0 : Addr} {oc0 kV0 dc0 pm0 cd0 ct0 : Value} {od0 an0 : Option Addr} {sl0 : Array (Option Value)} (a0 : PySem.W.nsIn K mainGlobals "is_name" = some (some (.ref f0))) (l0 : K.lookup f0 = some ⟨oc0, od0, .func (fnd "is_name" s0 kV0 dc0 pm0 an0 cd0 ct0), sl0⟩) (c0 : PySem.W.codeIn K cd0 "is_name" = true) (k0 : PySem.W.keepIn K (.ref f0) = true)
    {f1 : Addr} {oc1 kV1 dc1 pm1 cd1 ct1 : Value} {od1 an1 : Option Addr} {sl1 : Array (Option Value)} (a1 : PySem.W.nsIn K mainGlobals "_law_cell" = some (some (.ref f1))) (l1 : K.lookup f1 = some ⟨oc1, od1, .func (fnd "_law_cell" s1 kV1 dc1 pm1 an1 cd1 ct1), sl1⟩) (c1 : PySem.W.codeIn K cd1 "_law_cell" = true) (k1 : PySem.W.keepIn K (.ref f1) = true)
    {f2 : Addr} {oc2 kV2 dc2 pm2 cd2 ct2 : Value} {od2 an2 : Option Addr} {sl2 : Array (Option Value)} (a2 : PySem.W.nsIn K mainGlobals "_law_bag" = some (some (.ref f2))) (l2 : K.lookup f2 = some ⟨oc2, od2, .func (fnd "_law_bag" s2 kV2 dc2 pm2 an2 cd2 ct2), sl2⟩) (c2 : PySem.W.codeIn K cd2 "_law_bag" = true) (k2 : PySem.W.keepIn K (.ref f2) = true)
    {f3 : Addr} {oc3 kV3 dc3 pm3 cd3 ct3 : Value} {od3 an3 : Option Addr} {sl3 : Array (Option Value)} (a3 : PySem.W.nsIn K mainGlobals "_law_draw" = some (some (.ref f3))) (l3 : K.lookup f3 = some ⟨oc3, od3, .func (fnd "_law_draw" s3 kV3 dc3 pm3 an3 cd3 ct3), sl3⟩) (c3 : PySem.W.codeIn K cd3 "_law_draw" = true) (k3 : PySem.W.keepIn K (.ref f3) = true)
    {f4 : Addr} {oc4 kV4 dc4 pm4 cd4 ct4 : Value} {od4 an4 : Option Addr} {sl4 : Array (Option Value)} (a4 : PySem.W.nsIn K mainGlobals "_law_sign" = some (some (.ref f4))) (l4 : K.lookup f4 = some ⟨oc4, od4, .func (fnd "_law_sign" s4 kV4 dc4 pm4 an4 cd4 ct4), sl4⟩) (c4 : PySem.W.codeIn K cd4 "_law_sign" = true) (k4 : PySem.W.keepIn K (.ref f4) = true)
    {f5 : Addr} {oc5 kV5 dc5 pm5 cd5 ct5 : Value} {od5 an5 : Option Addr} {sl5 : Array (Option Value)} (a5 : PySem.W.nsIn K mainGlobals "_law_word" = some (some (.ref f5))) (l5 : K.lookup f5 = some ⟨oc5, od5, .func (fnd "_law_word" s5 kV5 dc5 pm5 an5 cd5 ct5), sl5⟩) (c5 : PySem.W.codeIn K cd5 "_law_word" = true) (k5 : PySem.W.keepIn K (.ref f5) = true)
    {f6 : Addr} {oc6 kV6 dc6 pm6 cd6 ct6 : Value} {od6 an6 : Option Addr} {sl6 : Array (Option Value)} (a6 : PySem.W.nsIn K mainGlobals "_law_bent" = some (some (.ref f6))) (l6 : K.lookup f6 = some ⟨oc6, od6, .func (fnd "_law_bent" s6 kV6 dc6 pm6 an6 cd6 ct6), sl6⟩) (c6 : PySem.W.codeIn K cd6 "_law_bent" = true) (k6 : PySem.W.keepIn K (.ref f6) = true)
    {f7 : Addr} {oc7 kV7 dc7 pm7 cd7 ct7 : Value} {od7 an7 : Option Addr} {sl7 : Array (Option Value)} (a7 : PySem.W.nsIn K mainGlobals "_law_due" = some (some (.ref f7))) (l7 : K.lookup f7 = some ⟨oc7, od7, .func (fnd "_law_due" s7 kV7 dc7 pm7 an7 cd7 ct7), sl7⟩) (c7 : PySem.W.codeIn K cd7 "_law_due" = true) (k7 : PySem.W.keepIn K (.ref f7) = true)
    {f8 : Addr} {oc8 kV8 dc8 pm8 cd8 ct8 : Value} {od8 an8 : Option Addr} {sl8 : Array (Option Value)} (a8 : PySem.W.nsIn K mainGlobals "_law_odd" = some (some (.ref f8))) (l8 : K.lookup f8 = some ⟨oc8, od8, .func (fnd "_law_odd" s8 kV8 dc8 pm8 an8 cd8 ct8), sl8⟩) (c8 : PySem.W.codeIn K cd8 "_law_odd" = true) (k8 : PySem.W.keepIn K (.ref f8) = true)
    {f9 : Addr} {oc9 kV9 dc9 pm9 cd9 ct9 : Value} {od9 an9 : Option Addr} {sl9 : Array (Option Value)} (a9 : PySem.W.nsIn K mainGlobals "law" = some (some (.ref f9))) (l9 : K.lookup f9 = some ⟨oc9, od9, .func (fnd "law" s9 kV9 dc9 pm9 an9 cd9 ct9), sl9⟩) (c9 : PySem.W.codeIn K cd9 "law" = true) (k9 : PySem.W.keepIn K (.ref f9) = true)
    {t0 : Tok} (y0 : PySem.W.nsIn K mainGlobals "LETTERS" = some (some (.str "abcdefghijklmnopqrstuvwxyz" t0)))
    {t1 : Tok} (y1 : PySem.W.nsIn K mainGlobals "SIGNS" = some (some (.str "abcdefghijklmnopqrstuvwxyz0123456789" t1)))
    {t2 : Tok} (y2 : PySem.W.nsIn K mainGlobals "MAX_LENGTH" = some (some (.int 8 t2)))
    (z0 : PySem.W.nsIn K mainGlobals "abs" = some none)
    (z1 : PySem.W.nsIn K mainGlobals "all" = some none)
    (z2 : PySem.W.nsIn K mainGlobals "int" = some none)
    (z3 : PySem.W.nsIn K mainGlobals "isinstance" = some none)
    (z4 : PySem.W.nsIn K mainGlobals "len" = some none)
    (z5 : PySem.W.nsIn K mainGlobals "max" = some none)
    (z6 : PySem.W.nsIn K mainGlobals "min" = some none)
    (z7 : PySem.W.nsIn K mainGlobals "range" = some none)
    (z8 : PySem.W.nsIn K mainGlobals "repr" = some none)
    (z9 : PySem.W.nsIn K mainGlobals "str" = some none)
    : ∃ (ca : Nat → Addr) (t : Tab) (i : Nat) (e : Ent), TabOk ⟨K, ca⟩ mg t 30 30 ∧ t.es[i]? = some e ∧ e.fa = fa ∧ e.ps = ps9 ∧ (∀ (s : Shared) (u : Value), BindsTo s e.fd ⟨[u], []⟩ [("_law_script", u)]) ∧ t.ds = ds ∧ i = 9 := by
  have e : f9 = fa := by
    have z := hfa.symm.trans (PySem.W.mg_of X G a9)
    cases z
    rfl
  subst e
  refine ⟨fun _ => 0, tab f0 f1 f2 f3 f4 f5 f6 f7 f8 f9 (fnd "is_name" s0 kV0 dc0 pm0 an0 cd0 ct0) (fnd "_law_cell" s1 kV1 dc1 pm1 an1 cd1 ct1) (fnd "_law_bag" s2 kV2 dc2 pm2 an2 cd2 ct2) (fnd "_law_draw" s3 kV3 dc3 pm3 an3 cd3 ct3) (fnd "_law_sign" s4 kV4 dc4 pm4 an4 cd4 ct4) (fnd "_law_word" s5 kV5 dc5 pm5 an5 cd5 ct5) (fnd "_law_bent" s6 kV6 dc6 pm6 an6 cd6 ct6) (fnd "_law_due" s7 kV7 dc7 pm7 an7 cd7 ct7) (fnd "_law_odd" s8 kV8 dc8 pm8 an8 cd8 ct8) (fnd "law" s9 kV9 dc9 pm9 an9 cd9 ct9), 9, _, tab_of ?_ ?_ ?_ ?_, rfl, rfl, rfl, fun s u => .of_eq rfl, rfl, rfl⟩
  · exact all_cons ⟨_, rfl, PySem.W.mg_of X G a0⟩ (all_cons ⟨_, rfl, PySem.W.mg_of X G a1⟩ (all_cons ⟨_, rfl, PySem.W.mg_of X G a2⟩ (all_cons ⟨_, rfl, PySem.W.mg_of X G a3⟩ (all_cons ⟨_, rfl, PySem.W.mg_of X G a4⟩ (all_cons ⟨_, rfl, PySem.W.mg_of X G a5⟩ (all_cons ⟨_, rfl, PySem.W.mg_of X G a6⟩ (all_cons ⟨_, rfl, PySem.W.mg_of X G a7⟩ (all_cons ⟨_, rfl, PySem.W.mg_of X G a8⟩ (all_cons ⟨_, rfl, PySem.W.mg_of X G a9⟩ (all_cons (⟨.str _, _, PySem.W.mg_of X G y0, ⟨_, rfl⟩, fun _ => .str _⟩) (all_cons (⟨.str _, _, PySem.W.mg_of X G y1, ⟨_, rfl⟩, fun _ => .str _⟩) (all_cons (⟨.int _, _, PySem.W.mg_of X G y2, ⟨_, rfl⟩, fun _ => .int _⟩) (all_nil)))))))))))))
  · exact all_cons (PySem.W.mg_none_of X G z0) (all_cons (PySem.W.mg_none_of X G z1) (all_cons (PySem.W.mg_none_of X G z2) (all_cons (PySem.W.mg_none_of X G z3) (all_cons (PySem.W.mg_none_of X G z4) (all_cons (PySem.W.mg_none_of X G z5) (all_cons (PySem.W.mg_none_of X G z6) (all_cons (PySem.W.mg_none_of X G z7) (all_cons (PySem.W.mg_none_of X G z8) (all_cons (PySem.W.mg_none_of X G z9) (all_nil))))))))))
  · exact all_cons (fun e h => by cases h; exact ⟨[], [], form0, .nil, fun _ => .nil⟩) (all_cons (fun e h => by cases h; exact ⟨[], [], form1, .nil, fun _ => .nil⟩) (all_cons (fun e h => by cases h; exact ⟨[], [], form2, .nil, fun _ => .nil⟩) (all_cons (fun e h => by cases h; exact ⟨[], [], form3, .nil, fun _ => .nil⟩) (all_cons (fun e h => by cases h; exact ⟨[], [], form4, .nil, fun _ => .nil⟩) (all_cons (fun e h => by cases h; exact ⟨[], [], form5, .nil, fun _ => .nil⟩) (all_cons (fun e h => by cases h; exact ⟨[], [], form6, .nil, fun _ => .nil⟩) (all_cons (fun e h => by cases h; exact ⟨[], [], form7, .nil, fun _ => .nil⟩) (all_cons (fun e h => by cases h; exact ⟨[], [], form8, .nil, fun _ => .nil⟩) (all_cons (fun e h => by cases h; exact ⟨[], [], form9, .nil, fun _ => .nil⟩) (all_nil))))))))))
  · exact all_cons ⟨fun_of l0 c0 k0, sc0, lo0, ⟨rfl, rfl⟩, code0⟩ (all_cons ⟨fun_of l1 c1 k1, sc1, lo1, ⟨rfl, rfl⟩, code1⟩ (all_cons ⟨fun_of l2 c2 k2, sc2, lo2, ⟨rfl, rfl⟩, code2⟩ (all_cons ⟨fun_of l3 c3 k3, sc3, lo3, ⟨rfl, rfl⟩, code3⟩ (all_cons ⟨fun_of l4 c4 k4, sc4, lo4, ⟨rfl, rfl⟩, code4⟩ (all_cons ⟨fun_of l5 c5 k5, sc5, lo5, ⟨rfl, rfl⟩, code5⟩ (all_cons ⟨fun_of l6 c6 k6, sc6, lo6, ⟨rfl, rfl⟩, code6⟩ (all_cons ⟨fun_of l7 c7 k7, sc7, lo7, ⟨rfl, rfl⟩, code7⟩ (all_cons ⟨fun_of l8 c8 k8, sc8, lo8, ⟨rfl, rfl⟩, code8⟩ (all_cons ⟨fun_of l9 c9 k9, sc9, lo9, ⟨rfl, rfl⟩, code9⟩ (all_nil))))))))))
end
end K01
open PySem L2 Pm
local macro_rules | `(tactic| walk_at "pm") => `(tactic| simp only [rv_var, rv_con, rv_bin, rv_neg, rv_not, rv_and, rv_or, rv_ite, rv_cmp, rv_chain, rv_lst, rv_tup, rv_dct, rv_ix, rv_slc, rv_rev, rv_bi, rv_isi, rv_me, rv_call, rv_lc, rt_not, rt_and, rt_or, rt_ite, rt_var, rt_con, rt_bin, rt_neg, rt_cmp, rt_chain, rt_lst, rt_ix, rt_slc, rt_bi, rt_isi, rt_call, rt_lc,
  rs_nil, rs_cons, rp_nil, rp_cons, rr_nil, rr_cons, rd_nil, rd_cons, rc_nil, rc_cons, ro_none, ro_var, ro_int, ro_bin, ro_neg, ro_ix, ro_bi, ro_call, ri_rng, ri_enum, ri_zip, ri_var, ri_con, ri_bin, ri_lst, ri_tup, ri_slc, ri_ix, ri_call, ri_lc, ri_rev, ri_bi, rx_set, rx_par, rx_put, rx_app, rx_expr, rx_ret, rx_ite, rx_for, rx_brk, rx_cnt, rx_pass, rxs_nil, rxs_cons, rn_turnC, rn_turnF,
  kBin1, kBin2, kNeg, kNot, kNot2, kAnd, kAnd2, kOr, kOr2, kIte, kBl, kCmp1, kCmp2, kCh1, kCh2, kCh3, kCh4, kCons, kEs, kEs2, kLst, Pm.kTup, kConsP, kPs, kFz, kIx1, kIx2, kO, kSl1, kSl2, kSl3, kRev, kBi, kIsi, kMe, kMe1, kMe2, kTn, kTa, kTo, kTi, kT, kC, kC1, kC2, kCall, kItems, kRg1, kRg2, kEn, kEn2, kZp1, kZp2, kZp3, kZp4, kWk_sl, kWk_fz, kWk_fr, kD1, kD2, kD3, kD4, kD5, kDct, kEl, kEl2, kCs, kSt, kEc, kLc, kLc2, kNx, kSet, kRs, kRs1, kPar, kPar2, kPut, kPut1, kPut2, kPut3, kPut4, kPut5, kApp1, kApp2, kApp3, kDrop, kRet_fr, kRet_fz, kRet_sl, kIf, kSeq_nx, kSeq_brk, kSeq_cnt, kSeq_ret, kB, kFor_items, kFor_al, kTurn_nx, kTurn_cnt, kTurn_brk, kTurn_ret, kFin_nx, kFin_ret,
  pk_fz, pk_fr, pk_sl, cont_ow, cont_fz, bO_s, oU_t, oU_f, oU_n, oU_if, oV_s, oV_n, oV_if, bop, cop, truth, tO_s, nO, cO_s, xO_s, ixd_lst, ixd_tup, ixd_scr, eqd_int, sO_s, slcd_lst, slcd_scr, iO, rO, pks, bbO_s, bid_abs, bid_max, bid_min, bid_int, bid_intB, bid_lenL, bid_lenT, bid_lenC, bid_lenS, bid_all, bid_any, bid_sum, bid_listL, bid_listT, bid_tupL, bid_tupT, isO_s, mO_s, stO, med_upper, frz_fz, frz_fr, frz_sl, oF_s, soft, frzA, entA, ent1_sl, ent1_fz, ent1_fr, entS_ow, entS_fz, permuted, aft_t, aft_f, tb_nil, tb_fz, tb_fr, tb_sf, tb_ow, tb_of, tbS_ow, tbF_ow, lo_nil, lo_fz, lo_fr, lo_sf, lo_ow, oA_s, oA_if, snd_s, stK_fr, stK_fz, stK_sl, stD_nm, stD_tp, stZ, owZ, okZ_no, okZ_fz, okZ_ow, stE, stA_nil, stA_fr, stA_fz, hrd_nil, hrd_fr, hrd_fz, hrd_sl, oH_s, olO_s, seL_s, hoS_t, hoS_f, hoS_z, rgO_s, keO_s, Pm.keyOf, lsO_s, ixN_1, ixN_l, ixN_n, ixN_0, atI_0, atI_1, atI_l, Nat.reduceLT, wO, wS_ow, wS_fz, hide, unhide,
  List.getElem?_cons_zero, List.getElem?_cons_succ, List.getElem?_nil, List.getD_cons_zero, List.getD_cons_succ, List.set_cons_zero, List.set_cons_succ, List.length_cons, List.length_nil, List.take_succ_cons, List.take_zero, List.take_nil, List.append_nil, List.cons_append, List.nil_append, List.replicate_succ, List.replicate_zero, List.nodup_nil, List.map_nil, List.map_cons, Option.bind_some, Option.map_some, if_true, if_false, ite_true, ite_false, true_and, and_true, Nat.zero_add, Nat.reduceAdd, Nat.reduceSub, Bool.false_eq_true, Bool.not_true, Bool.not_false, decide_eq_true_eq, Option.some.injEq, exists_eq', reduceCtorEq])
namespace K01
def IsBag (d : D) : Prop := ∃ g s j : Int, d = .lst [.int g, .int s, .int j] ∧ 0 ≤ s ∧ s < 2147483629
theorem draw_ok {k : Nat} {d : D} {m : Int} (hb : IsBag d) (hm : 0 < m) (h2 : m < 1073741824) :
    ∃ v d', runP ds (k + 1) 3 [.ow false d, .fz true (.int m)] = .ret false (.int v) [.ow false d', .fz true (.int m)] ∧ 0 ≤ v ∧ v < m ∧ IsBag d' := by
  obtain ⟨g, s, j, rfl, h3, h4⟩ := hb
  refine run_of (d := d3) (P := fun r => ∃ v d', r = .ret false (.int v) [.ow false d', .fz true (.int m)] ∧ 0 ≤ v ∧ v < m ∧ IsBag d') rfl rfl ?_
  unfold d3 b3
  walk_at "pm"
  by_cases hg : 0 < g
  · simp only [hg, if_true]
    exact ⟨hm, fdOk_s (by omega) (by omega) (by omega), _, _, rfl, Int.emod_nonneg _ (by omega), Int.emod_lt_of_pos _ hm, fdv g m, s, j + 1, rfl, h3, h4⟩
  · simp only [hg, if_false]
    exact ⟨mulOk_l (by decide) (by decide), mulOk_l (by omega) (by omega), mulOk_l (by decide) (by decide), by decide, by decide, hm, _, _, rfl, Int.emod_nonneg _ (by omega), Int.emod_lt_of_pos _ hm, _, _, _, rfl, Int.emod_nonneg _ (by decide), Int.emod_lt_of_pos _ (by decide)⟩
theorem sign_ok {k : Nat} {d : D} (hb : IsBag d) : ∃ z d', runP ds (k + 2) 4 [.ow false d] = .ret false (.str z) [.ow false d'] ∧ z.length = 1 ∧ IsBag d' := by
  refine run_of (d := d4) (P := fun r => ∃ z d', r = .ret false (.str z) [.ow false d'] ∧ z.length = 1 ∧ IsBag d') rfl rfl ?_
  unfold d4 b4
  walk_at "pm"
  refine ⟨by decide, ?_⟩
  obtain ⟨v, d1, e1, v0, v1, hb1⟩ := draw_ok (k := k) (m := 5) hb (by decide) (by decide)
  rw [e1]
  walk_at "pm"
  -- the sign at a place that was drawn
  have at_ : ∀ {d1 : D} {m : Int} {x : Str} {Q : KD → Ev → Prop} {σ : Ev}, IsBag d1 → 0 < m → m ≤ x.length → x.length ≤ 1000 → (∀ c d2, IsBag d2 → Q (.fz, .str ⟨#[c]⟩) (.ow false d2 :: σ)) →
      aft (runP ds (k + 1) 3 [.ow false d1, .fz true (.int m)]) [(.sl 0, d1), (.fz, .int m)] [.ow false d1, .fz true (.int m)] (kIx2 (.fz, .str x) Q) (.ow false d1 :: σ) := by
    intro d1 m x Q σ hb hm hx hl h
    obtain ⟨v, d2, e, v0, v1, hb2⟩ := draw_ok (k := k) hb hm (by omega)
    rw [e]
    obtain ⟨c, ec⟩ := ixd_str (z := x) (i := v) (line_le hl) v0 (by omega)
    walk_at "pm"
    rw [ec]
    walk_at "pm"
    exact h c d2 hb2
  by_cases h2 : v < 2
  · rw [if_pos h2]
    refine ⟨by decide, at_ hb1 (by decide) (by decide) (by decide) fun c d2 hb2 => ?_⟩
    walk_at "pm"
    exact ⟨_, d2, rfl, rfl, hb2⟩
  · rw [if_neg h2]
    by_cases h3 : v = 2
    · rw [if_pos h3]
      refine ⟨by decide, at_ hb1 (by decide) (by decide) (by decide) fun c d2 hb2 => ?_⟩
      walk_at "pm"
      exact ⟨_, d2, rfl, rfl, hb2⟩
    · rw [if_neg h3]
      by_cases h4 : v = 3
      · rw [if_pos h4]
        refine ⟨by decide, by decide, at_ hb1 (by decide) (by decide +kernel) (by decide +kernel) fun c d2 hb2 => ?_⟩
        walk_at "pm"
        exact ⟨_, d2, rfl, rfl, hb2⟩
      · rw [if_neg h4]
        refine ⟨by decide, by decide, at_ hb1 (by decide) (by decide) (by decide) fun c d2 hb2 => ?_⟩
        walk_at "pm"
        exact ⟨_, d2, rfl, rfl, hb2⟩
/-- the sign at a place that was drawn -/
theorem at_ok {k : Nat} {d1 : D} {m : Int} {x : Str} {Q : KD → Ev → Prop} {σ : Ev} (hb : IsBag d1) (hm : 0 < m) (hx : m ≤ x.length) (hl : x.length ≤ 1000) (h : ∀ c d2, IsBag d2 → Q (.fz, .str ⟨#[c]⟩) (.ow false d2 :: σ)) :
    aft (runP ds (k + 1) 3 [.ow false d1, .fz true (.int m)]) [(.sl 0, d1), (.fz, .int m)] [.ow false d1, .fz true (.int m)] (kIx2 (.fz, .str x) Q) (.ow false d1 :: σ) := by
  obtain ⟨v, d2, e, v0, v1, hb2⟩ := draw_ok (k := k) hb hm (by omega)
  rw [e]
  obtain ⟨c, ec⟩ := ixd_str (z := x) (i := v) (line_le hl) v0 (by omega)
  walk_at "pm"
  rw [ec]
  walk_at "pm"
  exact h c d2 hb2
theorem len_lit (s : Str) : line s.length = true ↔ s.length ≤ sizeLine := by
  unfold line
  exact decide_eq_true_iff
theorem word_ok {k : Nat} {d : D} (hb : IsBag d) : ∃ z d', runP ds (k + 2) 5 [.ow false d] = .ret false (.str z) [.ow false d'] ∧ z.length ≤ 8 ∧ IsBag d' := by
  refine run_of (d := d5) (P := fun r => ∃ z d', r = .ret false (.str z) [.ow false d'] ∧ z.length ≤ 8 ∧ IsBag d') rfl rfl ?_
  unfold d5 b5
  walk_at "pm"
  obtain ⟨v, d1, e1, v0, v1, hb1⟩ := draw_ok (k := k) (m := 6) hb (by decide) (by decide)
  rw [e1]
  refine ⟨by decide, by decide, ?_⟩
  obtain ⟨x, ex_, mx⟩ := atI_in (xs := [D.int 0, .int 1, .int 6, .int 7, .int 7, .int 3]) v0 v1
  have hn : ∃ n : Nat, x = .int n ∧ n ≤ 7 := by
    simp only [List.mem_cons, List.not_mem_nil, or_false] at mx
    rcases mx with rfl | rfl | rfl | rfl | rfl | rfl <;> first | exact ⟨0, rfl, by decide⟩ | exact ⟨1, rfl, by decide⟩ | exact ⟨6, rfl, by decide⟩ | exact ⟨7, rfl, by decide⟩ | exact ⟨3, rfl, by decide⟩
  obtain ⟨n, rfl, hn⟩ := hn
  walk_at "pm"
  rw [ex_]
  walk_at "pm"
  rw [rngD_ok (by decide) (by decide) (by omega) (by omega)]
  walk_at "pm"
  refine ⟨rfl, ?_⟩
  refine lc_inv (fun k acc σ => ∃ d2 ss, IsBag d2 ∧ σ = [.ow false d2, .fz true (.str "abcdefghijklmnopqrstuvwxyz"), .fz true (.int n), .no, .no] ∧ acc = ss.map .str ∧ ss.length = k ∧ ∀ s, s ∈ ss → s.length ≤ 1) ⟨d1, [], hb1, rfl, rfl, rfl, fun s h => nomatch h⟩ (fun j x acc σ hj hi => ?_) fun acc σ hi => ?_
  · obtain ⟨d2, ss, hb2, rfl, rfl, hl, hs⟩ := hi
    walk_at "pm"
    refine ⟨by decide, by decide, at_ok hb2 (by decide) (by decide) (by decide) fun c d3 hb3 => ?_⟩
    walk_at "pm"
    refine ⟨d3, ss ++ [⟨#[c]⟩], hb3, rfl, by simp, by simp [hl], fun s hm => ?_⟩
    rcases List.mem_append.mp hm with q | q
    · exact hs s q
    · rw [List.mem_singleton.mp q]; exact Nat.le_refl 1
  · obtain ⟨d2, ss, hb2, rfl, rfl, hl, hs⟩ := hi
    simp only [List.length_map, List.length_range] at hl
    have hl : ss.length ≤ 7 := by omega
    obtain ⟨j1, j2⟩ := med_join0 (e := "") rfl hs (by omega)
    walk_at "pm"
    refine ⟨line_le (by simp; omega), by decide, at_ok hb2 (by decide) (by decide) (by decide) fun c d3 hb3 => ?_⟩
    walk_at "pm"
    rw [j1]
    walk_at "pm"
    refine ⟨line_le ?_, _, d3, rfl, ?_, hb3⟩
    · show 1 + _ ≤ _
      omega
    · rw [Str.length_append]
      show 1 + _ ≤ _
      omega
theorem bent_ok {k : Nat} {d : D} {w : Str} (hb : IsBag d) (hw : w.length ≤ 8) : ∃ z d', runP ds (k + 3) 6 [.ow false d, .fz true (.str w)] = .ret false (.str z) [.ow false d', .fz true (.str w)] ∧ z.length ≤ 20 ∧ IsBag d' := by
  refine run_of (d := d6) (P := fun r => ∃ z d', r = .ret false (.str z) [.ow false d', .fz true (.str w)] ∧ z.length ≤ 20 ∧ IsBag d') rfl rfl ?_
  unfold d6 b6
  walk_at "pm"
  obtain ⟨v, d1, e1, v0, v1, hb1⟩ := draw_ok (k := k + 1) (m := 3) hb (by decide) (by decide)
  rw [e1]
  refine ⟨by decide, ?_⟩
  walk_at "pm"
  refine ⟨line_le (by omega), by decide, ?_⟩
  obtain ⟨v2, d2, e2, v20, v21, hb2⟩ := draw_ok (k := k + 1) (m := (w.length : Int) + 1) hb1 (by omega) (by omega)
  rw [e2]
  walk_at "pm"
  refine ⟨by decide, ?_⟩
  obtain ⟨z, d3, e3, hz, hb3⟩ := sign_ok (k := k) hb2
  rw [e3]
  walk_at "pm"
  have hl := line_le (n := w.length) (by omega)
  obtain ⟨p, ep, lp⟩ := slcd_str (z := w) (l := none) (h := some v2) hl
  obtain ⟨q, eq_, lq⟩ := slcd_str (z := w) (l := some v2) (h := none) hl
  obtain ⟨q', eq', lq'⟩ := slcd_str (z := w) (l := some (v2 + 1)) (h := none) hl
  by_cases hv : v = 0
  · rw [if_pos hv]
    rw [ep]
    walk_at "pm"
    rw [eq_]
    walk_at "pm"
    refine ⟨line_le (by omega), line_le (by rw [Str.length_append]; omega), _, d3, rfl, ?_, hb3⟩
    rw [Str.length_append, Str.length_append]
    omega
  · rw [if_neg hv]
    rw [ep]
    walk_at "pm"
    refine ⟨by decide, ?_⟩
    obtain ⟨x, ex_, mx⟩ := atI_in (xs := [D.str "", .str "", .str z]) v0 v1
    have hx : ∃ y : Str, x = .str y ∧ y.length ≤ 1 := by
      simp only [List.mem_cons, List.not_mem_nil, or_false] at mx
      rcases mx with rfl | rfl | rfl <;> first | exact ⟨_, rfl, by decide⟩ | exact ⟨_, rfl, Nat.le_of_eq hz⟩
    obtain ⟨y, rfl, hy⟩ := hx
    rw [ex_]
    walk_at "pm"
    rw [eq']
    walk_at "pm"
    refine ⟨line_le (by omega), line_le (by rw [Str.length_append]; omega), _, d3, rfl, ?_, hb3⟩
    rw [Str.length_append, Str.length_append]
    omega
/-- what the odd things are -/
def Odd (d : D) : Prop := match d with
  | .str _ => False
  | .scr _ => False
  | .ins _ _ _ => False
  | _ => True
theorem odd_ok {k : Nat} {d : D} {w : Str} (hb : IsBag d) (hw : w.length ≤ 8) : ∃ v d', runP ds (k + 2) 8 [.ow false d, .fz true (.str w)] = .ret false v [.ow false d', .fz true (.str w)] ∧ Odd v ∧ IsBag d' := by
  refine run_of (d := d8) (P := fun r => ∃ v d', r = .ret false v [.ow false d', .fz true (.str w)] ∧ Odd v ∧ IsBag d') rfl rfl ?_
  unfold d8 b8
  walk_at "pm"
  refine ⟨by decide, by decide, by decide, by simp, by decide, by simp, by decide, by decide, by decide, by decide, by decide, by decide, by decide, by decide, ?_⟩
  obtain ⟨v, d1, e1, v0, v1, hb1⟩ := draw_ok (k := k) (m := 15) hb (by decide) (by decide)
  rw [e1]
  generalize hm : ([D.non, D.bl true, D.bl false, D.int 0, D.int 1, D.int (-7), D.tup [D.str w], D.lst [D.str w], D.lst [], D.dct [] [],
    D.dct [Sum.inr w] [D.int 1], D.tup [], D.tup [D.str w, D.str w], D.lst [D.lst [D.str w]], D.int (10 ^ Int.toNat 40)] : List D) = menu
  have hlen : menu.length = 15 := by rw [← hm]; rfl
  obtain ⟨x, ex_, mx⟩ := atI_in (xs := menu) v0 (by omega)
  have hx : Odd x := by
    rw [← hm] at mx
    simp only [List.mem_cons, List.not_mem_nil, or_false] at mx
    rcases mx with rfl | rfl | rfl | rfl | rfl | rfl | rfl | rfl | rfl | rfl | rfl | rfl | rfl | rfl | rfl <;> exact True.intro
  walk_at "pm"
  rw [ex_]
  walk_at "pm"
  exact ⟨x, d1, rfl, hx, hb1⟩
end K01
open PySem L2 Pm
namespace K01
/-- is a text in another -/
def inn (a b : Str) : Bool := !(Builtin.Str.occurrences b a 0 b.length 1).isEmpty
def small : Str := "abcdefghijklmnopqrstuvwxyz"
def signs36 : Str := "abcdefghijklmnopqrstuvwxyz0123456789"
def inD (b : Str) : D → Bool
  | .str a => inn a b
  | _ => false
def fst (z : Str) : Str := ⟨#[z.cps.toList.getD 0 0]⟩
/-- the word on a thing -/
def nm : D → Bool
  | .str z => decide (1 ≤ z.length) && decide (z.length ≤ 8) && (inn (fst z) small && (signs z).all (inD signs36))
  | _ => false
def Thing (d : D) : Prop := match d with
  | .str z => z.length ≤ 100
  | .scr _ => False
  | .ins _ _ _ => False
  | _ => True
theorem isid_s {z : Str} : isid (.str z) "str" = some true := by
  show kitB "str" "str" = some true
  decide +kernel
theorem isid_o {v : D} (hv : Thing v) (n : ∀ z, v ≠ .str z) : isid v "str" = some false := by
  cases v with
  | scr xs => exact hv.elim
  | ins C fs vs => exact hv.elim
  | str z => exact (n z rfl).elim
  | non => show kitB "NoneType" "str" = some false; decide +kernel
  | bl b => show kitB "bool" "str" = some false; decide +kernel
  | int i => show kitB "int" "str" = some false; decide +kernel
  | lst xs => show kitB "list" "str" = some false; decide +kernel
  | tup xs => show kitB "tuple" "str" = some false; decide +kernel
  | dct ks vs => show kitB "dict" "str" = some false; decide +kernel
theorem ixd_head {z : Str} (hl : line z.length = true) (h : 1 ≤ z.length) : ixd (.str z) (.int 0) = some (.str (fst z)) := by
  show (if line z.length = true then (atI z.cps.toList 0).map fun c => D.str ⟨#[c]⟩ else none) = _
  rw [if_pos hl, atI_0]
  have : 0 < z.cps.toList.length := by rw [Array.length_toList]; exact h
  unfold fst
  rw [List.getD_eq_getElem?_getD, List.getElem?_eq_getElem this]
  rfl
theorem signs_len (z : Str) : (signs z).length = z.length := by
  unfold signs
  rw [List.length_map, Array.length_toList]
  rfl
theorem nm_str {z : Str} (h1 : 1 ≤ z.length) (h8 : z.length ≤ 8) : nm (.str z) = (inn (fst z) small && (signs z).all (inD signs36)) := by
  show (decide (1 ≤ z.length) && decide (z.length ≤ 8) && _) = _
  rw [decide_eq_true h1, decide_eq_true h8]
  rfl
theorem nm_no {z : Str} (h : ¬ (1 ≤ z.length ∧ z.length ≤ 8)) : nm (.str z) = false := by
  show (decide (1 ≤ z.length) && decide (z.length ≤ 8) && _) = _
  by_cases h1 : 1 ≤ z.length
  · have h8 : ¬ z.length ≤ 8 := fun q => h ⟨h1, q⟩
    rw [decide_eq_false h8]
    simp
  · rw [decide_eq_false h1]
    rfl
theorem signs_str {z : Str} {d : D} (h : d ∈ signs z) : ∃ c, d = .str ⟨#[c]⟩ := by
  obtain ⟨c, _, rfl⟩ := List.mem_map.mp h
  exact ⟨c, rfl⟩
theorem name_ok {k : Nat} {v : D} (hv : Thing v) : runP ds (k + 1) 0 [.fz true v] = .ret false (.bl (nm v)) [.fz true v] := by
  refine run_of (d := d0) (P := fun r => r = .ret false (.bl (nm v)) [.fz true v]) rfl rfl ?_
  unfold d0 b0
  walk_at "pm"
  by_cases hs : ∃ z, v = .str z
  · obtain ⟨z, rfl⟩ := hs
    have hl : z.length ≤ 100 := hv
    have hl2 := line_le (n := z.length) (by omega)
    rw [isid_s]
    walk_at "pm"
    refine ⟨hl2, ?_⟩
    by_cases h1 : (1 : Int) ≤ z.length
    · rw [if_pos h1]
      have h1' : 1 ≤ z.length := by omega
      by_cases h8 : (z.length : Int) ≤ 8
      · rw [if_neg (by simp [h8]), ixd_head hl2 h1']
        have h8' : z.length ≤ 8 := by omega
        rw [nm_str h1' h8']
        walk_at "pm"
        change if inn (fst z) small = true then _ else _
        cases hi : inn (fst z) small with
        | false =>
          rw [if_neg (by decide)]
          show CR.ret false (.bl (inn (fst z) small)) _ = _
          rw [hi]
          rfl
        | true =>
          rw [if_pos rfl]
          refine ⟨rfl, ?_⟩
          refine lc_mapR (fun d => .bl (inD signs36 d)) (fun d hd => ?_) ?_
          · obtain ⟨c, rfl⟩ := signs_str hd
            walk_at "pm"
            rfl
          · walk_at "pm"
            refine ⟨line_le (by rw [List.length_map, signs_len]; omega), ?_⟩
            rw [allB_map]
            walk_at "pm"
            rw [List.all_map, Bool.true_and]
            rfl
      · rw [if_pos (by simp [h8])]
        rw [nm_no (by omega)]
    · rw [if_neg h1]
      rw [nm_no (by omega)]
  · rw [isid_o hv fun z e => hs ⟨z, e⟩]
    walk_at "pm"
    cases v <;> first | rfl | exact (hs ⟨_, rfl⟩).elim
theorem e36 : (("abcdefghijklmnopqrstuvwxyz" : Str) ++ ("0123456789" : Str)) = signs36 := by decide +kernel
theorem due_ok {k : Nat} {v : D} (hv : Thing v) : runP ds (k + 1) 7 [.fz true v] = .ret false (.bl (nm v)) [.fz true v] := by
  refine run_of (d := d7) (P := fun r => r = .ret false (.bl (nm v)) [.fz true v]) rfl rfl ?_
  unfold d7 b7
  walk_at "pm"
  by_cases hs : ∃ z, v = .str z
  · obtain ⟨z, rfl⟩ := hs
    have hl : z.length ≤ 100 := hv
    have hl2 := line_le (n := z.length) (by omega)
    rw [isid_s]
    walk_at "pm"
    refine ⟨hl2, ?_⟩
    by_cases h1 : (0 : Int) < z.length
    · rw [if_pos h1]
      have h1' : 1 ≤ z.length := by omega
      by_cases h8 : (z.length : Int) < 9
      · rw [if_neg (by simp [h8]), ixd_head hl2 h1']
        have h8' : z.length ≤ 8 := by omega
        rw [nm_str h1' h8']
        walk_at "pm"
        change if inn (fst z) small = true then _ else _
        cases hi : inn (fst z) small with
        | false =>
          rw [if_neg (by decide)]
          show CR.ret false (.bl (inn (fst z) small)) _ = _
          rw [hi]
          rfl
        | true =>
          rw [if_pos rfl]
          refine ⟨rfl, ?_⟩
          refine lc_mapR (fun d => .bl (inD signs36 d)) (fun d hd => ?_) ?_
          · obtain ⟨c, rfl⟩ := signs_str hd
            walk_at "pm"
            rw [e36]
            exact ⟨by decide, rfl⟩
          · walk_at "pm"
            refine ⟨line_le (by rw [List.length_map, signs_len]; omega), ?_⟩
            rw [allB_map]
            walk_at "pm"
            rw [List.all_map, Bool.true_and]
            rfl
      · rw [if_pos (by simp [h8])]
        rw [nm_no (by omega)]
    · rw [if_neg h1]
      rw [nm_no (by omega)]
  · rw [isid_o hv fun z e => hs ⟨z, e⟩]
    walk_at "pm"
    cases v <;> first | rfl | exact (hs ⟨_, rfl⟩).elim
theorem cell_ok {k : Nat} {ns : List Int} {j : Int} (h0 : 0 ≤ j) (h1 : j < 1000) : ∃ v, runP ds (k + 1) 1 [.fz true (.scr (ns.map D.int)), .fz true (.int j)] = .ret false (.int v) [.fz true (.scr (ns.map D.int)), .fz true (.int j)] := by
  refine run_of (d := d1) (P := fun r => ∃ v, r = .ret false (.int v) [.fz true (.scr (ns.map D.int)), .fz true (.int j)]) rfl rfl ?_
  unfold d1 b1
  walk_at "pm"
  by_cases hj : j < ((ns.map D.int).length : Int)
  · rw [if_pos hj]
    obtain ⟨x, ex_, mx⟩ := atI_in h0 hj
    obtain ⟨n, _, rfl⟩ := List.mem_map.mp mx
    rw [ex_]
    walk_at "pm"
    exact ⟨n, rfl⟩
  · rw [if_neg hj]
    refine ⟨mulOk_l (by decide) (by decide), mulOk_r (by omega) (by omega), ?_⟩
    refine for_all (fun σ => ∃ n y, σ = [.fz true (.scr (ns.map D.int)), .fz true (.int j), .fz true (.int n), y] ∧ okZ (some y) = true) ⟨_, .no, rfl, rfl⟩ (fun d σ hd hi => ?_) fun σ hi => ?_
    · obtain ⟨n, y, rfl, hy⟩ := hi
      have hx : ∃ m : Int, d = .int m := by
        unfold cutD at hd
        obtain ⟨m, _, rfl⟩ := List.mem_map.mp (List.mem_of_mem_drop (List.mem_of_mem_take hd))
        exact ⟨m, rfl⟩
      obtain ⟨m, rfl⟩ := hx
      walk_at "pm"
      exact ⟨hy, mulOk_r (by decide) (by decide), by decide, mulOk_r (by omega) (by omega), by decide, _, _, rfl, rfl⟩
    · obtain ⟨n, y, rfl, hy⟩ := hi
      walk_at "pm"
      exact ⟨n, rfl⟩
theorem bag_ok {k : Nat} {v : Int} : ∃ d, runP ds (k + 1) 2 [.fz true (.int v)] = .ret true d [.fz true (.int v)] ∧ ∃ g s j : Int, d = .lst [.int g, .int s, .int j] ∧ 0 ≤ s ∧ s < 2147483629 := by
  refine run_of (d := d2) (P := fun r => ∃ d, r = .ret true d [.fz true (.int v)] ∧ ∃ g s j : Int, d = .lst [.int g, .int s, .int j] ∧ 0 ≤ s ∧ s < 2147483629) rfl rfl ?_
  unfold d2 b2
  walk_at "pm"
  have fin : ∀ g : Int, ∃ d, CR.ret true (D.lst [D.int g, D.int (v % 2147483629), D.int 0]) [Sl.fz true (D.int v)] = CR.ret true d [Sl.fz true (D.int v)] ∧ ∃ g s j : Int, d = .lst [.int g, .int s, .int j] ∧ 0 ≤ s ∧ s < 2147483629 :=
    fun g => ⟨_, rfl, g, _, _, rfl, Int.emod_nonneg _ (by decide), Int.emod_lt_of_pos _ (by decide)⟩
  by_cases h1 : v < 0
  · rw [if_pos h1]
    exact ⟨by decide, by decide, fin _⟩
  · rw [if_neg h1]
    refine ⟨by decide, ?_⟩
    by_cases h2 : (10 : Int) ^ Int.toNat 18 ≤ v
    · rw [if_pos h2]
      exact ⟨by decide, by decide, fin _⟩
    · rw [if_neg h2]
      exact ⟨by decide, by decide, fin _⟩
end K01
open PySem L2 Pm
namespace K01
theorem thing_odd {d : D} (h : Odd d) : Thing d := by
  cases d <;> first | exact True.intro | exact h.elim
theorem thing_str {z : Str} (h : z.length ≤ 100) : Thing (.str z) := h
theorem repr_two (b : Bool) : bid "repr" [.lst [.bl b, .bl b]] = some (false, .str (PyData.shown (.list [.bool b, .bool b]))) := bid_repr rfl (by cases b <;> decide +kernel)
/-- the two words are one -/
theorem repr_ne (b : Bool) : eqd (.str (PyData.shown (.list [.bool b, .bool b]))) (.str (PyData.shown (.list [.bool b, .bool b]))) = some true := by
  cases b <;> decide +kernel
def lastS : Str := PyData.shown (.list [.bool false, .bool false, .bool false, .bool false, .bool false, .bool false, .bool true, .bool true, .bool true])
theorem repr_last : bid "repr" [.lst [.bl false, .bl false, .bl false, .bl false, .bl false, .bl false, .bl true, .bl true, .bl true]] = some (false, .str lastS) := bid_repr rfl (by decide +kernel)
theorem last_eq : eqd (.str lastS) (.str lastS) = some true := by decide +kernel
/-- the things of one turn -/
theorem turn_ok {k : Nat} {j : Int} {scr : D} {s4 s5 s6 s7 : Sl} {d : D} {things : List D} {QS : Fl → Ev → Prop} (hb : IsBag d) (hl : things.length ≤ 100) (ht : ∀ x, x ∈ things → Thing x) (o4 : okZ (some s4) = true) (o5 : okZ (some s5) = true) {t : D}
    (q : ∀ d' more s5', IsBag d' → more.length = 4 → (∀ x, x ∈ more → Thing x) → okZ (some s5') = true → QS .nx [.fz true scr, .fz true (.int j), .ow true d', .ow true (.lst (things ++ more)), .fz true t, s5', s6, s7, .no, .no]) :
    Rn (turnF (runP ds (k + 3)) (.nm 4) [.set (.nm 5) (.call 5 [(.var 2)] [0] [true]), .set (.nm 3) (.bin .Add (.var 3) (.lst [(.var 5), (.call 6 [(.var 2), (.var 5)] [0, 1] [true, false]), (.call 8 [(.var 2), (.var 5)] [0, 1] [true, false])])), .app 3 (.me "join" (.con (.str "")) [(.lc (.call 4 [(.var 2)] [0] [true]) (.nm 8) (.rng (.con (.int 0)) (.call 3 [(.var 2), (.con (.int 11))] [0, 1] [true, false])) [] [8])])] t)
      [.fz true scr, .fz true (.int j), .ow true d, .ow true (.lst things), s4, s5, s6, s7, .no, .no] QS := by
  walk_at "pm"
  refine ⟨o4, by decide, ?_⟩
  obtain ⟨w, d1, e1, hw, hb1⟩ := word_ok (k := k + 1) hb
  rw [e1]
  walk_at "pm"
  refine ⟨o5, by decide, ?_⟩
  obtain ⟨z, d2, e2, hz, hb2⟩ := bent_ok (k := k) hb1 hw
  rw [e2]
  walk_at "pm"
  refine ⟨by decide, ?_⟩
  obtain ⟨x, d3, e3, hx, hb3⟩ := odd_ok (k := k + 1) hb2 hw
  rw [e3]
  walk_at "pm"
  refine ⟨by decide, line_le (by omega), by decide, ?_⟩
  obtain ⟨v, d4, e4, v0, v1, hb4⟩ := draw_ok (k := k + 2) (m := 11) hb3 (by decide) (by decide)
  rw [e4]
  walk_at "pm"
  rw [rngD_ok (by decide) (by decide) (by omega) (by omega)]
  walk_at "pm"
  refine ⟨rfl, ?_⟩
  refine lc_inv (fun n acc σ => ∃ d5 ss, IsBag d5 ∧ σ = [.fz true scr, .fz true (.int j), .ow true d5, .ow true (.lst (things ++ [.str w, .str z, x])), .fz true t, .fz true (.str w), s6, s7, .no, .no] ∧ acc = ss.map .str ∧ ss.length = n ∧ ∀ s, s ∈ ss → s.length ≤ 1) ⟨d4, [], hb4, rfl, rfl, rfl, fun s h => nomatch h⟩ (fun n y acc σ hj hi => ?_) fun acc σ hi => ?_
  · obtain ⟨d5, ss, hb5, rfl, rfl, hl5, hs⟩ := hi
    walk_at "pm"
    refine ⟨by decide, ?_⟩
    obtain ⟨y, d6, e6, hy, hb6⟩ := sign_ok (k := k + 1) hb5
    rw [e6]
    walk_at "pm"
    refine ⟨d6, ss ++ [y], hb6, rfl, by simp, by simp [hl5], fun s hm => ?_⟩
    rcases List.mem_append.mp hm with q | q
    · exact hs s q
    · rw [List.mem_singleton.mp q]; exact Nat.le_of_eq hy
  · obtain ⟨d5, ss, hb5, rfl, rfl, hl5, hs⟩ := hi
    simp only [List.length_map, List.length_range] at hl5
    have hl5 : ss.length ≤ 10 := by omega
    obtain ⟨j1, j2⟩ := med_join0 (e := "") rfl hs (by omega)
    walk_at "pm"
    refine ⟨line_le (by simp; omega), ?_⟩
    rw [j1]
    walk_at "pm"
    refine ⟨small1000 (by simp; omega), ?_⟩
    have := q d5 [.str w, .str z, x, .str (Txt.join "" ss)] (.fz true (.str w)) hb5 rfl (fun y hy => ?_) rfl
    · simpa using this
    · simp only [List.mem_cons, List.not_mem_nil, or_false] at hy
      rcases hy with rfl | rfl | rfl | rfl
      · exact thing_str (by omega)
      · exact thing_str (by omega)
      · exact thing_odd hx
      · exact thing_str (by omega)
theorem law_ok (ns : List Int) (hn : ns.length ≤ 63) : ∃ outs, runP ds 8 9 [.fz true (.scr (ns.map D.int))] = .ret false (.bl true) outs := by
  refine run_of (d := d9) (P := fun r => ∃ outs, r = .ret false (.bl true) outs) rfl rfl ?_
  unfold d9 b9
  walk_at "pm"
  generalize hm : (if (if 6 < ((ns.map D.int).length : Int) then 6 else ((ns.map D.int).length : Int)) > 3 then if 6 < ((ns.map D.int).length : Int) then 6 else ((ns.map D.int).length : Int) else 3) = m
  have m6 : m ≤ 6 := by
    rw [← hm]
    split <;> (try split) <;> omega
  have m0 : 0 ≤ m := by
    rw [← hm]
    split <;> (try split) <;> omega
  rw [rngD_ok (by decide) (by decide) (by omega) (by omega)]
  walk_at "pm"
  refine for_all (fun σ => ∃ s1 s2 s3 s4 s5 s6 s7, σ = [.fz true (.scr (ns.map D.int)), s1, s2, s3, s4, s5, s6, s7, .no, .no] ∧ okZ (some s1) = true ∧ okZ (some s2) = true ∧ okZ (some s3) = true ∧ okZ (some s4) = true ∧ okZ (some s5) = true ∧ okZ (some s6) = true ∧ okZ (some s7) = true)
    ⟨.no, .no, .no, .no, .no, .no, .no, rfl, rfl, rfl, rfl, rfl, rfl, rfl, rfl⟩ (fun x σ hx hi => ?_) fun σ hi => ?_
  · obtain ⟨s1, s2, s3, s4, s5, s6, s7, rfl, o1, o2, o3, o4, o5, o6, o7⟩ := hi
    obtain ⟨j, hj, rfl⟩ := List.mem_map.mp hx
    have hj := List.mem_range.mp hj
    walk_at "pm"
    refine ⟨o1, ?_⟩
    obtain ⟨v, e1⟩ := cell_ok (k := 6) (ns := ns) (j := 0 + (j : Int)) (by omega) (by omega)
    rw [e1]
    walk_at "pm"
    obtain ⟨d, e2, hb⟩ := bag_ok (k := 6) (v := v)
    rw [e2]
    walk_at "pm"
    refine ⟨o2, by decide, o3, ?_⟩
    rw [rngD_ok (by decide) (by decide) (by decide) (by decide)]
    walk_at "pm"
    refine for_inv (fun n σ => ∃ d things s4 s5, IsBag d ∧ things.length = 4 * n ∧ (∀ x, x ∈ things → Thing x) ∧ okZ (some s4) = true ∧ okZ (some s5) = true ∧ σ = [.fz true (.scr (ns.map D.int)), .fz true (.int (0 + (j : Int))), .ow true d, .ow true (.lst things), s4, s5, s6, s7, .no, .no])
      ⟨d, [], s4, s5, hb, rfl, (fun x h => nomatch h), o4, o5, rfl⟩ (fun n x σ hx hi => ?_) fun σ hi => ?_
    · obtain ⟨d, things, s4, s5, hb, hl, ht, o4, o5, rfl⟩ := hi
      have hn5 : n < 5 := by
        have := (List.getElem?_eq_some_iff.mp hx).1
        simpa using this
      refine turn_ok (k := 4) hb (by omega) ht o4 o5 fun d' more s5' hb' hl' ht' o5' => ?_
      refine ⟨d', things ++ more, _, s5', hb', by simp [hl, hl']; omega, fun x hx => ?_, rfl, o5', rfl⟩
      rcases List.mem_append.mp hx with q | q
      · exact ht x q
      · exact ht' x q
    · obtain ⟨d, things, s4, s5, hb, hl, ht, o4, o5, rfl⟩ := hi
      have hl : things.length ≤ 100 := by simp at hl; omega
      walk_at "pm"
      refine ⟨line_le (by simp; omega), ?_⟩
      refine for_all (fun σ => ∃ s6, okZ (some s6) = true ∧ σ = [.fz true (.scr (ns.map D.int)), .fz true (.int (0 + (j : Int))), .ow true d, .ow true (.lst things), s4, s5, s6, s7, .no, .no]) ⟨s6, o6, rfl⟩ (fun x σ hx hi => ?_) fun σ hi => ?_
      · obtain ⟨s6, o6, rfl⟩ := hi
        have hx : Thing x := by
          rcases List.mem_append.mp hx with q | q
          · exact ht x q
          · exact ht x (List.mem_reverse.mp q)
        walk_at "pm"
        refine ⟨o6, ?_⟩
        rw [name_ok (k := 6) hx]
        walk_at "pm"
        rw [name_ok (k := 6) hx]
        walk_at "pm"
        refine ⟨by decide, ?_⟩
        rw [repr_two]
        walk_at "pm"
        rw [due_ok (k := 6) hx]
        walk_at "pm"
        refine ⟨by decide, by decide, ?_⟩
        change oU (bid "repr" [.lst [.bl (nm x), .bl (nm x)]]) _ _
        rw [repr_two]
        walk_at "pm"
        rw [repr_ne]
        walk_at "pm"
        exact ⟨_, rfl, rfl⟩
      · obtain ⟨s6, o6, rfl⟩ := hi
        walk_at "pm"
        exact ⟨_, _, _, _, _, _, _, rfl, rfl, rfl, rfl, o4, o5, o6, o7⟩
  · obtain ⟨s1, s2, s3, s4, s5, s6, s7, rfl, o1, o2, o3, o4, o5, o6, o7⟩ := hi
    walk_at "pm"
    refine ⟨by decide, rfl, ?_⟩
    refine lc_mapR (fun d => .bl (nm d)) (fun x hx => ?_) ?_
    · have ht : Thing x := by
        simp only [List.mem_cons, List.not_mem_nil, or_false] at hx
        rcases hx with rfl | rfl | rfl | rfl | rfl | rfl | rfl | rfl | rfl <;> exact thing_str (by decide)
      walk_at "pm"
      rw [name_ok (k := 6) ht]
      walk_at "pm"
    · have n1 : nm (.str "") = false := by decide +kernel
      have n2 : nm (.str "7a") = false := by decide +kernel
      have n3 : nm (.str "abcdefghi") = false := by decide +kernel
      have n4 : nm (.str "abcdefg-") = false := by decide +kernel
      have n5 : nm (.str "aB") = false := by decide +kernel
      have n6 : nm (.str "a\n") = false := by decide +kernel
      have n7 : nm (.str "a") = true := by decide +kernel
      have n8 : nm (.str "a7") = true := by decide +kernel
      have n9 : nm (.str "abcdefgh") = true := by decide +kernel
      simp only [List.map_cons, List.map_nil, n1, n2, n3, n4, n5, n6, n7, n8, n9]
      walk_at "pm"
      refine ⟨by decide, o7, ?_⟩
      rw [repr_last]
      walk_at "pm"
      refine ⟨by decide, by decide, by decide, by decide, by decide, ?_⟩
      change oU (bid "repr" [.lst [.bl false, .bl false, .bl false, .bl false, .bl false, .bl false, .bl true, .bl true, .bl true]]) _ _
      rw [repr_last]
      walk_at "pm"
      rw [last_eq]
      walk_at "pm"
      exact ⟨_, rfl⟩
end K01
namespace K01
open PySem L2 Pm
abbrev lvl : Nat := 8
theorem fin {kx : (Nat → Addr) → Kx} {mg : Str → Option Value} {fa : Addr}
    (m : ∃ (ca : Nat → Addr) (t : Tab) (i : Nat) (e : Ent), TabOk (kx ca) mg t 30 30 ∧ t.es[i]? = some e ∧ e.fa = fa ∧ e.ps = ps9 ∧ (∀ (s : Shared) (u : Value), BindsTo s e.fd ⟨[u], []⟩ [("_law_script", u)]) ∧ t.ds = ds ∧ i = 9) :
    ∃ (ca : Nat → Addr) (t : Tab) (i : Nat) (e : Ent), TabOk (kx ca) mg t 30 30 ∧ t.es[i]? = some e ∧ e.fa = fa ∧ e.ps = [("_law_script" : Str)] ∧ (∀ (s : Shared) (u : Value), BindsTo s e.fd ⟨[u], []⟩ [("_law_script", u)]) ∧
        ∀ ns : List Int, ns.length ≤ 63 → ∃ outs, runP t.ds 8 i [.fz true (.scr (ns.map D.int))] = .ret false (.bl true) outs := by
  obtain ⟨ca, t, i, e, h1, h2, h3, h4, h5, h6, h7⟩ := m
  exact ⟨ca, t, i, e, h1, h2, h3, h4, h5, by rw [h6, h7]; exact law_ok⟩
end K01
open PySem PySem.W PyProof.Rows
set_option maxRecDepth 1000000 in
set_option maxHeartbeats 0 in
theorem PySem.Challenge.cw_raggedtotals_k01_names_holds : PySem.Challenge.rw_raggedtotals_k01_names.Holds := by
  w_on; o_law; k_head; (case hw => w_witness2)
  k_fill
  refine Pm.walk_pm (l := PySem.Challenge.rw_raggedtotals_k01_names) (n := 63) (k := K01.lvl) (n1 := 30) (n2 := 30) (x := "_law_script") rfl (by decide) rfl ⟨rfl, by decide, by decide⟩ rfl (fun w h Y => PySem.W.kIn_of Y) ?F
  case F =>
    intro w mg fa h KX G hmg
    refine' K01.fin (kx := fun ca => ⟨_, ca⟩) ?_
    refine' K01.all_mk KX G hmg ?a0 ?l0 ?c0 ?k0 ?a1 ?l1 ?c1 ?k1 ?a2 ?l2 ?c2 ?k2 ?a3 ?l3 ?c3 ?k3 ?a4 ?l4 ?c4 ?k4 ?a5 ?l5 ?c5 ?k5 ?a6 ?l6 ?c6 ?k6 ?a7 ?l7 ?c7 ?k7 ?a8 ?l8 ?c8 ?k8 ?a9 ?l9 ?c9 ?k9 ?y0 ?y1 ?y2 ?z0 ?z1 ?z2 ?z3 ?z4 ?z5 ?z6 ?z7 ?z8 ?z9
    (case a0 => k_is)
    (case l0 => k_is)
    (case c0 => k_is)
    (case k0 => k_is)
    (case a1 => k_is)
    (case l1 => k_is)
    (case c1 => k_is)
    (case k1 => k_is)
    (case a2 => k_is)
    (case l2 => k_is)
    (case c2 => k_is)
    (case k2 => k_is)
    (case a3 => k_is)
    (case l3 => k_is)
    (case c3 => k_is)
    (case k3 => k_is)
    (case a4 => k_is)
    (case l4 => k_is)
    (case c4 => k_is)
    (case k4 => k_is)
    (case a5 => k_is)
    (case l5 => k_is)
    (case c5 => k_is)
    (case k5 => k_is)
    (case a6 => k_is)
    (case l6 => k_is)
    (case c6 => k_is)
    (case k6 => k_is)
    (case a7 => k_is)
    (case l7 => k_is)
    (case c7 => k_is)
    (case k7 => k_is)
    (case a8 => k_is)
    (case l8 => k_is)
    (case c8 => k_is)
    (case k8 => k_is)
    (case a9 => k_is)
    (case l9 => k_is)
    (case c9 => k_is)
    (case k9 => k_is)
    (case y0 => k_is)
    (case y1 => k_is)
    (case y2 => k_is)
    (case z0 => k_is)
    (case z1 => k_is)
    (case z2 => k_is)
    (case z3 => k_is)
    (case z4 => k_is)
    (case z5 => k_is)
    (case z6 => k_is)
    (case z7 => k_is)
    (case z8 => k_is)
    (case z9 => k_is)
#print axioms PySem.Challenge.cw_raggedtotals_k01_names_holds
