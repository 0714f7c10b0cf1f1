import PyProof.Rows.All
import Wide.All
import OpenK.AllK
import Wide.FinOn
import HandS.ForMost
import HandS.Wide
import HandS.IsInst
import HandS.TupAny
import HandS.Walk
import HandS.Zip
import HandS.NoneIn
import HandS.Style
import HandS.ForExc
import HandS.Defaults
import HandS.HeadEnd
import HandS.Deep
import HandS.OwnEq
import HandS.HeadHook1
import HandS.HeadHook2
import HandS.Head0
import HandS.Head1
import HandS.Head2
import PySem.Challenge.RW_skyplaced_k49_ways_multiplied
set_option Elab.async false
set_option linter.all false
set_option maxRecDepth 100000
set_option maxHeartbeats 2000000
set_option autoImplicit false
/-! SkP: values as plain data, plain readings of Python's pieces (no heap in sight). -/
namespace Sk
open PySem L2

/-- a value, as data: what is frozen, and names of things with an identity (cel) -/
inductive D where
  | non | bl (b : Bool) | int (i : Int) | str (x : Str)
  | tup (xs : List D) | lst (xs : List D)
  | dk (ks : List Key) (xs : List D) | dt (ks : List (List Key)) (xs : List D)
  | obj (c : Nat) (fs : List D)
  | cel (n : Nat)
  | clo (n : Nat) (xs : List D)
  /-- the script -/
  | scr (ns : List Int)

abbrev Store := List D
inductive Out (α : Type) where
  | ok (a : α) (S : Store)
  | exc (c : Nat) (fs : List D) (S : Store)
  | stuck
def M (α : Type) : Type := Store → Out α
@[inline] def M.pure {α : Type} (a : α) : M α := fun S => .ok a S
@[inline] def M.bind {α β : Type} (m : M α) (f : α → M β) : M β := fun S => match m S with
  | .ok a S' => f a S'
  | .exc c fs S' => .exc c fs S'
  | .stuck => .stuck
instance : Monad M where
  pure := M.pure
  bind := M.bind
def stk {α : Type} : M α := fun _ => .stuck
def lift {α : Type} : Option α → M α
  | some a => M.pure a
  | none => stk
def getS : M Store := fun S => .ok S S
def setS (S : Store) : M Unit := fun _ => .ok () S

inductive Slot where
  | no | shr (d : D) | own (d : D)
abbrev Env := List Slot
inductive Flow where
  | next (e : Env) | ret (d : D) | brk (e : Env) | cont (e : Env)
abbrev DE := Env → M D
abbrev DA := Env → M (List D)
abbrev DB := Env → M Bool
abbrev DS := Env → M Flow

/-! ### expressions -/
def dVar (i : Nat) : DE := fun env => match env[i]? with
  | some (.shr d) => M.pure d
  | _ => stk
/-- a name that is read at once (it may hold a thing of this frame's own) -/
def bVar (i : Nat) : DE := fun env => match env[i]? with
  | some (.shr d) => M.pure d
  | some (.own d) => M.pure d
  | _ => stk
def dC (d : D) : DE := fun _ => M.pure d
def dUn (f : D → M D) (a : DE) : DE := fun env => M.bind (a env) f
def dBin (f : D → D → M D) (a b : DE) : DE := fun env => M.bind (a env) fun x => M.bind (b env) fun y => f x y
def dNil : DA := fun _ => M.pure []
def dCons (a : DE) (r : DA) : DA := fun env => M.bind (a env) fun x => M.bind (r env) fun xs => M.pure (x :: xs)
def dTup (a : DA) : DE := fun env => M.bind (a env) fun xs => if xs.length ≤ 50000 then M.pure (.tup xs) else stk
def dLst (a : DA) : DE := fun env => M.bind (a env) fun xs => if xs.length ≤ 50000 then M.pure (.lst xs) else stk
def dCall (f : List D → M D) (a : DA) : DE := fun env => M.bind (a env) f

def asB : D → M Bool
  | .bl b => M.pure b
  | _ => stk
def tVal (a : DE) : DB := fun env => M.bind (a env) asB
def tAndD (a b : DB) : DB := fun env => M.bind (a env) fun c => if c = true then b env else M.pure false
def tOrD (a b : DB) : DB := fun env => M.bind (a env) fun c => if c = true then M.pure true else b env
def tNotD (a : DB) : DB := fun env => M.bind (a env) fun c => M.pure (!c)
def dOfT (a : DB) : DE := fun env => M.bind (a env) fun c => M.pure (.bl c)
def dIf (t : DB) (a b : DE) : DE := fun env => M.bind (t env) fun c => if c = true then a env else b env

/-! ### operations on values -/
def mulOk (i j : Int) : Bool := decide (i.natAbs < 2 ^ 64) || decide (j.natAbs < 2 ^ 64) || (decide (i.natAbs < 2 ^ 8000) && decide (j.natAbs < 2 ^ 8000))
def divOk (j : Int) : Bool := (decide (0 < j) && decide (j.natAbs < 2 ^ 8000))
def oAdd : D → D → M D
  | .int i, .int j => M.pure (.int (i + j))
  | .lst xs, .lst ys => if xs.length + ys.length ≤ 50000 then M.pure (.lst (xs ++ ys)) else stk
  | .tup xs, .tup ys => if xs.length + ys.length ≤ 50000 then M.pure (.tup (xs ++ ys)) else stk
  | _, _ => stk
def oAddI : D → D → M D
  | .int i, .int j => M.pure (.int (i + j))
  | _, _ => stk
def oSub : D → D → M D
  | .int i, .int j => M.pure (.int (i - j))
  | _, _ => stk
def oMul : D → D → M D
  | .int i, .int j => if mulOk i j = true then M.pure (.int (i * j)) else stk
  | _, _ => stk
def oDiv : D → D → M D
  | .int i, .int j => if divOk j = true then M.pure (.int (i / j)) else stk
  | _, _ => stk
def oMod : D → D → M D
  | .int i, .int j => if decide (0 < j) = true then M.pure (.int (i % j)) else stk
  | _, _ => stk
def oPow : D → D → M D
  | .int i, .int j => if decide (0 ≤ j ∧ j ≤ 1000 ∧ i.natAbs < 2 ^ 64) = true then M.pure (.int (i ^ j.toNat)) else stk
  | _, _ => stk
def oNeg : D → M D
  | .int i => M.pure (.int (-i))
  | _ => stk
def oLt : D → D → M D
  | .int i, .int j => M.pure (.bl (decide (i < j)))
  | _, _ => stk
def oLe : D → D → M D
  | .int i, .int j => M.pure (.bl (decide (i ≤ j)))
  | _, _ => stk
def oGt : D → D → M D
  | .int i, .int j => M.pure (.bl (decide (j < i)))
  | _, _ => stk
def oGe : D → D → M D
  | .int i, .int j => M.pure (.bl (decide (j ≤ i)))
  | _, _ => stk

/-! ### equality of data -/
mutual
def toPy : D → PyData
  | .non => .none
  | .bl b => .bool b
  | .int i => .int i
  | .str x => .str x
  | .tup xs => .tuple (toPyL xs)
  | .lst xs => .list (toPyL xs)
  | .scr ns => .list (ns.map PyData.int)
  | _ => .none
def toPyL : List D → List PyData
  | [] => []
  | d :: ds => toPy d :: toPyL ds
end
/-- data of depth at most n -/
def okD : Nat → D → Bool
  | 0, _ => false
  | n + 1, .non => true
  | n + 1, .bl _ => true
  | n + 1, .int _ => true
  | n + 1, .str x => PyData.strOk x
  | n + 1, .tup xs => xs.all (okD n)
  | n + 1, .lst xs => xs.all (okD n)
  | n + 2, .scr _ => true
  | _, _ => false
def oEq : D → D → M D := fun x y => if (okD 8 x && okD 8 y) = true then M.pure (.bl (PyData.eqv (toPy x) (toPy y))) else stk
def oNe : D → D → M D := fun x y => if (okD 8 x && okD 8 y) = true then M.pure (.bl (!PyData.eqv (toPy x) (toPy y))) else stk

/-! ### kinds, lengths, items -/
/-- the built-in type of a value -/
def tyN : D → Option String
  | .non => some "NoneType"
  | .bl _ => some "bool"
  | .int _ => some "int"
  | .str _ => some "str"
  | .tup _ => some "tuple"
  | .lst _ => some "list"
  | .scr _ => some "list"
  | .dk _ _ => some "dict"
  | _ => none
def oIsB (T : String) : D → M D := fun d => M.bind (lift (tyN d)) fun t => M.bind (lift (kitB t T)) fun b => M.pure (.bl b)
def oIsNone : D → M D
  | .non => M.pure (.bl true)
  | _ => M.pure (.bl false)
def oNotNone : D → M D
  | .non => M.pure (.bl false)
  | _ => M.pure (.bl true)
def asBs : List D → Option (List Bool)
  | [] => some []
  | .bl b :: r => (asBs r).map (b :: ·)
  | _ :: _ => none
def asIs : List D → Option (List Int)
  | [] => some []
  | .int b :: r => (asIs r).map (b :: ·)
  | _ :: _ => none
def oAll : D → M D
  | .lst xs => M.bind (lift (asBs xs)) fun bs => M.pure (.bl (bs.all id))
  | _ => stk
def oAny : D → M D
  | .lst xs => M.bind (lift (asBs xs)) fun bs => M.pure (.bl (bs.any id))
  | _ => stk
def oSum : D → M D
  | .lst xs => M.bind (lift (asIs xs)) fun bs => M.pure (.int bs.sum)
  | _ => stk
def oLen : D → M D
  | .lst xs => M.pure (.int (xs.length : Nat))
  | .tup xs => M.pure (.int (xs.length : Nat))
  | .scr xs => M.pure (.int (xs.length : Nat))
  | .str x => if x.length ≤ 50000 then M.pure (.int (x.length : Nat)) else stk
  | .dk ks _ => M.pure (.int (ks.length : Nat))
  | _ => stk
def oTuple : D → M D
  | .lst xs => M.pure (.tup xs)
  | .tup xs => M.pure (.tup xs)
  | _ => stk
def oList : D → M D
  | .lst xs => M.pure (.lst xs)
  | .tup xs => M.pure (.lst xs)
  | _ => stk
def oAbs : D → M D
  | .int i => M.pure (.int (if i < 0 then -i else i))
  | _ => stk
def oInt : D → M D
  | .int i => M.pure (.int i)
  | _ => stk
def oIxCel (n : Nat) (i : Int) : M D := fun S => match S[n]? with
  | some (.lst xs) => lift (atI xs i) S
  | _ => .stuck
/-- an item by its place -/
def oIx : D → D → M D
  | .tup xs, .int i => lift (atI xs i)
  | .lst xs, .int i => lift (atI xs i)
  | .scr xs, .int i => lift ((atI xs i).map D.int)
  | .cel n, .int i => oIxCel n i
  | _, _ => stk

def oIsN2 : D → D → M D := fun x y => match y with
  | .non => oIsNone x
  | _ => stk
def oNotN2 : D → D → M D := fun x y => match y with
  | .non => oNotNone x
  | _ => stk
def dAndV (a b : DE) : DE := fun env => M.bind (a env) fun x => M.bind (asB x) fun c => if c = true then b env else M.pure (.bl false)
def dOrV (a b : DE) : DE := fun env => M.bind (a env) fun x => M.bind (asB x) fun c => if c = true then M.pure (.bl true) else b env
def dNotV (a : DE) : DE := fun env => M.bind (a env) fun x => M.bind (asB x) fun c => M.pure (.bl (!c))
/-! ### comprehensions -/
def wipeE (env : Env) : List Nat → Env
  | [] => env
  | v :: vs => (wipeE env vs).set v .no
abbrev DI := Env → M (List D)
abbrev DG := D → Env → Option Env
/-- what raises is not told of -/
def noX {α : Type} (m : M α) : M α := fun S => match m S with
  | .ok a S' => .ok a S'
  | _ => .stuck
/-- what a for walks: the items of a list or a tuple, the keys of a dict -/
def itemsOf : D → M (List D)
  | .lst xs => M.pure xs
  | .tup xs => M.pure xs
  | _ => stk
def iVal (a : DE) : DI := fun env => M.bind (a env) itemsOf
def lcLoop (f : D → M (List D)) : List D → M (List D)
  | [] => M.pure []
  | x :: xs => M.bind (f x) fun ys => M.bind (lcLoop f xs) fun zs => M.pure (ys ++ zs)
def lcTurn (env : Env) (dg : DG) (dt : DB) (de : DE) (x : D) : M (List D) :=
  M.bind (lift (dg x env)) fun env' => M.bind (dt env') fun b => if b = true then M.bind (de env') fun y => M.pure [y] else M.pure []
def dLc (vs : List Nat) (di : DI) (dg : DG) (dt : DB) (de : DE) : DE := fun env => M.bind (di env) fun xs =>
  if xs.length ≤ 50000 then M.bind (lcLoop (fun x => noX (lcTurn (wipeE env vs) dg dt de x)) xs) fun ys => M.pure (.lst ys) else stk
def tYesD : DB := fun _ => M.pure true
/-- targets -/
def gSet (i : Nat) : DG := fun d env => some (env.set i (.shr d))
def gAll : List DG → List D → Env → Option Env
  | [], [], env => some env
  | g :: gs, x :: xs, env => (g x env).bind fun env' => gAll gs xs env'
  | _, _, _ => none
def gTupD (gs : List DG) : DG := fun d env => match d with
  | .tup xs => gAll gs xs env
  | .lst xs => gAll gs xs env
  | _ => none
/-- range(n), range(a, b) -/
def rangeD (lo n : Int) : List D := (List.range (n - lo).toNat).map fun (k : Nat) => D.int (lo + (k : Int))
def iRange1 (a : DE) : DI := fun env => M.bind (a env) fun x => match x with
  | .int n => if decide (-50000 ≤ n ∧ n ≤ 50000) = true then M.pure (rangeD 0 n) else stk
  | _ => stk
def iRange2 (a b : DE) : DI := fun env => M.bind (a env) fun x => M.bind (b env) fun y => match x, y with
  | .int lo, .int n => if decide (-50000 ≤ n ∧ n ≤ 50000 ∧ -50000 ≤ lo ∧ lo ≤ 50000) = true then M.pure (rangeD lo n) else stk
  | _, _ => stk
def zipD : D → D → M (List D)
  | .lst xs, .lst ys => M.pure ((xs.zip ys).map fun p => .tup [p.1, p.2])
  | .tup xs, .tup ys => M.pure ((xs.zip ys).map fun p => .tup [p.1, p.2])
  | _, _ => stk
def iZip (a b : DE) : DI := fun env => M.bind (a env) fun x => M.bind (b env) fun y => zipD x y

/-! ### statements -/
def sNext : DS := fun env => M.pure (.next env)
def sSeq (a b : DS) : DS := fun env => M.bind (a env) fun fl => match fl with
  | .next env' => b env'
  | .ret d => M.pure (.ret d)
  | .brk e => M.pure (.brk e)
  | .cont e => M.pure (.cont e)
def sStk : DS := fun _ => stk
def sExpr (a : DE) : DS := fun env => M.bind (a env) fun _ => M.pure (.next env)
def sRet (a : DE) : DS := fun env => M.bind (a env) fun d => M.pure (.ret d)
def sRetN : DS := fun _ => M.pure (.ret .non)
def sBreak : DS := fun env => M.pure (.brk env)
def sCont : DS := fun env => M.pure (.cont env)
def sIf (t : DB) (a b : DS) : DS := fun env => M.bind (t env) fun c => if c = true then a env else b env
def sAsg (a : DE) (dg : DG) : DS := fun env => M.bind (a env) fun d => M.bind (lift (dg d env)) fun env' => M.pure (.next env')
/-- a name is given a new thing that this frame changes -/
def noObj : D → Bool
  | .obj _ _ => false
  | _ => true
def sOwn (i : Nat) (a : DE) : DS := fun env => M.bind (a env) fun d => if noObj d = true then M.pure (.next (env.set i (.own d))) else stk
def sPar2 (i j : Nat) (a b : DE) : DS := fun env => M.bind (a env) fun x => M.bind (b env) fun y => M.pure (.next ((env.set i (.shr x)).set j (.shr y)))
def sPar3 (i j l : Nat) (a b c : DE) : DS := fun env => M.bind (a env) fun x => M.bind (b env) fun y => M.bind (c env) fun z => M.pure (.next (((env.set i (.shr x)).set j (.shr y)).set l (.shr z)))
def sAug (i : Nat) (f : D → D → M D) (a : DE) : DS := fun env => M.bind (dVar i env) fun x => M.bind (a env) fun y => M.bind (f x y) fun z => M.pure (.next (env.set i (.shr z)))
def forLoop (f : D → Env → M Flow) : List D → Env → M Flow
  | [], env => M.pure (.next env)
  | x :: xs, env => M.bind (f x env) fun fl => match fl with
    | .next e => forLoop f xs e
    | .cont e => forLoop f xs e
    | .brk e => M.pure (.next e)
    | .ret d => M.pure (.ret d)
def sFor (di : DI) (dg : DG) (body : DS) : DS := fun env => M.bind (di env) fun xs => forLoop (fun x e => M.bind (lift (dg x e)) body) xs env
def whileLoop (t : DB) (body : DS) : Nat → Env → M Flow
  | 0, _ => stk
  | n + 1, env => M.bind (t env) fun c => if c = true then M.bind (body env) fun fl => (match fl with
      | .next e => whileLoop t body n e
      | .cont e => whileLoop t body n e
      | .brk e => M.pure (.next e)
      | .ret d => M.pure (.ret d)) else M.pure (.next env)
def sWhile (t : DB) (body : DS) : DS := whileLoop t body 100000
/-- a thing of one's own is frozen -/
def sFreeze (i : Nat) : DS := fun env => match env[i]? with
  | some (.own (.lst xs)) => M.pure (.next (env.set i (.shr (.lst xs))))
  | _ => stk
/-- xs.append(e), xs this frame's own -/
def sAppend (i : Nat) (a : DE) : DS := fun env => match env[i]? with
  | some (.own (.lst xs)) => M.bind (a env) fun d => if xs.length < 50000 then M.pure (.next (env.set i (.own (.lst (xs ++ [d]))))) else stk
  | _ => stk
/-- c[k] += e, c a thing with an identity, a list -/
def celPut (n : Nat) (k : Int) (z : D) (env : Env) : M Flow := fun S => match S[n]? with
  | some (.lst xs) => (match ixN xs.length k with
    | some j => .ok (.next env) (S.set n (.lst (xs.set j z)))
    | none => .stuck)
  | _ => .stuck
def celN : D → M Nat
  | .cel n => M.pure n
  | _ => stk
def sCelAug (a : DE) (k : Int) (f : D → D → M D) (b : DE) : DS := fun env => M.bind (a env) fun o => M.bind (celN o) fun n => M.bind (oIxCel n k) fun x => M.bind (b env) fun y => M.bind (f x y) fun z => celPut n k z env
/-- a new thing with an identity -/
def celNew (i : Nat) (env : Env) : D → M Flow
  | .lst xs => fun S => .ok (.next (env.set i (.shr (.cel S.length)))) (S ++ [.lst xs])
  | _ => stk
def sNewCel (i : Nat) (a : DE) : DS := fun env => M.bind (a env) fun d => celNew i env d
def endOf (fl : Flow) : M D := match fl with
  | .next _ => M.pure .non
  | .ret d => M.pure d
  | _ => stk
/-- a def: n slots, its body, the values of its parameters -/
def runDef (n : Nat) (body : DS) (ds : List D) : M D := M.bind (body (ds.map Slot.shr ++ List.replicate (n - ds.length) .no)) endOf
end Sk

set_option Elab.async false
set_option linter.all false
set_option maxRecDepth 100000
set_option maxHeartbeats 2000000
set_option autoImplicit false
/-! SkS: how plain data lies in the heap; frames; what an expression's plain reading is worth. -/
namespace Sk
open PySem PySem.Spec PyProof.Rows L2

structure Wd where
  G : Hp
  ca : List Addr
structure Ly where
  cls : Nat → Addr
  fld : Nat → List Str

mutual
def Rp (K : PySem.W.Frag) (L : Ly) (W : Wd) : D → V → Prop
  | .non, v => v = .non
  | .bl b, v => v = .bl b
  | .int i, v => v = .int i
  | .str x, v => v = .str x
  | .tup xs, v => ∃ a vs, v = .ref a ∧ SqT K W.G a vs ∧ RpL K L W xs vs
  | .lst xs, v => ∃ a vs, v = .ref a ∧ W.G a = some (.lst vs) ∧ RpL K L W xs vs
  | .dk ks xs, v => ∃ a od vs, v = .ref a ∧ W.G a = some (.frz od (.dK (ks.zip vs))) ∧ ks.length = xs.length ∧ RpL K L W xs vs
  | .dt ks xs, v => ∃ a od vs, v = .ref a ∧ W.G a = some (.frz od (.dT (ks.zip vs))) ∧ ks.length = xs.length ∧ RpL K L W xs vs
  | .obj c fs, v => ∃ a dx vs, v = .ref a ∧ W.G a = some (.ins (L.cls c) dx ((L.fld c).zip vs)) ∧ RpL K L W fs vs
  | .cel n, v => ∃ a, v = .ref a ∧ W.ca[n]? = some a
  | .clo _ _, _ => False
  | .scr ns, v => ∃ a, v = .ref a ∧ SqL K W.G a (ns.map V.int)
def RpL (K : PySem.W.Frag) (L : Ly) (W : Wd) : List D → List V → Prop
  | [], vs => vs = []
  | d :: ds, vs => ∃ v r, vs = v :: r ∧ Rp K L W d v ∧ RpL K L W ds r
end

/-- the frozen part grows -/
structure Le (W W' : Wd) : Prop where
  ge : ∀ a o, W.G a = some o → W'.G a = some o
  ca : ∃ more, W'.ca = W.ca ++ more
theorem Le.refl (W : Wd) : Le W W := ⟨fun _ _ h => h, [], (List.append_nil _).symm⟩
theorem Le.trans {A B C : Wd} (x : Le A B) (y : Le B C) : Le A C := ⟨fun a o h => y.ge a o (x.ge a o h), by
  obtain ⟨m, e⟩ := x.ca
  obtain ⟨n, f⟩ := y.ca
  exact ⟨m ++ n, by rw [f, e, List.append_assoc]⟩⟩
theorem Le.cel {W W' : Wd} (x : Le W W') {n : Nat} {a : Addr} (h : W.ca[n]? = some a) : W'.ca[n]? = some a := by
  obtain ⟨m, e⟩ := x.ca
  rw [e]
  have hl := (List.getElem?_eq_some_iff.mp h).1
  rw [List.getElem?_append_left hl]
  exact h
theorem Le.rd {W W' : Wd} (x : Le W W') {a : Addr} {u : HO} (h : Rd W.G a u) : Rd W'.G a u := by
  rcases h with h | ⟨o, h⟩
  · exact .inl (x.ge _ _ h)
  · exact .inr ⟨o, x.ge _ _ h⟩
section
variable {K : PySem.W.Frag} {L : Ly}
theorem Le.sqT {W W' : Wd} (x : Le W W') {a : Addr} {vs : List V} (h : SqT K W.G a vs) : SqT K W'.G a vs := by
  rcases h with h | h
  · exact .inl (x.rd h)
  · exact .inr h
theorem Le.sqL {W W' : Wd} (x : Le W W') {a : Addr} {vs : List V} (h : SqL K W.G a vs) : SqL K W'.G a vs := by
  rcases h with h | h
  · exact .inl (x.rd h)
  · exact .inr h
mutual
theorem Rp.mono {W W' : Wd} (x : Le W W') : ∀ (d : D) (v : V), Rp K L W d v → Rp K L W' d v
  | .non, v, h => h
  | .bl b, v, h => h
  | .int i, v, h => h
  | .str z, v, h => h
  | .tup xs, v, h => by
    obtain ⟨a, vs, e, q, r⟩ := h
    exact ⟨a, vs, e, x.sqT q, RpL.mono x xs vs r⟩
  | .lst xs, v, h => by
    obtain ⟨a, vs, e, q, r⟩ := h
    exact ⟨a, vs, e, x.ge _ _ q, RpL.mono x xs vs r⟩
  | .dk ks xs, v, h => by
    obtain ⟨a, od, vs, e, q, l, r⟩ := h
    exact ⟨a, od, vs, e, x.ge _ _ q, l, RpL.mono x xs vs r⟩
  | .dt ks xs, v, h => by
    obtain ⟨a, od, vs, e, q, l, r⟩ := h
    exact ⟨a, od, vs, e, x.ge _ _ q, l, RpL.mono x xs vs r⟩
  | .obj c fs, v, h => by
    obtain ⟨a, dx, vs, e, q, r⟩ := h
    exact ⟨a, dx, vs, e, x.ge _ _ q, RpL.mono x fs vs r⟩
  | .cel n, v, h => by
    obtain ⟨a, e, q⟩ := h
    exact ⟨a, e, x.cel q⟩
  | .clo _ _, _, h => h
  | .scr ns, v, h => by
    obtain ⟨a, e, q⟩ := h
    exact ⟨a, e, x.sqL q⟩
theorem RpL.mono {W W' : Wd} (x : Le W W') : ∀ (ds : List D) (vs : List V), RpL K L W ds vs → RpL K L W' ds vs
  | [], vs, h => h
  | d :: ds, vs, h => by
    obtain ⟨v, r, e, q, t⟩ := h
    exact ⟨v, r, e, Rp.mono x d v q, RpL.mono x ds r t⟩
end
theorem RpL.length {W : Wd} : ∀ {ds : List D} {vs : List V}, RpL K L W ds vs → vs.length = ds.length
  | [], vs, h => by
    have h : vs = [] := h
    subst h
    rfl
  | d :: ds, vs, h => by
    obtain ⟨v, r, e, q, t⟩ := h
    subst e
    rw [List.length_cons, List.length_cons, RpL.length t]
theorem RpL.get {W : Wd} : ∀ {ds : List D} {vs : List V} {i : Nat} {d : D}, RpL K L W ds vs → ds[i]? = some d → ∃ v, vs[i]? = some v ∧ Rp K L W d v
  | [], vs, i, d, h, e => by simp at e
  | x :: ds, vs, 0, d, h, e => by
    obtain ⟨v, r, e', q, t⟩ := h
    subst e'
    have e : x = d := Option.some.inj e
    subst e
    exact ⟨v, rfl, q⟩
  | x :: ds, vs, i + 1, d, h, e => by
    obtain ⟨v, r, e', q, t⟩ := h
    subst e'
    exact RpL.get (i := i) t e
theorem RpL.get' {W : Wd} : ∀ {ds : List D} {vs : List V} {i : Nat} {v : V}, RpL K L W ds vs → vs[i]? = some v → ∃ d, ds[i]? = some d ∧ Rp K L W d v
  | [], vs, i, v, h, e => by
    have h : vs = [] := h
    subst h
    simp at e
  | x :: ds, vs, 0, v, h, e => by
    obtain ⟨v', r, e', q, t⟩ := h
    subst e'
    have e : v' = v := Option.some.inj e
    subst e
    exact ⟨x, rfl, q⟩
  | x :: ds, vs, i + 1, v, h, e => by
    obtain ⟨v', r, e', q, t⟩ := h
    subst e'
    exact RpL.get' (i := i) t e
theorem RpL.append {W : Wd} : ∀ {ds es : List D} {vs ws : List V}, RpL K L W ds vs → RpL K L W es ws → RpL K L W (ds ++ es) (vs ++ ws)
  | [], es, vs, ws, h, g => by
    have h : vs = [] := h
    subst h
    exact g
  | x :: ds, es, vs, ws, h, g => by
    obtain ⟨v, r, e, q, t⟩ := h
    subst e
    exact ⟨v, r ++ ws, rfl, q, RpL.append t g⟩
theorem RpL.one {W : Wd} {d : D} {v : V} (h : Rp K L W d v) : RpL K L W [d] [v] := ⟨v, [], rfl, h, rfl⟩
theorem RpL.drop {W : Wd} : ∀ (n : Nat) {ds : List D} {vs : List V}, RpL K L W ds vs → RpL K L W (ds.drop n) (vs.drop n)
  | 0, ds, vs, h => h
  | n + 1, [], vs, h => by
    have h : vs = [] := h
    subst h
    exact rfl
  | n + 1, d :: ds, vs, h => by
    obtain ⟨v, r, e, q, t⟩ := h
    subst e
    exact RpL.drop n t
theorem RpL.take {W : Wd} : ∀ (n : Nat) {ds : List D} {vs : List V}, RpL K L W ds vs → RpL K L W (ds.take n) (vs.take n)
  | 0, ds, vs, h => by
    show vs.take 0 = []
    rfl
  | n + 1, [], vs, h => by
    have h : vs = [] := h
    subst h
    exact rfl
  | n + 1, d :: ds, vs, h => by
    obtain ⟨v, r, e, q, t⟩ := h
    subst e
    exact ⟨v, r.take n, rfl, q, RpL.take n t⟩
theorem RpL.set {W : Wd} {d : D} {v : V} (hd : Rp K L W d v) : ∀ (n : Nat) {ds : List D} {vs : List V}, RpL K L W ds vs → RpL K L W (ds.set n d) (vs.set n v)
  | n, [], vs, h => by
    have h : vs = [] := h
    subst h
    exact rfl
  | 0, x :: ds, vs, h => by
    obtain ⟨w, r, e, q, t⟩ := h
    subst e
    exact ⟨v, r, rfl, hd, t⟩
  | n + 1, x :: ds, vs, h => by
    obtain ⟨w, r, e, q, t⟩ := h
    subst e
    exact ⟨w, r.set n v, rfl, q, RpL.set hd n t⟩
theorem RpL.ints {W : Wd} : ∀ (ns : List Int), RpL K L W (ns.map D.int) (ns.map V.int)
  | [] => rfl
  | n :: ns => ⟨.int n, ns.map V.int, rfl, rfl, RpL.ints ns⟩
end

section
variable (K : PySem.W.Frag) (L : Ly)
/-- a thing that may change, as it is now -/
def CellAt (W : Wd) (H : Hp) (a : Addr) : D → Prop
  | .lst xs => ∃ vs, H a = some (.lst vs) ∧ RpL K L W xs vs
  | .obj c fs => ∃ dx vs, H a = some (.ins (L.cls c) dx ((L.fld c).zip vs)) ∧ RpL K L W fs vs
  | .dk ks xs => ∃ vs, H a = some (.dK (ks.zip vs)) ∧ ks.length = xs.length ∧ RpL K L W xs vs
  | .dt ks xs => ∃ vs, H a = some (.dT (ks.zip vs)) ∧ ks.length = xs.length ∧ RpL K L W xs vs
  | _ => False
structure Gd (W : Wd) (H : Hp) (S : Store) : Prop where
  fz : ∀ a o, W.G a = some o → H a = some o
  cn : ∀ a, a ∈ W.ca → W.G a = none
  nd : W.ca.Nodup
  ln : W.ca.length = S.length
  ce : ∀ (n : Nat) (c : D) (a : Addr), S[n]? = some c → W.ca[n]? = some a → CellAt K L W H a c
end
structure Stp (ex : Addr → Prop) (W : Wd) (H : Hp) (W' : Wd) (H' : Hp) : Prop where
  le : Le W W'
  keep : ∀ a o, H a = some o → a ∉ W.ca → ¬ ex a → H' a = some o
  dom : ∀ a, H a ≠ none → H' a ≠ none
  new : ∀ a, W'.G a ≠ none → W.G a ≠ none ∨ H a = none
  newc : ∀ a, a ∈ W'.ca → a ∈ W.ca ∨ H a = none
abbrev noEx : Addr → Prop := fun _ => False
section
variable {K : PySem.W.Frag} {L : Ly}
theorem CellAt.ne {W : Wd} {H : Hp} {a : Addr} : ∀ {c : D}, CellAt K L W H a c → H a ≠ none
  | .lst xs, h => by
    obtain ⟨vs, e, _⟩ := h
    rw [e]
    exact fun z => nomatch z
  | .obj c fs, h => by
    obtain ⟨dx, vs, e, _⟩ := h
    rw [e]
    exact fun z => nomatch z
  | .dk ks xs, h => by
    obtain ⟨vs, e, _⟩ := h
    rw [e]
    exact fun z => nomatch z
  | .dt ks xs, h => by
    obtain ⟨vs, e, _⟩ := h
    rw [e]
    exact fun z => nomatch z
  | .non, h => h.elim
  | .bl _, h => h.elim
  | .int _, h => h.elim
  | .str _, h => h.elim
  | .tup _, h => h.elim
  | .cel _, h => h.elim
  | .clo _ _, h => h.elim
  | .scr _, h => h.elim
theorem CellAt.to {W W' : Wd} {H H' : Hp} {a : Addr} (le : Le W W') (e : ∀ o, H a = some o → H' a = some o) : ∀ {c : D}, CellAt K L W H a c → CellAt K L W' H' a c
  | .lst xs, h => by
    obtain ⟨vs, q, r⟩ := h
    exact ⟨vs, e _ q, r.mono le⟩
  | .obj c fs, h => by
    obtain ⟨dx, vs, q, r⟩ := h
    exact ⟨dx, vs, e _ q, r.mono le⟩
  | .dk ks xs, h => by
    obtain ⟨vs, q, l, r⟩ := h
    exact ⟨vs, e _ q, l, r.mono le⟩
  | .dt ks xs, h => by
    obtain ⟨vs, q, l, r⟩ := h
    exact ⟨vs, e _ q, l, r.mono le⟩
  | .non, h => h.elim
  | .bl _, h => h.elim
  | .int _, h => h.elim
  | .str _, h => h.elim
  | .tup _, h => h.elim
  | .cel _, h => h.elim
  | .clo _ _, h => h.elim
  | .scr _, h => h.elim
theorem Gd.cell {W : Wd} {H : Hp} {S : Store} (g : Gd K L W H S) {a : Addr} (h : a ∈ W.ca) : H a ≠ none := by
  obtain ⟨n, hn, e⟩ := List.getElem_of_mem h
  have h2 : n < S.length := g.ln ▸ hn
  exact (g.ce n _ a (List.getElem?_eq_getElem h2) (by rw [List.getElem?_eq_getElem hn, e])).ne
theorem Gd.freeG {W : Wd} {H : Hp} {S : Store} (g : Gd K L W H S) {p : Addr} (h : H p = none) : W.G p = none := by
  cases q : W.G p with
  | none => rfl
  | some o =>
    have z := g.fz p o q
    rw [h] at z
    cases z
theorem Gd.freeC {W : Wd} {H : Hp} {S : Store} (g : Gd K L W H S) {p : Addr} (h : H p = none) : p ∉ W.ca := fun m => g.cell m h
theorem Stp.refl {ex : Addr → Prop} {W : Wd} {H : Hp} : Stp ex W H W H := ⟨Le.refl W, fun _ _ h _ _ => h, fun _ h => h, fun _ h => .inl h, fun _ h => .inl h⟩
theorem Stp.trans {ex : Addr → Prop} {A B C : Wd} {H H1 H2 : Hp} (x : Stp ex A H B H1) (y : Stp ex B H1 C H2) : Stp ex A H C H2 where
  le := x.le.trans y.le
  keep := fun a o h n e => y.keep a o (x.keep a o h n e) (fun m => (x.newc a m).elim n fun z => by rw [h] at z; cases z) e
  dom := fun a h => y.dom a (x.dom a h)
  new := fun a h => by
    rcases y.new a h with z | z
    · exact x.new a z
    · right
      cases q : H a with
      | none => rfl
      | some o => exact absurd z (x.dom a (by rw [q]; exact fun z => nomatch z))
  newc := fun a h => by
    rcases y.newc a h with z | z
    · exact x.newc a z
    · right
      cases q : H a with
      | none => rfl
      | some o => exact absurd z (x.dom a (by rw [q]; exact fun z => nomatch z))
theorem Stp.weak {ex : Addr → Prop} {A B : Wd} {H H1 : Hp} (x : Stp noEx A H B H1) : Stp ex A H B H1 := ⟨x.le, fun a o h n _ => x.keep a o h n fun z => z, x.dom, x.new, x.newc⟩
def Wd.add (W : Wd) (p : Addr) (o : HO) : Wd := ⟨upd W.G p o, W.ca⟩
theorem Wd.add_at {W : Wd} {p : Addr} {o : HO} : (W.add p o).G p = some o := upd_same
theorem Wd.le_add {W : Wd} {p : Addr} {o : HO} (h : W.G p = none) : Le W (W.add p o) := ⟨fun a u e => by
  show upd W.G p o a = some u
  rw [upd_ne (ne_of_none e h)]
  exact e, [], (List.append_nil _).symm⟩
theorem upd_dom {H : Hp} {p a : Addr} {o : HO} (h : H a ≠ none) : upd H p o a ≠ none := by
  by_cases e : a = p
  · subst e
    rw [upd_same]
    exact fun z => nomatch z
  · rw [upd_ne e]
    exact h
/-- a new object, frozen -/
theorem Stp.alloc {ex : Addr → Prop} {W : Wd} {H : Hp} {S : Store} {p : Addr} {o : HO} (g : Gd K L W H S) (h : H p = none) : Stp ex W H (W.add p o) (upd H p o) where
  le := Wd.le_add (g.freeG h)
  keep := fun a u e _ _ => by
    rw [upd_ne (ne_of_none e h)]
    exact e
  dom := fun a z => upd_dom z
  new := fun a z => by
    by_cases e : a = p
    · subst e
      exact .inr h
    · left
      have z : upd W.G p o a ≠ none := z
      rw [upd_ne e] at z
      exact z
  newc := fun a z => .inl z
theorem Gd.alloc {W : Wd} {H : Hp} {S : Store} {p : Addr} {o : HO} (g : Gd K L W H S) (h : H p = none) : Gd K L (W.add p o) (upd H p o) S where
  fz := fun a u e => by
    by_cases q : a = p
    · subst q
      rw [Wd.add_at] at e
      cases e
      exact upd_same
    · have e : upd W.G p o a = some u := e
      rw [upd_ne q] at e
      rw [upd_ne q]
      exact g.fz a u e
  cn := fun a m => by
    show upd W.G p o a = none
    rw [upd_ne (show a ≠ p from fun e => g.freeC h (by rw [← e]; exact m))]
    exact g.cn a m
  nd := g.nd
  ln := g.ln
  ce := fun n c a e1 e2 => (g.ce n c a e1 e2).to (Wd.le_add (g.freeG h)) fun u e => by
    rw [upd_ne (ne_of_none e h)]
    exact e
/-- a new object, this frame's own -/
theorem Stp.own {ex : Addr → Prop} {W : Wd} {H : Hp} {p : Addr} {o : HO} (h : H p = none) : Stp ex W H W (upd H p o) :=
  ⟨Le.refl W, fun a u e _ _ => by rw [upd_ne (ne_of_none e h)]; exact e, fun a z => upd_dom z, fun a z => .inl z, fun a z => .inl z⟩
theorem Gd.own {W : Wd} {H : Hp} {S : Store} {p : Addr} {o : HO} (g : Gd K L W H S) (h1 : W.G p = none) (h2 : p ∉ W.ca) : Gd K L W (upd H p o) S where
  fz := fun a u e => by
    rw [upd_ne (ne_of_none e h1)]
    exact g.fz a u e
  cn := g.cn
  nd := g.nd
  ln := g.ln
  ce := fun n c a e1 e2 => (g.ce n c a e1 e2).to (Le.refl W) fun u e => by
    rw [upd_ne (show a ≠ p from fun z => h2 (by rw [← z]; exact List.mem_of_getElem? e2))]
    exact e
end

/-! ### frames -/
/-- where a body began: what it may change, the frozen part, the heap -/
structure FD where
  ex : Addr → Prop
  W0 : Wd
  H0 : Hp
section
variable (K : PySem.W.Frag) (L : Ly)
/-- whose a thing of one's own may be: an instance is the one that is being made -/
def OwnOk (F : FD) (p : Addr) : D → Prop
  | .obj _ _ => F.ex p
  | _ => F.H0 p = none ∨ F.ex p
theorem OwnOk.or {F : FD} {p : Addr} : ∀ {d : D}, OwnOk F p d → F.H0 p = none ∨ F.ex p
  | .obj _ _, h => .inr h
  | .non, h => h
  | .bl _, h => h
  | .int _, h => h
  | .str _, h => h
  | .tup _, h => h
  | .lst _, h => h
  | .dk _ _, h => h
  | .dt _ _, h => h
  | .cel _, h => h
  | .clo _ _, h => h
  | .scr _, h => h
theorem OwnOk.of {F : FD} {p : Addr} {d : D} (n : noObj d = true) (h : F.H0 p = none ∨ F.ex p) : OwnOk F p d := by
  cases d <;> first | exact h | cases n
def SlotAt (F : FD) (W : Wd) (H : Hp) (ov : Option (Option V)) : Slot → Prop
  | .no => True
  | .shr d => ∃ v, ov = some (some v) ∧ Rp K L W d v
  | .own d => ∃ p, ov = some (some (.ref p)) ∧ W.G p = none ∧ p ∉ W.ca ∧ OwnOk F p d ∧ CellAt K L W H p d
structure Frm (F : FD) (W : Wd) (H : Hp) (S : Store) (env : Env) (σ : L2.St) : Prop where
  good : Gd K L W H S
  step : Stp F.ex F.W0 F.H0 W H
  len : σ.length = env.length
  sl : ∀ (i : Nat) (s : Slot), env[i]? = some s → SlotAt K L F W H σ[i]? s
  sep : ∀ (i j : Nat) (d e : D) (p : Addr), i ≠ j → env[i]? = some (.own d) → env[j]? = some (.own e) → σ[i]? = some (some (.ref p)) → σ[j]? ≠ some (some (.ref p))
end
section
variable {K : PySem.W.Frag} {L : Ly} {F : FD} {W W' : Wd} {H H' : Hp} {S S' : Store} {env : Env} {σ : L2.St}
theorem Frm.next (fr : Frm K L F W H S env σ) (st : Stp noEx W H W' H') (g : Gd K L W' H' S') : Frm K L F W' H' S' env σ where
  good := g
  step := fr.step.trans st.weak
  len := fr.len
  sl := fun i s e => by
    have q := fr.sl i s e
    cases s with
    | no => trivial
    | shr d =>
      obtain ⟨v, e1, r⟩ := q
      exact ⟨v, e1, r.mono st.le⟩
    | own d =>
      obtain ⟨p, e1, n1, n2, n3, c⟩ := q
      have hp : H p ≠ none := c.ne
      refine ⟨p, e1, ?_, fun m => (st.newc p m).elim n2 hp, n3, c.to st.le fun o e => st.keep p o e n2 fun z => z⟩
      cases z : W'.G p with
      | none => rfl
      | some o => exact ((st.new p (by rw [z]; exact fun z => nomatch z)).elim (fun y => absurd n1 y) fun y => absurd y hp)
  sep := fr.sep
end

/-! ### what an outcome is worth -/
def wpO {α : Type} (o : Out α) (P : α → Store → Prop) (R : Nat → List D → Store → Prop) : Prop := match o with
  | .ok a S => P a S
  | .exc c fs S => R c fs S
  | .stuck => False
theorem wpO_imp {α : Type} {o : Out α} {P P' : α → Store → Prop} {R : Nat → List D → Store → Prop} (h : wpO o P R) (f : ∀ a S, P a S → P' a S) : wpO o P' R := by
  cases o with
  | ok a S => exact f a S h
  | exc c fs S => exact h
  | stuck => exact h
theorem wpO_bind {α β : Type} {m : M α} {f : α → M β} {S : Store} {P : β → Store → Prop} {R : Nat → List D → Store → Prop} (h : wpO (M.bind m f S) P R) : wpO (m S) (fun a S' => wpO (f a S') P R) R := by
  unfold M.bind at h
  cases q : m S with
  | ok a S' =>
    rw [q] at h
    exact h
  | exc c fs S' =>
    rw [q] at h
    exact h
  | stuck =>
    rw [q] at h
    exact h
theorem wpO_stk {α : Type} {S : Store} {P : α → Store → Prop} {R : Nat → List D → Store → Prop} {A : Prop} (h : wpO ((stk : M α) S) P R) : A := False.elim h
theorem wpO_ite {α : Type} {c : Prop} [Decidable c] {a : M α} {S : Store} {P : α → Store → Prop} {R : Nat → List D → Store → Prop} (h : wpO ((if c then a else stk) S) P R) : c ∧ wpO (a S) P R := by
  by_cases hc : c
  · rw [if_pos hc] at h
    exact ⟨hc, h⟩
  · rw [if_neg hc] at h
    exact h.elim
section
variable (K : PySem.W.Frag) (L : Ly)
/-- a value is wanted -/
def PV (W : Wd) (H : Hp) (Q : VK) : D → Store → Prop := fun d S' => ∀ W' H' v, Stp noEx W H W' H' → Gd K L W' H' S' → Rp K L W' d v → Q v H'
/-- .. to be read at once -/
def Tp (W : Wd) (H : Hp) (d : D) (v : V) : Prop := Rp K L W d v ∨ ∃ p, v = .ref p ∧ W.G p = none ∧ p ∉ W.ca ∧ CellAt K L W H p d
def PB (W : Wd) (H : Hp) (Q : VK) : D → Store → Prop := fun d S' => ∀ W' H' v, Stp noEx W H W' H' → Gd K L W' H' S' → Tp K L W' H' d v → Q v H'
def PVs (W : Wd) (H : Hp) (Q : List V → Hp → Prop) : List D → Store → Prop := fun ds S' => ∀ W' H' vs, Stp noEx W H W' H' → Gd K L W' H' S' → RpL K L W' ds vs → Q vs H'
def PBl (W : Wd) (H : Hp) (Q : Bool → Hp → Prop) : Bool → Store → Prop := fun b S' => ∀ W' H', Stp noEx W H W' H' → Gd K L W' H' S' → Q b H'
/-- an exception in flight: its class, its own dict -/
def XP (F : FD) (E : XK) : Nat → List D → Store → Prop := fun c fs S' => ∀ W' H' d vs, Stp F.ex F.W0 F.H0 W' H' → Gd K L W' H' S' → H' d = some (.xd ((L.fld c).zip vs)) → RpL K L W' fs vs → E (.ref (L.cls c)) (some d) H'
end
section
variable {K : PySem.W.Frag} {L : Ly} {W W' : Wd} {H H' : Hp} {S S' : Store}
theorem PV.mono {Q : VK} (st : Stp noEx W H W' H') {d : D} {S : Store} (h : PV K L W H Q d S) : PV K L W' H' Q d S := fun W2 H2 v s g r => h W2 H2 v (st.trans s) g r
theorem PB.mono {Q : VK} (st : Stp noEx W H W' H') {d : D} {S : Store} (h : PB K L W H Q d S) : PB K L W' H' Q d S := fun W2 H2 v s g r => h W2 H2 v (st.trans s) g r
theorem PVs.mono {Q : List V → Hp → Prop} (st : Stp noEx W H W' H') {d : List D} {S : Store} (h : PVs K L W H Q d S) : PVs K L W' H' Q d S := fun W2 H2 v s g r => h W2 H2 v (st.trans s) g r
theorem PBl.mono {Q : Bool → Hp → Prop} (st : Stp noEx W H W' H') {d : Bool} {S : Store} (h : PBl K L W H Q d S) : PBl K L W' H' Q d S := fun W2 H2 s g => h W2 H2 (st.trans s) g
theorem PV.now {Q : VK} {d : D} {v : V} (h : PV K L W H Q d S) (g : Gd K L W H S) (r : Rp K L W d v) : Q v H := h W H v Stp.refl g r
theorem Tp.mono {d : D} {v : V} (t : Tp K L W H d v) (st : Stp noEx W H W' H') : Tp K L W' H' d v := by
  rcases t with t | ⟨p, e, n1, n2, c⟩
  · exact .inl (t.mono st.le)
  · right
    have hp : H p ≠ none := c.ne
    refine ⟨p, e, ?_, fun m => (st.newc p m).elim n2 hp, c.to st.le fun o e => st.keep p o e n2 fun z => z⟩
    cases z : W'.G p with
    | none => rfl
    | some o => exact ((st.new p (by rw [z]; exact fun z => nomatch z)).elim (fun y => absurd n1 y) fun y => absurd y hp)
/-- a frozen list or tuple is read -/
theorem Gd.rd (g : Gd K L W H S) {a : Addr} {u : HO} (h : Rd W.G a u) : Rd H a u := by
  rcases h with h | ⟨o, h⟩
  · exact .inl (g.fz _ _ h)
  · exact .inr ⟨o, g.fz _ _ h⟩
theorem Gd.sqT (g : Gd K L W H S) {a : Addr} {vs : List V} (h : SqT K W.G a vs) : SqT K H a vs := by
  rcases h with h | h
  · exact .inl (g.rd h)
  · exact .inr h
theorem Gd.sqL (g : Gd K L W H S) {a : Addr} {vs : List V} (h : SqL K W.G a vs) : SqL K H a vs := by
  rcases h with h | h
  · exact .inl (g.rd h)
  · exact .inr h
theorem Tp.lst (g : Gd K L W H S) {xs : List D} {v : V} (t : Tp K L W H (.lst xs) v) : ∃ a vs, v = .ref a ∧ H a = some (.lst vs) ∧ RpL K L W xs vs := by
  rcases t with ⟨a, vs, e, q, r⟩ | ⟨p, e, n1, n2, vs, q, r⟩
  · exact ⟨a, vs, e, g.fz _ _ q, r⟩
  · exact ⟨p, vs, e, q, r⟩
theorem Tp.scr (g : Gd K L W H S) {ns : List Int} {v : V} (t : Tp K L W H (.scr ns) v) : ∃ a, v = .ref a ∧ SqL K H a (ns.map V.int) := by
  rcases t with ⟨a, e, q⟩ | ⟨p, e, n1, n2, c⟩
  · exact ⟨a, e, g.sqL q⟩
  · exact c.elim
theorem Tp.tup (g : Gd K L W H S) {xs : List D} {v : V} (t : Tp K L W H (.tup xs) v) : ∃ a vs, v = .ref a ∧ SqT K H a vs ∧ RpL K L W xs vs := by
  rcases t with ⟨a, vs, e, q, r⟩ | ⟨p, e, n1, n2, c⟩
  · exact ⟨a, vs, e, g.sqT q, r⟩
  · exact c.elim
end

/-! ### the judgements -/
section
variable (K : PySem.W.Frag) (L : Ly) (E : XK)
def Sem (de : DE) (t : TE) : Prop := ∀ (F : FD) W H S env σ Q, Frm K L F W H S env σ → wpO (de env S) (PV K L W H Q) (XP K L F E) → t σ H Q
def SemB (de : DE) (t : TE) : Prop := ∀ (F : FD) W H S env σ Q, Frm K L F W H S env σ → wpO (de env S) (PB K L W H Q) (XP K L F E) → t σ H Q
def SemA (da : DA) (t : TA) : Prop := ∀ (F : FD) W H S env σ Q, Frm K L F W H S env σ → wpO (da env S) (PVs K L W H Q) (XP K L F E) → t σ H Q
def SemT (db : DB) (t : TT) : Prop := ∀ (F : FD) W H S env σ Q, Frm K L F W H S env σ → wpO (db env S) (PBl K L W H Q) (XP K L F E) → t σ H Q
end
section
variable (X : Cx) (K : PySem.W.Frag) (L : Ly) (E : XK)
/-- an expression and its plain reading -/
structure SE (e : Expr) (t : TE) (de : DE) : Prop where
  hK : X.K = K
  p : PE X e t
  s : Sem K L E de t
structure SB (e : Expr) (t : TE) (de : DE) : Prop where
  hK : X.K = K
  p : PE X e t
  s : SemB K L E de t
structure SA (es : List Expr) (t : TA) (da : DA) : Prop where
  hK : X.K = K
  p : PA X es t
  s : SemA K L E da t
structure ST (e : Expr) (t : TT) (db : DB) : Prop where
  hK : X.K = K
  p : PT X e t
  s : SemT K L E db t
structure SW (e : Expr) (t : TT) (db : DB) : Prop where
  hK : X.K = K
  p : PW X e t
  s : SemT K L E db t
end
end Sk

set_option Elab.async false
set_option linter.all false
set_option maxRecDepth 100000
set_option maxHeartbeats 2000000
set_option autoImplicit false
/-! SkR: rules for expressions. -/
namespace Sk
open PySem PySem.Spec PyProof.Rows L2

section
variable {X : Cx} {K : PySem.W.Frag} {L : Ly} {E : XK} {a b c e : Expr} {es : List Expr} {ta tb tc : TE} {da db dc : DE} {pos : Pos}

theorem se_sb (h : SE X K L E e ta da) : SB X K L E e ta da :=
  ⟨h.hK, h.p, fun F W H S env σ Q fr w => h.s F W H S env σ Q fr (wpO_imp w fun d S' q W' H' v st g r => q W' H' v st g (.inl r))⟩
theorem se_var (i : Nat) {x : Str} (hN : X.N[i]? = some x := by rfl) (hv : Vis X.env.scope x := by first | exact Or.inl rfl | exact Or.inr (Or.inl rfl) | exact Or.inr (Or.inr rfl)) (hd : (x == ("__debug__" : Str)) = false := by decide)
    (hcd : (x == ("__classdict__" : Str)) = false := by decide) (hK : X.K = K := by rfl) : SE X K L E (.Name x pos) (tVar i) (dVar i) := by
  refine ⟨hK, pe_var hN hv hd hcd, fun F W H S env σ Q fr w => ?_⟩
  unfold dVar at w
  cases q : env[i]? with
  | none =>
    rw [q] at w
    exact w.elim
  | some s =>
    rw [q] at w
    have hs := fr.sl i s q
    cases s with
    | no => exact w.elim
    | own d => exact w.elim
    | shr d =>
      obtain ⟨v, e1, r⟩ := hs
      exact ⟨v, e1, PV.now w fr.good r⟩
theorem sb_var (i : Nat) {x : Str} (hN : X.N[i]? = some x := by rfl) (hv : Vis X.env.scope x := by first | exact Or.inl rfl | exact Or.inr (Or.inl rfl) | exact Or.inr (Or.inr rfl)) (hd : (x == ("__debug__" : Str)) = false := by decide)
    (hcd : (x == ("__classdict__" : Str)) = false := by decide) (hK : X.K = K := by rfl) : SB X K L E (.Name x pos) (tVar i) (bVar i) := by
  refine ⟨hK, pe_var hN hv hd hcd, fun F W H S env σ Q fr w => ?_⟩
  unfold bVar at w
  cases q : env[i]? with
  | none =>
    rw [q] at w
    exact w.elim
  | some s =>
    rw [q] at w
    have hs := fr.sl i s q
    cases s with
    | no => exact w.elim
    | own d =>
      obtain ⟨p, e1, n1, n2, n3, c⟩ := hs
      exact ⟨.ref p, e1, w W H _ Stp.refl fr.good (.inr ⟨p, rfl, n1, n2, c⟩)⟩
    | shr d =>
      obtain ⟨v, e1, r⟩ := hs
      exact ⟨v, e1, w W H _ Stp.refl fr.good (.inl r)⟩
theorem se_cst {v : V} {d : D} (p : PE X e (tC v)) (r : ∀ W, Rp K L W d v) (hK : X.K = K := by rfl) : SE X K L E e (tC v) (dC d) :=
  ⟨hK, p, fun F W H S env σ Q fr w => PV.now w fr.good (r W)⟩
theorem se_int {i : Int} {j : Nat} (hK : X.K = K := by rfl) : SE X K L E (.Constant (.int i) j pos) (tC (.int i)) (dC (.int i)) := se_cst pe_int (fun _ => rfl) hK
theorem se_bl {i : Bool} {j : Nat} (hK : X.K = K := by rfl) : SE X K L E (.Constant (.bool i) j pos) (tC (.bl i)) (dC (.bl i)) := se_cst pe_bl (fun _ => rfl) hK
theorem se_non {j : Nat} (hK : X.K = K := by rfl) : SE X K L E (.Constant .none j pos) (tC .non) (dC .non) := se_cst pe_non (fun _ => rfl) hK
theorem se_str {x : Str} {j : Nat} (hK : X.K = K := by rfl) : SE X K L E (.Constant (.str x) j pos) (tC (.str x)) (dC (.str x)) := se_cst pe_str (fun _ => rfl) hK
/-- a constant of the module -/
theorem se_glob {x : Str} {v : V} {u : Value} {d : D} (hg : Gl X x) (hm : X.mg x = some u) (r : RelV v u) (rp : ∀ W, Rp K L W d v) (hd : (x == ("__debug__" : Str)) = false := by decide) (hK : X.K = K := by rfl) :
    SE X K L E (.Name x pos) (tC v) (dC d) := se_cst (pe_glob hg hm r hd) rp hK

/-- an operation on values -/
def OpS (K : PySem.W.Frag) (L : Ly) (r : R2) (f : D → D → M D) : Prop :=
  ∀ (W : Wd) (H : Hp) (S : Store) (x y : D) (v w : V) (Q : VK) (R : Nat → List D → Store → Prop), Gd K L W H S → Tp K L W H x v → Tp K L W H y w → wpO (f x y S) (PV K L W H Q) R → r v w H Q
def UnS (K : PySem.W.Frag) (L : Ly) (r : V → Hp → VK → Prop) (f : D → M D) : Prop :=
  ∀ (W : Wd) (H : Hp) (S : Store) (x : D) (v : V) (Q : VK) (R : Nat → List D → Store → Prop), Gd K L W H S → Tp K L W H x v → wpO (f x S) (PV K L W H Q) R → r v H Q
theorem sem_bin {r : R2} {f : D → D → M D} (hs : OpS K L r f) (ha : SemB K L E da ta) (hb : SemB K L E db tb) : Sem K L E (dBin f da db) (tOp r ta tb) := by
  intro F W H S env σ Q fr w
  refine ha F W H S env σ _ fr (wpO_imp (wpO_bind w) fun x S1 w1 W1 H1 v1 st1 g1 r1 => ?_)
  refine hb F W1 H1 S1 env σ _ (fr.next st1 g1) (wpO_imp (wpO_bind w1) fun y S2 w2 W2 H2 v2 st2 g2 r2 => ?_)
  exact hs W2 H2 S2 x y v1 v2 Q _ g2 (r1.mono st2) r2 (wpO_imp w2 fun d S' q => q.mono (st1.trans st2))
theorem sem_un {r : V → Hp → VK → Prop} {f : D → M D} (hs : UnS K L r f) (ha : SemB K L E da ta) : Sem K L E (dUn f da) (tUn r ta) := by
  intro F W H S env σ Q fr w
  refine ha F W H S env σ _ fr (wpO_imp (wpO_bind w) fun x S1 w1 W1 H1 v1 st1 g1 r1 => ?_)
  exact hs W1 H1 S1 x v1 Q _ g1 r1 (wpO_imp w1 fun d S' q => q.mono st1)
theorem se_bin {op : Operator} {r : R2} {f : D → D → M D} (ho : OpR X (binaryOp op) r) (hs : OpS K L r f) (ha : SB X K L E a ta da) (hb : SB X K L E b tb db) : SE X K L E (.BinOp a op b pos) (tOp r ta tb) (dBin f da db) :=
  ⟨ha.hK, pe_op ho ha.p hb.p, sem_bin hs ha.s hb.s⟩
theorem se_cmp {op : CmpOp} {r : R2} {f : D → D → M D} (ho : OpR X (compareOp op) r) (hs : OpS K L r f) (ha : SB X K L E a ta da) (hb : SB X K L E b tb db) (hm : behindInMarks op b = false) : SE X K L E (.Compare a [op] [b] pos) (tOp r ta tb) (dBin f da db) :=
  ⟨ha.hK, pe_cmpR ho ha.p hb.p hm, sem_bin hs ha.s hb.s⟩
theorem se_un {op : UnaryOp} {r : V → Hp → VK → Prop} {f : D → M D} (ho : UnR X (unaryOp op) r) (hs : UnS K L r f) (ha : SB X K L E a ta da) : SE X K L E (.UnaryOp op a pos) (tUn r ta) (dUn f da) :=
  ⟨ha.hK, pe_un ho ha.p, sem_un hs ha.s⟩

/-! ### ints -/
theorem Tp.int {W : Wd} {H : Hp} {i : Int} {v : V} (t : Tp K L W H (.int i) v) : v = .int i := by
  rcases t with t | ⟨_, _, _, _, c⟩
  · exact t
  · exact c.elim
theorem Tp.bl {W : Wd} {H : Hp} {i : Bool} {v : V} (t : Tp K L W H (.bl i) v) : v = .bl i := by
  rcases t with t | ⟨_, _, _, _, c⟩
  · exact t
  · exact c.elim
theorem Tp.str {W : Wd} {H : Hp} {i : Str} {v : V} (t : Tp K L W H (.str i) v) : v = .str i := by
  rcases t with t | ⟨_, _, _, _, c⟩
  · exact t
  · exact c.elim
theorem Tp.non {W : Wd} {H : Hp} {v : V} (t : Tp K L W H .non v) : v = .non := by
  rcases t with t | ⟨_, _, _, _, c⟩
  · exact t
  · exact c.elim
theorem ops_int {r : R2} {f : D → D → M D} (C : Int → Int → Prop) (g : Int → Int → D) (gV : Int → Int → V) (hg : ∀ i j W, Rp K L W (g i j) (gV i j)) (hf : ∀ x y S (P : D → Store → Prop) R, wpO (f x y S) P R → ∃ i j, x = .int i ∧ y = .int j ∧ C i j ∧ P (g i j) S)
    (hr : ∀ i j H Q, C i j → Q (gV i j) H → r (.int i) (.int j) H Q) : OpS K L r f := by
  intro W H S x y v w Q R gd t1 t2 h
  obtain ⟨i, j, rfl, rfl, c, p⟩ := hf x y S _ _ h
  rw [t1.int, t2.int]
  exact hr i j H Q c (PV.now p gd (hg i j W))
theorem ops_addI : OpS K L (rI0 fun i j => .int (i + j)) oAddI := by
  refine ops_int (fun _ _ => True) (fun i j => .int (i + j)) (fun i j => .int (i + j)) (fun _ _ _ => rfl) (fun x y S P R h => ?_) (fun i j H Q _ q => ⟨i, j, rfl, rfl, q⟩)
  unfold oAddI at h
  split at h
  · exact ⟨_, _, rfl, rfl, trivial, h⟩
  · exact h.elim
theorem ops_sub : OpS K L (rI0 fun i j => .int (i - j)) oSub := by
  refine ops_int (fun _ _ => True) (fun i j => .int (i - j)) (fun i j => .int (i - j)) (fun _ _ _ => rfl) (fun x y S P R h => ?_) (fun i j H Q _ q => ⟨i, j, rfl, rfl, q⟩)
  unfold oSub at h
  split at h
  · exact ⟨_, _, rfl, rfl, trivial, h⟩
  · exact h.elim
theorem mulOk_c {i j : Int} (h : mulOk i j = true) : CMul i j ∨ CMulW i j := by
  unfold mulOk at h
  rw [Bool.or_eq_true, Bool.or_eq_true] at h
  rcases h with (h | h) | h
  · have h := of_decide_eq_true h
    left; left
    omega
  · have h := of_decide_eq_true h
    left; right
    omega
  · rw [Bool.and_eq_true] at h
    have h1 := of_decide_eq_true h.1
    have h2 := of_decide_eq_true h.2
    right
    exact wide_mul h1 h2 (by decide) (by decide) (by decide)
def rMulB : R2 := fun x y H Q => rI CMul (fun i j => .int (i * j)) x y H Q ∨ rI CMulW (fun i j => .int (i * j)) x y H Q
theorem op_mulB {X : Cx} : OpR X (binaryOp .Mult) rMulB := op_mul.or op_mulW
theorem ops_mul : OpS K L rMulB oMul := by
  refine ops_int (fun i j => mulOk i j = true) (fun i j => .int (i * j)) (fun i j => .int (i * j)) (fun _ _ _ => rfl) (fun x y S P R h => ?_) (fun i j H Q c q => ?_)
  · unfold oMul at h
    split at h
    · obtain ⟨c, h⟩ := wpO_ite h
      exact ⟨_, _, rfl, rfl, c, h⟩
    · exact h.elim
  · rcases mulOk_c c with c | c
    · exact .inl ⟨i, j, rfl, rfl, c, q⟩
    · exact .inr ⟨i, j, rfl, rfl, c, q⟩
theorem divOk_c {j : Int} (h : divOk j = true) (i : Int) : CDivW i j := by
  unfold divOk at h
  rw [Bool.and_eq_true] at h
  exact wide_div (of_decide_eq_true h.1) (of_decide_eq_true h.2) (by decide) (by decide)
theorem ops_div : OpS K L (rI CDivW fun i j => .int (i / j)) oDiv := by
  refine ops_int (fun i j => divOk j = true) (fun i j => .int (i / j)) (fun i j => .int (i / j)) (fun _ _ _ => rfl) (fun x y S P R h => ?_) (fun i j H Q c q => ⟨i, j, rfl, rfl, divOk_c c i, q⟩)
  unfold oDiv at h
  split at h
  · obtain ⟨c, h⟩ := wpO_ite h
    exact ⟨_, _, rfl, rfl, c, h⟩
  · exact h.elim
theorem ops_mod : OpS K L (rI (fun _ j => 0 < j) fun i j => .int (i % j)) oMod := by
  refine ops_int (fun i j => 0 < j) (fun i j => .int (i % j)) (fun i j => .int (i % j)) (fun _ _ _ => rfl) (fun x y S P R h => ?_) (fun i j H Q c q => ⟨i, j, rfl, rfl, c, q⟩)
  unfold oMod at h
  split at h
  · obtain ⟨c, h⟩ := wpO_ite h
    exact ⟨_, _, rfl, rfl, of_decide_eq_true c, h⟩
  · exact h.elim
theorem ops_pow : OpS K L (rI CPow fun i j => .int (i ^ j.toNat)) oPow := by
  refine ops_int (fun i j => 0 ≤ j ∧ j ≤ 1000 ∧ i.natAbs < 2 ^ 64) (fun i j => .int (i ^ j.toNat)) (fun i j => .int (i ^ j.toNat)) (fun _ _ _ => rfl) (fun x y S P R h => ?_) (fun i j H Q c q => ⟨i, j, rfl, rfl, ⟨c.1, by have := c.2.1; omega, c.2.2⟩, q⟩)
  unfold oPow at h
  split at h
  · obtain ⟨c, h⟩ := wpO_ite h
    exact ⟨_, _, rfl, rfl, of_decide_eq_true c, h⟩
  · exact h.elim
def rAddB (K : PySem.W.Frag) : R2 := fun x y H Q => rI0 (fun i j => .int (i + j)) x y H Q ∨ (rCat x y H Q ∨ rCatA K x y H Q)
theorem iop_mulW {X : Cx} : OpR X (inplaceOp .Mult) (rI CMulW fun i j => .int (i * j)) := opI fun _ _ _ _ _ _ _ hc q => imul_int q hc.ok
theorem iop_mulB {X : Cx} : OpR X (inplaceOp .Mult) rMulB := iop_mul.or iop_mulW
theorem op_addB {X : Cx} : OpR X (binaryOp .Add) (rAddB X.K) := op_add.or (op_cat.or op_catA)
theorem lim {n : Nat} (h : n ≤ 50000) : n ≤ sizeLine := Nat.le_trans h (by decide)
theorem limLt {n : Nat} (h : n < 50000) : n < sizeLine := Nat.lt_of_lt_of_le h (by decide)
/-- a new list, a new tuple are frozen at once -/
theorem PV.lst {W : Wd} {H : Hp} {S : Store} {Q : VK} {xs : List D} {vs : List V} (h : PV K L W H Q (.lst xs) S) (g : Gd K L W H S) (r : RpL K L W xs vs) : ∀ p, H p = none → Q (.ref p) (upd H p (.lst vs)) := fun p hp =>
  h _ _ _ (Stp.alloc g hp) (g.alloc hp) ⟨p, vs, rfl, Wd.add_at, r.mono (Wd.le_add (g.freeG hp))⟩
theorem PV.tup {W : Wd} {H : Hp} {S : Store} {Q : VK} {xs : List D} {vs : List V} (h : PV K L W H Q (.tup xs) S) (g : Gd K L W H S) (r : RpL K L W xs vs) : ∀ p, H p = none → Q (.ref p) (upd H p (.tup vs)) := fun p hp =>
  h _ _ _ (Stp.alloc g hp) (g.alloc hp) ⟨p, vs, rfl, SqT.of Wd.add_at, r.mono (Wd.le_add (g.freeG hp))⟩
theorem ops_add : OpS K L (rAddB K) oAdd := by
  intro W H S x y v w Q R gd t1 t2 h
  unfold oAdd at h
  split at h
  · rw [t1.int, t2.int]
    exact .inl ⟨_, _, rfl, rfl, PV.now h gd rfl⟩
  · obtain ⟨c, h⟩ := wpO_ite h
    obtain ⟨a1, vs, rfl, h1, r1⟩ := t1.lst gd
    obtain ⟨a2, ws, rfl, h2, r2⟩ := t2.lst gd
    exact .inr (.inl ⟨a1, a2, vs, ws, rfl, rfl, h1, h2, lim (by rw [r1.length, r2.length]; exact c), PV.lst h gd (r1.append r2)⟩)
  · rename_i xs ys
    obtain ⟨c, h⟩ := wpO_ite h
    obtain ⟨a1, vs, rfl, h1, r1⟩ := t1.tup gd
    obtain ⟨a2, ws, rfl, h2, r2⟩ := t2.tup gd
    have f1 : Rp K L W (.tup xs) (.ref a1) := t1.elim id fun ⟨p, _, _, _, c⟩ => c.elim
    have f2 : Rp K L W (.tup ys) (.ref a2) := t2.elim id fun ⟨p, _, _, _, c⟩ => c.elim
    refine .inr (.inr ⟨a1, a2, vs, ws, rfl, rfl, h1, h2, lim (by rw [r1.length, r2.length]; exact c), fun e => ?_, fun _ e => ?_, fun _ _ => PV.tup h gd (r1.append r2)⟩)
    · have e2 : xs = [] := List.length_eq_zero_iff.mp (by rw [← r1.length, e]; rfl)
      subst e2
      exact PV.now h gd f2
    · have e2 : ys = [] := List.length_eq_zero_iff.mp (by rw [← r2.length, e]; rfl)
      subst e2
      have h : PV K L W H Q (.tup (xs ++ [])) S := h
      rw [List.append_nil] at h
      exact PV.now h gd f1
  · exact h.elim
theorem uns_neg : UnS K L (rU fun i => .int (-i)) oNeg := by
  intro W H S x v Q R gd t h
  unfold oNeg at h
  split at h
  · rw [t.int]
    exact ⟨_, rfl, PV.now h gd rfl⟩
  · exact h.elim
theorem ops_lt : OpS K L (rI0 fun i j => .bl (decide (i < j))) oLt := by
  refine ops_int (fun _ _ => True) (fun i j => .bl (decide (i < j))) (fun i j => .bl (decide (i < j))) (fun _ _ _ => rfl) (fun x y S P R h => ?_) (fun i j H Q _ q => ⟨i, j, rfl, rfl, q⟩)
  unfold oLt at h
  split at h
  · exact ⟨_, _, rfl, rfl, trivial, h⟩
  · exact h.elim
theorem ops_le : OpS K L (rI0 fun i j => .bl (decide (i ≤ j))) oLe := by
  refine ops_int (fun _ _ => True) (fun i j => .bl (decide (i ≤ j))) (fun i j => .bl (decide (i ≤ j))) (fun _ _ _ => rfl) (fun x y S P R h => ?_) (fun i j H Q _ q => ⟨i, j, rfl, rfl, q⟩)
  unfold oLe at h
  split at h
  · exact ⟨_, _, rfl, rfl, trivial, h⟩
  · exact h.elim
theorem ops_gt : OpS K L (rI0 fun i j => .bl (decide (j < i))) oGt := by
  refine ops_int (fun _ _ => True) (fun i j => .bl (decide (j < i))) (fun i j => .bl (decide (j < i))) (fun _ _ _ => rfl) (fun x y S P R h => ?_) (fun i j H Q _ q => ⟨i, j, rfl, rfl, q⟩)
  unfold oGt at h
  split at h
  · exact ⟨_, _, rfl, rfl, trivial, h⟩
  · exact h.elim
theorem ops_ge : OpS K L (rI0 fun i j => .bl (decide (j ≤ i))) oGe := by
  refine ops_int (fun _ _ => True) (fun i j => .bl (decide (j ≤ i))) (fun i j => .bl (decide (j ≤ i))) (fun _ _ _ => rfl) (fun x y S P R h => ?_) (fun i j H Q _ q => ⟨i, j, rfl, rfl, q⟩)
  unfold oGe at h
  split at h
  · exact ⟨_, _, rfl, rfl, trivial, h⟩
  · exact h.elim
abbrev qSub : R2 := rI0 fun i j => .int (i - j)
abbrev qDiv : R2 := rI CDivW fun i j => .int (i / j)
abbrev qMod : R2 := rI (fun _ j => 0 < j) fun i j => .int (i % j)
abbrev qPow : R2 := rI CPow fun i j => .int (i ^ j.toNat)
abbrev qNeg : V → Hp → VK → Prop := rU fun i => .int (-i)
abbrev qLt : R2 := rI0 fun i j => .bl (decide (i < j))
abbrev qLe : R2 := rI0 fun i j => .bl (decide (i ≤ j))
abbrev qGt : R2 := rI0 fun i j => .bl (decide (j < i))
abbrev qGe : R2 := rI0 fun i j => .bl (decide (j ≤ i))
theorem se_add (ha : SB X K L E a ta da) (hb : SB X K L E b tb db) : SE X K L E (.BinOp a .Add b pos) (tOp (rAddB K) ta tb) (dBin oAdd da db) := by
  obtain ⟨rfl, pa, sa⟩ := ha
  exact se_bin op_addB ops_add ⟨rfl, pa, sa⟩ hb
theorem se_sub (ha : SB X K L E a ta da) (hb : SB X K L E b tb db) : SE X K L E (.BinOp a .Sub b pos) (tOp qSub ta tb) (dBin oSub da db) := se_bin op_sub ops_sub ha hb
theorem se_mul (ha : SB X K L E a ta da) (hb : SB X K L E b tb db) : SE X K L E (.BinOp a .Mult b pos) (tOp rMulB ta tb) (dBin oMul da db) := se_bin op_mulB ops_mul ha hb
theorem se_div (ha : SB X K L E a ta da) (hb : SB X K L E b tb db) : SE X K L E (.BinOp a .FloorDiv b pos) (tOp qDiv ta tb) (dBin oDiv da db) := se_bin op_fdivW ops_div ha hb
theorem se_mod (ha : SB X K L E a ta da) (hb : SB X K L E b tb db) : SE X K L E (.BinOp a .Mod b pos) (tOp qMod ta tb) (dBin oMod da db) := se_bin op_mod ops_mod ha hb
theorem se_pow (ha : SB X K L E a ta da) (hb : SB X K L E b tb db) : SE X K L E (.BinOp a .Pow b pos) (tOp qPow ta tb) (dBin oPow da db) := se_bin op_pow ops_pow ha hb
theorem se_neg (ha : SB X K L E a ta da) : SE X K L E (.UnaryOp .USub a pos) (tUn qNeg ta) (dUn oNeg da) := se_un un_neg uns_neg ha
theorem se_lt (ha : SB X K L E a ta da) (hb : SB X K L E b tb db) : SE X K L E (.Compare a [.Lt] [b] pos) (tOp qLt ta tb) (dBin oLt da db) := se_cmp op_lt ops_lt ha hb (nomark _)
theorem se_le (ha : SB X K L E a ta da) (hb : SB X K L E b tb db) : SE X K L E (.Compare a [.LtE] [b] pos) (tOp qLe ta tb) (dBin oLe da db) := se_cmp op_le ops_le ha hb (nomark _)
theorem se_gt (ha : SB X K L E a ta da) (hb : SB X K L E b tb db) : SE X K L E (.Compare a [.Gt] [b] pos) (tOp qGt ta tb) (dBin oGt da db) := se_cmp op_gt ops_gt ha hb (nomark _)
theorem se_ge (ha : SB X K L E a ta da) (hb : SB X K L E b tb db) : SE X K L E (.Compare a [.GtE] [b] pos) (tOp qGe ta tb) (dBin oGe da db) := se_cmp op_ge ops_ge ha hb (nomark _)
end

/-! ### == of data -/
section
variable {K : PySem.W.Frag} {L : Ly}
mutual
theorem py_dp {W : Wd} {H : Hp} {S : Store} (g : Gd K L W H S) : ∀ (n : Nat) (d : D) (v : V), okD n d = true → Rp K L W d v → Dp K H v (toPy d)
  | 0, d, v, h, r => by cases h
  | n + 1, .non, v, h, r => by
    cases (show v = .non from r)
    exact .non
  | n + 1, .bl b, v, h, r => by
    cases (show v = .bl b from r)
    exact .bl b
  | n + 1, .int b, v, h, r => by
    cases (show v = .int b from r)
    exact .int b
  | n + 1, .str b, v, h, r => by
    cases (show v = .str b from r)
    exact .str b
  | n + 1, .tup xs, v, h, r => by
    obtain ⟨a, vs, rfl, q, r⟩ := r
    exact .tup (g.sqT q) (py_dpL g n xs vs h r)
  | n + 1, .lst xs, v, h, r => by
    obtain ⟨a, vs, rfl, q, r⟩ := r
    exact .lst (SqL.of (g.fz _ _ q)) (py_dpL g n xs vs h r)
  | n + 1, .scr ns, v, h, r => by
    obtain ⟨a, rfl, q⟩ := r
    refine .lst (g.sqL q) ?_
    clear q h
    induction ns with
    | nil => exact .nil
    | cons x r ih => exact .cons (.int x) ih
  | n + 1, .dk _ _, _, h, _ => by cases n <;> cases h
  | n + 1, .dt _ _, _, h, _ => by cases n <;> cases h
  | n + 1, .obj _ _, _, h, _ => by cases n <;> cases h
  | n + 1, .cel _, _, h, _ => by cases n <;> cases h
  | n + 1, .clo _ _, _, h, _ => by cases n <;> cases h
theorem py_dpL {W : Wd} {H : Hp} {S : Store} (g : Gd K L W H S) : ∀ (n : Nat) (ds : List D) (vs : List V), ds.all (okD n) = true → RpL K L W ds vs → DpAll K H vs (toPyL ds)
  | n, [], vs, h, r => by
    have r : vs = [] := r
    subst r
    exact .nil
  | n, d :: ds, vs, h, r => by
    obtain ⟨v, q, rfl, r1, r2⟩ := r
    rw [List.all_cons, Bool.and_eq_true] at h
    exact .cons (py_dp g n d v h.1 r1) (py_dpL g n ds q h.2 r2)
end
end
end Sk

set_option Elab.async false
set_option linter.all false
set_option maxRecDepth 100000
set_option maxHeartbeats 2000000
set_option autoImplicit false
/-! SkR2: ==, tests, kinds, displays, built-in calls, items. -/
namespace Sk
open PySem PySem.Spec PyProof.Rows L2
section
variable {K : PySem.W.Frag} {L : Ly}
mutual
theorem okD_lay : ∀ (n : Nat) (d : D), okD n d = true → (toPy d).canLay0 = true ∧ (toPy d).depth ≤ n
  | 0, d, h => by cases h
  | n + 1, .non, h => ⟨rfl, Nat.zero_le _⟩
  | n + 1, .bl b, h => ⟨rfl, Nat.zero_le _⟩
  | n + 1, .int b, h => ⟨rfl, Nat.zero_le _⟩
  | n + 1, .str b, h => ⟨h, Nat.zero_le _⟩
  | n + 1, .tup xs, h => by
    obtain ⟨h1, h2⟩ := okD_layL n xs h
    exact ⟨h1, Nat.succ_le_succ h2⟩
  | n + 1, .lst xs, h => by
    obtain ⟨h1, h2⟩ := okD_layL n xs h
    exact ⟨h1, Nat.succ_le_succ h2⟩
  | 0 + 1, .scr ns, h => by cases h
  | n + 2, .scr ns, h => by
    have e : PyData.canLayAll0 (ns.map PyData.int) = true ∧ PyData.depthAll (ns.map PyData.int) = 0 := by
      clear h
      induction ns with
      | nil => exact ⟨rfl, rfl⟩
      | cons x r ih =>
        refine ⟨ih.1, ?_⟩
        show max 0 (PyData.depthAll (r.map PyData.int)) = 0
        rw [ih.2]
        rfl
    refine ⟨e.1, ?_⟩
    show PyData.depthAll (ns.map PyData.int) + 1 ≤ n + 2
    rw [e.2]
    omega
  | n + 1, .dk _ _, h => by cases n <;> cases h
  | n + 1, .dt _ _, h => by cases n <;> cases h
  | n + 1, .obj _ _, h => by cases n <;> cases h
  | n + 1, .cel _, h => by cases n <;> cases h
  | n + 1, .clo _ _, h => by cases n <;> cases h
theorem okD_layL : ∀ (n : Nat) (ds : List D), ds.all (okD n) = true → PyData.canLayAll0 (toPyL ds) = true ∧ PyData.depthAll (toPyL ds) ≤ n
  | n, [], h => ⟨rfl, Nat.zero_le _⟩
  | n, d :: ds, h => by
    rw [List.all_cons, Bool.and_eq_true] at h
    obtain ⟨h1, h2⟩ := okD_lay n d h.1
    obtain ⟨h3, h4⟩ := okD_layL n ds h.2
    refine ⟨?_, ?_⟩
    · show (PyData.canLay0 (toPy d) && PyData.canLayAll0 (toPyL ds)) = true
      rw [h1, h3]
      rfl
    · show max (PyData.depth (toPy d)) (PyData.depthAll (toPyL ds)) ≤ n
      omega
end
theorem okD_shaped {d : D} (h : okD 8 d = true) : SeqAt.shaped (toPy d) = true := by
  obtain ⟨h1, h2⟩ := okD_lay 8 d h
  unfold SeqAt.shaped
  rw [h1, decide_eq_true (by omega)]
  rfl
/-- a thing read at once is data, too -/
theorem tp_dp {W : Wd} {H : Hp} {S : Store} (g : Gd K L W H S) {n : Nat} {d : D} {v : V} (h : okD n d = true) (t : Tp K L W H d v) : Dp K H v (toPy d) := by
  rcases t with r | ⟨p, rfl, n1, n2, c⟩
  · exact py_dp g n d v h r
  · cases n with
    | zero => cases h
    | succ n =>
      cases d with
      | lst xs =>
        obtain ⟨vs, e, r⟩ := c
        exact .lst (SqL.of e) (py_dpL g n xs vs h r)
      | obj _ _ => cases n <;> cases h
      | dk _ _ => cases n <;> cases h
      | dt _ _ => cases n <;> cases h
      | _ => exact c.elim
theorem ops_eq : OpS K L (rEqD K) oEq := by
  intro W H S x y v w Q R g t1 t2 h
  obtain ⟨c, h⟩ := wpO_ite h
  rw [Bool.and_eq_true] at c
  exact ⟨toPy x, toPy y, tp_dp g c.1 t1, tp_dp g c.2 t2, okD_shaped c.1, okD_shaped c.2, PV.now h g rfl⟩
theorem ops_ne : OpS K L (rNeD K) oNe := by
  intro W H S x y v w Q R g t1 t2 h
  obtain ⟨c, h⟩ := wpO_ite h
  rw [Bool.and_eq_true] at c
  exact ⟨toPy x, toPy y, tp_dp g c.1 t1, tp_dp g c.2 t2, okD_shaped c.1, okD_shaped c.2, PV.now h g rfl⟩
end

section
variable {X : Cx} {K : PySem.W.Frag} {L : Ly} {E : XK} {a b c e : Expr} {es : List Expr} {ta tb tc : TE} {da db dc : DE} {pos : Pos}
theorem se_eq (hu : X.A.units + 64 < cLine) (ha : SB X K L E a ta da) (hb : SB X K L E b tb db) : SE X K L E (.Compare a [.Eq] [b] pos) (tOp (rEqD K) ta tb) (dBin oEq da db) := by
  obtain ⟨rfl, pa, sa⟩ := ha
  exact se_cmp (op_eqD hu) ops_eq ⟨rfl, pa, sa⟩ hb (nomark _)
theorem se_ne (hu : X.A.units + 64 < cLine) (ha : SB X K L E a ta da) (hb : SB X K L E b tb db) : SE X K L E (.Compare a [.NotEq] [b] pos) (tOp (rNeD K) ta tb) (dBin oNe da db) := by
  obtain ⟨rfl, pa, sa⟩ := ha
  exact se_cmp (op_neD hu) ops_ne ⟨rfl, pa, sa⟩ hb (nomark _)
/-- is None -/
abbrev qIsN : R2 := fun x y H Q => y = .non ∧ Q (.bl (decide (x = .non))) H
abbrev qNotN : R2 := fun x y H Q => y = .non ∧ Q (.bl (!decide (x = .non))) H
theorem tp_non {W : Wd} {H : Hp} {d : D} {v : V} (t : Tp K L W H d v) (h : v = .non) : d = .non := by
  subst h
  rcases t with r | ⟨p, e, _⟩
  · cases d with
    | non => rfl
    | bl _ => cases r
    | int _ => cases r
    | str _ => cases r
    | tup _ => obtain ⟨a, vs, e, _⟩ := r; cases e
    | lst _ => obtain ⟨a, vs, e, _⟩ := r; cases e
    | dk _ _ => obtain ⟨a, od, vs, e, _⟩ := r; cases e
    | dt _ _ => obtain ⟨a, od, vs, e, _⟩ := r; cases e
    | obj _ _ => obtain ⟨a, dx, vs, e, _⟩ := r; cases e
    | cel _ => obtain ⟨a, e, _⟩ := r; cases e
    | clo _ _ => exact r.elim
    | scr _ => obtain ⟨a, e, _⟩ := r; cases e
  · cases e
theorem ops_isN : OpS K L qIsN oIsN2 := by
  intro W H S x y v w Q R g t1 t2 h
  unfold oIsN2 at h
  cases y with
  | non =>
    refine ⟨t2.non, ?_⟩
    by_cases hv : v = .non
    · have e := tp_non t1 hv
      subst e
      rw [decide_eq_true hv]
      exact PV.now h g rfl
    · rw [decide_eq_false hv]
      have e : oIsNone x = M.pure (.bl false) := by
        unfold oIsNone
        split
        · exact absurd t1.non hv
        · rfl
      have h : wpO (oIsNone x S) (PV K L W H Q) R := h
      rw [e] at h
      exact PV.now h g rfl
  | _ => exact h.elim
theorem ops_notN : OpS K L qNotN oNotN2 := by
  intro W H S x y v w Q R g t1 t2 h
  unfold oNotN2 at h
  cases y with
  | non =>
    refine ⟨t2.non, ?_⟩
    by_cases hv : v = .non
    · have e := tp_non t1 hv
      subst e
      rw [decide_eq_true hv]
      exact PV.now h g rfl
    · rw [decide_eq_false hv]
      have e : oNotNone x = M.pure (.bl true) := by
        unfold oNotNone
        split
        · exact absurd t1.non hv
        · rfl
      have h : wpO (oNotNone x S) (PV K L W H Q) R := h
      rw [e] at h
      exact PV.now h g rfl
  | _ => exact h.elim
theorem se_isN (ha : SB X K L E a ta da) (hb : SB X K L E b tb db) : SE X K L E (.Compare a [.Is] [b] pos) (tOp qIsN ta tb) (dBin oIsN2 da db) := se_cmp op_isN ops_isN ha hb (nomark _)
theorem se_notN (ha : SB X K L E a ta da) (hb : SB X K L E b tb db) : SE X K L E (.Compare a [.IsNot] [b] pos) (tOp qNotN ta tb) (dBin oNotN2 da db) := se_cmp op_notN ops_notN ha hb (nomark _)

/-! ### tests -/
theorem wpO_asB {d : D} {S : Store} {P : Bool → Store → Prop} {R : Nat → List D → Store → Prop} (h : wpO (asB d S) P R) : ∃ b, d = .bl b ∧ P b S := by
  unfold asB at h
  split at h
  · exact ⟨_, rfl, h⟩
  · exact h.elim
theorem st_val (ha : SE X K L E a ta da) (he : ∀ whole, isTrue a X.env whole = (do let v ← whole; standAt a.pos; holding [v] (truthy v)) := by intro _; rfl) : ST X K L E a (tB ta) (tVal da) := by
  refine ⟨ha.hK, pt_val ha.p he, fun F W H S env σ Q fr w => ?_⟩
  refine ha.s F W H S env σ _ fr (wpO_imp (wpO_bind w) fun x S1 w1 W1 H1 v1 st1 g1 r1 => ?_)
  obtain ⟨k, rfl, p⟩ := wpO_asB w1
  exact ⟨k, r1, p W1 H1 st1 g1⟩
/-- a comparison as a test -/
theorem sem_test {t : TE} {d : DE} (h : Sem K L E d t) : SemT K L E (tVal d) (tTest t) := by
  intro F W H S env σ Q fr w
  refine h F W H S env σ _ fr (wpO_imp (wpO_bind w) fun x S1 w1 W1 H1 v1 st1 g1 r1 => ?_)
  obtain ⟨k, rfl, p⟩ := wpO_asB w1
  exact ⟨k, r1, p W1 H1 st1 g1⟩
theorem st_cmp {op : CmpOp} {r : R2} {f : D → D → M D} (ho : OpR X (compareOp op) r) (hs : OpS K L r f) (ha : SB X K L E a ta da) (hb : SB X K L E b tb db) (hm : behindInMarks op b = false) : ST X K L E (.Compare a [op] [b] pos) (tTest (tOp r ta tb)) (tVal (dBin f da db)) :=
  ⟨ha.hK, pt_cmpR ho ha.p hb.p hm, sem_test (sem_bin hs ha.s hb.s)⟩
theorem st_lt (ha : SB X K L E a ta da) (hb : SB X K L E b tb db) : ST X K L E (.Compare a [.Lt] [b] pos) (tTest (tOp qLt ta tb)) (tVal (dBin oLt da db)) := st_cmp op_lt ops_lt ha hb (nomark _)
theorem st_le (ha : SB X K L E a ta da) (hb : SB X K L E b tb db) : ST X K L E (.Compare a [.LtE] [b] pos) (tTest (tOp qLe ta tb)) (tVal (dBin oLe da db)) := st_cmp op_le ops_le ha hb (nomark _)
theorem st_gt (ha : SB X K L E a ta da) (hb : SB X K L E b tb db) : ST X K L E (.Compare a [.Gt] [b] pos) (tTest (tOp qGt ta tb)) (tVal (dBin oGt da db)) := st_cmp op_gt ops_gt ha hb (nomark _)
theorem st_ge (ha : SB X K L E a ta da) (hb : SB X K L E b tb db) : ST X K L E (.Compare a [.GtE] [b] pos) (tTest (tOp qGe ta tb)) (tVal (dBin oGe da db)) := st_cmp op_ge ops_ge ha hb (nomark _)
theorem st_eq (hu : X.A.units + 64 < cLine) (ha : SB X K L E a ta da) (hb : SB X K L E b tb db) : ST X K L E (.Compare a [.Eq] [b] pos) (tTest (tOp (rEqD K) ta tb)) (tVal (dBin oEq da db)) := by
  obtain ⟨rfl, pa, sa⟩ := ha
  exact st_cmp (op_eqD hu) ops_eq ⟨rfl, pa, sa⟩ hb (nomark _)
theorem st_ne (hu : X.A.units + 64 < cLine) (ha : SB X K L E a ta da) (hb : SB X K L E b tb db) : ST X K L E (.Compare a [.NotEq] [b] pos) (tTest (tOp (rNeD K) ta tb)) (tVal (dBin oNe da db)) := by
  obtain ⟨rfl, pa, sa⟩ := ha
  exact st_cmp (op_neD hu) ops_ne ⟨rfl, pa, sa⟩ hb (nomark _)
theorem st_isN (ha : SB X K L E a ta da) (hb : SB X K L E b tb db) : ST X K L E (.Compare a [.Is] [b] pos) (tTest (tOp qIsN ta tb)) (tVal (dBin oIsN2 da db)) := st_cmp op_isN ops_isN ha hb (nomark _)
theorem st_notN (ha : SB X K L E a ta da) (hb : SB X K L E b tb db) : ST X K L E (.Compare a [.IsNot] [b] pos) (tTest (tOp qNotN ta tb)) (tVal (dBin oNotN2 da db)) := st_cmp op_notN ops_notN ha hb (nomark _)
variable {t u : TT} {p q : DB} {rest : List Expr}
theorem st_not (h : ST X K L E a t p) : ST X K L E (.UnaryOp .Not a pos) (tNot t) (tNotD p) := by
  refine ⟨h.hK, pt_not h.p, fun F W H S env σ Q fr w => ?_⟩
  refine h.s F W H S env σ _ fr (wpO_imp (wpO_bind w) fun x S1 w1 W1 H1 st1 g1 => ?_)
  exact w1 W1 H1 st1 g1
theorem sem_and (h1 : SemT K L E p t) (h2 : SemT K L E q u) : SemT K L E (tAndD p q) (tAnd t u) := by
  intro F W H S env σ Q fr w
  refine h1 F W H S env σ _ fr (wpO_imp (wpO_bind w) fun x S1 w1 W1 H1 st1 g1 => ?_)
  cases x with
  | true => exact h2 F W1 H1 S1 env σ Q (fr.next st1 g1) (wpO_imp w1 fun d S' q => q.mono st1)
  | false => exact (PBl.mono st1 w1) W1 H1 Stp.refl g1
theorem sem_or (h1 : SemT K L E p t) (h2 : SemT K L E q u) : SemT K L E (tOrD p q) (tOr t u) := by
  intro F W H S env σ Q fr w
  refine h1 F W H S env σ _ fr (wpO_imp (wpO_bind w) fun x S1 w1 W1 H1 st1 g1 => ?_)
  cases x with
  | false => exact h2 F W1 H1 S1 env σ Q (fr.next st1 g1) (wpO_imp w1 fun d S' q => q.mono st1)
  | true => exact (PBl.mono st1 w1) W1 H1 Stp.refl g1
theorem sw_and1 (h : ST X K L E a t p) : SW X K L E (.BoolOp .And [a] pos) t p := ⟨h.hK, pw_and1 h.p, h.s⟩
theorem sw_or1 (h : ST X K L E a t p) : SW X K L E (.BoolOp .Or [a] pos) t p := ⟨h.hK, pw_or1 h.p, h.s⟩
theorem sw_and (h1 : ST X K L E a t p) (h2 : SW X K L E (.BoolOp .And (b :: rest) pos) u q) : SW X K L E (.BoolOp .And (a :: b :: rest) pos) (tAnd t u) (tAndD p q) := ⟨h1.hK, pw_and h1.p h2.p, sem_and h1.s h2.s⟩
theorem sw_or (h1 : ST X K L E a t p) (h2 : SW X K L E (.BoolOp .Or (b :: rest) pos) u q) : SW X K L E (.BoolOp .Or (a :: b :: rest) pos) (tOr t u) (tOrD p q) := ⟨h1.hK, pw_or h1.p h2.p, sem_or h1.s h2.s⟩
theorem st_w (h : SW X K L E a t p) : ST X K L E a t p := ⟨h.hK, h.p.pt, h.s⟩
/-- x and y, x or y as values: the first ones True or False -/
theorem se_one {op : BoolOp} (h : SE X K L E a ta da) : SE X K L E (.BoolOp op [a] pos) ta da := ⟨h.hK, pe_one h.p, h.s⟩
theorem se_and (ha : SE X K L E a ta da) (hb : SE X K L E (.BoolOp .And (b :: rest) pos) tb db) : SE X K L E (.BoolOp .And (a :: b :: rest) pos) (tAndV ta tb) (dAndV da db) := by
  refine ⟨ha.hK, pe_and ha.p hb.p, fun F W H S env σ Q fr w => ?_⟩
  refine ha.s F W H S env σ _ fr (wpO_imp (wpO_bind w) fun x S1 w1 W1 H1 v1 st1 g1 r1 => ?_)
  obtain ⟨k, rfl, w2⟩ := wpO_asB (wpO_bind w1)
  refine ⟨k, r1, ?_⟩
  cases k with
  | true => exact hb.s F W1 H1 S1 env σ Q (fr.next st1 g1) (wpO_imp w2 fun d S' q => q.mono st1)
  | false => exact PV.now (PV.mono st1 w2) g1 rfl
theorem se_or (ha : SE X K L E a ta da) (hb : SE X K L E (.BoolOp .Or (b :: rest) pos) tb db) : SE X K L E (.BoolOp .Or (a :: b :: rest) pos) (tOrV ta tb) (dOrV da db) := by
  refine ⟨ha.hK, pe_or ha.p hb.p, fun F W H S env σ Q fr w => ?_⟩
  refine ha.s F W H S env σ _ fr (wpO_imp (wpO_bind w) fun x S1 w1 W1 H1 v1 st1 g1 r1 => ?_)
  obtain ⟨k, rfl, w2⟩ := wpO_asB (wpO_bind w1)
  refine ⟨k, r1, ?_⟩
  cases k with
  | false => exact hb.s F W1 H1 S1 env σ Q (fr.next st1 g1) (wpO_imp w2 fun d S' q => q.mono st1)
  | true => exact PV.now (PV.mono st1 w2) g1 rfl
theorem wpO_asB' {d : D} {S : Store} {P : D → Store → Prop} {R : Nat → List D → Store → Prop} (h : wpO (M.bind (asB d) (fun c => M.pure (.bl (!c))) S) P R) : ∃ b, d = .bl b ∧ P (.bl (!b)) S := by
  obtain ⟨b, e, p⟩ := wpO_asB (wpO_bind h)
  exact ⟨b, e, p⟩
theorem se_not (ha : SE X K L E a ta da) : SE X K L E (.UnaryOp .Not a pos) (tNotV ta) (dNotV da) := by
  refine ⟨ha.hK, pe_not ha.p, fun F W H S env σ Q fr w => ?_⟩
  refine ha.s F W H S env σ _ fr (wpO_imp (wpO_bind w) fun x S1 w1 W1 H1 v1 st1 g1 r1 => ?_)
  obtain ⟨k, rfl, w2⟩ := wpO_asB' w1
  exact ⟨k, r1, PV.now (PV.mono st1 w2) g1 rfl⟩
theorem se_if {cc : Expr} (hc : ST X K L E cc t p) (ha : SE X K L E a ta da) (hb : SE X K L E b tb db) : SE X K L E (.IfExp cc a b pos) (tIf t ta tb) (dIf p da db) := by
  refine ⟨ha.hK, pe_ifExp hc.p ha.p hb.p, fun F W H S env σ Q fr w => ?_⟩
  refine hc.s F W H S env σ _ fr (wpO_imp (wpO_bind w) fun x S1 w1 W1 H1 st1 g1 => ?_)
  cases x with
  | true => exact ha.s F W1 H1 S1 env σ Q (fr.next st1 g1) (wpO_imp w1 fun d S' q => q.mono st1)
  | false => exact hb.s F W1 H1 S1 env σ Q (fr.next st1 g1) (wpO_imp w1 fun d S' q => q.mono st1)

/-! ### arguments, displays -/
variable {tr : TA} {dr : DA}
theorem sa_nil (hK : X.K = K := by rfl) : SA X K L E [] tNil dNil := ⟨hK, pa_nil, fun F W H S env σ Q fr w => w W H [] Stp.refl fr.good rfl⟩
theorem sa_cons (ha : SE X K L E a ta da) (hr : SA X K L E es tr dr) (hs : starEach (a :: es) X.env = (false, eval a X.env) :: starEach es X.env := by rfl) : SA X K L E (a :: es) (tCons ta tr) (dCons da dr) := by
  refine ⟨ha.hK, pa_cons ha.p hr.p hs, fun F W H S env σ Q fr w => ?_⟩
  refine ha.s F W H S env σ _ fr (wpO_imp (wpO_bind w) fun x S1 w1 W1 H1 v1 st1 g1 r1 => ?_)
  refine hr.s F W1 H1 S1 env σ _ (fr.next st1 g1) (wpO_imp (wpO_bind w1) fun ys S2 w2 W2 H2 vs st2 g2 r2 => ?_)
  exact w2 W2 H2 (v1 :: vs) (st1.trans st2) g2 ⟨v1, vs, rfl, r1.mono st2.le, r2⟩
theorem se_tup {x1 : Nat} (h : SA X K L E es tr dr) : SE X K L E (.Tuple es x1 pos) (tTup tr) (dTup dr) := by
  refine ⟨h.hK, pe_tup h.p, fun F W H S env σ Q fr w => ?_⟩
  refine h.s F W H S env σ _ fr (wpO_imp (wpO_bind w) fun x S1 w1 W1 H1 vs st1 g1 r1 => ?_)
  obtain ⟨c, w1⟩ := wpO_ite w1
  exact ⟨lim (by rw [r1.length]; exact c), PV.tup (PV.mono st1 w1) g1 r1⟩
theorem se_lst (h : SA X K L E es tr dr) : SE X K L E (.List es pos) (tLst tr) (dLst dr) := by
  refine ⟨h.hK, pe_lst h.p, fun F W H S env σ Q fr w => ?_⟩
  refine h.s F W H S env σ _ fr (wpO_imp (wpO_bind w) fun x S1 w1 W1 H1 vs st1 g1 r1 => ?_)
  obtain ⟨c, w1⟩ := wpO_ite w1
  exact ⟨lim (by rw [r1.length]; exact c), PV.lst (PV.mono st1 w1) g1 r1⟩
end
end Sk

set_option Elab.async false
set_option linter.all false
set_option maxRecDepth 100000
set_option maxHeartbeats 2000000
set_option autoImplicit false
/-! SkC: built-in calls, items, walks, comprehensions. -/
namespace Sk
open PySem PySem.Spec PyProof.Rows L2
section
variable {X : Cx} {K : PySem.W.Frag} {L : Ly} {E : XK} {a b c e : Expr} {es : List Expr} {ta tb tc : TE} {da db dc : DE} {pos p : Pos}
theorem wpO_lift {α : Type} {o : Option α} {S : Store} {P : α → Store → Prop} {R : Nat → List D → Store → Prop} (h : wpO (lift o S) P R) : ∃ a, o = some a ∧ P a S := by
  cases o with
  | none => exact h.elim
  | some a => exact ⟨a, rfl, h⟩
/-- f(e), f a built-in of one value -/
def CalS (K : PySem.W.Frag) (L : Ly) (r : List V → Hp → VK → Prop) (f : D → M D) : Prop :=
  ∀ (W : Wd) (H : Hp) (S : Store) (x : D) (v : V) (Q : VK) (R : Nat → List D → Store → Prop), Gd K L W H S → Tp K L W H x v → wpO (f x S) (PV K L W H Q) R → r [v] H Q
theorem sem_call1 {r : List V → Hp → VK → Prop} {f : D → M D} (hs : CalS K L r f) (ha : SemB K L E da ta) : Sem K L E (dUn f da) (tCB r (tCons ta tNil)) := by
  intro F W H S env σ Q fr w
  refine ha F W H S env σ _ fr (wpO_imp (wpO_bind w) fun x S1 w1 W1 H1 v1 st1 g1 r1 => ?_)
  exact hs W1 H1 S1 x v1 Q _ g1 r1 (wpO_imp w1 fun d S' q => q.mono st1)
theorem se_callB {x : Str} {id : String} {r : List V → Hp → VK → Prop} {f : D → M D} (hc : CallR X (.builtin id) r) (hs : CalS K L r f) (ha : SB X K L E a ta da) (hg : Gl X x) (hm : X.mg x = none) (hv : bootBuiltins x = some (.builtin id))
    (hst : starEach [a] X.env = [(false, eval a X.env)] := by rfl) (hn : x ≠ "__name__" := by decide) (hdb : (x == ("__debug__" : Str)) = false := by decide) :
    SE X K L E (.Call (.Name x p) [a] [] pos) (tCB r (tCons ta tNil)) (dUn f da) :=
  ⟨ha.hK, pe_callB hc hg hm hv (pa_cons ha.p pa_nil hst) hn hdb (he := hst), sem_call1 hs ha.s⟩
theorem se_callTy {x : Str} {T : String} {r : List V → Hp → VK → Prop} {f : D → M D} (hc : CallR X (.type T) r) (hs : CalS K L r f) (ha : SB X K L E a ta da) (hg : Gl X x) (hm : X.mg x = none) (hv : bootBuiltins x = some (.type T))
    (hst : starEach [a] X.env = [(false, eval a X.env)] := by rfl) (hn : x ≠ "__name__" := by decide) (hdb : (x == ("__debug__" : Str)) = false := by decide) :
    SE X K L E (.Call (.Name x p) [a] [] pos) (tCB r (tCons ta tNil)) (dUn f da) :=
  ⟨ha.hK, pe_callTy hc hg hm hv (pa_cons ha.p pa_nil hst) hn hdb (he := hst), sem_call1 hs ha.s⟩
def rLenA (K : PySem.W.Frag) : List V → Hp → VK → Prop := fun xs H Q => (∃ p ys, xs = [.ref p] ∧ (SqL K H p ys ∨ SqT K H p ys) ∧ Q (.int ys.length) H) ∨ (∃ z, xs = [.str z] ∧ z.length ≤ sizeLine ∧ Q (.int z.length) H) ∨
  ∃ a kvs, xs = [V.ref a] ∧ Rd H a (.dK kvs) ∧ Q (.int kvs.length) H
theorem call_lenDR : CallR X (.builtin "len") (fun xs H Q => ∃ a kvs, xs = [V.ref a] ∧ Rd H a (.dK kvs) ∧ Q (.int kvs.length) H) := by
  intro pins s σ H xs us Q I r h
  obtain ⟨a, kvs, rfl, ha, q⟩ := h
  obtain ⟨u, rfl, ru⟩ := vals1 r
  cases ru
  exact d_len I ha fun t s' I' => ⟨.int kvs.length, H, I', ⟨t, rfl⟩, q⟩
theorem call_lenA : CallR X (.builtin "len") (rLenA X.K) := call_len_seq.or (call_len_str.or call_lenDR)
theorem cals_len : CalS K L (rLenA K) oLen := by
  intro W H S x v Q R g t h
  unfold oLen at h
  split at h
  · obtain ⟨a, vs, rfl, q, r⟩ := t.lst g
    refine .inl ⟨a, vs, rfl, .inl (SqL.of q), ?_⟩
    rw [r.length]
    exact PV.now h g rfl
  · obtain ⟨a, vs, rfl, q, r⟩ := t.tup g
    refine .inl ⟨a, vs, rfl, .inr q, ?_⟩
    rw [r.length]
    exact PV.now h g rfl
  · obtain ⟨a, rfl, q⟩ := t.scr g
    refine .inl ⟨a, _, rfl, .inl q, ?_⟩
    rw [List.length_map]
    exact PV.now h g rfl
  · obtain ⟨c, h⟩ := wpO_ite h
    rw [t.str]
    exact .inr (.inl ⟨_, rfl, lim c, PV.now h g rfl⟩)
  · rename_i ks xs
    have z : ∃ a vs, v = .ref a ∧ Rd H a (.dK (ks.zip vs)) ∧ (ks.zip vs).length = ks.length := by
      rcases t with ⟨a, od, vs, e, q, l, r⟩ | ⟨p, e, n1, n2, vs, q, l, r⟩
      · exact ⟨a, vs, e, .inr ⟨od, g.fz _ _ q⟩, by rw [List.length_zip, r.length, l, Nat.min_self]⟩
      · exact ⟨p, vs, e, .inl q, by rw [List.length_zip, r.length, l, Nat.min_self]⟩
    obtain ⟨a, vs, rfl, q, l⟩ := z
    refine .inr (.inr ⟨a, _, rfl, q, ?_⟩)
    rw [l]
    exact PV.now h g rfl
  · exact h.elim
theorem se_len (ha : SB X K L E a ta da) (hg : Gl X "len") (hm : X.mg "len" = none) (hst : starEach [a] X.env = [(false, eval a X.env)] := by rfl) : SE X K L E (.Call (.Name "len" p) [a] [] pos) (tCB (rLenA K) (tCons ta tNil)) (dUn oLen da) := by
  obtain ⟨rfl, pa, sa⟩ := ha
  exact se_callB call_lenA cals_len ⟨rfl, pa, sa⟩ hg hm PySem.boot_len hst
abbrev rAbs : List V → Hp → VK → Prop := fun xs H Q => ∃ i, xs = [.int i] ∧ Q (.int (if i < 0 then -i else i)) H
theorem cals_abs : CalS K L rAbs oAbs := by
  intro W H S x v Q R g t h
  unfold oAbs at h
  split at h
  · rw [t.int]
    exact ⟨_, rfl, PV.now h g rfl⟩
  · exact h.elim
theorem se_abs (ha : SB X K L E a ta da) (hg : Gl X "abs") (hm : X.mg "abs" = none) (hst : starEach [a] X.env = [(false, eval a X.env)] := by rfl) : SE X K L E (.Call (.Name "abs" p) [a] [] pos) (tCB rAbs (tCons ta tNil)) (dUn oAbs da) :=
  se_callB call_abs cals_abs ha hg hm (by decide +kernel) hst
abbrev rInt1 : List V → Hp → VK → Prop := fun xs H Q => (∃ i, xs = [.int i] ∧ Q (.int i) H) ∨ ∃ k, xs = [.bl k] ∧ Q (.int (if k then 1 else 0)) H
theorem cals_int : CalS K L rInt1 oInt := by
  intro W H S x v Q R g t h
  unfold oInt at h
  split at h
  · rw [t.int]
    exact .inl ⟨_, rfl, PV.now h g rfl⟩
  · exact h.elim
theorem se_intc (ha : SB X K L E a ta da) (hg : Gl X "int") (hm : X.mg "int" = none) (hst : starEach [a] X.env = [(false, eval a X.env)] := by rfl) : SE X K L E (.Call (.Name "int" p) [a] [] pos) (tCB rInt1 (tCons ta tNil)) (dUn oInt da) :=
  se_callTy call_int1 cals_int ha hg hm (by decide +kernel) hst
theorem asBs_vs {W : Wd} : ∀ {ds : List D} {vs : List V} {bs : List Bool}, RpL K L W ds vs → asBs ds = some bs → vs = bs.map V.bl
  | [], vs, bs, r, h => by
    cases h
    exact r
  | d :: ds, vs, bs, r, h => by
    obtain ⟨v, q, rfl, r1, r2⟩ := r
    cases d with
    | bl z =>
      have h : (asBs ds).map (z :: ·) = some bs := h
      cases e : asBs ds with
      | none =>
        rw [e] at h
        cases h
      | some cs =>
        rw [e] at h
        cases h
        cases (show v = .bl z from r1)
        rw [asBs_vs r2 e]
        rfl
    | _ => cases h
theorem asIs_vs {W : Wd} : ∀ {ds : List D} {vs : List V} {bs : List Int}, RpL K L W ds vs → asIs ds = some bs → vs = bs.map V.int
  | [], vs, bs, r, h => by
    cases h
    exact r
  | d :: ds, vs, bs, r, h => by
    obtain ⟨v, q, rfl, r1, r2⟩ := r
    cases d with
    | int z =>
      have h : (asIs ds).map (z :: ·) = some bs := h
      cases e : asIs ds with
      | none =>
        rw [e] at h
        cases h
      | some cs =>
        rw [e] at h
        cases h
        cases (show v = .int z from r1)
        rw [asIs_vs r2 e]
        rfl
    | _ => cases h
theorem cals_all : CalS K L (rAll K) oAll := by
  intro W H S x v Q R g t h
  unfold oAll at h
  split at h
  · obtain ⟨a, vs, rfl, q, r⟩ := t.lst g
    obtain ⟨bs, e, h⟩ := wpO_lift (wpO_bind h)
    rw [asBs_vs r e] at q
    exact ⟨a, bs, rfl, SqL.of q, PV.now h g rfl⟩
  · exact h.elim
theorem cals_any : CalS K L (rAny K) oAny := by
  intro W H S x v Q R g t h
  unfold oAny at h
  split at h
  · obtain ⟨a, vs, rfl, q, r⟩ := t.lst g
    obtain ⟨bs, e, h⟩ := wpO_lift (wpO_bind h)
    rw [asBs_vs r e] at q
    exact ⟨a, bs, rfl, SqL.of q, PV.now h g rfl⟩
  · exact h.elim
theorem cals_sum : CalS K L (rSum K) oSum := by
  intro W H S x v Q R g t h
  unfold oSum at h
  split at h
  · obtain ⟨a, vs, rfl, q, r⟩ := t.lst g
    obtain ⟨bs, e, h⟩ := wpO_lift (wpO_bind h)
    rw [asIs_vs r e] at q
    exact ⟨a, bs, rfl, SqL.of q, PV.now h g rfl⟩
  · exact h.elim
theorem se_all (hc : X.calm = true) (ha : SB X K L E a ta da) (hg : Gl X "all") (hm : X.mg "all" = none) (hst : starEach [a] X.env = [(false, eval a X.env)] := by rfl) : SE X K L E (.Call (.Name "all" p) [a] [] pos) (tCB (rAll K) (tCons ta tNil)) (dUn oAll da) := by
  obtain ⟨rfl, pa, sa⟩ := ha
  exact se_callB (cr_all hc) cals_all ⟨rfl, pa, sa⟩ hg hm (by decide +kernel) hst
theorem se_any (hc : X.calm = true) (ha : SB X K L E a ta da) (hg : Gl X "any") (hm : X.mg "any" = none) (hst : starEach [a] X.env = [(false, eval a X.env)] := by rfl) : SE X K L E (.Call (.Name "any" p) [a] [] pos) (tCB (rAny K) (tCons ta tNil)) (dUn oAny da) := by
  obtain ⟨rfl, pa, sa⟩ := ha
  exact se_callB (cr_any hc) cals_any ⟨rfl, pa, sa⟩ hg hm (by decide +kernel) hst
theorem se_sum (hc : X.calm = true) (ha : SB X K L E a ta da) (hg : Gl X "sum") (hm : X.mg "sum" = none) (hst : starEach [a] X.env = [(false, eval a X.env)] := by rfl) : SE X K L E (.Call (.Name "sum" p) [a] [] pos) (tCB (rSum K) (tCons ta tNil)) (dUn oSum da) := by
  obtain ⟨rfl, pa, sa⟩ := ha
  exact se_callB (cr_sum hc) cals_sum ⟨rfl, pa, sa⟩ hg hm (by decide +kernel) hst
def rTupC (K : PySem.W.Frag) : List V → Hp → VK → Prop := fun xs H Q => ∃ p ys, xs = [.ref p] ∧ ((SqL K H p ys ∧ ∀ l, H l = none → Q (.ref l) (upd H l (.tup ys))) ∨ (SqT K H p ys ∧ Q (.ref p) H))
theorem cals_tuple : CalS K L (rTupC K) oTuple := by
  intro W H S x v Q R g t h
  unfold oTuple at h
  split at h
  · obtain ⟨a, vs, rfl, q, r⟩ := t.lst g
    exact ⟨a, vs, rfl, .inl ⟨SqL.of q, PV.tup h g r⟩⟩
  · rename_i xs
    rcases t with t | ⟨p, e, n1, n2, c⟩
    · obtain ⟨a, vs, rfl, q, r⟩ := id t
      exact ⟨a, vs, rfl, .inr ⟨g.sqT q, PV.now h g t⟩⟩
    · exact c.elim
  · exact h.elim
theorem se_tuple (ha : SB X K L E a ta da) (hg : Gl X "tuple") (hm : X.mg "tuple" = none) (hst : starEach [a] X.env = [(false, eval a X.env)] := by rfl) : SE X K L E (.Call (.Name "tuple" p) [a] [] pos) (tCB (rTupC K) (tCons ta tNil)) (dUn oTuple da) := by
  obtain ⟨rfl, pa, sa⟩ := ha
  exact se_callTy call_tuple_of cals_tuple ⟨rfl, pa, sa⟩ hg hm (by decide +kernel) hst
def rListC (K : PySem.W.Frag) : List V → Hp → VK → Prop := fun xs H Q => ∃ p ys, xs = [.ref p] ∧ (SqL K H p ys ∨ SqT K H p ys) ∧ ∀ l, H l = none → Q (.ref l) (upd H l (.lst ys))
theorem cals_list : CalS K L (rListC K) oList := by
  intro W H S x v Q R g t h
  unfold oList at h
  split at h
  · obtain ⟨a, vs, rfl, q, r⟩ := t.lst g
    exact ⟨a, vs, rfl, .inl (SqL.of q), PV.lst h g r⟩
  · obtain ⟨a, vs, rfl, q, r⟩ := t.tup g
    exact ⟨a, vs, rfl, .inr q, PV.lst h g r⟩
  · exact h.elim
theorem se_list (ha : SB X K L E a ta da) (hg : Gl X "list") (hm : X.mg "list" = none) (hst : starEach [a] X.env = [(false, eval a X.env)] := by rfl) : SE X K L E (.Call (.Name "list" p) [a] [] pos) (tCB (rListC K) (tCons ta tNil)) (dUn oList da) := by
  obtain ⟨rfl, pa, sa⟩ := ha
  exact se_callTy call_list_of cals_list ⟨rfl, pa, sa⟩ hg hm (by decide +kernel) hst

/-! ### isinstance of built-in types -/
theorem tyx_of {W : Wd} {H : Hp} {S : Store} (g : Gd K L W H S) {d : D} {v : V} {T : String} (t : Tp K L W H d v) (h : tyN d = some T) : TyX K H v (.type T) := by
  cases d with
  | non => cases h; rw [t.non]; exact .base .non
  | bl b => cases h; rw [t.bl]; exact .base (.bl b)
  | int b => cases h; rw [t.int]; exact .base (.int b)
  | str b => cases h; rw [t.str]; exact .base (.str b)
  | tup xs =>
    cases h
    obtain ⟨a, vs, rfl, q, r⟩ := t.tup g
    rcases q with (q | ⟨o, q⟩) | ⟨o, its, n, hk, hc, _⟩
    · exact .base (.tup q)
    · exact .fTuple q
    · exact .kTuple hk hc
  | lst xs =>
    cases h
    obtain ⟨a, vs, rfl, q, r⟩ := t.lst g
    exact .base (.lst q)
  | scr ns =>
    cases h
    obtain ⟨a, rfl, q⟩ := t.scr g
    rcases q with (q | ⟨o, q⟩) | ⟨o, its, n, hk, hc, _⟩
    · exact .base (.lst q)
    · exact .base (.frz q)
    · exact .kList hk hc
  | dk ks xs =>
    cases h
    rcases t with ⟨a, od, vs, rfl, q, l, r⟩ | ⟨p, rfl, n1, n2, vs, q, l, r⟩
    · exact .fDict (g.fz _ _ q)
    · exact .base (.dK q)
  | dt _ _ => cases h
  | obj _ _ => cases h
  | cel _ => cases h
  | clo _ _ => cases h
theorem sem_isB {T : String} (ha : SemB K L E da ta) : Sem K L E (dUn (oIsB T) da) (tCB (rIsi K) (tCons ta (tCons (tC (.ty T)) tNil))) := by
  intro F W H S env σ Q fr w
  refine ha F W H S env σ _ fr (wpO_imp (wpO_bind w) fun x S1 w1 W1 H1 v1 st1 g1 r1 => ?_)
  unfold oIsB at w1
  obtain ⟨t, et, w1⟩ := wpO_lift (wpO_bind w1)
  obtain ⟨b, eb, w1⟩ := wpO_lift (wpO_bind w1)
  exact ⟨v1, .ty T, .type t, .type T, b, rfl, .ty T, tyx_of g1 r1 et, kit_ty eb, PV.now (PV.mono st1 w1) g1 rfl⟩
theorem se_isB {T : String} (ha : SB X K L E a ta da) (pc : PE X c (tC (.ty T))) (hg : Gl X "isinstance") (hm : X.mg "isinstance" = none)
    (hst : starEach [a, c] X.env = (false, eval a X.env) :: starEach [c] X.env := by rfl) (hst2 : starEach [c] X.env = [(false, eval c X.env)] := by rfl) (hpl : (backTo pos (starEach [c] X.env)).any (·.1) = false := by rfl) :
    SE X K L E (.Call (.Name "isinstance" p) [a, c] [] pos) (tCB (rIsi K) (tCons ta (tCons (tC (.ty T)) tNil))) (dUn (oIsB T) da) := by
  obtain ⟨rfl, pa, sa⟩ := ha
  exact ⟨rfl, pe_callB call_isi hg hm (by decide +kernel) (pa_cons pa (pa_cons pc pa_nil hst2) hst) (he := hst) (hpl := hpl), sem_isB sa⟩

/-! ### items -/
theorem atI_map {α β : Type} (f : α → β) (xs : List α) (i : Int) : atI (xs.map f) i = (atI xs i).map f := by
  unfold atI
  rw [List.length_map]
  cases ixN xs.length i with
  | none => rfl
  | some j => simp
theorem RpL.atI {W : Wd} {ds : List D} {vs : List V} {i : Int} {d : D} (r : RpL K L W ds vs) (h : L2.atI ds i = some d) : ∃ v, L2.atI vs i = some v ∧ Rp K L W d v := by
  unfold L2.atI at h ⊢
  rw [r.length]
  cases e : ixN ds.length i with
  | none =>
    rw [e] at h
    cases h
  | some j =>
    rw [e] at h
    obtain ⟨v, h1, h2⟩ := r.get (i := j) h
    exact ⟨v, h1, h2⟩
theorem ops_ix : OpS K L (rIx K) oIx := by
  intro W H S x y v w Q R g t1 t2 h
  unfold oIx at h
  split at h
  · obtain ⟨d, e, h⟩ := wpO_lift h
    obtain ⟨a, vs, rfl, q, r⟩ := t1.tup g
    obtain ⟨z, ez, rz⟩ := r.atI e
    rw [t2.int]
    exact .inr (.inl ⟨a, vs, _, z, rfl, rfl, q, ez, PV.now h g rz⟩)
  · obtain ⟨d, e, h⟩ := wpO_lift h
    obtain ⟨a, vs, rfl, q, r⟩ := t1.lst g
    obtain ⟨z, ez, rz⟩ := r.atI e
    rw [t2.int]
    exact .inl ⟨a, vs, _, z, rfl, rfl, SqL.of q, ez, PV.now h g rz⟩
  · obtain ⟨d, e, h⟩ := wpO_lift h
    obtain ⟨a, rfl, q⟩ := t1.scr g
    rw [t2.int]
    cases e2 : atI _ _ with
    | none =>
      rw [e2] at e
      cases e
    | some n =>
      rw [e2] at e
      cases e
      exact .inl ⟨a, _, _, .int n, rfl, rfl, q, by rw [atI_map, e2]; rfl, PV.now h g rfl⟩
  · rename_i n i
    unfold oIxCel at h
    split at h
    · rename_i xs e
      obtain ⟨d, e2, h⟩ := wpO_lift h
      rcases t1 with ⟨a, rfl, q⟩ | ⟨p, e, n1, n2, c⟩
      · obtain ⟨vs, e3, r⟩ := g.ce n _ a e q
        obtain ⟨z, ez, rz⟩ := r.atI e2
        rw [t2.int]
        exact .inl ⟨a, vs, _, z, rfl, rfl, SqL.of e3, ez, PV.now h g rz⟩
      · exact c.elim
    · exact h.elim
  · exact h.elim
theorem se_ix (ha : SB X K L E a ta da) (hb : SE X K L E b tb db) (hs : PlainIx b) : SE X K L E (.Subscript a b pos) (tOp (rIx K) ta tb) (dBin oIx da db) := by
  obtain ⟨rfl, pa, sa⟩ := ha
  exact ⟨rfl, pe_ix ix_seq pa hb.p hs, sem_bin ops_ix sa (se_sb hb).s⟩
end

/-! ### what is walked -/
section
variable (K : PySem.W.Frag) (L : Ly)
/-- J walks the data ds, of a frozen source -/
def WK (W : Wd) (ds : List D) (J : It) : Prop := ∃ G Y, Walk J ds.length G Y ∧ (∀ W2 H2 S2, Le W W2 → Gd K L W2 H2 S2 → G H2) ∧
  ∀ i W2 H2 S2 x H3, Le W W2 → Gd K L W2 H2 S2 → i < ds.length → Y i H2 x H3 → ∃ W3 d, Stp noEx W2 H2 W3 H3 ∧ Gd K L W3 H3 S2 ∧ ds[i]? = some d ∧ Rp K L W3 d x
def PJ (W : Wd) (H : Hp) (R : It → Hp → Prop) : List D → Store → Prop := fun ds S' => ∀ W' H' J, Stp noEx W H W' H' → Gd K L W' H' S' → WK K L W' ds J → R J H'
def SemI (E : XK) (di : DI) (wi : TI) : Prop := ∀ (F : FD) W H S env σ R, Frm K L F W H S env σ → wpO (di env S) (PJ K L W H R) (XP K L F E) → wi σ H R
structure SI (X : Cx) (E : XK) (tg iter : Expr) (wi : TI) (di : DI) : Prop where
  hK : X.K = K
  p : PI X tg iter wi
  s : SemI K L E di wi
end
section
variable {X : Cx} {K : PySem.W.Frag} {L : Ly} {E : XK} {a b c e tg : Expr} {es : List Expr} {ta tb tc : TE} {da db dc : DE} {pos p : Pos}
theorem wk_list {W : Wd} {ds : List D} {vs : List V} {a : Addr} (q : W.G a = some (.lst vs)) (r : RpL K L W ds vs) : WK K L W ds (Itl K a) := by
  refine ⟨fun H => SqL K H a vs, YAt vs, ?_, fun W2 H2 S2 le g => SqL.of (g.fz _ _ (le.ge _ _ q)), fun i W2 H2 S2 x H3 le g hi y => ?_⟩
  · rw [← r.length]
    exact walk_list
  · obtain ⟨rfl, y⟩ := y
    obtain ⟨d, e, rd⟩ := r.get' y
    exact ⟨W2, d, Stp.refl, g, e, rd.mono le⟩
theorem wk_tup {W : Wd} {ds : List D} {vs : List V} {a : Addr} (q : SqT K W.G a vs) (r : RpL K L W ds vs) : WK K L W ds (Itt K a) := by
  refine ⟨fun H => SqT K H a vs, YAt vs, ?_, fun W2 H2 S2 le g => g.sqT (le.sqT q), fun i W2 H2 S2 x H3 le g hi y => ?_⟩
  · rw [← r.length]
    exact walk_tup
  · obtain ⟨rfl, y⟩ := y
    obtain ⟨d, e, rd⟩ := r.get' y
    exact ⟨W2, d, Stp.refl, g, e, rd.mono le⟩
theorem wk_range {W : Wd} {lo n : Int} : WK K L W (rangeD lo n) (Itr lo (n - lo).toNat) := by
  have hl : (rangeD lo n).length = (n - lo).toNat := by
    unfold rangeD
    rw [List.length_map, List.length_range]
  refine ⟨fun _ => True, YFn fun i => .int (lo + i), ?_, fun W2 H2 S2 le g => True.intro, fun i W2 H2 S2 x H3 le g hi y => ?_⟩
  · rw [hl]
    exact walk_range
  · obtain ⟨rfl, rfl⟩ := y
    refine ⟨W2, .int (lo + i), Stp.refl, g, ?_, rfl⟩
    unfold rangeD
    rw [hl] at hi
    rw [List.getElem?_map, List.getElem?_range hi]
    rfl
theorem zip_get {α β γ : Type} (f : α × β → γ) {xs : List α} {ys : List β} {i : Nat} {x : α} {y : β} (h1 : xs[i]? = some x) (h2 : ys[i]? = some y) : ((xs.zip ys).map f)[i]? = some (f (x, y)) := by
  rw [List.getElem?_map, (List.getElem?_zip_eq_some (z := (x, y))).mpr ⟨h1, h2⟩]
  rfl
theorem pair_new {W : Wd} {H : Hp} {S : Store} {T : Addr} {d e : D} {x y : V} (g : Gd K L W H S) (h : H T = none) (r1 : Rp K L W d x) (r2 : Rp K L W e y) :
    Stp noEx W H (W.add T (.tup [x, y])) (upd H T (.tup [x, y])) ∧ Gd K L (W.add T (.tup [x, y])) (upd H T (.tup [x, y])) S ∧ Rp K L (W.add T (.tup [x, y])) (.tup [d, e]) (.ref T) := by
  have le := Wd.le_add (o := .tup [x, y]) (g.freeG h)
  exact ⟨Stp.alloc g h, g.alloc h, T, [x, y], rfl, SqT.of Wd.add_at, x, [y], rfl, r1.mono le, y, [], rfl, r2.mono le, rfl⟩
theorem wk_zipL {W : Wd} {ds es : List D} {vs ws : List V} {a b : Addr} (q : W.G a = some (.lst vs)) (r : RpL K L W ds vs) (q2 : W.G b = some (.lst ws)) (r2 : RpL K L W es ws) :
    WK K L W ((ds.zip es).map fun p => .tup [p.1, p.2]) (Itz K a b) := by
  refine ⟨fun H => SqL K H a vs ∧ SqL K H b ws, YPair (fun i => vs[i]?) (fun i => ws[i]?), ?_, fun W2 H2 S2 le g => ⟨SqL.of (g.fz _ _ (le.ge _ _ q)), SqL.of (g.fz _ _ (le.ge _ _ q2))⟩, fun i W2 H2 S2 x H3 le g hi y => ?_⟩
  · rw [List.length_map, List.length_zip]
    exact walk_zip (by rw [r.length, r2.length])
  · obtain ⟨T, x1, x2, rfl, hT, rfl, e1, e2⟩ := y
    obtain ⟨d1, f1, g1⟩ := r.get' e1
    obtain ⟨d2, f2, g2⟩ := r2.get' e2
    obtain ⟨s1, s2, s3⟩ := pair_new g hT (g1.mono le) (g2.mono le)
    exact ⟨_, _, s1, s2, zip_get _ f1 f2, s3⟩
theorem walk_zipT {a b : Addr} {xs ys : List V} {n : Nat} (hn : n = min xs.length ys.length) : Walk (RZ.ItzT K a b) n (fun H => SqT K H a xs ∧ SqT K H b ys) (YPair (fun i => xs[i]?) (fun i => ys[i]?)) := by
  subst hn
  refine ⟨fun i _ hi q => ?_, fun _ q => ⟨xs, ys, q.1, q.2, by omega⟩, fun i H v H' _ q y => ?_⟩
  · have h1 : i < xs.length := by omega
    have h2 : i < ys.length := by omega
    exact ⟨xs, ys, xs[i], ys[i], q.1, q.2, by simp [h1], by simp [h2]⟩
  · obtain ⟨T, x, z, h1, h2, h3, h4, h5⟩ := y
    exact ⟨T, x, z, h1, h2, h3, h4 xs q.1, h5 ys q.2⟩
theorem wk_zipT {W : Wd} {ds es : List D} {vs ws : List V} {a b : Addr} (q : SqT K W.G a vs) (r : RpL K L W ds vs) (q2 : SqT K W.G b ws) (r2 : RpL K L W es ws) :
    WK K L W ((ds.zip es).map fun p => .tup [p.1, p.2]) (RZ.ItzT K a b) := by
  refine ⟨fun H => SqT K H a vs ∧ SqT K H b ws, YPair (fun i => vs[i]?) (fun i => ws[i]?), ?_, fun W2 H2 S2 le g => ⟨g.sqT (le.sqT q), g.sqT (le.sqT q2)⟩, fun i W2 H2 S2 x H3 le g hi y => ?_⟩
  · rw [List.length_map, List.length_zip]
    exact walk_zipT (by rw [r.length, r2.length])
  · obtain ⟨T, x1, x2, rfl, hT, rfl, e1, e2⟩ := y
    obtain ⟨d1, f1, g1⟩ := r.get' e1
    obtain ⟨d2, f2, g2⟩ := r2.get' e2
    obtain ⟨s1, s2, s3⟩ := pair_new g hT (g1.mono le) (g2.mono le)
    exact ⟨_, _, s1, s2, zip_get _ f1 f2, s3⟩
/-- a list or a tuple -/
def iSeq (K : PySem.W.Frag) (t : TE) : TI := fun σ H R => iList K t σ H R ∨ iTup K t σ H R
theorem pi_or {tg iter : Expr} {w1 w2 : TI} (h1 : PI X tg iter w1) (h2 : PI X tg iter w2) : PI X tg iter (fun σ H R => w1 σ H R ∨ w2 σ H R) :=
  ⟨fun pins s σ H R I h => h.elim (fun h => h1.run pins s σ H R I h) fun h => h2.run pins s σ H R I h⟩
theorem out_cases {α β : Type} {m : M α} {f : α → M β} {S : Store} {P : β → Store → Prop} {R : Nat → List D → Store → Prop} (h : wpO (M.bind m f S) P R) : (∃ a S1, m S = .ok a S1 ∧ wpO (f a S1) P R) ∨ ∃ c fs S1, m S = .exc c fs S1 ∧ R c fs S1 := by
  unfold M.bind at h
  cases q : m S with
  | ok a S' =>
    rw [q] at h
    exact .inl ⟨a, S', rfl, h⟩
  | exc c fs S' =>
    rw [q] at h
    exact .inr ⟨c, fs, S', rfl, h⟩
  | stuck =>
    rw [q] at h
    exact h.elim
theorem si_val (ha : SE X K L E a ta da) : SI K L X E tg a (iSeq K ta) (iVal da) := by
  obtain ⟨rfl, pa, sa⟩ := ha
  refine ⟨rfl, pi_or (pi_list pa) (pi_tup pa), fun F W H S env σ R fr w => ?_⟩
  rcases out_cases w with ⟨d, S1, e, w1⟩ | ⟨c, fs, S1, e, w1⟩
  · cases d with
    | lst xs =>
      refine .inl (sa F W H S env σ _ fr ?_)
      rw [e]
      intro W1 H1 v1 st1 g1 r1
      obtain ⟨a, vs, rfl, q, r⟩ := r1
      exact ⟨a, rfl, ⟨vs, SqL.of (g1.fz _ _ q)⟩, w1 W1 H1 _ st1 g1 (wk_list q r)⟩
    | tup xs =>
      refine .inr (sa F W H S env σ _ fr ?_)
      rw [e]
      intro W1 H1 v1 st1 g1 r1
      obtain ⟨a, vs, rfl, q, r⟩ := r1
      exact ⟨a, rfl, ⟨vs, g1.sqT q⟩, w1 W1 H1 _ st1 g1 (wk_tup q r)⟩
    | _ => exact w1.elim
  · refine .inl (sa F W H S env σ _ fr ?_)
    rw [e]
    exact w1
theorem si_range1 (ha : SE X K L E a ta da) (hg : Gl X "range") (hm : X.mg "range" = none) (hs : starEach [a] X.env = [(false, eval a X.env)] := by rfl) : SI K L X E tg (.Call (.Name "range" p) [a] [] pos) (iRng1 (tCons ta tNil)) (iRange1 da) := by
  refine ⟨ha.hK, pi_range1 hg hm (pa_cons ha.p pa_nil hs) hs, fun F W H S env σ R fr w => ?_⟩
  refine ha.s F W H S env σ _ fr (wpO_imp (wpO_bind w) fun x S1 w1 W1 H1 v1 st1 g1 r1 => ?_)
  cases x with
  | int n =>
    obtain ⟨c, w1⟩ := wpO_ite w1
    have c := of_decide_eq_true c
    cases (show v1 = .int n from r1)
    refine ⟨n, rfl, by omega, by omega, ?_⟩
    have q : R (Itr 0 (n - 0).toNat) H1 := w1 W1 H1 _ st1 g1 wk_range
    rw [Int.sub_zero] at q
    exact q
  | _ => exact w1.elim
theorem si_range2 (ha : SE X K L E a ta da) (hb : SE X K L E b tb db) (hg : Gl X "range") (hm : X.mg "range" = none) (hs : starEach [a, b] X.env = [(false, eval a X.env), (false, eval b X.env)] := by rfl) (hs2 : starEach [b] X.env = [(false, eval b X.env)] := by rfl) :
    SI K L X E tg (.Call (.Name "range" p) [a, b] [] pos) (iRng2 (tCons ta (tCons tb tNil))) (iRange2 da db) := by
  refine ⟨ha.hK, pi_range2 hg hm (pa_cons ha.p (pa_cons hb.p pa_nil hs2) (by rw [hs, hs2])) hs hs2, fun F W H S env σ R fr w => ?_⟩
  refine ha.s F W H S env σ _ fr (wpO_imp (wpO_bind w) fun x S1 w1 W1 H1 v1 st1 g1 r1 => ?_)
  refine hb.s F W1 H1 S1 env σ _ (fr.next st1 g1) (wpO_imp (wpO_bind w1) fun y S2 w2 W2 H2 v2 st2 g2 r2 => ?_)
  cases x with
  | int lo =>
    cases y with
    | int n =>
      obtain ⟨c, w2⟩ := wpO_ite w2
      have c := of_decide_eq_true c
      cases (show v1 = .int lo from r1)
      cases (show v2 = .int n from r2)
      exact ⟨lo, n, rfl, by omega, w2 W2 H2 _ (st1.trans st2) g2 wk_range⟩
    | _ => exact w2.elim
  | _ => exact w2.elim
theorem si_zip {elts : List Expr} {kk : Nat} {tpos : Pos} (ha : SE X K L E a ta da) (hb : SE X K L E b tb db) (hg : Gl X "zip") (hm : X.mg "zip" = none)
    (hs : starEach [a, b] X.env = (false, eval a X.env) :: starEach [b] X.env := by rfl) (hs2 : starEach [b] X.env = [(false, eval b X.env)] := by rfl) (hpl : (backTo pos (starEach [b] X.env)).any (·.1) = false := by rfl) :
    SI K L X E (.Tuple elts kk tpos) (.Call (.Name "zip" p) [a, b] [] pos) (RZ.iZipA K (tCons ta (tCons tb tNil))) (iZip da db) := by
  obtain ⟨rfl, pa, sa⟩ := ha
  refine ⟨rfl, RZ.pi_zipA hg hm (pa_cons pa (pa_cons hb.p pa_nil hs2) hs) hs hpl, fun F W H S env σ R fr w => ?_⟩
  refine sa F W H S env σ _ fr (wpO_imp (wpO_bind w) fun x S1 w1 W1 H1 v1 st1 g1 r1 => ?_)
  refine hb.s F W1 H1 S1 env σ _ (fr.next st1 g1) (wpO_imp (wpO_bind w1) fun y S2 w2 W2 H2 v2 st2 g2 r2 => ?_)
  have r1 := r1.mono st2.le
  unfold zipD at w2
  split at w2
  · obtain ⟨a1, vs, rfl, q, r⟩ := r1
    obtain ⟨a2, ws, rfl, q2, r2⟩ := r2
    exact ⟨a1, a2, vs, ws, rfl, .inl ⟨SqL.of (g2.fz _ _ q), SqL.of (g2.fz _ _ q2), w2 W2 H2 _ (st1.trans st2) g2 (wk_zipL q r q2 r2)⟩⟩
  · obtain ⟨a1, vs, rfl, q, r⟩ := r1
    obtain ⟨a2, ws, rfl, q2, r2⟩ := r2
    exact ⟨a1, a2, vs, ws, rfl, .inr ⟨g2.sqT q, g2.sqT q2, w2 W2 H2 _ (st1.trans st2) g2 (wk_zipT q r q2 r2)⟩⟩
  · exact w2.elim
end
end Sk

set_option Elab.async false
set_option linter.all false
set_option maxRecDepth 100000
set_option maxHeartbeats 2000000
set_option autoImplicit false
/-! SkD: targets, list comprehensions. -/
namespace Sk
open PySem PySem.Spec PyProof.Rows L2
theorem M.assoc {α β γ : Type} (m : M α) (f : α → M β) (k : β → M γ) : M.bind (M.bind m f) k = M.bind m fun a => M.bind (f a) k := by
  funext S
  unfold M.bind
  cases m S <;> rfl
theorem wpO_noX {α : Type} {m : M α} {S : Store} {P : α → Store → Prop} {R R' : Nat → List D → Store → Prop} (h : wpO (noX m S) P R) : wpO (m S) P R' := by
  unfold noX at h
  cases q : m S with
  | ok a S' =>
    rw [q] at h
    exact h
  | exc c fs S' =>
    rw [q] at h
    exact h.elim
  | stuck =>
    rw [q] at h
    exact h.elim
/-! ### slots -/
/-- only the slots is have changed -/
def Chg (is : List Nat) (σ σ' : L2.St) : Prop := ∀ vs : List Nat, (∀ i, i ∈ is → i ∈ vs) → wipe σ' vs = wipe σ vs
theorem Chg.refl {is : List Nat} {σ : L2.St} : Chg is σ σ := fun _ _ => rfl
theorem Chg.trans {is js : List Nat} {σ1 σ2 σ3 : L2.St} (a : Chg is σ1 σ2) (b : Chg js σ2 σ3) : Chg (is ++ js) σ1 σ3 := fun vs h => by
  rw [b vs fun i hi => h i (List.mem_append_right _ hi), a vs fun i hi => h i (List.mem_append_left _ hi)]
theorem wipe_get (σ : L2.St) (i : Nat) : ∀ vs : List Nat, (wipe σ vs)[i]? = if i ∈ vs then (if i < σ.length then some none else none) else σ[i]?
  | [] => rfl
  | v :: vs => by
    show ((wipe σ vs).set v none)[i]? = _
    by_cases h : v = i
    · subst h
      rw [if_pos (List.mem_cons_self ..)]
      by_cases hl : v < σ.length
      · rw [if_pos hl, List.getElem?_set_self (by rw [wipe_length]; exact hl)]
      · rw [if_neg hl, List.getElem?_eq_none (by rw [List.length_set, wipe_length]; omega)]
    · rw [List.getElem?_set_ne h, wipe_get σ i vs]
      by_cases hm : i ∈ vs
      · rw [if_pos hm, if_pos (List.mem_cons_of_mem _ hm)]
      · rw [if_neg hm, if_neg (fun q => (List.mem_cons.mp q).elim (fun e => h e.symm) hm)]
theorem Chg.set {σ : L2.St} {i : Nat} {v : Option V} : Chg [i] σ (σ.set i v) := fun vs h => by
  refine List.ext_getElem? fun j => ?_
  rw [wipe_get, wipe_get, List.length_set]
  by_cases hm : j ∈ vs
  · rw [if_pos hm, if_pos hm]
  · rw [if_neg hm, if_neg hm, List.getElem?_set_ne]
    exact fun e => hm (e ▸ h i (List.mem_singleton.mpr rfl))
theorem wipeE_length (env : Env) : ∀ vs : List Nat, (wipeE env vs).length = env.length
  | [] => rfl
  | v :: vs => by
    unfold wipeE
    rw [List.length_set, wipeE_length env vs]
theorem wipeE_get (env : Env) (i : Nat) : ∀ vs : List Nat, (wipeE env vs)[i]? = if i ∈ vs then (if i < env.length then some .no else none) else env[i]?
  | [] => rfl
  | v :: vs => by
    show ((wipeE env vs).set v .no)[i]? = _
    by_cases h : v = i
    · subst h
      rw [if_pos (List.mem_cons_self ..)]
      by_cases hl : v < env.length
      · rw [if_pos hl, List.getElem?_set_self (by rw [wipeE_length]; exact hl)]
      · rw [if_neg hl, List.getElem?_eq_none (by rw [List.length_set, wipeE_length]; omega)]
    · rw [List.getElem?_set_ne h, wipeE_get env i vs]
      by_cases hm : i ∈ vs
      · rw [if_pos hm, if_pos (List.mem_cons_of_mem _ hm)]
      · rw [if_neg hm, if_neg (fun q => (List.mem_cons.mp q).elim (fun e => h e.symm) hm)]
section
variable {K : PySem.W.Frag} {L : Ly} {F : FD} {W W' : Wd} {H H' : Hp} {S S' : Store} {env : Env} {σ : L2.St}
theorem Frm.wipe (fr : Frm K L F W H S env σ) (vs : List Nat) : Frm K L F W H S (wipeE env vs) (L2.wipe σ vs) where
  good := fr.good
  step := fr.step
  len := by rw [wipe_length, wipeE_length, fr.len]
  sl := fun i s e => by
    rw [wipeE_get] at e
    by_cases hm : i ∈ vs
    · rw [if_pos hm] at e
      split at e
      · cases e
        trivial
      · cases e
    · rw [if_neg hm] at e
      rw [wipe_get, if_neg hm]
      exact fr.sl i s e
  sep := fun i j d e p h e1 e2 e3 => by
    rw [wipeE_get] at e1 e2
    rw [wipe_get] at e3 ⊢
    by_cases hi : i ∈ vs
    · rw [if_pos hi] at e1
      split at e1 <;> cases e1
    · rw [if_neg hi] at e1 e3
      by_cases hj : j ∈ vs
      · rw [if_pos hj] at e2
        split at e2 <;> cases e2
      · rw [if_neg hj] at e2 ⊢
        exact fr.sep i j d e p h e1 e2 e3
theorem Frm.set (fr : Frm K L F W H S env σ) {i : Nat} {d : D} {v : V} (r : Rp K L W d v) : Frm K L F W H S (env.set i (.shr d)) (σ.set i (some v)) where
  good := fr.good
  step := fr.step
  len := by rw [List.length_set, List.length_set, fr.len]
  sl := fun j s e => by
    by_cases h : i = j
    · subst h
      by_cases hl : i < env.length
      · rw [List.getElem?_set_self hl] at e
        cases e
        exact ⟨v, List.getElem?_set_self (by rw [fr.len]; exact hl), r⟩
      · rw [List.getElem?_eq_none (by rw [List.length_set]; omega)] at e
        cases e
    · rw [List.getElem?_set_ne h] at e ⊢
      exact fr.sl j s e
  sep := fun a b d e p h e1 e2 e3 => by
    have ne : ∀ c x, (env.set i (.shr d))[c]? = some (.own x) → i ≠ c := fun c x q z => by
      subst z
      by_cases hl : i < env.length
      · rw [List.getElem?_set_self hl] at q
        cases q
      · rw [List.getElem?_eq_none (by rw [List.length_set]; omega)] at q
        cases q
    have ne' : ∀ c x (d' : D), (env.set i (.shr d'))[c]? = some (.own x) → i ≠ c := fun c x d' q z => by
      subst z
      by_cases hl : i < env.length
      · rw [List.getElem?_set_self hl] at q
        cases q
      · rw [List.getElem?_eq_none (by rw [List.length_set]; omega)] at q
        cases q
    have ha := ne' a _ _ e1
    have hb := ne' b _ _ e2
    rw [List.getElem?_set_ne ha] at e1 e3
    rw [List.getElem?_set_ne hb] at e2 ⊢
    exact fr.sep a b _ _ p h e1 e2 e3
/-- a thing made since is changed -/
theorem Stp.mut {ex : Addr → Prop} {A B : Wd} {H H1 : Hp} {p : Addr} {o : HO} (x : Stp ex A H B H1) (h : H p = none ∨ ex p) : Stp ex A H B (upd H1 p o) where
  le := x.le
  keep := fun a u e n ne => by
    have q : a ≠ p := fun z => by
      subst z
      rcases h with h | h
      · rw [h] at e
        cases e
      · exact ne h
    rw [upd_ne q]
    exact x.keep a u e n ne
  dom := fun a z => upd_dom (x.dom a z)
  new := x.new
  newc := x.newc
/-- a thing of this frame's own is frozen -/
theorem Gd.freeze {p : Addr} {o : HO} (g : Gd K L W H S) (e : H p = some o) (h1 : W.G p = none) (h2 : p ∉ W.ca) : Gd K L (W.add p o) H S where
  fz := fun a u q => by
    by_cases z : a = p
    · subst z
      rw [Wd.add_at] at q
      cases q
      exact e
    · have q : upd W.G p o a = some u := q
      rw [upd_ne z] at q
      exact g.fz a u q
  cn := fun a m => by
    show upd W.G p o a = none
    rw [upd_ne (show a ≠ p from fun z => h2 (by rw [← z]; exact m))]
    exact g.cn a m
  nd := g.nd
  ln := g.ln
  ce := fun n c a e1 e2 => (g.ce n c a e1 e2).to (Wd.le_add h1) fun _ q => q
theorem Stp.freeze {ex : Addr → Prop} {A B : Wd} {H H1 : Hp} {p : Addr} {o : HO} (x : Stp ex A H B H1) (h : H p = none) (h1 : B.G p = none) : Stp ex A H (B.add p o) H1 where
  le := x.le.trans (Wd.le_add h1)
  keep := x.keep
  dom := x.dom
  new := fun a z => by
    by_cases e : a = p
    · subst e
      exact .inr h
    · have z : upd B.G p o a ≠ none := z
      rw [upd_ne e] at z
      exact x.new a z
  newc := x.newc
/-- what is not known ahead is not frozen, not a cell, behind -/
theorem Stp.stayG {p : Addr} (x : Stp noEx W H W' H') (h : H p ≠ none) (h1 : W.G p = none) : W'.G p = none := by
  cases z : W'.G p with
  | none => rfl
  | some o => exact ((x.new p (by rw [z]; exact fun z => nomatch z)).elim (fun y => absurd h1 y) fun y => absurd y h)
theorem Stp.stayC {p : Addr} (x : Stp noEx W H W' H') (h : H p ≠ none) (h1 : p ∉ W.ca) : p ∉ W'.ca := fun m => (x.newc p m).elim h1 h
theorem Stp.was {ex : Addr → Prop} {p : Addr} (x : Stp ex W H W' H') (h : H' p = none) : H p = none := by
  cases z : H p with
  | none => rfl
  | some o => exact absurd h (x.dom p (by rw [z]; exact fun z => nomatch z))
end

/-! ### targets -/
section
variable (K : PySem.W.Frag) (L : Ly)
def SemG (is : List Nat) (dg : DG) (g : TG) : Prop := ∀ (F : FD) W H S env σ d v Q env', Frm K L F W H S env σ → Rp K L W d v → dg d env = some env' → (∀ σ', Frm K L F W H S env' σ' → Chg is σ σ' → Q σ' H) → g v σ H Q
def SemGs (is : List Nat) (dgs : List DG) (g : TGs) : Prop := ∀ (F : FD) W H S env σ ds vs Q env', Frm K L F W H S env σ → RpL K L W ds vs → gAll dgs ds env = some env' → (∀ σ', Frm K L F W H S env' σ' → Chg is σ σ' → Q σ' H) → g vs σ H Q
structure SG (X : Cx) (is : List Nat) (tg : Expr) (g : TG) (dg : DG) : Prop where
  p : PG X tg g
  s : SemG K L is dg g
structure SGs (X : Cx) (is : List Nat) (tgs : List Expr) (n : Nat) (g : TGs) (dgs : List DG) : Prop where
  n : dgs.length = n
  p : PGs X tgs g
  s : SemGs K L is dgs g
end
section
variable {X : Cx} {K : PySem.W.Frag} {L : Ly} {E : XK} {pos : Pos}
theorem sg_name (i : Nat) {x : Str} (hN : X.N.Nodup) (hi : X.N[i]? = some x := by rfl) (hx : Loc X.env.scope x := by first | exact Or.inl rfl | exact Or.inr rfl) (hf : X.fn x = true ∨ X.env.scope.names.lookup x = some .local := by first | exact .inl rfl | exact .inr rfl | assumption) :
    SG K L X [i] (.Name x pos) (gName i) (gSet i) :=
  ⟨pg_name hN hi hx hf, fun F W H S env σ d v Q env' fr r e h => by
    cases e
    exact h _ (fr.set r) Chg.set⟩
theorem sgs_nil : SGs K L X [] [] 0 gNil [] := ⟨rfl, pgs_nil, fun F W H S env σ ds vs Q env' fr r e h => by
  cases ds with
  | nil =>
    cases e
    exact ⟨r, h _ fr Chg.refl⟩
  | cons d ds => cases e⟩
theorem sgs_cons {is js : List Nat} {e : Expr} {es : List Expr} {n : Nat} {g : TG} {gs : TGs} {dg : DG} {dgs : List DG} (h1 : SG K L X is e g dg) (h2 : SGs K L X js es n gs dgs) (hs : (assignEach (e :: es) X.env).map (·.2) = assign e X.env :: (assignEach es X.env).map (·.2) := by rfl) : SGs K L X (is ++ js) (e :: es) (n + 1) (gCons g gs) (dg :: dgs) :=
  ⟨by rw [List.length_cons, h2.n], pgs_cons h1.p h2.p hs, fun F W H S env σ ds vs Q env' fr r e h => by
    cases ds with
    | nil => cases e
    | cons d ds =>
      obtain ⟨v, q, rfl, r1, r2⟩ := r
      have e : (dg d env).bind (fun env' => gAll dgs ds env') = some env' := e
      cases e1 : dg d env with
      | none =>
        rw [e1] at e
        cases e
      | some env1 =>
        rw [e1] at e
        exact ⟨v, q, rfl, h1.s F W H S env σ d v _ env1 fr r1 e1 fun σ1 fr1 c1 => h2.s F W H S env1 σ1 ds q _ env' fr1 r2 e fun σ2 fr2 c2 => h σ2 fr2 (c1.trans c2)⟩⟩
def gAny (K : PySem.W.Frag) (n : Nat) (t : TGs) : TG := fun v σ H Q => gTup K n t v σ H Q ∨ gUnl K n t v σ H Q
theorem pg_or {target : Expr} {t u : TG} (h1 : PG X target t) (h2 : PG X target u) : PG X target (fun v σ H Q => t v σ H Q ∨ u v σ H Q) :=
  ⟨fun pins s σ H v u Q I r h => h.elim (fun h => h1.run pins s σ H v u Q I r h) fun h => h2.run pins s σ H v u Q I r h⟩
theorem gAll_len : ∀ {dgs : List DG} {ds : List D} {env env' : Env}, gAll dgs ds env = some env' → ds.length = dgs.length
  | [], [], _, _, _ => rfl
  | [], _ :: _, _, _, h => by cases h
  | _ :: _, [], _, _, h => by cases h
  | g :: dgs, d :: ds, env, env', h => by
    have h : (g d env).bind (fun env' => gAll dgs ds env') = some env' := h
    cases e1 : g d env with
    | none =>
      rw [e1] at h
      cases h
    | some env1 =>
      rw [e1] at h
      rw [List.length_cons, List.length_cons, gAll_len h]
theorem sg_tup {is : List Nat} {es : List Expr} {k n : Nat} {g : TGs} {dgs : List DG} (hc : X.calm = true) (h : SGs K L X is es n g dgs) (hn : (assignEach es X.env).length = n := by rfl) (hst : (assignEach es X.env).findIdx? (·.1) = none := by rfl) (hK : X.K = K := by rfl) : SG K L X is (.Tuple es k pos) (gAny K n g) (gTupD dgs) := by
  subst hK
  refine ⟨pg_or (pg_tup hc h.p hn hst) (pg_unl hc h.p hn hst), fun F W H S env σ d v Q env' fr r e q => ?_⟩
  unfold gTupD at e
  split at e
  · obtain ⟨a, vs, rfl, q1, r1⟩ := r
    exact .inl ⟨a, vs, rfl, fr.good.sqT q1, by rw [r1.length, gAll_len e, h.n], h.s F W H S env σ _ vs Q env' fr r1 e q⟩
  · obtain ⟨a, vs, rfl, q1, r1⟩ := r
    exact .inr ⟨a, vs, rfl, SqL.of (fr.good.fz _ _ q1), by rw [r1.length, gAll_len e, h.n], h.s F W H S env σ _ vs Q env' fr r1 e q⟩
  · cases e
end

/-! ### list comprehensions -/
section
variable (X : Cx) (K : PySem.W.Frag) (L : Ly) (E : XK)
structure STs (ifs : List Expr) (t : TT) (db : DB) : Prop where
  hK : X.K = K
  p : PTs X ifs t
  s : SemT K L E db t
/-- a new thing, this frame's own -/
def PF (W : Wd) (H : Hp) (Q : VK) : D → Store → Prop := fun d S' => ∀ W' H' p, Stp noEx W H W' H' → Gd K L W' H' S' → H p = none → W'.G p = none → p ∉ W'.ca → CellAt K L W' H' p d → Q (.ref p) H'
def SemF (de : DE) (t : TE) : Prop := ∀ (F : FD) W H S env σ Q, Frm K L F W H S env σ → wpO (de env S) (PF K L W H Q) (XP K L F E) → t σ H Q
structure SF (e : Expr) (t : TE) (de : DE) : Prop where
  hK : X.K = K
  p : PE X e t
  s : SemF K L E de t
/-- it gives lists -/
def Lsts (de : DE) : Prop := ∀ env S d S', de env S = .ok d S' → ∃ xs, d = .lst xs
end
section
variable {X : Cx} {K : PySem.W.Frag} {L : Ly} {E : XK} {e : Expr} {t : TE} {de : DE}
theorem wpO_ok {α : Type} {o : Out α} {P P' : α → Store → Prop} {R : Nat → List D → Store → Prop} (h : wpO o P R) (f : ∀ a S, o = .ok a S → P a S → P' a S) : wpO o P' R := by
  cases o with
  | ok a S => exact f a S rfl h
  | exc c fs S => exact h
  | stuck => exact h
theorem se_sf (h : SF X K L E e t de) (hl : Lsts de) : SE X K L E e t de := by
  refine ⟨h.hK, h.p, fun F W H S env σ Q fr w => h.s F W H S env σ Q fr (wpO_ok w fun d S' eq q W' H' p st g hp n1 n2 c => ?_)⟩
  obtain ⟨xs, rfl⟩ := hl _ _ _ _ eq
  obtain ⟨vs, e1, r⟩ := c
  exact q (W'.add p (.lst vs)) H' (.ref p) (st.freeze hp n1) (g.freeze e1 n1 n2) ⟨p, vs, rfl, Wd.add_at, r.mono (Wd.le_add n1)⟩
theorem sts_nil (hK : X.K = K := by rfl) : STs X K L E [] tYes tYesD := ⟨hK, pts_nil, fun F W H S env σ Q fr w => w W H Stp.refl fr.good⟩
theorem sts_one {c : Expr} {t : TT} {q : DB} (h : ST X K L E c t q) : STs X K L E [c] t q := ⟨h.hK, pts_one h.p, h.s⟩
theorem lc_step {f : D → M (List D)} {x : D} {r : List D} {k : List D → M D} {S : Store} {P : D → Store → Prop} {R : Nat → List D → Store → Prop} (h : wpO (M.bind (lcLoop f (x :: r)) k S) P R) :
    wpO (f x S) (fun ys S' => wpO (M.bind (lcLoop f r) (fun zs => k (ys ++ zs)) S') P R) R := by
  have e : M.bind (lcLoop f (x :: r)) k = M.bind (f x) fun ys => M.bind (lcLoop f r) fun zs => k (ys ++ zs) := by
    show M.bind (M.bind (f x) fun ys => M.bind (lcLoop f r) fun zs => M.pure (ys ++ zs)) k = _
    rw [M.assoc]
    congr 1
    funext ys
    rw [M.assoc]
    rfl
  rw [e] at h
  exact wpO_bind h
theorem sf_lc {elt tg iter : Expr} {ifs : List Expr} {scope : Scope} {own : List (Str × Nat)} {is : List Nat} {pos : Pos} {wi : TI} {g : TG} {tt : TT} {te : TE} {di : DI} {dg : DG} {dt : DB} {dx : DE} (hc : X.calm = true) (hN : X.N.Nodup) (hi : SI K L X E tg iter wi di)
    (ok : BlkOk X.N X.env.scope scope own)
    (hg : ∀ (s : Shared) (H : Hp) (C : Addr) (cl : List (Str × Addr)) (fp : List Addr), SG K L (X.blk s H scope (compEnvC scope cl C X.env) fp) is tg g dg)
    (ht : ∀ (s : Shared) (H : Hp) (C : Addr) (cl : List (Str × Addr)) (fp : List Addr), STs (X.blk s H scope (compEnvC scope cl C X.env) fp) K L E0 ifs tt dt)
    (he : ∀ (s : Shared) (H : Hp) (C : Addr) (cl : List (Str × Addr)) (fp : List Addr), SE (X.blk s H scope (compEnvC scope cl C X.env) fp) K L E0 elt te dx)
    (hsub : ∀ i, i ∈ is → i ∈ own.map (·.2) := by decide) (hs : ∀ x, foldedSetIterable iter X.env x = pure x := by intro _; rfl) :
    SF X K L E (.ListComp elt [⟨tg, iter, ifs, 0⟩] scope pos) (tLc wi g tt te (own.map (·.2))) (dLc (own.map (·.2)) di dg dt dx) := by
  refine ⟨hi.hK, pe_lc hc hN hi.p ok (fun s H C cl fp => (hg s H C cl fp).p) (fun s H C cl fp => (ht s H C cl fp).p) (fun s H C cl fp => (he s H C cl fp).p) hs, fun F W H S env σ Q fr w => ?_⟩
  have hg' := (hg X.s_0 X.H_0 0 [] []).s
  have ht' := (ht X.s_0 X.H_0 0 [] []).s
  have he' := (he X.s_0 X.H_0 0 [] []).s
  generalize own.map (·.2) = vs at *
  refine hi.s F W H S env σ _ fr (wpO_imp (wpO_bind w) fun xs S1 w1 W1 H1 J st1 g1 wk => ?_)
  obtain ⟨c, w1⟩ := wpO_ite w1
  obtain ⟨G, Y, walk, hG, hY⟩ := wk
  intro Da hDa
  have fr1 := fr.next st1 g1
  have nG := g1.freeG hDa
  have nC := g1.freeC hDa
  have w1' : wpO (M.bind (lcLoop (fun x => noX (lcTurn (wipeE env vs) dg dt dx x)) (xs.drop 0)) (fun ys => M.pure (.lst ([] ++ ys))) S1) (PF K L W H Q) (XP K L F E) := w1
  refine lc_it walk (fun i H' => ∃ W2 S2 acc vacc, Stp noEx W1 H1 W2 H' ∧ Gd K L W2 H' S2 ∧ W2.G Da = none ∧ Da ∉ W2.ca ∧ H' Da = some (.lst vacc) ∧ RpL K L W2 acc vacc ∧ acc.length ≤ i ∧
    wpO (M.bind (lcLoop (fun x => noX (lcTurn (wipeE env vs) dg dt dx x)) (xs.drop i)) (fun ys => M.pure (.lst (acc ++ ys))) S2) (PF K L W H Q) (XP K L F E))
    ⟨W1, S1, [], [], Stp.own hDa, g1.own nG nC, nG, nC, upd_same, rfl, Nat.le_refl _, w1'⟩ (fun i H' hi ⟨W2, S2, acc, vacc, s2, g2, _⟩ => hG W2 H' S2 s2.le g2) ?_ ?_
  · rintro i x H2 H3 hi ⟨W2, S2, acc, vacc, s2, g2, n1, n2, eD, ra, la, w2⟩ hy
    obtain ⟨W3, d, s3, g3, ed, rd⟩ := hY i W2 H2 S2 x H3 s2.le g2 hi hy
    have hd : xs.drop i = d :: xs.drop (i + 1) := by
      rw [List.drop_eq_getElem_cons hi]
      have := (List.getElem?_eq_some_iff.mp ed).2
      rw [this]
    rw [hd] at w2
    have w3 := wpO_noX (R' := XP K L F E0) (lc_step w2)
    obtain ⟨env2, e2, w3⟩ := wpO_lift (wpO_bind w3)
    have fr3 := ((fr1.next s2 g2).next s3 g3).wipe vs
    refine hg' F W3 H3 S2 _ _ d x _ env2 fr3 rd e2 fun σ2 fr4 ch => ⟨?_, ?_⟩
    · rw [ch vs hsub]
      refine List.ext_getElem? fun j => ?_
      rw [wipe_get, wipe_get, wipe_length]
      by_cases hm : j ∈ vs
      · rw [if_pos hm, if_pos hm]
      · rw [if_neg hm, if_neg hm]
    · refine ht' F W3 H3 S2 env2 σ2 _ fr4 (wpO_imp (wpO_bind w3) fun b S3 w4 W4 H4 s4 g4 => ?_)
      have hp2 : H2 Da ≠ none := by rw [eD]; exact fun z => nomatch z
      have e3 : H3 Da = some (.lst vacc) := s3.keep _ _ eD n2 fun z => z
      have hp3 : H3 Da ≠ none := by rw [e3]; exact fun z => nomatch z
      have m3 := s3.stayG hp2 n1
      have m3c := s3.stayC hp2 n2
      have e4 : H4 Da = some (.lst vacc) := s4.keep _ _ e3 m3c fun z => z
      have hp4 : H4 Da ≠ none := by rw [e4]; exact fun z => nomatch z
      have m4 := s4.stayG hp3 m3
      have m4c := s4.stayC hp3 m3c
      have s14 := (s2.trans s3).trans s4
      cases b with
      | true =>
        have w4 : wpO (M.bind (dx env2) (fun y => M.pure [y]) S3) _ _ := w4
        refine he' F W4 H4 S3 env2 σ2 _ (fr4.next s4 g4) (wpO_imp (wpO_bind w4) fun y S4 w5 W5 H5 v5 s5 g5 r5 => ?_)
        have e5 : H5 Da = some (.lst vacc) := s5.keep _ _ e4 m4c fun z => z
        have m5 := s5.stayG hp4 m4
        have m5c := s5.stayC hp4 m4c
        have le5 := (s3.trans (s4.trans s5)).le
        refine ⟨vacc, e5, limLt (by rw [ra.length]; omega), W5, S4, acc ++ [y], vacc ++ [v5], (s14.trans s5).mut (.inl hDa), g5.own m5 m5c, m5, m5c, upd_same, (ra.mono le5).append (RpL.one r5), by rw [List.length_append, List.length_singleton]; omega, ?_⟩
        have w5 : wpO (M.bind (lcLoop (fun x => noX (lcTurn (wipeE env vs) dg dt dx x)) (xs.drop (i + 1))) (fun zs => M.pure (.lst (acc ++ ([y] ++ zs)))) S4) (PF K L W H Q) (XP K L F E) := w5
        have ef : (fun zs => (M.pure (D.lst (acc ++ ([y] ++ zs))) : M D)) = fun zs => M.pure (.lst ((acc ++ [y]) ++ zs)) := by
          funext zs
          rw [List.append_assoc]
        rw [ef] at w5
        exact w5
      | false =>
        have w4 : wpO (M.bind (lcLoop (fun x => noX (lcTurn (wipeE env vs) dg dt dx x)) (xs.drop (i + 1))) (fun zs => M.pure (.lst (acc ++ zs))) S3) (PF K L W H Q) (XP K L F E) := w4
        exact ⟨W4, S3, acc, vacc, s14, g4, m4, m4c, e4, ra.mono (s3.trans s4).le, by omega, w4⟩
  · rintro H2 ⟨W2, S2, acc, vacc, s2, g2, n1, n2, eD, ra, la, w2⟩
    rw [List.drop_length] at w2
    have w2 : PF K L W H Q (.lst (acc ++ [])) S2 := w2
    rw [List.append_nil] at w2
    exact w2 W2 H2 Da (st1.trans s2) g2 (st1.was hDa) n1 n2 ⟨vacc, eD, ra⟩
theorem lsts_lc {vs : List Nat} {di : DI} {dg : DG} {dt : DB} {dx : DE} : Lsts (dLc vs di dg dt dx) := by
  intro env S d S' h
  unfold dLc M.bind at h
  cases q : di env S with
  | ok xs S1 =>
    rw [q] at h
    have h : (if xs.length ≤ 50000 then M.bind (lcLoop (fun x => noX (lcTurn (wipeE env vs) dg dt dx x)) xs) (fun ys => M.pure (.lst ys)) else stk) S1 = .ok d S' := h
    split at h
    · unfold M.bind at h
      cases q2 : lcLoop (fun x => noX (lcTurn (wipeE env vs) dg dt dx x)) xs S1 with
      | ok ys S2 =>
        rw [q2] at h
        cases h
        exact ⟨ys, rfl⟩
      | exc c fs S2 =>
        rw [q2] at h
        cases h
      | stuck =>
        rw [q2] at h
        cases h
    · cases h
  | exc c fs S2 =>
    rw [q] at h
    cases h
  | stuck =>
    rw [q] at h
    cases h
end
end Sk

set_option Elab.async false
set_option linter.all false
set_option maxRecDepth 100000
set_option maxHeartbeats 2000000
set_option autoImplicit false
/-! SkT: statements, defs, calls. -/
namespace Sk
open PySem PySem.Spec PyProof.Rows L2
section
variable (K : PySem.W.Frag) (L : Ly) (E : XK)
/-- what is wanted behind a statement -/
def PFl (F : FD) (W : Wd) (D : Ends) : Flow → Store → Prop := fun fl S' => match fl with
  | .next env => ∀ W' H' σ', Le W W' → Frm K L F W' H' S' env σ' → D.nx σ' H'
  | .ret d => ∀ W' H' v, Stp F.ex F.W0 F.H0 W' H' → Gd K L W' H' S' → Rp K L W' d v → D.rt v H'
  | .brk env => ∀ W' H' σ', Le W W' → Frm K L F W' H' S' env σ' → D.bk σ' H'
  | .cont env => ∀ W' H' σ', Le W W' → Frm K L F W' H' S' env σ' → D.ct σ' H'
def SemS (ds : DS) (t : TS) : Prop := ∀ (F : FD) W H S env σ D, Frm K L F W H S env σ → wpO (ds env S) (PFl K L F W D) (XP K L F E) → t D σ H
structure S1 (X : Cx) (st : Stmt) (t : TS) (ds : DS) : Prop where
  p : PS X st t
  s : SemS K L E ds t
structure SS (X : Cx) (sts : List Stmt) (t : TS) (ds : DS) : Prop where
  p : PSs X sts t
  s : SemS K L E ds t
end
section
variable {X : Cx} {K : PySem.W.Frag} {L : Ly} {E : XK} {a b c e : Expr} {es : List Expr} {ta tb tc : TE} {da db dc : DE} {pos p : Pos} {st : Stmt} {rest : List Stmt} {t u : TS} {d1 d2 : DS} {F : FD} {tt : TT} {dt : DB}
theorem PFl.mono {D : Ends} {W W1 : Wd} (le : Le W W1) {fl : Flow} {S : Store} (h : PFl K L F W D fl S) : PFl K L F W1 D fl S := by
  cases fl with
  | next env => exact fun W' H' σ' l => h W' H' σ' (le.trans l)
  | ret d => exact h
  | brk env => exact fun W' H' σ' l => h W' H' σ' (le.trans l)
  | cont env => exact fun W' H' σ' l => h W' H' σ' (le.trans l)
theorem ss_nil : SS K L E X [] tNext sNext := ⟨pss_nil, fun F W H S env σ D fr w => w W H σ (Le.refl W) fr⟩
theorem ss_one (h : S1 K L E X st t d1) : SS K L E X [st] t d1 := ⟨pss_one h.p, h.s⟩
theorem ss_cons (h1 : S1 K L E X st t d1) (h2 : SS K L E X rest u d2) : SS K L E X (st :: rest) (tSeq t u) (sSeq d1 d2) := by
  refine ⟨pss_cons h1.p h2.p, fun F W H S env σ D fr w => ?_⟩
  refine h1.s F W H S env σ _ fr (wpO_imp (wpO_bind w) fun fl S1 w1 => ?_)
  cases fl with
  | next env' => exact fun W' H' σ' le fr' => h2.s F W' H' S1 env' σ' D fr' (wpO_imp w1 fun fl S q => q.mono le)
  | ret d => exact w1
  | brk e => exact w1
  | cont e => exact w1
theorem s1_pass : S1 K L E X (.Pass pos) tNext sNext := ⟨ps_pass, fun F W H S env σ D fr w => w W H σ (Le.refl W) fr⟩
theorem s1_break : S1 K L E X (.Break pos) tBreak sBreak := ⟨ps_break, fun F W H S env σ D fr w => w W H σ (Le.refl W) fr⟩
theorem s1_cont : S1 K L E X (.Continue pos) tCont sCont := ⟨ps_continue, fun F W H S env σ D fr w => w W H σ (Le.refl W) fr⟩
theorem s1_never : S1 K L E X st tNever sStk := ⟨ps_never, fun F W H S env σ D fr w => w⟩
theorem s1_expr (ha : SE X K L E a ta da) (hs : swapsWith a none pos.line X.env = pure false := by rfl) : S1 K L E X (.Expr a pos) (tDrop ta) (sExpr da) := by
  refine ⟨ps_expr ha.p hs, fun F W H S env σ D fr w => ?_⟩
  exact ha.s F W H S env σ _ fr (wpO_imp (wpO_bind w) fun x S1 w1 W1 H1 v1 st1 g1 r1 => w1 W1 H1 σ st1.le (fr.next st1 g1))
theorem s1_ret (ha : SE X K L E a ta da) : S1 K L E X (.Return (some a) pos) (tRet ta) (sRet da) := by
  refine ⟨ps_ret ha.p, fun F W H S env σ D fr w => ?_⟩
  exact ha.s F W H S env σ _ fr (wpO_imp (wpO_bind w) fun x S1 w1 W1 H1 v1 st1 g1 r1 => w1 W1 H1 v1 (fr.step.trans st1.weak) g1 r1)
theorem s1_retN : S1 K L E X (.Return none pos) tRetN sRetN := ⟨ps_retN, fun F W H S env σ D fr w => w W H .non fr.step fr.good rfl⟩
theorem s1_if {sa sb : List Stmt} (hc : ST X K L E c tt dt) (ha : SS K L E X sa t d1) (hb : SS K L E X sb u d2) : S1 K L E X (.If c sa sb pos) (tIfS tt t u) (sIf dt d1 d2) := by
  refine ⟨ps_if hc.p ha.p hb.p, fun F W H S env σ D fr w => ?_⟩
  refine hc.s F W H S env σ _ fr (wpO_imp (wpO_bind w) fun x S1 w1 W1 H1 st1 g1 => ?_)
  cases x with
  | true => exact ha.s F W1 H1 S1 env σ D (fr.next st1 g1) (wpO_imp w1 fun fl S q => q.mono st1.le)
  | false => exact hb.s F W1 H1 S1 env σ D (fr.next st1 g1) (wpO_imp w1 fun fl S q => q.mono st1.le)
theorem sem_asg {is : List Nat} {g : TG} {dg : DG} (ha : Sem K L E da ta) (hg : SemG K L is dg g) : SemS K L E (sAsg da dg) (tAsg ta g) := by
  intro F W H S env σ D fr w
  refine ha F W H S env σ _ fr (wpO_imp (wpO_bind w) fun x S1 w1 W1 H1 v1 st1 g1 r1 => ?_)
  obtain ⟨env', e, w1⟩ := wpO_lift (wpO_bind w1)
  exact hg F W1 H1 S1 env σ x v1 _ env' (fr.next st1 g1) r1 e fun σ' fr' _ => w1 W1 H1 σ' st1.le fr'
theorem s1_asg {tg : Expr} {is : List Nat} {g : TG} {dg : DG} (ha : SE X K L E a ta da) (hg : SG K L X is tg g dg) (hs : swapsWithSole [tg] a pos.line X.env = pure false := by rfl) (hw : swappedStores [tg] a X.env = pure none := by rfl)
    (h1 : (assignEach [tg] X.env).map (·.2) = [assign tg X.env] := by rfl) : S1 K L E X (.Assign [tg] a pos) (tAsg ta g) (sAsg da dg) := ⟨ps_asg ha.p hg.p hs hw h1, sem_asg ha.s hg.s⟩
theorem semG_name {i : Nat} : SemG K L [i] (gSet i) (gName i) := fun F W H S env σ d v Q env' fr r e h => by
  cases e
  exact h _ (fr.set r) Chg.set
theorem s1_set (i : Nat) {x : Str} {pos' : Pos} (hN : X.N.Nodup) (ha : SE X K L E a ta da) (hi : X.N[i]? = some x := by rfl) (hx : Loc X.env.scope x := by first | exact Or.inl rfl | exact Or.inr rfl)
    (hs : swapsWith a (some (.Name x pos')) pos.line X.env = pure false := by rfl) (hf : X.fn x = true ∨ X.env.scope.names.lookup x = some .local := by first | exact .inl rfl | exact .inr rfl | assumption) :
    S1 K L E X (.Assign [.Name x pos'] a pos) (tAsg ta (gName i)) (sAsg da (gSet i)) := ⟨ps_set hN hi hx ha.p hs hf, sem_asg ha.s semG_name⟩
/-- the name of a list comprehension on one line -/
theorem s1_setLc (i : Nat) {y : Str} {py spos : Pos} {elt tg iter : Expr} {ifs : List Expr} {scope : Scope} {own : List (Str × Nat)} {is : List Nat} {wi : TI} {g : TG} {tq : TT} {te : TE} {di : DI} {dg : DG} {dq : DB} {dx : DE} (hc : X.calm = true) (hN : X.N.Nodup) (hi : SI K L X E tg iter wi di)
    (ok : BlkOk X.N X.env.scope scope own)
    (hg : ∀ (s : Shared) (H : Hp) (C : Addr) (cl : List (Str × Addr)) (fp : List Addr), SG K L (X.blk s H scope (compEnvC scope cl C X.env) fp) is tg g dg)
    (ht : ∀ (s : Shared) (H : Hp) (C : Addr) (cl : List (Str × Addr)) (fp : List Addr), STs (X.blk s H scope (compEnvC scope cl C X.env) fp) K L E0 ifs tq dq)
    (he : ∀ (s : Shared) (H : Hp) (C : Addr) (cl : List (Str × Addr)) (fp : List Addr), SE (X.blk s H scope (compEnvC scope cl C X.env) fp) K L E0 elt te dx)
    (hy : X.N[i]? = some y := by rfl) (hyl : X.env.scope.names.lookup y = some .local := by rfl)
    (hsw : swapsWith (.ListComp elt [⟨tg, iter, ifs, 0⟩] scope pos) (some (.Name y py)) spos.line X.env = pure true := by exact sw_true rfl rfl rfl (by decide +kernel))
    (hsub : ∀ i, i ∈ is → i ∈ own.map (·.2) := by decide) (hs : ∀ x, foldedSetIterable iter X.env x = pure x := by intro _; rfl) :
    S1 K L E X (.Assign [.Name y py] (.ListComp elt [⟨tg, iter, ifs, 0⟩] scope pos) spos) (tAsg (tLc wi g tq te (own.map (·.2))) (gName i)) (sAsg (dLc (own.map (·.2)) di dg dq dx) (gSet i)) :=
  ⟨ps_setLc hc hN hy hyl hsw hi.p ok (fun s H C cl fp => (hg s H C cl fp).p) (fun s H C cl fp => (ht s H C cl fp).p) (fun s H C cl fp => (he s H C cl fp).p) hs,
    sem_asg (se_sf (sf_lc (pos := pos) hc hN hi ok hg ht he hsub hs) lsts_lc).s semG_name⟩
theorem s1_par2 (i j : Nat) {x y : Str} {px py pt : Pos} {kt k2 : Nat} {pt2 : Pos} (hc : X.calm = true) (hN : X.N.Nodup) (ha : SE X K L E a ta da) (hb : SE X K L E b tb db) (hi : X.N[i]? = some x := by rfl) (hj : X.N[j]? = some y := by rfl) (hij : i ≠ j := by decide)
    (hx : X.env.scope.names.lookup x = some .local := by rfl) (hy : X.env.scope.names.lookup y = some .local := by rfl)
    (hst : starEach [a, b] X.env = (false, eval a X.env) :: starEach [b] X.env := by rfl) (hst2 : starEach [b] X.env = (false, eval b X.env) :: starEach [] X.env := by rfl)
    (hw : swappedStores [.Tuple [.Name x px, .Name y py] kt pt] (.Tuple [a, b] k2 pt2) X.env = pure (some [x, y]) := by rfl)
    (hs : swapsWithSole [.Tuple [.Name x px, .Name y py] kt pt] (.Tuple [a, b] k2 pt2) pos.line X.env = pure false := by rfl) :
    S1 K L E X (.Assign [.Tuple [.Name x px, .Name y py] kt pt] (.Tuple [a, b] k2 pt2) pos) (tPar i j (tCons ta (tCons tb tNil))) (sPar2 i j da db) := by
  refine ⟨ps_par hc hN hi hj hij hx hy (pa_cons ha.p (pa_cons hb.p pa_nil hst2) hst) hw hs, fun F W H S env σ D fr w => ?_⟩
  refine ha.s F W H S env σ _ fr (wpO_imp (wpO_bind w) fun x S1 w1 W1 H1 v1 st1 g1 r1 => ?_)
  refine hb.s F W1 H1 S1 env σ _ (fr.next st1 g1) (wpO_imp (wpO_bind w1) fun y S2 w2 W2 H2 v2 st2 g2 r2 => ?_)
  exact ⟨v1, v2, rfl, w2 W2 H2 _ (st1.trans st2).le ((((fr.next st1 g1).next st2 g2).set (r1.mono st2.le)).set r2)⟩
theorem s1_par3 (i j l : Nat) {x y z : Str} {px py pz pt : Pos} {kt k2 : Nat} {pt2 : Pos} (hc : X.calm = true) (hN : X.N.Nodup) (ha : SE X K L E a ta da) (hb : SE X K L E b tb db) (hcc : SE X K L E c tc dc) (hi : X.N[i]? = some x := by rfl) (hj : X.N[j]? = some y := by rfl) (hl : X.N[l]? = some z := by rfl) (hij : i ≠ j := by decide) (hil : i ≠ l := by decide) (hjl : j ≠ l := by decide)
    (hx : X.env.scope.names.lookup x = some .local := by rfl) (hy : X.env.scope.names.lookup y = some .local := by rfl) (hz : X.env.scope.names.lookup z = some .local := by rfl)
    (hst : starEach [a, b, c] X.env = (false, eval a X.env) :: starEach [b, c] X.env := by rfl) (hst2 : starEach [b, c] X.env = (false, eval b X.env) :: starEach [c] X.env := by rfl) (hst3 : starEach [c] X.env = (false, eval c X.env) :: starEach [] X.env := by rfl)
    (hw : swappedStores [.Tuple [.Name x px, .Name y py, .Name z pz] kt pt] (.Tuple [a, b, c] k2 pt2) X.env = pure (some [x, y, z]) := by rfl)
    (hs : swapsWithSole [.Tuple [.Name x px, .Name y py, .Name z pz] kt pt] (.Tuple [a, b, c] k2 pt2) pos.line X.env = pure false := by rfl) :
    S1 K L E X (.Assign [.Tuple [.Name x px, .Name y py, .Name z pz] kt pt] (.Tuple [a, b, c] k2 pt2) pos) (tPar3 i j l (tCons ta (tCons tb (tCons tc tNil)))) (sPar3 i j l da db dc) := by
  refine ⟨ps_par3 hc hN hi hj hl hij hil hjl hx hy hz (pa_cons ha.p (pa_cons hb.p (pa_cons hcc.p pa_nil hst3) hst2) hst) hw hs, fun F W H S env σ D fr w => ?_⟩
  refine ha.s F W H S env σ _ fr (wpO_imp (wpO_bind w) fun x S1 w1 W1 H1 v1 st1 g1 r1 => ?_)
  refine hb.s F W1 H1 S1 env σ _ (fr.next st1 g1) (wpO_imp (wpO_bind w1) fun y S2 w2 W2 H2 v2 st2 g2 r2 => ?_)
  refine hcc.s F W2 H2 S2 env σ _ ((fr.next st1 g1).next st2 g2) (wpO_imp (wpO_bind w2) fun z S3 w3 W3 H3 v3 st3 g3 r3 => ?_)
  exact ⟨v1, v2, v3, rfl, w3 W3 H3 _ (st1.trans (st2.trans st3)).le ((((((fr.next st1 g1).next st2 g2).next st3 g3).set (r1.mono (st2.trans st3).le)).set (r2.mono st3.le)).set r3)⟩
theorem s1_aug (i : Nat) {x : Str} {op : Operator} {r : R2} {f : D → D → M D} {pos' : Pos} (ho : OpR X (inplaceOp op) r) (hf : OpS K L r f) (hN : X.N.Nodup) (ha : SE X K L E a ta da) (hi : X.N[i]? = some x := by rfl) (hx : Loc X.env.scope x := by first | exact Or.inl rfl | exact Or.inr rfl)
    (hfn : X.fn x = true ∨ X.env.scope.names.lookup x = some .local := by first | exact .inl rfl | exact .inr rfl | assumption) : S1 K L E X (.AugAssign (.Name x pos') op a pos) (tAug i ta r) (sAug i f da) := by
  refine ⟨ps_aug hN hi hx ha.p (fun pins s σ H x y v u Q I rx ry h => ho pins s σ H x y v u Q I rx ry h) hfn, fun F W H S env σ D fr w => ?_⟩
  have w := wpO_bind w
  unfold dVar at w
  cases q : env[i]? with
  | none =>
    rw [q] at w
    exact w.elim
  | some s =>
    rw [q] at w
    have hs := fr.sl i s q
    cases s with
    | no => exact w.elim
    | own d => exact w.elim
    | shr d =>
      obtain ⟨v, e1, r0⟩ := hs
      refine ⟨v, e1, ?_⟩
      have w : wpO (M.bind (da env) (fun y => M.bind (f d y) fun z => M.pure (.next (env.set i (.shr z)))) S) (PFl K L F W D) (XP K L F E) := w
      refine ha.s F W H S env σ _ fr (wpO_imp (wpO_bind w) fun y S1 w1 W1 H1 v1 st1 g1 r1 => ?_)
      exact hf W1 H1 S1 d y v v1 _ _ g1 (.inl (r0.mono st1.le)) (.inl r1) (wpO_imp (wpO_bind w1) fun z S2 w2 W2 H2 v2 st2 g2 r2 => w2 W2 H2 _ (st1.trans st2).le (((fr.next st1 g1).next st2 g2).set r2))

/-! ### loops -/
theorem s1_for {tg iter : Expr} {body : List Stmt} {is : List Nat} {wi : TI} {g : TG} {di : DI} {dg : DG} (hp : PassesOwn (model X.prog X.w) X.A X.env X.xe) (hc : X.calm = true) (hi : SI K L X E tg iter wi di) (hg : SG K L X is tg g dg) (hb : SS K L E X body t d1)
    (hs : ∀ x, foldedSetIterable iter X.env x = pure x := by intro _; rfl) : S1 K L E X (.For tg iter body [] pos) (tFor wi g t) (sFor di dg d1) := by
  refine ⟨ps_for hp hc hi.p hg.p hb.p hs, fun F W H S env σ D fr w => ?_⟩
  refine hi.s F W H S env σ _ fr (wpO_imp (wpO_bind w) fun xs S1 w1 W1 H1 J st1 g1 wk => ?_)
  obtain ⟨G, Y, walk, hG, hY⟩ := wk
  refine for_it walk (fun i σ' H' => ∃ W2 S2 env2, Le W1 W2 ∧ Frm K L F W2 H' S2 env2 σ' ∧ wpO (forLoop (fun x e => M.bind (lift (dg x e)) d1) (xs.drop i) env2 S2) (PFl K L F W2 D) (XP K L F E))
    ⟨W1, S1, env, Le.refl _, fr.next st1 g1, wpO_imp w1 fun fl S q => q.mono st1.le⟩ (fun i σ' H' hi ⟨W2, S2, env2, le, fr2, _⟩ => hG W2 H' S2 le fr2.good) ?_ ?_
  · rintro i x σ2 H2 H3 hi ⟨W2, S2, env2, le, fr2, w2⟩ hy
    obtain ⟨W3, d, s3, g3, ed, rd⟩ := hY i W2 H2 S2 x H3 le fr2.good hi hy
    have hd : xs.drop i = d :: xs.drop (i + 1) := by
      rw [List.drop_eq_getElem_cons hi]
      have := (List.getElem?_eq_some_iff.mp ed).2
      rw [this]
    rw [hd] at w2
    have w3 := wpO_bind (wpO_bind w2)
    obtain ⟨env3, e3, w3⟩ := wpO_lift w3
    refine hg.s F W3 H3 S2 env2 σ2 d x _ env3 (fr2.next s3 g3) rd e3 fun σ3 fr3 _ => ?_
    refine hb.s F W3 H3 S2 env3 σ3 _ fr3 (wpO_imp w3 fun fl S4 w4 => ?_)
    have le3 := le.trans s3.le
    cases fl with
    | next e4 => exact fun W4 H4 σ4 l4 fr4 => ⟨W4, S4, e4, le3.trans l4, fr4, wpO_imp w4 fun fl S q => q.mono (s3.le.trans l4)⟩
    | cont e4 => exact fun W4 H4 σ4 l4 fr4 => ⟨W4, S4, e4, le3.trans l4, fr4, wpO_imp w4 fun fl S q => q.mono (s3.le.trans l4)⟩
    | brk e4 => exact fun W4 H4 σ4 l4 fr4 => w4 W4 H4 σ4 (s3.le.trans l4) fr4
    | ret d4 => exact w4
  · rintro σ2 H2 ⟨W2, S2, env2, le, fr2, w2⟩
    rw [List.drop_length] at w2
    exact w2 W2 H2 σ2 (Le.refl _) fr2
theorem s1_while {cc : Expr} {body : List Stmt} (hp : PassesOwn (model X.prog X.w) X.A X.env X.xe) (hc : ST X K L E cc tt dt) (hb : SS K L E X body t d1) : S1 K L E X (.While cc body [] pos) (tWhile tt t) (sWhile dt d1) := by
  refine ⟨ps_while hp hc.p hb.p, fun F W H S env σ D fr w => ?_⟩
  refine ⟨fun m σ' H' => ∃ W2 S2 env2, Frm K L F W2 H' S2 env2 σ' ∧ wpO (whileLoop dt d1 m env2 S2) (PFl K L F W2 D) (XP K L F E), ⟨100000, W, S, env, fr, w⟩, ?_⟩
  rintro m σ1 H1 ⟨W1, S1, env1, fr1, w1⟩
  cases m with
  | zero => exact w1.elim
  | succ m =>
    refine hc.s F W1 H1 S1 env1 σ1 _ fr1 (wpO_imp (wpO_bind w1) fun b S2 w2 W2 H2 st2 g2 => ?_)
    cases b with
    | false => exact w2 W2 H2 σ1 st2.le (fr1.next st2 g2)
    | true =>
      have w2 : wpO (M.bind (d1 env1) (fun fl => (match fl with
        | .next e => whileLoop dt d1 m e
        | .cont e => whileLoop dt d1 m e
        | .brk e => M.pure (.next e)
        | .ret d => M.pure (.ret d))) S2) (PFl K L F W1 D) (XP K L F E) := w2
      refine ⟨fun σ' H' => ∃ W2 S2 env2, Frm K L F W2 H' S2 env2 σ' ∧ wpO (whileLoop dt d1 m env2 S2) (PFl K L F W2 D) (XP K L F E), fun σ' H' h => ⟨m, Nat.lt_succ_self m, h⟩, ?_⟩
      refine hb.s F W2 H2 S2 env1 σ1 _ (fr1.next st2 g2) (wpO_imp (wpO_bind w2) fun fl S4 w4 => ?_)
      cases fl with
      | next e4 => exact fun W4 H4 σ4 l4 fr4 => ⟨W4, S4, e4, fr4, wpO_imp w4 fun fl S q => q.mono (st2.le.trans l4)⟩
      | cont e4 => exact fun W4 H4 σ4 l4 fr4 => ⟨W4, S4, e4, fr4, wpO_imp w4 fun fl S q => q.mono (st2.le.trans l4)⟩
      | brk e4 => exact fun W4 H4 σ4 l4 fr4 => w4 W4 H4 σ4 (st2.le.trans l4) fr4
      | ret d4 => exact w4
end
end Sk

set_option Elab.async false
set_option linter.all false
set_option maxRecDepth 100000
set_option maxHeartbeats 2000000
set_option autoImplicit false
/-! SkU: things that change, defs and calls. -/
namespace Sk
open PySem PySem.Spec PyProof.Rows L2
section
variable {K : PySem.W.Frag} {L : Ly} {F : FD} {W W' : Wd} {H H' : Hp} {S S' : Store} {env : Env} {σ : L2.St}
theorem Frm.setOwn (fr : Frm K L F W H S env σ) {i : Nat} {d : D} {p : Addr} (n1 : W.G p = none) (n2 : p ∉ W.ca) (n3 : OwnOk F p d) (c : CellAt K L W H p d)
    (hx : ∀ j e, env[j]? = some (.own e) → j ≠ i → σ[j]? ≠ some (some (.ref p))) : Frm K L F W H S (env.set i (.own d)) (σ.set i (some (.ref p))) where
  good := fr.good
  step := fr.step
  len := by rw [List.length_set, List.length_set, fr.len]
  sl := fun j s e => by
    by_cases h : i = j
    · subst h
      by_cases hl : i < env.length
      · rw [List.getElem?_set_self hl] at e
        cases e
        exact ⟨p, List.getElem?_set_self (by rw [fr.len]; exact hl), n1, n2, n3, c⟩
      · rw [List.getElem?_eq_none (by rw [List.length_set]; omega)] at e
        cases e
    · rw [List.getElem?_set_ne h] at e ⊢
      exact fr.sl j s e
  sep := fun a b d1 e1 q h h1 h2 h3 => by
    have lenE : ∀ c, c < env.length → c < σ.length := fun c z => by rw [fr.len]; exact z
    by_cases ha : i = a
    · subst ha
      have hb : i ≠ b := h
      have hl : i < env.length := by
        rcases Nat.lt_or_ge i env.length with z | z
        · exact z
        · rw [List.getElem?_eq_none (by rw [List.length_set]; exact z)] at h1
          cases h1
      rw [List.getElem?_set_self (lenE _ hl)] at h3
      cases h3
      rw [List.getElem?_set_ne hb] at h2 ⊢
      exact hx b _ h2 (Ne.symm hb)
    · rw [List.getElem?_set_ne ha] at h1 h3
      by_cases hb : i = b
      · subst hb
        have hl : i < env.length := by
          rcases Nat.lt_or_ge i env.length with z | z
          · exact z
          · rw [List.getElem?_eq_none (by rw [List.length_set]; exact z)] at h2
            cases h2
        rw [List.getElem?_set_self (lenE _ hl)]
        intro z
        cases z
        exact hx a _ h1 (Ne.symm ha) h3
      · rw [List.getElem?_set_ne hb] at h2 ⊢
        exact fr.sep a b _ _ q h h1 h2 h3
/-- a thing of this frame's own has changed -/
theorem Frm.mutOwn (fr : Frm K L F W H S env σ) {i : Nat} {d d' : D} {p : Addr} {o : HO} (he : env[i]? = some (.own d)) (hs : σ[i]? = some (some (.ref p))) (n1 : W.G p = none) (n2 : p ∉ W.ca) (n3 : OwnOk F p d') (c : CellAt K L W (upd H p o) p d') :
    Frm K L F W (upd H p o) S (env.set i (.own d')) σ where
  good := fr.good.own n1 n2
  step := fr.step.mut n3.or
  len := by rw [List.length_set, fr.len]
  sl := fun j s e => by
    by_cases h : i = j
    · subst h
      rw [List.getElem?_set_self (List.getElem?_eq_some_iff.mp he).1] at e
      cases e
      exact ⟨p, hs, n1, n2, n3, c⟩
    · rw [List.getElem?_set_ne h] at e
      have q := fr.sl j s e
      cases s with
      | no => trivial
      | shr d => exact q
      | own x =>
        obtain ⟨p2, e1, m1, m2, m3, c2⟩ := q
        refine ⟨p2, e1, m1, m2, m3, c2.to (Le.refl W) fun u eu => ?_⟩
        rw [upd_ne (fun z => ?_)]
        · exact eu
        · subst z
          exact fr.sep i j _ _ p2 h he e hs e1
  sep := fun a b d1 e1 q h h1 h2 h3 => by
    have get : ∀ (c : Nat) (x : D), (env.set i (.own d'))[c]? = some (.own x) → ∃ y : D, env[c]? = some (.own y) := fun c x z => by
      by_cases hc : i = c
      · subst hc
        exact ⟨_, he⟩
      · rw [List.getElem?_set_ne hc] at z
        exact ⟨_, z⟩
    obtain ⟨y1, z1⟩ := get a _ h1
    obtain ⟨y2, z2⟩ := get b _ h2
    exact fr.sep a b _ _ q h z1 z2 h3
/-- a thing of one's own that nobody has seen is no other slot's -/
theorem Frm.alone (fr : Frm K L F W H S env σ) {p : Addr} (h : H p = none) : ∀ (j : Nat) (e : D), env[j]? = some (.own e) → σ[j]? ≠ some (some (.ref p)) := fun j e he z => by
  obtain ⟨q, e1, _, _, _, c⟩ := fr.sl j _ he
  rw [e1] at z
  cases z
  exact c.ne h
/-- a thing with an identity has changed -/
theorem Gd.setCel (g : Gd K L W H S) {n : Nat} {a : Addr} {c : D} {o : HO} (e : W.ca[n]? = some a) (hc : CellAt K L W (upd H a o) a c) : Gd K L W (upd H a o) (S.set n c) where
  fz := fun b u q => by
    rw [upd_ne (ne_of_none q (g.cn a (List.mem_of_getElem? e)))]
    exact g.fz b u q
  cn := g.cn
  nd := g.nd
  ln := by rw [List.length_set, g.ln]
  ce := fun m d b e1 e2 => by
    by_cases h : n = m
    · subst h
      rw [e] at e2
      cases e2
      have hl : n < S.length := by rw [← g.ln]; exact (List.getElem?_eq_some_iff.mp e).1
      rw [List.getElem?_set_self hl] at e1
      cases e1
      exact hc
    · rw [List.getElem?_set_ne h] at e1
      refine (g.ce m d b e1 e2).to (Le.refl W) fun u eu => ?_
      rw [upd_ne (fun z => ?_)]
      · exact eu
      · subst z
        exact h (nd_ix g.nd e e2)
theorem Stp.setCel {a : Addr} {o : HO} (h : a ∈ W.ca) : Stp noEx W H W (upd H a o) :=
  ⟨Le.refl W, fun b u e n _ => by
    rw [upd_ne (fun z => n (by rw [z]; exact h))]
    exact e, fun b z => upd_dom z, fun b z => .inl z, fun b z => .inl z⟩
def Wd.cel (W : Wd) (p : Addr) : Wd := ⟨W.G, W.ca ++ [p]⟩
theorem Le.cel' {p : Addr} : Le W (W.cel p) := ⟨fun _ _ h => h, [p], rfl⟩
theorem Stp.newCel {p : Addr} {o : HO} (h : H p = none) : Stp noEx W H (W.cel p) (upd H p o) :=
  ⟨Le.cel', fun b u e _ _ => by
    rw [upd_ne (ne_of_none e h)]
    exact e, fun b z => upd_dom z, fun b z => .inl z, fun b z => by
    rcases List.mem_append.mp z with z | z
    · exact .inl z
    · rw [List.mem_singleton.mp z]
      exact .inr h⟩
theorem Gd.newCel (g : Gd K L W H S) {p : Addr} {c : D} {o : HO} (h : H p = none) (hc : CellAt K L (W.cel p) (upd H p o) p c) : Gd K L (W.cel p) (upd H p o) (S ++ [c]) where
  fz := fun b u q => by
    rw [upd_ne (ne_of_none q (g.freeG h))]
    exact g.fz b u q
  cn := fun a m => by
    rcases List.mem_append.mp m with m | m
    · exact g.cn a m
    · rw [List.mem_singleton.mp m]
      exact g.freeG h
  nd := by
    show (W.ca ++ [p]).Nodup
    refine List.nodup_append.mpr ⟨g.nd, by simp, fun a ha b hb => ?_⟩
    rw [List.mem_singleton.mp hb]
    exact fun z => g.freeC h (by rw [← z]; exact ha)
  ln := by
    show (W.ca ++ [p]).length = (S ++ [c]).length
    rw [List.length_append, List.length_append, g.ln]
    rfl
  ce := fun m d b e1 e2 => by
    have e2 : (W.ca ++ [p])[m]? = some b := e2
    rcases Nat.lt_or_ge m S.length with hl | hl
    · rw [List.getElem?_append_left hl] at e1
      rw [List.getElem?_append_left (by rw [g.ln]; exact hl)] at e2
      refine (g.ce m d b e1 e2).to Le.cel' fun u eu => ?_
      rw [upd_ne (ne_of_none eu h)]
      exact eu
    · have hm : m = S.length := by
        have := (List.getElem?_eq_some_iff.mp e1).1
        rw [List.length_append, List.length_singleton] at this
        omega
      subst hm
      rw [List.getElem?_append_right (Nat.le_refl _), Nat.sub_self] at e1
      rw [List.getElem?_append_right (by rw [g.ln]; exact Nat.le_refl _), g.ln, Nat.sub_self] at e2
      cases e1
      cases e2
      exact hc
end
section
variable {X : Cx} {K : PySem.W.Frag} {L : Ly} {E : XK} {a b c e : Expr} {es : List Expr} {ta tb tc : TE} {da db dc : DE} {tr : TA} {dr : DA} {pos p : Pos} {st : Stmt} {rest : List Stmt} {t u : TS} {d1 d2 : DS} {F : FD} {tt : TT} {dt : DB}
theorem s1_own (i : Nat) {x : Str} {pos' : Pos} (hN : X.N.Nodup) (ha : SF X K L E a ta da) (hi : X.N[i]? = some x := by rfl) (hx : Loc X.env.scope x := by first | exact Or.inl rfl | exact Or.inr rfl)
    (hs : swapsWith a (some (.Name x pos')) pos.line X.env = pure false := by rfl) (hf : X.fn x = true ∨ X.env.scope.names.lookup x = some .local := by first | exact .inl rfl | exact .inr rfl | assumption) :
    S1 K L E X (.Assign [.Name x pos'] a pos) (tAsg ta (gName i)) (sOwn i da) := by
  refine ⟨ps_set hN hi hx ha.p hs hf, fun F W H S env σ D fr w => ?_⟩
  refine ha.s F W H S env σ _ fr (wpO_imp (wpO_bind w) fun d S1 w1 W1 H1 p st1 g1 hp n1 n2 c => ?_)
  have fr1 := fr.next st1 g1
  obtain ⟨no, w1⟩ := wpO_ite w1
  refine w1 W1 H1 _ st1.le (fr1.setOwn n1 n2 (OwnOk.of no (.inl (fr.step.was hp))) c fun j e he hj z => ?_)
  exact fr.alone hp j e he z
theorem sf_lst (h : SA X K L E es tr dr) : SF X K L E (.List es pos) (tLst tr) (dLst dr) := by
  refine ⟨h.hK, pe_lst h.p, fun F W H S env σ Q fr w => ?_⟩
  refine h.s F W H S env σ _ fr (wpO_imp (wpO_bind w) fun x S1 w1 W1 H1 vs st1 g1 r1 => ?_)
  obtain ⟨c, w1⟩ := wpO_ite w1
  refine ⟨lim (by rw [r1.length]; exact c), fun p hp => ?_⟩
  exact w1 W1 (upd H1 p (.lst vs)) p (st1.trans (Stp.own hp)) (g1.own (g1.freeG hp) (g1.freeC hp)) (st1.was hp) (g1.freeG hp) (g1.freeC hp) ⟨vs, upd_same, r1⟩
/-- xs.append(e) -/
theorem s1_append (i : Nat) {x : Str} {px apos cpos : Pos} (ha : SE X K L E a ta da) (hN : X.N[i]? = some x := by rfl) (hv : Vis X.env.scope x := by first | exact Or.inl rfl | exact Or.inr (Or.inl rfl) | exact Or.inr (Or.inr rfl)) (hd : (x == ("__debug__" : Str)) = false := by decide)
    (hcd : (x == ("__classdict__" : Str)) = false := by decide)
    (hs1 : starEach [a] X.env = (false, eval a X.env) :: starEach [] X.env := by rfl)
    (hbase : attributeBase (.Name x px) "append" X.env (eval (.Name x px) X.env) = eval (.Name x px) X.env := by rfl)
    (hfew : ((backTo cpos (starEach [a] X.env)).all (fun x => !x.1) && (backToKw cpos (keywordEach [] X.env)).all (fun x => x.1.isSome)
      && decide ([a].length + ([] : List Keyword).length + (if ([] : List Keyword).isEmpty then 0 else 1) < 30)) = true := by rfl)
    (hline : (apos.endLine == cpos.line) = true := by rfl) (hplain : (backTo cpos (starEach [] X.env)).any (·.1) = false := by rfl)
    (hs : swapsWith (.Call (.Attribute (.Name x px) "append" apos) [a] [] cpos) none pos.line X.env = pure false := by rfl) :
    S1 K L E X (.Expr (.Call (.Attribute (.Name x px) "append" apos) [a] [] cpos) pos) (tDrop (tBM K "list" rAppend (tVar i) (tCons ta tNil))) (sAppend i da) := by
  obtain ⟨rfl, pa, sa⟩ := ha
  refine ⟨ps_expr (pe_bm PySem.F.plainAttrs_list PySem.F.slot_list_append PySem.F.type_list_append mt_append (pe_var hN hv hd hcd) (pa_cons pa pa_nil hs1) hbase hfew hline hs1 hplain) hs, fun F W H S env σ D fr w => ?_⟩
  unfold sAppend at w
  cases q : env[i]? with
  | none =>
    rw [q] at w
    exact w.elim
  | some s =>
    rw [q] at w
    have hs := fr.sl i s q
    cases s with
    | no => exact w.elim
    | shr d => exact w.elim
    | own d =>
      obtain ⟨p, e1, n1, n2, n3, c⟩ := hs
      cases d with
      | lst xs =>
        obtain ⟨vs, e2, r⟩ := c
        refine ⟨.ref p, e1, .inl ⟨rfl, vs, SqL.of e2⟩, ?_⟩
        refine sa F W H S env σ _ fr (wpO_imp (wpO_bind w) fun x S1 w1 W1 H1 v1 st1 g1 r1 => ?_)
        obtain ⟨cl, w1⟩ := wpO_ite w1
        have fr1 := fr.next st1 g1
        have hp : H p ≠ none := by rw [e2]; exact fun z => nomatch z
        have e3 : H1 p = some (.lst vs) := st1.keep _ _ e2 n2 fun z => z
        have m1 := st1.stayG hp n1
        have m2 := st1.stayC hp n2
        refine ⟨p, vs, v1, rfl, rfl, e3, limLt (by rw [r.length]; exact cl), ?_⟩
        exact w1 W1 _ σ st1.le (fr1.mutOwn q e1 m1 m2 n3 ⟨vs ++ [v1], upd_same, (r.mono st1.le).append (RpL.one r1)⟩)
      | _ => exact w.elim
/-- draw = [..], a thing with an identity -/
theorem s1_newCel (i : Nat) {x : Str} {pos' : Pos} (hN : X.N.Nodup) (ha : SF X K L E a ta da) (hi : X.N[i]? = some x := by rfl) (hx : Loc X.env.scope x := by first | exact Or.inl rfl | exact Or.inr rfl)
    (hs : swapsWith a (some (.Name x pos')) pos.line X.env = pure false := by rfl) (hf : X.fn x = true ∨ X.env.scope.names.lookup x = some .local := by first | exact .inl rfl | exact .inr rfl | assumption) :
    S1 K L E X (.Assign [.Name x pos'] a pos) (tAsg ta (gName i)) (sNewCel i da) := by
  refine ⟨ps_set hN hi hx ha.p hs hf, fun F W H S env σ DD fr w => ?_⟩
  refine ha.s F W H S env σ _ fr (wpO_imp (wpO_bind w) fun d S1 w1 W1 H1 p st1 g1 hp n1 n2 c => ?_)
  cases d with
  | lst xs =>
    have fr1 := fr.next st1 g1
    have le : Le W1 (W1.cel p) := Le.cel'
    have g2 : Gd K L (W1.cel p) H1 (S1 ++ [.lst xs]) := by
      refine ⟨g1.fz, fun a m => ?_, ?_, ?_, fun m d b e1 e2 => ?_⟩
      · rcases List.mem_append.mp m with m | m
        · exact g1.cn a m
        · rw [List.mem_singleton.mp m]
          exact n1
      · show (W1.ca ++ [p]).Nodup
        refine List.nodup_append.mpr ⟨g1.nd, by simp, fun a ha b hb => ?_⟩
        rw [List.mem_singleton.mp hb]
        exact fun z => n2 (by rw [← z]; exact ha)
      · show (W1.ca ++ [p]).length = (S1 ++ [D.lst xs]).length
        rw [List.length_append, List.length_append, g1.ln]
        rfl
      · have e2 : (W1.ca ++ [p])[m]? = some b := e2
        rcases Nat.lt_or_ge m S1.length with hl | hl
        · rw [List.getElem?_append_left hl] at e1
          rw [List.getElem?_append_left (by rw [g1.ln]; exact hl)] at e2
          exact (g1.ce m d b e1 e2).to Le.cel' fun u eu => eu
        · have hm : m = S1.length := by
            have := (List.getElem?_eq_some_iff.mp e1).1
            rw [List.length_append, List.length_singleton] at this
            omega
          subst hm
          rw [List.getElem?_append_right (Nat.le_refl _), Nat.sub_self] at e1
          rw [List.getElem?_append_right (by rw [g1.ln]; exact Nat.le_refl _), g1.ln, Nat.sub_self] at e2
          cases e1
          cases e2
          exact CellAt.to Le.cel' (fun _ q => q) c
    have st2 : Stp F.ex F.W0 F.H0 (W1.cel p) H1 :=
      ⟨fr1.step.le.trans le, fr1.step.keep, fr1.step.dom, fr1.step.new, fun b z => by
        have z : b ∈ W1.ca ++ [p] := z
        rcases List.mem_append.mp z with z | z
        · exact fr1.step.newc b z
        · rw [List.mem_singleton.mp z]
          exact .inr (fr.step.was hp)⟩
    have fr2 : Frm K L F (W1.cel p) H1 (S1 ++ [.lst xs]) env σ := by
      refine ⟨g2, st2, fr1.len, fun j s e => ?_, fr1.sep⟩
      have q := fr1.sl j s e
      cases s with
      | no => trivial
      | shr d =>
        obtain ⟨v, e1, r⟩ := q
        exact ⟨v, e1, r.mono le⟩
      | own d =>
        obtain ⟨p2, e1, m1, m2, m3, c2⟩ := q
        refine ⟨p2, e1, m1, fun m => ?_, m3, c2.to le fun _ q => q⟩
        have m : p2 ∈ W1.ca ++ [p] := m
        rcases List.mem_append.mp m with m | m
        · exact m2 m
        · exact fr.alone hp j d e (by rw [← List.mem_singleton.mp m]; exact e1)
    exact w1 (W1.cel p) H1 _ (st1.le.trans le) (fr2.set ⟨p, rfl, by
      show (W1.ca ++ [p])[S1.length]? = some p
      rw [List.getElem?_append_right (by rw [g1.ln]; exact Nat.le_refl _), g1.ln, Nat.sub_self]
      rfl⟩)
  | _ => exact w1.elim
theorem pget_list : PGet X (rIxL X.K) := by
  intro pins s σ H o i ov iv Q I ro ri h
  obtain ⟨p, xs, i, z, rfl, rfl, hq, he, q⟩ := h
  cases ro
  obtain ⟨t, rfl⟩ := ri
  obtain ⟨its, r, pl, hz⟩ := I.list hq
  obtain ⟨j, h1, h2, h3, h4, h5⟩ := atI_get he
  obtain ⟨w, ew, rw'⟩ := r.get h2
  have hl := r.length
  have hn := line63
  have fin : EP X pins σ Q w s := ⟨z, H, I, rw', q⟩
  by_cases h0 : 0 ≤ i
  · have hj : i.toNat = j := by
      rw [seqIndex_of h0 h5] at h1
      exact Option.some.inj h1
    exact wpAny_getItem_list pl.isList h0 (by omega) (by rw [hj]; simpa using ew) fin
  · have hj : (i + (its.toArray.size : Int)).toNat = j := by
      rw [seqIndex_neg (by omega) h4] at h1
      rw [List.size_toArray, ← hl]
      exact Option.some.inj h1
    exact wpAny_getItem_list_neg pl.isList (by omega) (by rw [List.size_toArray] <;> omega) (by omega) (by rw [hj]; simpa using ew) fin
theorem s1_celAug {op : Operator} {r : R2} {f : D → D → M D} {k : Int} {j : Nat} {ipos tpos : Pos} (ho : OpR X (inplaceOp op) r) (hf : OpS K L r f) (ha : SE X K L E a ta da) (hb : SE X K L E b tb db)
    (haug : ∀ ov iv new, augStore (.Constant (.int k) j ipos) ov iv new = (do holding [new, ov, iv] (setItem ov iv new); release [new, ov, iv] []; pure .next) := by intros; rfl) :
    S1 K L E X (.AugAssign (.Subscript a (.Constant (.int k) j ipos) tpos) op b pos) (tAugS ta (tC (.int k)) tb (rIxL K) r rSetL) (sCelAug da k f db) := by
  obtain ⟨rfl, pa, sa⟩ := ha
  refine ⟨ps_augS pa pe_int pget_list hb.p (fun pins s σ H x y v u Q I rx ry h => ho pins s σ H x y v u Q I rx ry h) set_list haug, fun F W H S env σ D fr w => ?_⟩
  refine sa F W H S env σ _ fr (wpO_imp (wpO_bind w) fun x S1 w1 W1 H1 v1 st1 g1 r1 => ?_)
  cases x with
  | cel n =>
    have w1 : wpO (M.bind (oIxCel n k) (fun x => M.bind (db env) fun y => M.bind (f x y) fun z => celPut n k z env) S1) (PFl X.K L F W D) (XP X.K L F E) := w1
    obtain ⟨p, rfl, ep⟩ := r1
    have w2 := wpO_bind w1
    unfold oIxCel at w2
    cases es : S1[n]? with
    | none =>
      rw [es] at w2
      exact w2.elim
    | some c =>
      rw [es] at w2
      cases c with
      | lst xs =>
        obtain ⟨d, e2, w2⟩ := wpO_lift w2
        obtain ⟨vs, e3, r⟩ := g1.ce n _ p es ep
        obtain ⟨z, ez, rz⟩ := r.atI e2
        refine ⟨p, vs, k, z, rfl, rfl, SqL.of e3, ez, ?_⟩
        refine hb.s F W1 H1 S1 env σ _ (fr.next st1 g1) (wpO_imp (wpO_bind w2) fun y S2 w3 W2 H2 v2 st2 g2 r2 => ?_)
        refine hf W2 H2 S2 d y z v2 _ _ g2 (.inl (rz.mono st2.le)) (.inl r2) (wpO_imp (wpO_bind w3) fun q S3 w4 W3 H3 v3 st3 g3 r3 => ?_)
        have w4 : wpO (celPut n k q env S3) (PFl X.K L F W D) (XP X.K L F E) := w4
        unfold celPut at w4
        cases es3 : S3[n]? with
        | none =>
          rw [es3] at w4
          exact w4.elim
        | some c3 =>
          rw [es3] at w4
          cases c3 with
          | lst ys =>
            have ep3 := (st2.trans st3).le.cel ep
            obtain ⟨ws, e4, r4⟩ := g3.ce n _ p es3 ep3
            cases ej : ixN ys.length k with
            | none =>
              simp only [ej] at w4
              exact w4.elim
            | some j =>
              simp only [ej] at w4
              have hm : p ∈ W3.ca := List.mem_of_getElem? ep3
              refine ⟨p, ws, k, j, rfl, rfl, e4, by rw [r4.length]; exact ej, ?_⟩
              have st13 := (st1.trans st2).trans st3
              exact w4 W3 _ σ st13.le (((((fr.next st1 g1).next st2 g2).next st3 g3)).next (Stp.setCel hm) (g3.setCel ep3 ⟨ws.set j v3, upd_same, RpL.set r3 j r4⟩))
          | _ => exact w4.elim
      | _ => exact w2.elim
  | _ => exact w1.elim
end

/-! ### defs and calls -/
section
variable (K : PySem.W.Frag) (L : Ly)
/-- a def's promise: what its plain reading says -/
def spM (n : Nat) (m : List D → M D) : Sp := fun vs H Q E => ∃ W S ds, ds.length = n ∧ Gd K L W H S ∧ RpL K L W ds vs ∧ wpO (m ds S) (PV K L W H Q) (XP K L ⟨noEx, W, H⟩ E)
end
section
variable {X : Cx} {K : PySem.W.Frag} {L : Ly} {E : XK} {a b c e : Expr} {es : List Expr} {ta tb tc : TE} {da db dc : DE} {tr : TA} {dr : DA} {pos p : Pos}
theorem sem_call {n : Nat} {m : List D → M D} (h : SemA K L E dr tr) (hn : ∀ env S ds S', dr env S = .ok ds S' → ds.length = n) : Sem K L E (dCall m dr) (tCall (spM K L n m) [] E tr) := by
  intro F W H S env σ Q fr w
  refine h F W H S env σ _ fr (wpO_ok (wpO_bind w) fun ds S1 eq w1 W1 H1 vs st1 g1 r1 => ?_)
  show spM K L n m (vs ++ []) H1 Q E
  rw [List.append_nil]
  refine ⟨W1, S1, ds, hn _ _ _ _ eq, g1, r1, ?_⟩
  have fr1 := fr.next st1 g1
  cases q : m ds S1 with
  | ok d S2 =>
    rw [q] at w1
    exact PV.mono st1 w1
  | exc c fs S2 =>
    rw [q] at w1
    exact fun W' H' d vs st g e r => w1 W' H' d vs (fr1.step.trans st.weak) g e r
  | stuck =>
    rw [q] at w1
    exact w1
/-- how many arguments there are -/
def Cnt (dr : DA) (n : Nat) : Prop := ∀ env S ds S', dr env S = .ok ds S' → ds.length = n
theorem cnt_nil : Cnt dNil 0 := fun env S ds S' h => by
  cases h
  rfl
theorem cnt_cons {n : Nat} (h : Cnt dr n) : Cnt (dCons da dr) (n + 1) := fun env S ds S' q => by
  unfold dCons M.bind at q
  cases q1 : da env S with
  | ok x S1 =>
    rw [q1] at q
    cases q2 : dr env S1 with
    | ok xs S2 =>
      simp only [q2] at q
      cases q
      rw [List.length_cons, h _ _ _ _ q2]
    | exc c fs S2 =>
      simp only [q2] at q
      cases q
    | stuck =>
      simp only [q2] at q
      cases q
  | exc c fs S1 =>
    rw [q1] at q
    cases q
  | stuck =>
    rw [q1] at q
    cases q
theorem se_call {x : Str} {f : Addr} {fd : FuncData} {ps : List Str} {k n : Nat} {m : List D → M D} (F : FnOk X.prog X.w X.K X.mg X.base (L2.CX X.prog X.w) k f fd ps (spM K L n m)) (hr : Room k X.A) (hg : Gl X x) (hm : X.mg x = some (.ref f))
    (hk : PySem.W.keepIn X.K (.ref f) = true) (hb : Binds X.K fd ps []) (hx : Passes (L2.CX X.prog X.w) X E) (ha : SA X K L E (e :: es) tr dr) (hn : Cnt dr n) (hdb : (x == ("__debug__" : Str)) = false := by decide)
    (he : starEach (e :: es) X.env = (false, eval e X.env) :: starEach es X.env := by rfl) (hpl : (backTo pos (starEach es X.env)).any (·.1) = false := by rfl) :
    SE X K L E (.Call (.Name x p) (e :: es) [] pos) (tCall (spM K L n m) [] E tr) (dCall m dr) :=
  ⟨ha.hK, pe_call F hr hg hm hk hb .nil hx ha.p hdb he hpl, sem_call ha.s hn⟩
theorem se_call0 {x : Str} {f : Addr} {fd : FuncData} {ps : List Str} {k : Nat} {m : List D → M D} (F : FnOk X.prog X.w X.K X.mg X.base (L2.CX X.prog X.w) k f fd ps (spM K L 0 m)) (hr : Room k X.A) (hg : Gl X x) (hm : X.mg x = some (.ref f))
    (hk : PySem.W.keepIn X.K (.ref f) = true) (hb : Binds X.K fd ps []) (hx : Passes (L2.CX X.prog X.w) X E) (hdb : (x == ("__debug__" : Str)) = false := by decide) (hK : X.K = K := by rfl) :
    SE X K L E (.Call (.Name x p) [] [] pos) (tCall (spM K L 0 m) [] E tNil) (dCall m dNil) :=
  ⟨hK, pe_call0 F hr hg hm hk hb .nil hx hdb, sem_call (sa_nil hK).s cnt_nil⟩
end
section
variable {P : Program} {w : World} {K : PySem.W.Frag} {L : Ly} {mg : Str → Option Value} {base : Heap}
theorem start_frm {W : Wd} {H : Hp} {S : Store} {N : List Str} {ds : List D} {vs : List V} (g : Gd K L W H S) (r : RpL K L W ds vs) : Frm K L ⟨noEx, W, H⟩ W H S (ds.map Slot.shr ++ List.replicate (N.length - ds.length) .no) (start N vs) where
  good := g
  step := Stp.refl
  len := by
    unfold L2.start
    rw [List.length_append, List.length_append, List.length_map, List.length_map, List.length_replicate, List.length_replicate, r.length]
  sl := fun i s e => by
    rcases Nat.lt_or_ge i ds.length with h | h
    · rw [List.getElem?_append_left (by rw [List.length_map]; exact h), List.getElem?_map, List.getElem?_eq_getElem h] at e
      cases e
      obtain ⟨v, e1, r1⟩ := r.get (List.getElem?_eq_getElem h)
      refine ⟨v, ?_, r1⟩
      unfold L2.start
      rw [List.getElem?_append_left (by rw [List.length_map, r.length]; exact h), List.getElem?_map, e1]
      rfl
    · rw [List.getElem?_append_right (by rw [List.length_map]; exact h)] at e
      rw [(List.mem_replicate.mp (List.mem_of_getElem? e)).2]
      trivial
  sep := fun i j d e p h e1 e2 => by
    exfalso
    rcases Nat.lt_or_ge i ds.length with z | z
    · rw [List.getElem?_append_left (by rw [List.length_map]; exact z), List.getElem?_map, List.getElem?_eq_getElem z] at e1
      cases e1
    · rw [List.getElem?_append_right (by rw [List.length_map]; exact z)] at e1
      have := (List.mem_replicate.mp (List.mem_of_getElem? e1)).2
      cases this
/-- THE RULE for a def -/
theorem fn_M {x qual : Str} {st : Stmt} {f : Addr} {fd : FuncData} {N ps : List Str} {k n nn : Nat} {ds : DS} (F : Fun K x qual st f fd) (Sc : FnScope N ps (defScope st)) (hn : ps.length = n) (hN : N.length = nn)
    (hb : ∀ (cdv : Value) (A : Around) (outer : List PySem.Env) (s : Shared) (H : Hp) (E : XK), Room k (A.deeper (envOfC qual (defScope st) s.heap.objs.size f cdv)) →
      Passes (L2.CX P w) (cxOf (L2.CX P w) P w K mg base N qual (defScope st) f cdv A outer s H E) E →
      PassesOwn (model P w) (cxOf (L2.CX P w) P w K mg base N qual (defScope st) f cdv A outer s H E).A (cxOf (L2.CX P w) P w K mg base N qual (defScope st) f cdv A outer s H E).env (cxOf (L2.CX P w) P w K mg base N qual (defScope st) f cdv A outer s H E).xe →
      ∃ t, SS K L E (cxOf (L2.CX P w) P w K mg base N qual (defScope st) f cdv A outer s H E) (defBody st) t ds) :
    FnOk P w K mg base (L2.CX P w) (k + 1) f fd ps (spM K L n (runDef nn ds)) := by
  refine F.okX Sc (fun vs H Q E h => ?_) (fun cdv A outer s H vs Q E hr h => ?_)
  · obtain ⟨W, S, d0, hl, g, r, _⟩ := h
    rw [r.length, hl, hn]
  · obtain ⟨W, S, d0, hl, g, r, w0⟩ := h
    obtain ⟨t, hs⟩ := hb cdv A outer s H E hr (passes_call (takes_of rfl rfl rfl rfl) fun _ _ _ _ h => h) (passes_of rfl)
    refine ⟨t, hs.p, ?_⟩
    have fr := start_frm (N := N) g r
    rw [hN] at fr
    refine hs.s ⟨noEx, W, H⟩ W H S _ _ _ fr (wpO_imp (wpO_bind w0) fun fl S1 w1 => ?_)
    cases fl with
    | next env' =>
      have w1 : PV K L W H Q .non S1 := w1
      exact fun W' H' σ' le fr' => w1 W' H' .non fr'.step fr'.good rfl
    | ret d =>
      have w1 : PV K L W H Q d S1 := w1
      exact fun W' H' v st g r => w1 W' H' v st g r
    | brk e => exact w1.elim
    | cont e => exact w1.elim
end
end Sk

set_option Elab.async false
set_option linter.all false
set_option maxRecDepth 100000
set_option maxHeartbeats 2000000
set_option autoImplicit false
/-! SkV: defs by name. -/
namespace Sk
open PySem PySem.Spec PyProof.Rows L2
/-- a def of the top, as it stands -/
def AtD (K : PySem.W.Frag) (mg : Str → Option Value) (x : Str) (st : Stmt) : Prop := ∃ f fd, FunD K x x (defArgs st) (defBody st) (defScope st) [] [] f fd ∧ mg x = some (.ref f)
/-- a def that keeps its promise -/
def HasFn (P : Program) (w : World) (K : PySem.W.Frag) (L : Ly) (mg : Str → Option Value) (base : Heap) (x : Str) (ps : List Str) (k n : Nat) (m : List D → M D) : Prop :=
  ∃ f fd, FnOk P w K mg base (L2.CX P w) k f fd ps (spM K L n m) ∧ mg x = some (.ref f) ∧ PySem.W.keepIn K (.ref f) = true ∧ Binds K fd ps []
section
variable {P : Program} {w : World} {K : PySem.W.Frag} {L : Ly} {mg : Str → Option Value} {base : Heap}
theorem fn_D {x qual : Str} {pr : Arguments} {bd : List Stmt} {sc : Scope} {f : Addr} {fd : FuncData} {N ps : List Str} {k n nn : Nat} {ds : DS} (F : FunD K x qual pr bd sc [] [] f fd) (Sc : FnScope N ps sc) (hn : ps.length = n) (hN : N.length = nn)
    (hb : ∀ (cdv : Value) (A : Around) (outer : List PySem.Env) (s : Shared) (H : Hp) (E : XK), Room k (A.deeper (envOfC qual sc s.heap.objs.size f cdv)) →
      Passes (L2.CX P w) (cxOf (L2.CX P w) P w K mg base N qual sc f cdv A outer s H E) E →
      PassesOwn (model P w) (cxOf (L2.CX P w) P w K mg base N qual sc f cdv A outer s H E).A (cxOf (L2.CX P w) P w K mg base N qual sc f cdv A outer s H E).env (cxOf (L2.CX P w) P w K mg base N qual sc f cdv A outer s H E).xe →
      ∃ t, SS K L E (cxOf (L2.CX P w) P w K mg base N qual sc f cdv A outer s H E) bd t ds) :
    FnOk P w K mg base (L2.CX P w) (k + 1) f fd ps (spM K L n (runDef nn ds)) := by
  refine F.ok Sc (fun vs H Q E h => ?_) (fun cdv A outer s H vs Q E hr h => ?_)
  · obtain ⟨W, S, d0, hl, g, r, _⟩ := h
    rw [r.length, hl, hn]
  · obtain ⟨W, S, d0, hl, g, r, w0⟩ := h
    obtain ⟨t, hs⟩ := hb cdv A outer s H E hr (passes_call (takes_of rfl rfl rfl rfl) fun _ _ _ _ h => h) (passes_of rfl)
    refine ⟨t, hs.p, ?_⟩
    have fr := start_frm (N := N) g r
    rw [hN] at fr
    refine hs.s ⟨noEx, W, H⟩ W H S _ _ _ fr (wpO_imp (wpO_bind w0) fun fl S1 w1 => ?_)
    cases fl with
    | next env' =>
      have w1 : PV K L W H Q .non S1 := w1
      exact fun W' H' σ' le fr' => w1 W' H' .non fr'.step fr'.good rfl
    | ret d =>
      have w1 : PV K L W H Q d S1 := w1
      exact fun W' H' v st g r => w1 W' H' v st g r
    | brk e => exact w1.elim
    | cont e => exact w1.elim
theorem fn_H {x : Str} {st : Stmt} {N ps : List Str} {k n nn : Nat} {ds : DS} (A : AtD K mg x st) (Sc : FnScope N ps (defScope st)) (hn : ps.length = n) (hN : N.length = nn)
    (hbind : ∀ (kV doc pm : Value) (an : Option Addr) (cdv ct : Value) (us : List Value), us.length = ps.length → bindArgs (PySem.W.fnOf x x (defArgs st) (defBody st) (defScope st) .none kV doc pm an cdv ct) ⟨us, []⟩ = pure (ps.zip us))
    (hb : ∀ (f : Addr) (cdv : Value) (A : Around) (outer : List PySem.Env) (s : Shared) (H : Hp) (E : XK), Room k (A.deeper (envOfC x (defScope st) s.heap.objs.size f cdv)) →
      Passes (L2.CX P w) (cxOf (L2.CX P w) P w K mg base N x (defScope st) f cdv A outer s H E) E →
      PassesOwn (model P w) (cxOf (L2.CX P w) P w K mg base N x (defScope st) f cdv A outer s H E).A (cxOf (L2.CX P w) P w K mg base N x (defScope st) f cdv A outer s H E).env (cxOf (L2.CX P w) P w K mg base N x (defScope st) f cdv A outer s H E).xe →
      ∃ t, SS K L E (cxOf (L2.CX P w) P w K mg base N x (defScope st) f cdv A outer s H E) (defBody st) t ds) : HasFn P w K L mg base x ps (k + 1) n (runDef nn ds) := by
  obtain ⟨f, fd, F, g⟩ := A
  exact ⟨f, fd, fn_D F Sc hn hN (hb f), g, F.kp, F.bindsN hbind⟩
end
section
variable {X : Cx} {K : PySem.W.Frag} {L : Ly} {E : XK} {e : Expr} {es : List Expr} {tr : TA} {dr : DA} {pos p : Pos}
theorem se_callH {x : Str} {ps : List Str} {k n : Nat} {m : List D → M D} (h : HasFn X.prog X.w X.K L X.mg X.base x ps k n m) (hr : Room k X.A) (hx : Passes (L2.CX X.prog X.w) X E) (ha : SA X K L E (e :: es) tr dr) (hn : Cnt dr n) (hg : Gl X x := by rfl) (hdb : (x == ("__debug__" : Str)) = false := by decide)
    (he : starEach (e :: es) X.env = (false, eval e X.env) :: starEach es X.env := by rfl) (hpl : (backTo pos (starEach es X.env)).any (·.1) = false := by rfl) :
    SE X K L E (.Call (.Name x p) (e :: es) [] pos) (tCall (spM K L n m) [] E tr) (dCall m dr) := by
  obtain ⟨f, fd, F, g, kp, b⟩ := h
  obtain ⟨rfl, pa, sa⟩ := ha
  exact se_call F hr hg g kp b hx ⟨rfl, pa, sa⟩ hn hdb he hpl
theorem se_callH0 {x : Str} {ps : List Str} {k : Nat} {m : List D → M D} (h : HasFn X.prog X.w X.K L X.mg X.base x ps k 0 m) (hr : Room k X.A) (hx : Passes (L2.CX X.prog X.w) X E) (hg : Gl X x := by rfl) (hdb : (x == ("__debug__" : Str)) = false := by decide) (hK : X.K = K := by rfl) :
    SE X K L E (.Call (.Name x p) [] [] pos) (tCall (spM K L 0 m) [] E tNil) (dCall m dNil) := by
  subst hK
  obtain ⟨f, fd, F, g, kp, b⟩ := h
  exact se_call0 F hr hg g kp b hx hdb
end
/-! ### the end of a law -/
theorem law_wp {K : PySem.W.Frag} {L : Ly} {H : Hp} {a : Addr} {ns : List Int} {m : List D → M D} {S' : Store} (hS : SqL K H a (ns.map V.int)) (h : m [.scr ns] [] = .ok (.bl true) S') : spM K L 1 m [.ref a] H (fun v _ => v = .bl true) fun _ _ _ => False := by
  refine ⟨⟨H, []⟩, [], [.scr ns], rfl, ⟨fun _ _ e => e, (fun _ m => nomatch m), List.nodup_nil, rfl, fun n c a e _ => (by cases n <;> cases e)⟩, ⟨.ref a, [], rfl, ⟨a, rfl, hS⟩, rfl⟩, ?_⟩
  rw [h]
  exact fun W' H' v st g r => r
theorem walk_M {l : PySem.W.OpenLaw} {k : Nat} {q : Program} {loose : List Str} {XP : (Str → Option Value) → Heap → Prop} {YP : World → Heap → Prop} {d : DefRec}
    (hn : l.most = some 63) (hdf : d.params.defaults = []) (hr : Room k callerA) (m : List D → M D)
    (F : ∀ (w : World) (mg : Str → Option Value) (fa : Addr) (h : Heap), YP w h → h.Ns mainGlobals mg → mg d.name = some (.ref fa) →
      ∃ (K : PySem.W.Frag) (L : Ly) (fd : FuncData), K.In h ∧ (∀ (s : Shared) (u : Value), BindsTo s fd ⟨[u], []⟩ [("script", u)]) ∧
        ∀ base : Heap, FnOk l.prog w K mg base (L2.CX l.prog w) k fa fd ["script"] (spM K L 1 m))
    (hm : ∀ ns : List Int, ns.length ≤ 63 → ∃ S', m [.scr ns] [] = .ok (.bl true) S') : PySem.W.WalkO q loose XP YP l.row.toRowW d [] (fun f vs => PySem.call f vs) := by
  refine Att.attach_call hn hdf fun w s₀ s₁ mg mb fa o pm cd doc a vs ns G Y ho hd hcd hmg hobj hints hlen hg => ?_
  obtain ⟨K, L, fd, KX, hb, hF⟩ := F w mg fa _ Y G.T.g hmg
  obtain ⟨S', e⟩ := hm ns hlen
  exact law_call KX G.T.g G.T.b G.T.builtins G.T.nolimit hg hobj hints (Nat.le_trans hlen (by decide)) hr (fun base _ _ => hF base) hb (fun H hO hS => law_wp hS e) fun H e s' z => by
    obtain ⟨_, _, _, _, _, _, _, _, _, _, _, _, z⟩ := z
    exact z.elim
end Sk

set_option Elab.async false
set_option linter.all false
set_option maxRecDepth 100000
set_option maxHeartbeats 2000000
set_option autoImplicit false
/-! SkW: instances of own classes: made, read, their methods. -/
namespace Sk
open PySem PySem.Spec PyProof.Rows L2
/-! ### plain readings -/
/-- e.f -/
def oFld (n : Nat) (tbl : Nat → List Str) (f : Str) : D → M D
  | .obj c fs => if decide (c < n) = true then lift (((tbl c).zip fs).lookup f) else stk
  | _ => stk
/-- self.f = e, self (slot 0) being made -/
def sSelf (n : Nat) (tbl : Nat → List Str) (f : Str) (a : DE) : DS := fun env => M.bind (a env) fun d => match env[(0 : Nat)]? with
  | some (.own (.obj c fs)) => if decide (c < n ∧ (tbl c)[fs.length]? = some f) = true then M.pure (.next (env.set 0 (.own (.obj c (fs ++ [d]))))) else stk
  | _ => stk
def selfOf : Flow → M D
  | .next env => (match env[(0 : Nat)]? with
    | some (.own (.obj c fs)) => M.pure (.obj c fs)
    | _ => stk)
  | _ => stk
/-- C(..): the values of the parameters without self -/
def runInit (n c : Nat) (body : DS) (ds : List D) : M D := M.bind (body (Slot.own (.obj c []) :: (ds.map Slot.shr ++ List.replicate (n - 1 - ds.length) .no))) selfOf
/-- o.m(..): o is of the class c -/
def dMeth (c : Nat) (f : List D → M D) (o : DE) (a : DA) : DE := fun env => M.bind (o env) fun x => match x with
  | .obj c' fs => if decide (c' = c) = true then M.bind (a env) fun xs => f (.obj c' fs :: xs) else stk
  | _ => stk

/-! ### facts -/
structure Clss (K : PySem.W.Frag) (L : Ly) (n : Nat) : Prop where
  cls : ∀ c, c < n → Cls K (L.cls c)
  na : ∀ c, c < n → ∀ f, f ∈ L.fld c → NoAttr K (L.cls c) f
  nd : ∀ c, c < n → (L.fld c).Nodup
  len : ∀ c, c < n → (L.fld c).length < 1000
theorem zip_lookup {W : Wd} {K : PySem.W.Frag} {L : Ly} {f : Str} {d : D} : ∀ {ks : List Str} {ds : List D} {vs : List V}, RpL K L W ds vs → (ks.zip ds).lookup f = some d → ∃ v, (ks.zip vs).lookup f = some v ∧ Rp K L W d v ∧ f ∈ ks
  | [], _, _, _, h => by cases h
  | k :: ks, [], _, _, h => by cases h
  | k :: ks, d0 :: ds, vs, r, h => by
    obtain ⟨v, r', rfl, rd, rr⟩ := r
    rw [List.zip_cons_cons, List.lookup_cons] at h
    rw [List.zip_cons_cons, List.lookup_cons]
    cases q : f == k with
    | true =>
      rw [q] at h
      cases h
      exact ⟨v, rfl, rd, by rw [eq_of_beq q]; exact .head _⟩
    | false =>
      rw [q] at h
      obtain ⟨w, e, rw', m⟩ := zip_lookup rr h
      exact ⟨w, e, rw', .tail _ m⟩
theorem Tp.obj {K : PySem.W.Frag} {L : Ly} {W : Wd} {H : Hp} {S : Store} (g : Gd K L W H S) {c : Nat} {fs : List D} {v : V} (t : Tp K L W H (.obj c fs) v) : ∃ a dx vs, v = .ref a ∧ H a = some (.ins (L.cls c) dx ((L.fld c).zip vs)) ∧ RpL K L W fs vs := by
  rcases t with ⟨a, dx, vs, e, q, r⟩ | ⟨p, e, n1, n2, dx, vs, q, r⟩
  · exact ⟨a, dx, vs, e, g.fz _ _ q, r⟩
  · exact ⟨p, dx, vs, e, q, r⟩
section
variable {X : Cx} {K : PySem.W.Frag} {L : Ly} {E : XK} {a b c e o : Expr} {es : List Expr} {ta tb tc : TE} {da db dc : DE} {tr : TA} {dr : DA} {pos p : Pos}
theorem se_fld {n : Nat} {tbl : Nat → List Str} {f : Str} (C : Clss K L n) (htb : L.fld = tbl) (ha : SB X K L E a ta da) (hb : attributeBase a f X.env (eval a X.env) = eval a X.env := by rfl) :
    SE X K L E (.Attribute a f pos) (tFld K ta f) (dUn (oFld n tbl f) da) := by
  obtain ⟨rfl, pa, sa⟩ := ha
  refine ⟨rfl, pe_fld pa hb, fun F W H S env σ Q fr w => ?_⟩
  refine sa F W H S env σ _ fr (wpO_imp (wpO_bind w) fun x S1 w1 W1 H1 v1 st1 g1 r1 => ?_)
  cases x with
  | obj k fs =>
    obtain ⟨A, dx, vs, rfl, q, r⟩ := r1.obj g1
    unfold oFld at w1
    obtain ⟨ck, w1⟩ := wpO_ite w1
    have ck := of_decide_eq_true ck
    subst htb
    cases z : ((L.fld k).zip fs).lookup f with
    | none =>
      rw [z] at w1
      exact w1.elim
    | some d =>
      rw [z] at w1
      obtain ⟨v, e1, rv, m⟩ := zip_lookup r z
      exact ⟨A, _, dx, _, v, rfl, q, C.cls k ck, C.na k ck f m, e1, w1 W1 H1 v st1 g1 rv⟩
  | _ => exact w1.elim
/-! ### methods -/
/-- a method that keeps its promise -/
def HasMt (P : Program) (w : World) (K : PySem.W.Frag) (L : Ly) (mg : Str → Option Value) (base : Heap) (c : Nat) (x : Str) (ps : List Str) (k n : Nat) (m : List D → M D) : Prop :=
  ∃ f fd, FnOk P w K mg base (L2.CX P w) k f fd ps (spM K L n m) ∧ Cls K (L.cls c) ∧ Meth K (L.cls c) x f ∧ x ∉ L.fld c ∧ Binds K fd ps []
theorem lookup_zip_none {f : Str} {vs : List V} : ∀ {ks : List Str} {vs : List V}, f ∉ ks → (ks.zip vs).lookup f = none
  | [], _, _ => rfl
  | k :: ks, [], _ => rfl
  | k :: ks, v :: vs, h => by
    rw [List.zip_cons_cons, List.lookup_cons]
    have e : (f == k) = false := beq_eq_false_iff_ne.mpr fun z => h (by rw [z]; exact .head _)
    rw [e]
    exact lookup_zip_none (vs := vs) fun m => h (.tail _ m)
theorem sem_meth {k n : Nat} {m : Str} {f : List D → M D} (hm : m ∉ L.fld k) (ho : Sem K L E db tb) (ha : SemA K L E dr tr) (hn : Cnt dr n) :
    Sem K L E (dMeth k f db dr) (tMeth (L.cls k) m (spM K L (n + 1) f) [] E tb tr) := by
  intro F W H S env σ Q fr w
  refine ho F W H S env σ _ fr (wpO_imp (wpO_bind w) fun x S1 w1 W1 H1 v1 st1 g1 r1 => ?_)
  cases x with
  | obj k' fs =>
    have w1 : wpO ((if decide (k' = k) = true then M.bind (dr env) (fun xs => f (.obj k' fs :: xs)) else stk) S1) (PV K L W H Q) (XP K L F E) := w1
    obtain ⟨ck, w3⟩ := wpO_ite w1
    clear w1
    obtain rfl : k' = k := of_decide_eq_true ck
    obtain ⟨A, dx, vs, rfl, q, r⟩ := r1
    refine ⟨A, dx, _, rfl, g1.fz _ _ q, lookup_zip_none (vs := vs) hm, ?_⟩
    have fr1 := fr.next st1 g1
    refine ha F W1 H1 S1 env σ _ fr1 (wpO_ok (wpO_bind w3) fun ds S2 eq w2 W2 H2 vs2 st2 g2 r2 => ?_)
    show spM K L (n + 1) f (.ref A :: (vs2 ++ [])) H2 Q E
    rw [List.append_nil]
    have r1' : Rp K L W2 (.obj k' fs) (.ref A) := Rp.mono st2.le _ _ ⟨A, dx, vs, rfl, q, r⟩
    refine ⟨W2, S2, .obj k' fs :: ds, by rw [List.length_cons, hn _ _ _ _ eq], g2, ⟨_, _, rfl, r1', r2⟩, ?_⟩
    have fr2 := fr1.next st2 g2
    cases q : f (.obj k' fs :: ds) S2 with
    | ok d S3 =>
      rw [q] at w2
      exact PV.mono (st1.trans st2) w2
    | exc c fs S3 =>
      rw [q] at w2
      exact fun W' H' d vs st g e r => w2 W' H' d vs (fr2.step.trans st.weak) g e r
    | stuck =>
      rw [q] at w2
      exact w2
  | _ => exact w1.elim
theorem se_meth {k j n : Nat} {m : Str} {ps : List Str} {f : List D → M D} {apos : Pos} {pl : PySem.Sem Bool} (h : HasMt X.prog X.w X.K L X.mg X.base k m ps j (n + 1) f) (hr : Room j X.A) (hx : Passes (L2.CX X.prog X.w) X E) (ho : SE X K L E o tb db)
    (ha : SA X K L E (e :: es) tr dr) (hn : Cnt dr n)
    (hst : starEach (e :: es) X.env = (false, eval e X.env) :: starEach es X.env := by rfl) (hpl : (backTo pos (starEach es X.env)).any (·.1) = false := by rfl)
    (ht : eval (.Call (.Attribute o m apos) (e :: es) [] pos) X.env = (do
      let ov ← eval o X.env
      standAt apos.atName
      let (f, first) ← holding [ov] (getMethod ov m pl)
      callWith pos f first (backTo pos (starEach (e :: es) X.env)) (backToKw pos (keywordEach [] X.env))) := by rfl) :
    SE X K L E (.Call (.Attribute o m apos) (e :: es) [] pos) (tMeth (L.cls k) m (spM K L (n + 1) f) [] E tb tr) (dMeth k f db dr) := by
  obtain ⟨f0, fd, F, c, me, nf, b⟩ := h
  obtain ⟨rfl, po, so⟩ := ho
  exact ⟨rfl, pe_meth po c me F hr b .nil hx ha.p hst hpl ht, sem_meth nf so ha.s hn⟩
theorem se_meth0 {k j : Nat} {m : Str} {ps : List Str} {f : List D → M D} {apos : Pos} {pl : PySem.Sem Bool} (h : HasMt X.prog X.w X.K L X.mg X.base k m ps j 1 f) (hr : Room j X.A) (hx : Passes (L2.CX X.prog X.w) X E) (ho : SE X K L E o tb db)
    (ht : eval (.Call (.Attribute o m apos) [] [] pos) X.env = (do
      let ov ← eval o X.env
      standAt apos.atName
      let (f, first) ← holding [ov] (getMethod ov m pl)
      callWith pos f first (backTo pos (starEach [] X.env)) (backToKw pos (keywordEach [] X.env))) := by rfl) :
    SE X K L E (.Call (.Attribute o m apos) [] [] pos) (tMeth (L.cls k) m (spM K L 1 f) [] E tb tNil) (dMeth k f db dNil) := by
  obtain ⟨f0, fd, F, c, me, nf, b⟩ := h
  obtain ⟨rfl, po, so⟩ := ho
  exact ⟨rfl, pe_meth0 po c me F hr b .nil hx ht, sem_meth nf so (sa_nil rfl).s cnt_nil⟩
end
/-! ### making -/
section
variable (K : PySem.W.Frag) (L : Ly)
/-- behind __init__ -/
def PI (x : Addr) (W : Wd) (H : Hp) (Q : VK) : D → Store → Prop := fun d S' => ∀ W' H', Stp (· = x) W H W' H' → Gd K L W' H' S' → W'.G x = none → x ∉ W'.ca → CellAt K L W' H' x d → (∃ c fs, d = .obj c fs) → Q .non H'
/-- what __init__ promises -/
def spI (c n : Nat) (m : List D → M D) : Sp := fun vs H Q E => ∃ W S ds x dx us, vs = .ref x :: us ∧ ds.length = n ∧ Gd K L W H S ∧ RpL K L W ds us ∧ H x = some (.ins (L.cls c) dx []) ∧ W.G x = none ∧ x ∉ W.ca ∧ wpO (m ds S) (PI K L x W H Q) (XP K L ⟨(· = x), W, H⟩ E)
end
section
variable {X : Cx} {K : PySem.W.Frag} {L : Ly} {E : XK} {a b c e o : Expr} {es : List Expr} {ta tb tc : TE} {da db dc : DE} {tr : TA} {dr : DA} {pos p : Pos} {F : FD} {W W' : Wd} {H H' : Hp} {S S' : Store} {env : Env} {σ : L2.St}
theorem Stp.fresh {ex : Addr → Prop} (st : Stp ex W H W' H') (h : ∀ x, ex x → H x = none) : Stp noEx W H W' H' := ⟨st.le, fun x o e n _ => st.keep x o e n (fun z => by rw [h x z] at e; cases e), st.dom, st.new, st.newc⟩
theorem sem_make {k n : Nat} {m : List D → M D} (h : SemA K L E dr tr) (hn : Cnt dr n) : Sem K L E (dCall m dr) (tMake (L.cls k) (spI K L k n m) [] E tr) := by
  intro F W H S env σ Q fr w
  refine h F W H S env σ _ fr (wpO_ok (wpO_bind w) fun ds S1 eq w1 W1 H1 vs st1 g1 r1 x dx hx hdx ne => ?_)
  rw [List.append_nil]
  have gx := g1.freeG hx
  have cx := g1.freeC hx
  have hx2 : upd H1 dx (.own x) x = none := by rw [upd_ne (Ne.symm ne)]; exact hx
  have g2 : Gd K L W1 (upd H1 dx (.own x)) S1 := g1.own (g1.freeG hdx) (g1.freeC hdx)
  have g3 : Gd K L W1 (upd (upd H1 dx (.own x)) x (.ins (L.cls k) dx [])) S1 := g2.own gx cx
  have st2 : Stp noEx W1 H1 W1 (upd (upd H1 dx (.own x)) x (.ins (L.cls k) dx [])) := (Stp.own hdx).trans (Stp.own hx2)
  refine ⟨W1, S1, ds, x, dx, vs, rfl, hn _ _ _ _ eq, g3, r1, upd_same, gx, cx, ?_⟩
  have fr1 := fr.next st1 g1
  cases q : m ds S1 with
  | ok d S2 =>
    rw [q] at w1
    intro W' H' st g n1 n2 c hd
    have st3 : Stp (· = x) W1 H1 W' H' := st2.weak.trans st
    obtain ⟨c', fs, rfl⟩ := hd
    obtain ⟨dx', vs', e1, r'⟩ := c
    have st4 := (st3.freeze (o := .ins (L.cls c') dx' ((L.fld c').zip vs')) hx n1).fresh fun y hy => by rw [hy]; exact hx
    refine ⟨rfl, w1 (W'.add x (.ins (L.cls c') dx' ((L.fld c').zip vs'))) H' _ (st1.trans st4) (g.freeze e1 n1 n2) ⟨x, dx', vs', rfl, Wd.add_at, RpL.mono (Wd.le_add n1) _ _ r'⟩⟩
  | exc c fs S2 =>
    rw [q] at w1
    intro W' H' d vs st g e r
    have st3 : Stp noEx W1 H1 W' H' := (st2.weak.trans st).fresh fun y hy => by
      have hy : y = x := hy
      rw [hy]
      exact hx
    exact w1 W' H' d vs (fr1.step.trans st3.weak) g e r
  | stuck =>
    rw [q] at w1
    exact w1
/-- a class that is made -/
def HasMk (P : Program) (w : World) (K : PySem.W.Frag) (L : Ly) (mg : Str → Option Value) (base : Heap) (c : Nat) (x : Str) (ps : List Str) (k n : Nat) (m : List D → M D) : Prop :=
  ∃ f fd, FnOk P w K mg base (L2.CX P w) k f fd ps (spI K L c n m) ∧ Mk K (L.cls c) f ∧ mg x = some (.ref (L.cls c)) ∧ Binds K fd ps []
theorem se_make {x : Str} {ps : List Str} {k j n : Nat} {m : List D → M D} (h : HasMk X.prog X.w X.K L X.mg X.base k x ps j n m) (hr : Room (j + 1) X.A) (hx : Passes (L2.CX X.prog X.w) X E) (ha : SA X K L E (e :: es) tr dr) (hn : Cnt dr n) (hg : Gl X x := by rfl)
    (hdb : (x == ("__debug__" : Str)) = false := by decide) (he : starEach (e :: es) X.env = (false, eval e X.env) :: starEach es X.env := by rfl) (hpl : (backTo pos (starEach es X.env)).any (·.1) = false := by rfl) :
    SE X K L E (.Call (.Name x p) (e :: es) [] pos) (tMake (L.cls k) (spI K L k n m) [] E tr) (dCall m dr) := by
  obtain ⟨f, fd, F, M, g, b⟩ := h
  obtain ⟨rfl, pa, sa⟩ := ha
  exact ⟨rfl, pe_make M F hr hg g b .nil hx pa hdb he hpl, sem_make sa hn⟩
theorem se_make0 {x : Str} {ps : List Str} {k j : Nat} {m : List D → M D} (h : HasMk X.prog X.w X.K L X.mg X.base k x ps j 0 m) (hr : Room (j + 1) X.A) (hx : Passes (L2.CX X.prog X.w) X E) (hg : Gl X x := by rfl)
    (hdb : (x == ("__debug__" : Str)) = false := by decide) (hK : X.K = K := by rfl) :
    SE X K L E (.Call (.Name x p) [] [] pos) (tMake (L.cls k) (spI K L k 0 m) [] E tNil) (dCall m dNil) := by
  obtain ⟨f, fd, F, M, g, b⟩ := h
  subst hK
  exact ⟨rfl, pe_make0 M F hr hg g b .nil hx hdb, sem_make (sa_nil rfl).s cnt_nil⟩
/-- self.f = value while self is made -/
theorem putF_new {f : Str} {y : V} : ∀ {fs : List (Str × V)}, (∀ q ∈ fs, q.1 ≠ f) → putF f y fs = fs ++ [(f, y)] := by
  intro fs h
  induction fs with
  | nil => rfl
  | cons q r ih =>
    have h1 : q.1 ≠ f := h q (.head _)
    obtain ⟨g, v⟩ := q
    have h1 : g ≠ f := h1
    simp only [putF, List.cons_append]
    rw [if_neg (by first | exact h1 | exact fun z => h1 z.symm)]
    rw [ih fun q hq => h q (.tail _ hq)]
theorem zip_snoc {α β : Type} : ∀ {ks : List α} {vs : List β} {k : α} {v : β}, ks[vs.length]? = some k → ks.zip (vs ++ [v]) = ks.zip vs ++ [(k, v)]
  | [], vs, k, v, h => by simp at h
  | k0 :: ks, [], k, v, h => by
    simp at h
    subst h
    simp
  | k0 :: ks, w :: vs, k, v, h => by
    simp only [List.length_cons, List.getElem?_cons_succ] at h
    simp only [List.cons_append, List.zip_cons_cons, zip_snoc h]
theorem zip_new {ks : List Str} {vs : List V} {f : Str} (nd : ks.Nodup) (h : ks[vs.length]? = some f) : ∀ q ∈ ks.zip vs, q.1 ≠ f := by
  intro q hq e
  obtain ⟨i, hi, e2⟩ := List.mem_iff_getElem.mp hq
  have h1 : i < vs.length := by
    rw [List.length_zip] at hi
    omega
  have h2 : i < ks.length := by
    rw [List.length_zip] at hi
    omega
  rw [List.getElem_zip] at e2
  subst e2
  have h3 : ks[i]? = some f := by rw [List.getElem?_eq_getElem h2]; exact congrArg some e
  have := nd_ix nd h3 h
  omega
/-- self.f = e -/
theorem s1_self {n : Nat} {tbl : Nat → List Str} {f x : Str} {px pf : Pos} (C : Clss K L n) (htb : L.fld = tbl) (ha : SE X K L E a ta da) (hN : X.N[0]? = some x := by rfl) (hv : Vis X.env.scope x := by first | exact Or.inl rfl | exact Or.inr (Or.inl rfl) | exact Or.inr (Or.inr rfl))
    (hd : (x == ("__debug__" : Str)) = false := by decide) (hcd : (x == ("__classdict__" : Str)) = false := by decide)
    (hs : swapsWith a (some (.Attribute (.Name x px) f pf)) pos.line X.env = pure false := by rfl) :
    S1 K L E X (.Assign [.Attribute (.Name x px) f pf] a pos) (sFld K (tVar 0) ta f) (sSelf n tbl f da) := by
  obtain ⟨rfl, pa, sa⟩ := ha
  refine ⟨ps_fld (pe_var hN hv hd hcd) pa hs, fun F W H S env σ D fr w => ?_⟩
  refine sa F W H S env σ _ fr (wpO_imp (wpO_bind w) fun d S1 w1 W1 H1 v1 st1 g1 r1 => ?_)
  cases q : env[0]? with
  | none =>
    rw [q] at w1
    exact w1.elim
  | some s =>
    rw [q] at w1
    cases s with
    | no => exact w1.elim
    | shr d0 => exact w1.elim
    | own d0 =>
      cases d0 with
      | obj k fs =>
        subst htb
        obtain ⟨ck0, w3⟩ := wpO_ite w1
        obtain ⟨ck, cf⟩ := of_decide_eq_true ck0
        clear w1
        have fr1 := fr.next st1 g1
        obtain ⟨p, e1, n1, n2, n3, dx, vs, e2, r⟩ := fr1.sl 0 _ q
        have cf2 : (L.fld k)[vs.length]? = some f := by rw [r.length]; exact cf
        refine ⟨.ref p, e1, p, _, dx, _, rfl, e2, C.cls k ck, C.na k ck f (List.mem_of_getElem? cf), ?_, ?_⟩
        · have := C.len k ck
          rw [List.length_zip]
          omega
        · rw [putF_new (zip_new (C.nd k ck) cf2)]
          exact w3 W1 _ σ st1.le (fr1.mutOwn q e1 n1 n2 n3 ⟨dx, vs ++ [v1], by rw [zip_snoc cf2]; exact upd_same, r.append (RpL.one r1)⟩)
      | _ => exact w1.elim
end
section
variable {P : Program} {w : World} {K : PySem.W.Frag} {L : Ly} {mg : Str → Option Value} {base : Heap}
/-- the start of an __init__ -/
theorem start_init {W : Wd} {H : Hp} {S : Store} {N : List Str} {ds : List D} {us : List V} {x : Addr} {c : Nat} {dx : Addr} (g : Gd K L W H S) (r : RpL K L W ds us) (hx : H x = some (.ins (L.cls c) dx [])) (n1 : W.G x = none) (n2 : x ∉ W.ca) :
    Frm K L ⟨(· = x), W, H⟩ W H S (Slot.own (.obj c []) :: (ds.map Slot.shr ++ List.replicate (N.length - 1 - ds.length) .no)) (start N (.ref x :: us)) := by
  have e : start N (V.ref x :: us) = some (.ref x) :: (us.map some ++ List.replicate (N.length - 1 - us.length) none) := by
    unfold L2.start
    rw [List.length_cons, Nat.add_comm us.length 1, Nat.sub_add_eq]
    rfl
  rw [e]
  exact {
    good := g
    step := Stp.refl
    len := by
      rw [List.length_cons, List.length_cons, List.length_append, List.length_append, List.length_map, List.length_map, List.length_replicate, List.length_replicate, r.length]
    sl := fun i s e => by
      cases i with
      | zero =>
        cases e
        exact ⟨x, rfl, n1, n2, rfl, dx, [], by rw [List.zip_nil_right]; exact hx, rfl⟩
      | succ i =>
        rw [List.getElem?_cons_succ] at e ⊢
        rcases Nat.lt_or_ge i ds.length with h | h
        · rw [List.getElem?_append_left (by rw [List.length_map]; exact h), List.getElem?_map, List.getElem?_eq_getElem h] at e
          cases e
          obtain ⟨v, e1, r1⟩ := r.get (List.getElem?_eq_getElem h)
          refine ⟨v, ?_, r1⟩
          rw [List.getElem?_append_left (by rw [List.length_map, r.length]; exact h), List.getElem?_map, e1]
          rfl
        · rw [List.getElem?_append_right (by rw [List.length_map]; exact h)] at e
          rw [(List.mem_replicate.mp (List.mem_of_getElem? e)).2]
          trivial
    sep := fun i j d e2 p h e1 e3 => by
      have only : ∀ (i : Nat) (d : D), (Slot.own (.obj c []) :: (ds.map Slot.shr ++ List.replicate (N.length - 1 - ds.length) .no))[i]? = some (.own d) → i = 0 := by
        intro i d e1
        cases i with
        | zero => rfl
        | succ i =>
          exfalso
          rw [List.getElem?_cons_succ] at e1
          rcases Nat.lt_or_ge i ds.length with z | z
          · rw [List.getElem?_append_left (by rw [List.length_map]; exact z), List.getElem?_map, List.getElem?_eq_getElem z] at e1
            cases e1
          · rw [List.getElem?_append_right (by rw [List.length_map]; exact z)] at e1
            have := (List.mem_replicate.mp (List.mem_of_getElem? e1)).2
            cases this
      rw [only i d e1, only j e2 e3] at h
      exact absurd rfl h }
/-- THE RULE for an __init__ -/
theorem fn_I {x qual : Str} {pr : Arguments} {bd : List Stmt} {sc : Scope} {f : Addr} {fd : FuncData} {N ps : List Str} {c k n nn : Nat} {ds : DS} (F : FunD K x qual pr bd sc [] [] f fd) (Sc : FnScope N ps sc) (hn : ps.length = n + 1) (hN : N.length = nn)
    (hb : ∀ (cdv : Value) (A : Around) (outer : List PySem.Env) (s : Shared) (H : Hp) (E : XK), Room k (A.deeper (envOfC qual sc s.heap.objs.size f cdv)) →
      Passes (L2.CX P w) (cxOf (L2.CX P w) P w K mg base N qual sc f cdv A outer s H E) E →
      PassesOwn (model P w) (cxOf (L2.CX P w) P w K mg base N qual sc f cdv A outer s H E).A (cxOf (L2.CX P w) P w K mg base N qual sc f cdv A outer s H E).env (cxOf (L2.CX P w) P w K mg base N qual sc f cdv A outer s H E).xe →
      ∃ t, SS K L E (cxOf (L2.CX P w) P w K mg base N qual sc f cdv A outer s H E) bd t ds) :
    FnOk P w K mg base (L2.CX P w) (k + 1) f fd ps (spI K L c n (runInit nn c ds)) := by
  refine F.ok Sc (fun vs H Q E h => ?_) (fun cdv A outer s H vs Q E hr h => ?_)
  · obtain ⟨W, S, d0, x, dx, us, rfl, hl, g, r, _⟩ := h
    rw [List.length_cons, r.length, hl, hn]
  · obtain ⟨W, S, d0, x, dx, us, rfl, hl, g, r, hx, n1, n2, w0⟩ := h
    obtain ⟨t, hs⟩ := hb cdv A outer s H E hr (passes_call (takes_of rfl rfl rfl rfl) fun _ _ _ _ h => h) (passes_of rfl)
    refine ⟨t, hs.p, ?_⟩
    have fr := start_init (N := N) g r hx n1 n2
    rw [hN] at fr
    refine hs.s ⟨(· = x), W, H⟩ W H S _ _ _ fr (wpO_imp (wpO_bind w0) fun fl S1 w1 => ?_)
    cases fl with
    | next env' =>
      dsimp only [selfOf] at w1
      cases q : env'[(0 : Nat)]? with
      | none =>
        rw [q] at w1
        exact w1.elim
      | some sl =>
        rw [q] at w1
        cases sl with
        | no => exact w1.elim
        | shr d0 => exact w1.elim
        | own d0 =>
          cases d0 with
          | obj k fs =>
            have w1 : PI K L x W H Q (.obj k fs) S1 := w1
            refine fun W' H' σ' le fr' => ?_
            obtain ⟨p, e1, m1, m2, m3, c⟩ := fr'.sl 0 _ q
            have m3 : p = x := m3
            subst m3
            exact w1 W' H' fr'.step fr'.good m1 m2 c ⟨k, fs, rfl⟩
          | _ => exact w1.elim
    | ret d => exact w1.elim
    | brk e => exact w1.elim
    | cont e => exact w1.elim
end
end Sk

set_option Elab.async false
set_option linter.all false
set_option maxRecDepth 100000
set_option maxHeartbeats 2000000
set_option autoImplicit false
/-! SkX: chains, in, slices, max and min, own == and truth. -/
namespace Sk
open PySem PySem.Spec PyProof.Rows L2
/-! ### plain readings -/
/-- a < b < c -/
def dChain (f g : D → D → M D) (a b c : DE) : DE := fun env => M.bind (a env) fun x => M.bind (b env) fun y => M.bind (f x y) fun z => M.bind (asB z) fun k =>
  if k = true then M.bind (c env) fun w => g y w else M.pure (.bl false)
def inD (x : D) (ys : List D) : Bool := (toPyL ys).any fun z => PyData.eqv z (toPy x)
def oIn : D → D → M D := fun x y => match y with
  | .lst ys => if (okD 8 x && okD 8 (.lst ys)) = true then M.pure (.bl (inD x ys)) else stk
  | .tup ys => if (okD 8 x && okD 8 (.tup ys)) = true then M.pure (.bl (inD x ys)) else stk
  | _ => stk
def oNotIn : D → D → M D := fun x y => match y with
  | .lst ys => if (okD 8 x && okD 8 (.lst ys)) = true then M.pure (.bl (!inD x ys)) else stk
  | .tup ys => if (okD 8 x && okD 8 (.tup ys)) = true then M.pure (.bl (!inD x ys)) else stk
  | _ => stk
def oMax2 : D → D → M D
  | .int i, .int j => M.pure (.int (if j > i then j else i))
  | _, _ => stk
def oMin2 : D → D → M D
  | .int i, .int j => M.pure (.int (if j < i then j else i))
  | _, _ => stk
/-- isinstance(x, (T1, T2)) -/
def oIsB2 (T1 T2 : String) : D → M D := fun d => M.bind (lift (tyN d)) fun t => M.bind (lift (kitB t T1)) fun b => M.bind (lift (kitB t T2)) fun c => M.pure (.bl (b || c))
def cutD (xs : List D) (lo hi : Option Int) : List D := (xs.drop (HT.sIx xs.length 0 lo)).take (HT.sIx xs.length xs.length hi - HT.sIx xs.length 0 lo)
def oCut : D → Option Int → Option Int → M D
  | .lst xs, lo, hi => M.pure (.lst (cutD xs lo hi))
  | .tup xs, lo, hi => M.pure (.tup (cutD xs lo hi))
  | _, _, _ => stk
abbrev DO := Env → M (Option Int)
def oNoPart : DO := fun _ => M.pure none
def oPart (a : DE) : DO := fun env => M.bind (a env) fun d => match d with
  | .int i => M.pure (some i)
  | _ => stk
def dCut (a : DE) (lo hi : DO) : DE := fun env => M.bind (a env) fun x => M.bind (lo env) fun l => M.bind (hi env) fun h => oCut x l h
/-- enumerate(xs) -/
def iEnumD (a : DE) : DI := fun env => M.bind (a env) fun x => match x with
  | .lst xs => M.pure (xs.zipIdx.map fun p => .tup [.int (p.2 : Nat), p.1])
  | _ => stk

section
variable {X : Cx} {K : PySem.W.Frag} {L : Ly} {E : XK} {a b c e : Expr} {es : List Expr} {ta tb tc : TE} {da db dc : DE} {pos p : Pos}
/-! ### chains -/
theorem sem_chain {r r' : R2} {f g : D → D → M D} (hf : OpS K L r f) (hg : OpS K L r' g) (ha : SemB K L E da ta) (hb : SemB K L E db tb) (hc : SemB K L E dc tc) : Sem K L E (dChain f g da db dc) (tChain r r' ta tb tc) := by
  intro F W H S env σ Q fr w
  refine ha F W H S env σ _ fr (wpO_imp (wpO_bind w) fun x S1 w1 W1 H1 v1 st1 g1 r1 => ?_)
  refine hb F W1 H1 S1 env σ _ (fr.next st1 g1) (wpO_imp (wpO_bind w1) fun y S2 w2 W2 H2 v2 st2 g2 r2 => ?_)
  refine hf W2 H2 S2 x y v1 v2 _ _ g2 (r1.mono st2) r2 (wpO_imp (wpO_bind w2) fun z S3 w3 W3 H3 v3 st3 g3 r3 => ?_)
  obtain ⟨k, rfl, w4⟩ := wpO_asB (wpO_bind w3)
  have fr3 := ((fr.next st1 g1).next st2 g2).next st3 g3
  refine ⟨k, r3, ?_⟩
  cases k with
  | false =>
    rw [if_neg (by decide)]
    rw [if_neg (by decide)] at w4
    exact w4 W3 H3 _ ((st1.trans st2).trans st3) g3 rfl
  | true =>
    rw [if_pos rfl]
    rw [if_pos rfl] at w4
    refine hc F W3 H3 S3 env σ _ fr3 (wpO_imp (wpO_bind w4) fun u S4 w5 W4 H4 v4 st4 g4 r4 => ?_)
    exact hg W4 H4 S4 y u v2 v4 Q _ g4 ((r2.mono st3).mono st4) r4 (wpO_imp w5 fun d S' q => q.mono (((st1.trans st2).trans st3).trans st4))
theorem se_chain {op op' : CmpOp} {r r' : R2} {f g : D → D → M D} (ho : OpR X (compareOp op) r) (ho' : OpR X (compareOp op') r') (hf : OpS K L r f) (hg : OpS K L r' g) (ha : SB X K L E a ta da) (hb : SB X K L E b tb db) (hc : SB X K L E c tc dc)
    (hm : lastMarks [op, op'] [b, c] = false := by with_unfolding_all rfl) : SE X K L E (.Compare a [op, op'] [b, c] pos) (tChain r r' ta tb tc) (dChain f g da db dc) :=
  ⟨ha.hK, pe_chain ho ho' ha.p hb.p hc.p hm, sem_chain hf hg ha.s hb.s hc.s⟩
theorem st_chain {op op' : CmpOp} {r r' : R2} {f g : D → D → M D} (ho : OpR X (compareOp op) r) (ho' : OpR X (compareOp op') r') (hf : OpS K L r f) (hg : OpS K L r' g) (ha : SB X K L E a ta da) (hb : SB X K L E b tb db) (hc : SB X K L E c tc dc)
    (hm : lastMarks [op, op'] [b, c] = false := by with_unfolding_all rfl) : ST X K L E (.Compare a [op, op'] [b, c] pos) (tTest (tChain r r' ta tb tc)) (tVal (dChain f g da db dc)) :=
  ⟨ha.hK, pt_chain ho ho' ha.p hb.p hc.p hm, sem_test (sem_chain hf hg ha.s hb.s hc.s)⟩
/-! ### in -/
def rInD2 (K : PySem.W.Frag) : R2 := fun x y H Q => ∃ d ds, Dp K H x d ∧ (Dp K H y (.list ds) ∧ SeqAt.shaped (.list ds) = true ∨ Dp K H y (.tuple ds) ∧ SeqAt.shaped (.tuple ds) = true) ∧ SeqAt.shaped d = true ∧ Q (.bl (ds.any fun z => PyData.eqv z d)) H
def rNotInD2 (K : PySem.W.Frag) : R2 := fun x y H Q => ∃ d ds, Dp K H x d ∧ (Dp K H y (.list ds) ∧ SeqAt.shaped (.list ds) = true ∨ Dp K H y (.tuple ds) ∧ SeqAt.shaped (.tuple ds) = true) ∧ SeqAt.shaped d = true ∧ Q (.bl (!ds.any fun z => PyData.eqv z d)) H
theorem shaped_tl {ds : List PyData} (h : SeqAt.shaped (.tuple ds) = true) : SeqAt.shaped (.list ds) = true := h
theorem op_inD2 (hu : X.A.units + 65 < cLine) : OpR X (compareOp .In) (rInD2 X.K) := by
  intro pins s σ H x y v u Q I rx ry h
  obtain ⟨d, ds, hd, he, sd, q⟩ := h
  rcases he with ⟨he, se⟩ | ⟨he, se⟩
  · exact op_inD hu pins s σ H x y v u Q I rx ry ⟨d, ds, hd, he, sd, se, q⟩
  · obtain ⟨as, r1⟩ := Dp.reads I d x v hd rx
    obtain ⟨bs, r2⟩ := Dp.reads I (.tuple ds) y u he ry
    exact SeqAt.in_tuple_reads r2 r1 (SeqAt.canLay_of_shaped (shaped_tl se)) (SeqAt.canLay_of_shaped sd) (room_in_shaped sd hu) ⟨.bl _, H, I, rfl, q⟩
theorem op_notInD2 (hu : X.A.units + 65 < cLine) : OpR X (compareOp .NotIn) (rNotInD2 X.K) := by
  intro pins s σ H x y v u Q I rx ry h
  obtain ⟨d, ds, hd, he, sd, q⟩ := h
  rcases he with ⟨he, se⟩ | ⟨he, se⟩
  · exact op_notInD hu pins s σ H x y v u Q I rx ry ⟨d, ds, hd, he, sd, se, q⟩
  · obtain ⟨as, r1⟩ := Dp.reads I d x v hd rx
    obtain ⟨bs, r2⟩ := Dp.reads I (.tuple ds) y u he ry
    exact SeqAt.notIn_tuple_reads r2 r1 (SeqAt.canLay_of_shaped (shaped_tl se)) (SeqAt.canLay_of_shaped sd) (room_in_shaped sd hu) ⟨.bl _, H, I, rfl, q⟩
theorem ops_in : OpS K L (rInD2 K) oIn := by
  intro W H S x y v w Q R g t1 t2 h
  unfold oIn at h
  cases y with
  | lst ys =>
    obtain ⟨c, h⟩ := wpO_ite h
    rw [Bool.and_eq_true] at c
    exact ⟨toPy x, toPyL ys, tp_dp g c.1 t1, .inl ⟨tp_dp g c.2 t2, okD_shaped c.2⟩, okD_shaped c.1, PV.now h g rfl⟩
  | tup ys =>
    obtain ⟨c, h⟩ := wpO_ite h
    rw [Bool.and_eq_true] at c
    exact ⟨toPy x, toPyL ys, tp_dp g c.1 t1, .inr ⟨tp_dp g c.2 t2, okD_shaped c.2⟩, okD_shaped c.1, PV.now h g rfl⟩
  | _ => exact h.elim
theorem ops_notIn : OpS K L (rNotInD2 K) oNotIn := by
  intro W H S x y v w Q R g t1 t2 h
  unfold oNotIn at h
  cases y with
  | lst ys =>
    obtain ⟨c, h⟩ := wpO_ite h
    rw [Bool.and_eq_true] at c
    exact ⟨toPy x, toPyL ys, tp_dp g c.1 t1, .inl ⟨tp_dp g c.2 t2, okD_shaped c.2⟩, okD_shaped c.1, PV.now h g rfl⟩
  | tup ys =>
    obtain ⟨c, h⟩ := wpO_ite h
    rw [Bool.and_eq_true] at c
    exact ⟨toPy x, toPyL ys, tp_dp g c.1 t1, .inr ⟨tp_dp g c.2 t2, okD_shaped c.2⟩, okD_shaped c.1, PV.now h g rfl⟩
  | _ => exact h.elim
theorem se_in (hu : X.A.units + 65 < cLine) (ha : SB X K L E a ta da) (hb : SB X K L E b tb db) (hm : behindInMarks .In b = false := by rfl) : SE X K L E (.Compare a [.In] [b] pos) (tOp (rInD2 K) ta tb) (dBin oIn da db) := by
  obtain ⟨rfl, pa, sa⟩ := ha
  exact se_cmp (op_inD2 hu) ops_in ⟨rfl, pa, sa⟩ hb hm
theorem se_notIn (hu : X.A.units + 65 < cLine) (ha : SB X K L E a ta da) (hb : SB X K L E b tb db) (hm : behindInMarks .NotIn b = false := by rfl) : SE X K L E (.Compare a [.NotIn] [b] pos) (tOp (rNotInD2 K) ta tb) (dBin oNotIn da db) := by
  obtain ⟨rfl, pa, sa⟩ := ha
  exact se_cmp (op_notInD2 hu) ops_notIn ⟨rfl, pa, sa⟩ hb hm
/-! ### slices -/
def SemO (E : XK) (dO : DO) (t : TO) : Prop := ∀ (F : FD) W H S env σ R, Frm K L F W H S env σ → wpO (dO env S) (fun o S' => ∀ W' H', Stp noEx W H W' H' → Gd K L W' H' S' → R o H') (XP K L F E) → t σ H R
theorem sem_noPart : SemO (K := K) (L := L) E oNoPart tNoPart := fun F W H S env σ R fr w => w W H Stp.refl fr.good
theorem sem_part (ha : Sem K L E da ta) : SemO (K := K) (L := L) E (oPart da) (tPart ta) := by
  intro F W H S env σ R fr w
  refine ha F W H S env σ _ fr (wpO_imp (wpO_bind w) fun x S1 w1 W1 H1 v1 st1 g1 r1 => ?_)
  cases x with
  | int i =>
    obtain rfl : v1 = .int i := r1
    exact ⟨i, rfl, w1 W1 H1 st1 g1⟩
  | _ => exact w1.elim
theorem cutD_rep {W : Wd} {xs : List D} {vs : List V} (r : RpL K L W xs vs) (lo hi : Option Int) : RpL K L W (cutD xs lo hi) (cutV vs lo hi) := by
  unfold cutD cutV
  rw [r.length]
  exact (r.drop _).take _
theorem cutD_len (xs : List D) (lo hi : Option Int) : (cutD xs lo hi).length ≤ xs.length := by
  unfold cutD
  rw [List.length_take, List.length_drop]
  omega
def rSlB (K : PySem.W.Frag) : V → Option Int → Option Int → Hp → VK → Prop := fun x lo hi H Q => rSlL K x lo hi H Q ∨ rSlA K x lo hi H Q
theorem sem_cut {lo hi : DO} {tl th : TO} (ha : SemB K L E da ta) (hl : SemO (K := K) (L := L) E lo tl) (hh : SemO (K := K) (L := L) E hi th) : Sem K L E (dCut da lo hi) (tSl (rSlB K) ta tl th) := by
  intro F W H S env σ Q fr w
  refine ha F W H S env σ _ fr (wpO_imp (wpO_bind w) fun x S1 w1 W1 H1 v1 st1 g1 r1 => ?_)
  have fr1 := fr.next st1 g1
  refine hl F W1 H1 S1 env σ _ fr1 (wpO_imp (wpO_bind w1) fun l S2 w2 W2 H2 st2 g2 => ?_)
  have fr2 := fr1.next st2 g2
  refine hh F W2 H2 S2 env σ _ fr2 (wpO_imp (wpO_bind w2) fun h S3 w3 W3 H3 st3 g3 => ?_)
  have st := (st1.trans st2).trans st3
  have r3 := (r1.mono st2).mono st3
  cases x with
  | lst xs =>
    obtain ⟨A, vs, rfl, q, r⟩ := r3.lst g3
    exact .inl ⟨A, vs, rfl, SqL.of q, PV.lst (PV.mono st w3) g3 (cutD_rep r l h)⟩
  | tup xs =>
    obtain ⟨A, vs, rfl, q, r⟩ := r3.tup g3
    refine .inr ⟨A, vs, rfl, q, fun hw => ?_, fun _ => PV.tup (PV.mono st w3) g3 (cutD_rep r l h)⟩
    have e : cutV vs l h = vs := by
      unfold cutV
      rw [hw.1, hw.2]
      simp
    have e2 : cutD xs l h = xs := by
      unfold cutD
      rw [← r.length, hw.1, hw.2, r.length]
      simp
    rcases r3 with r3 | ⟨p, _, _, _, c⟩
    · have w3 : PV K L W H Q (.tup (cutD xs l h)) S3 := w3
      rw [e2] at w3
      exact w3 W3 H3 _ st g3 r3
    · exact c.elim
  | _ => exact w3.elim
theorem se_cut {lo hi : Option Expr} {p2 : Pos} {dl dh : DO} {tl th : TO} (ha : SB X K L E a ta da) (hl : PO X lo tl) (hh : PO X hi th) (sl : SemO (K := K) (L := L) E dl tl) (sh : SemO (K := K) (L := L) E dh th) :
    SE X K L E (.Subscript a (.Slice lo hi none p2) pos) (tSl (rSlB K) ta tl th) (dCut da dl dh) := by
  obtain ⟨rfl, pa, sa⟩ := ha
  exact ⟨rfl, pe_slice (sl_list.or sl_tupA) pa hl hh, sem_cut sa sl sh⟩
end
end Sk

set_option Elab.async false
set_option linter.all false
set_option maxRecDepth 100000
set_option maxHeartbeats 2000000
set_option autoImplicit false
/-! SkY: own == and !=, truth of instances, isinstance of own classes. -/
namespace PySem.W
open PySem PySem.Spec PyProof.Rows
section
variable {prog : Program} {w : World} {A : Around} {E : Value → Shared → Prop} {s : Shared} {K : Frag} {x C f : Addr} {ox : Obj} {od : Option Obj}
theorem sk_special {M : Model} {name : Str} {args : List Value} {Q : Option Value → Shared → Prop} (X : K.In s.heap) (I : InstAt s.heap x ox C od) (hs : findIn K (.ref C) name = some (some (.ref f))) (hf : isFn K (.ref f) = true)
    (h : wpAny M A (call (.ref f) (.ref x :: args)) (fun v => Q (some v)) E s) : wpAny M A (callSpecial? (.ref x) name args) Q E s := by
  simp only [callSpecial?]
  refine wpAny_bind ?_
  unfold specialOf
  refine wpAny_bind (I.type.here ((looks_findIn X hs).here ?_))
  refine wpAny_holding (wpAny_bind ((bind_fn X _ (beq_iff_eq.mp hf)).here ?_))
  exact wpAny_bind (wpAny_mono h (fun v s' h' => wpAny_pure h') fun _ _ h' => h')
theorem sk_truthy {M : Model} {Q : Bool → Shared → Prop} (X : K.In s.heap) (I : InstAt s.heap x ox C od) (hs : findIn K (.ref C) "__bool__" = some (some (.ref f))) (hf : isFn K (.ref f) = true)
    (h : wpAny M A (call (.ref f) [.ref x]) (fun v s' => ∃ b, v = .bool b ∧ Q b s') E s) : wpAny M A (truthy (.ref x)) Q E s := by
  unfold truthy
  first
    | (refine wpAny_bind (m := callSpecial? (.ref x) (Str.ofString "__bool__")) (sk_special X I hs hf (wpAny_mono h (fun r s' hr => ?_) fun _ _ y => y)))
    | (refine wpAny_bind (wpAny_pure ?_); refine wpAny_bind (m := callSpecial? (.ref x) (Str.ofString "__bool__")) (sk_special X I hs hf (wpAny_mono h (fun r s' hr => ?_) fun _ _ y => y)))
  obtain ⟨b, rfl, hq⟩ := hr
  exact wpAny_pure hq
theorem sk_ne_entry {Q : Fin → Shared → Prop} {y : Addr} (hu : A.units < cLine) (X : K.In s.heap) (I : InstAt s.heap x ox C od) (hs : findIn K (.ref C) "__eq__" = some (some (.ref f))) (hf : isFn K (.ref f) = true)
    (h : wpAny (model prog w) A (call (.ref f) [.ref x, .ref y]) (fun v s' => ∃ b, v = .bool b ∧ Q (.done (.ret (.bool (!b)))) s') E s) : wpAny (model prog w) A (Builtin.«object.__ne__» ⟨[.ref x, .ref y], []⟩) Q E s := by
  unfold Builtin.«object.__ne__»
  repeat (first
    | with_reducible refine wpAny_cRoomFor hu ?_
    | (refine wpAny_bind (m := callSpecialIfBound? (.ref x) (Str.ofString "__eq__") [.ref y])
        (ifBound_K X I hs hf (wpAny_mono h (fun r s' hr => by
          obtain ⟨b, rfl, hq⟩ := hr
          repeat (first | exact hq | exact wpAny_pure hq | exact wpAny_truthy_bool hq | (refine wpAny_bind (m := truthy (.bool _)) (wpAny_truthy_bool ?_)) | wp_step)) fun _ _ e => e)))
    | wp_step)
theorem sk_ne {Q : Value → Shared → Prop} {y : Addr} {tb : Value} (hu : A.units + 1 < cLine) (X : K.In s.heap) (I : InstAt s.heap x ox C od) (hb : Looks (model prog w) s.heap (typeOf (.ref y)) tb) (hn : notFirst K C tb = true)
    (hne : findIn K (.ref C) "__ne__" = some (some (.builtin "object.__ne__"))) (hm : mroIn K C (.type "object") = some true)
    (hs : findIn K (.ref C) "__eq__" = some (some (.ref f))) (hf : isFn K (.ref f) = true)
    (h : wpAny (model prog w) A.in1 (call (.ref f) [.ref x, .ref y]) (fun v s' => ∃ b, v = .bool b ∧ Q (.bool (!b)) s') E s) : wpAny (model prog w) A (richCompare .NotEq (.ref x) (.ref y)) Q E s := by
  have call1 : wpAny (model prog w) A (call (.builtin "object.__ne__") [.ref x, .ref y]) (fun v s' => ∃ b, v = .bool b ∧ Q v s') E s := by
    refine wpAny_call (codeAny_call_builtin F.cmp_object.ne.plain F.cmpEntry_ne (check_slot F.cmpKind_ne F.cmpSplit_ne (I.type.andThen (looks_mroIn X hm)) (F.cmpArgs_ne _ _)
      (sk_ne_entry (A := A.in1) (show A.units + 1 < cLine from hu) X I hs hf (wpAny_mono h (fun v s' z => ?_) fun _ _ e => e))))
    obtain ⟨b, e, q⟩ := z
    exact ⟨b, e, ⟨!b, rfl, q⟩⟩
  have one : wpAny (model prog w) A (tryCompare (.ref x) "__ne__" (.ref y)) (fun r s' => ∃ v, r = some v ∧ Q v s') E s := by
    unfold tryCompare
    refine wpAny_bind ?_
    simp only [callSpecialIfBound?, bindSpecialIfBound?]
    refine wpAny_holding (wpAny_bind (wpAny_bind (wpAny_bind (I.type.here ((looks_findIn X hne).here ?_)))))
    refine wpAny_bind (wpAny_askSetting (wpAny_ite ?_))
    have fin : wpAny (model prog w) A (call (.builtin "object.__ne__") ([.ref x] ++ [.ref y]) >>= fun v => pure (some v)) (fun r s' => ∃ b, r = some (.bool b) ∧ Q (.bool b) s') E s :=
      wpAny_bind (wpAny_mono call1 (fun v s' z => by
        obtain ⟨b, rfl, q⟩ := z
        exact wpAny_pure ⟨b, rfl, q⟩) fun _ _ h' => h')
    have fin2 : wpAny (model prog w) A (call (.builtin "object.__ne__") ([.ref x] ++ [.ref y]) >>= fun v => pure (some v)) (fun a s' => wpAny (model prog w) A (match a with | some .notImplemented => pure none | none => pure none | some v => pure (some v)) (fun r s' => ∃ v, r = some v ∧ Q v s') E s') E s :=
      wpAny_mono fin (fun a s' z => by
        obtain ⟨b, rfl, q⟩ := z
        exact wpAny_pure ⟨.bool b, rfl, q⟩) fun _ _ h' => h'
    split
    · exact wpAny_bind (wpAny_of_eq (F.cmp_object.ne.bind _) (wpAny_pure (by exact fin2)))
    · exact wpAny_tryCatch (wpAny_bind (wpAny_of_eq (F.cmp_object.ne.bind _) (wpAny_pure (by exact fin2))))
  unfold richCompare
  simp only [oneThing_ref]
  refine wpAny_holding (wpAny_bind (wpAny_cRoomFor (Nat.lt_of_succ_lt hu) ?_))
  rw [cmpInfo_NotEq]
  dsimp only
  refine wpAny_bind (I.type.here (wpAny_bind (hb.here ?_)))
  split
  · rename_i q
    have e : subIn K tb (.ref C) = some false := by
      rcases Bool.or_eq_true_iff.mp hn with e | e
      · rw [beq_iff_eq.mp e] at q; simp at q
      · exact beq_iff_eq.mp e
    refine wpAny_bind ((looks_subIn X e).here ?_)
    simp only [Bool.false_eq_true, if_false]
    refine wpAny_bind (wpAny_mono one (fun r s' z => ?_) fun _ _ e => e)
    obtain ⟨v, rfl, hq⟩ := z
    exact wpAny_pure hq
  · refine wpAny_bind (wpAny_pure ?_)
    simp only [Bool.false_eq_true, if_false]
    refine wpAny_bind (wpAny_mono one (fun r s' z => ?_) fun _ _ e => e)
    obtain ⟨v, rfl, hq⟩ := z
    exact wpAny_pure hq
end
end PySem.W

set_option Elab.async false
set_option linter.all false
set_option maxRecDepth 100000
set_option maxHeartbeats 2000000
set_option autoImplicit false
/-! SkY: own == and !=, truth of instances, isinstance of own classes: rules. -/
namespace Sk
open PySem PySem.Spec PyProof.Rows L2
/-! ### plain readings -/
def tyS : List String := ["NoneType", "bool", "int", "str", "tuple", "list", "dict"]
/-- x == y, the own == of instances by a table -/
def oEqO (n : Nat) (eqs : Nat → Option (List D → M D)) : D → D → M D := fun x y => match x, y with
  | .obj c fs, .obj c' gs => if decide (c < n ∧ c' < n) = true then (match eqs c with
    | some f => M.bind (noX (f [.obj c fs, .obj c' gs])) fun d => M.bind (asB d) fun b => M.pure (.bl b)
    | none => stk) else stk
  | x, y => oEq x y
def oNeO (n : Nat) (eqs : Nat → Option (List D → M D)) : D → D → M D := fun x y => match x, y with
  | .obj c fs, .obj c' gs => if decide (c < n ∧ c' < n) = true then (match eqs c with
    | some f => M.bind (noX (f [.obj c fs, .obj c' gs])) fun d => M.bind (asB d) fun b => M.pure (.bl (!b))
    | none => stk) else stk
  | x, y => oNe x y
/-- the truth of a value, instances by their own __bool__ -/
def asTru (n : Nat) (tru : Nat → Option (List D → M D)) : D → M Bool
  | .bl b => M.pure b
  | .obj c fs => if decide (c < n) = true then (match tru c with
    | some f => M.bind (noX (f [.obj c fs])) asB
    | none => stk) else stk
  | _ => stk
def tTruD (n : Nat) (tru : Nat → Option (List D → M D)) (a : DE) : DB := fun env => M.bind (a env) (asTru n tru)
/-- isinstance(x, C), C an own class -/
def oIsO (n c : Nat) : D → M D
  | .obj c' _ => if decide (c' < n) = true then M.pure (.bl (decide (c' = c))) else stk
  | d => M.bind (lift (tyN d)) fun T => if tyS.contains T = true then M.pure (.bl false) else stk
structure Kits (K : PySem.W.Frag) (L : Ly) (n : Nat) : Prop where
  cc : Clss K L n
  ca : ∀ c, c < n → PySem.W.findIn K (.ref (L.cls c)) "__class__" = some (some (.builtin "object.__class__"))
  gs : PySem.W.specialIn K (.builtin "object.__class__") "__get__" = some (some (.builtin "getset_descriptor.__get__"))
  tk : PySem.W.takesIn K (.builtin "object.__class__") = some true
  mo : ∀ c, c < n → PySem.W.mroIn K (L.cls c) (.type "object") = some true
  ne : ∀ c, c < n → PySem.W.findIn K (.ref (L.cls c)) "__ne__" = some (some (.builtin "object.__ne__"))
  nf : ∀ c c', c < n → c' < n → PySem.W.notFirst K (L.cls c) (.ref (L.cls c')) = true
  oo : ∀ c c', c < n → c' < n → PySem.W.kitOne K (.ref (L.cls c)) (.ref (L.cls c')) = some (decide (c = c'))
  bo : ∀ T c, tyS.contains T = true → c < n → PySem.W.kitOne K (.type T) (.ref (L.cls c)) = some false
  ob : ∀ T c, tyS.contains T = true → c < n → PySem.W.kitOne K (.ref (L.cls c)) (.type T) = some false
section
variable {X : Cx} {K : PySem.W.Frag} {L : Ly} {E : XK} {a b c e : Expr} {es : List Expr} {ta tb tc : TE} {da db dc : DE} {pos p : Pos}
theorem run_fnA {k : Nat} {f : Addr} {fd : FuncData} {ps : List Str} {sp : Sp} {A : Around} {pins : List (Addr × Obj)} {σ : L2.St} {H : Hp} {s : Shared} {Q : VK} {us : List Value} {vs : List V} (F : FnOk X.prog X.w X.K X.mg X.base (L2.CX X.prog X.w) k f fd ps sp) (hr : Room k A) (hA : A.frames = X.A.frames) (hb : Binds X.K fd ps [])
    (hx : Passes (L2.CX X.prog X.w) X E) (I : Inv X pins σ H s) (r : Vals vs us) (h : sp vs H Q E) : wpAny (model X.prog X.w) A (call (.ref f) us) (EP X pins σ Q) X.xe s := by
  have hl : us.length = ps.length := by rw [← r.length]; exact F.len _ _ _ _ h
  have e0 : Env0 X.prog X.w X.K X.mg X.base A X.stack s H := by
    have e := I.env0
    exact ⟨by rw [hA]; exact e.frames, e.mod, e.bs, e.bsz, e.funs, e.frf, e.hok, e.bare⟩
  have bd := hb s us I.kIn (by rw [List.append_nil]; exact hl)
  rw [List.append_nil] at bd
  refine wpAny_call (codeAny_mono (F.run A X.stack s H ⟨us, []⟩ us vs Q E hr e0 bd r h) fun r s' hq => ?_)
  cases r with
  | error e => exact hx pins σ H s e s' I hq
  | ok fl =>
    cases fl with
    | ret u => exact I.after hq
    | next => exact False.elim hq
    | brk => exact False.elim hq
    | cont => exact False.elim hq
/-- the methods of a table -/
def Tab (X : Cx) (L : Ly) (m : Str) (k : Nat) (t : Nat → Option (List D → M D)) : Prop := ∀ c f, t c = some f → ∃ ps j, HasMt X.prog X.w X.K L X.mg X.base c m ps j k f ∧ Room (j + 1) X.A
def rOwn (K : PySem.W.Frag) (L : Ly) (n : Nat) (eqs : Nat → Option (List D → M D)) (E : XK) (neg : Bool) : R2 := fun x y H Q => ∃ c c' a b dx dy fs gs f, c < n ∧ c' < n ∧ x = .ref a ∧ y = .ref b ∧ H a = some (.ins (L.cls c) dx fs) ∧ H b = some (.ins (L.cls c') dy gs) ∧
  eqs c = some f ∧ spM K L 2 f [x, y] H (fun v H' => ∃ k, v = .bl k ∧ Q (.bl (if neg = true then !k else k)) H') E
theorem op_eqOwn {n : Nat} {eqs : Nat → Option (List D → M D)} (kt : Kits X.K L n) (hx : Passes (L2.CX X.prog X.w) X E) (ht : Tab X L "__eq__" 2 eqs) : OpR X (compareOp .Eq) (rOwn X.K L n eqs E false) := by
  intro pins s σ H x y v u Q I rx ry h
  obtain ⟨c, c', a, b, dx, dy, fs, gs, f, hc, hc', rfl, rfl, ha, hb, hf, sp⟩ := h
  cases rx
  cases ry
  obtain ⟨ps, j, ⟨f0, fd, F, cl, me, nm, bd⟩, hr⟩ := ht c f hf
  obtain ⟨mA, J, _⟩ := ins_get I.hok ha
  obtain ⟨mB, J', _⟩ := ins_get I.hok hb
  obtain ⟨od, J, _⟩ := J.look
  obtain ⟨od', J', _⟩ := J'.look
  obtain ⟨m, hF⟩ := I.fr
  show wpAny (model X.prog X.w) X.A (richCompare .Eq _ _) (EP X pins σ Q) X.xe s
  refine PySem.W.cmp_K (op := .Eq) hr.units0 hF I.ok.mod.kin J J'.type (kt.nf c c' hc hc') me.at_ me.fn ?_
  refine wpAny_mono (run_fnA (vs := [.ref a, .ref b]) F (hr.mono (Nat.le_succ _)) rfl bd hx I (.cons rfl (.cons rfl .nil)) sp) (fun v s' z => ?_) fun _ _ e => e
  obtain ⟨v', H', I', rv, k, rfl, q⟩ := z
  cases rv
  exact ⟨.bl k, H', I', rfl, q⟩
theorem op_neOwn {n : Nat} {eqs : Nat → Option (List D → M D)} (kt : Kits X.K L n) (hx : Passes (L2.CX X.prog X.w) X E) (ht : Tab X L "__eq__" 2 eqs) : OpR X (compareOp .NotEq) (rOwn X.K L n eqs E true) := by
  intro pins s σ H x y v u Q I rx ry h
  obtain ⟨c, c', a, b, dx, dy, fs, gs, f, hc, hc', rfl, rfl, ha, hb, hf, sp⟩ := h
  cases rx
  cases ry
  obtain ⟨ps, j, ⟨f0, fd, F, cl, me, nm, bd⟩, hr⟩ := ht c f hf
  obtain ⟨mA, J, _⟩ := ins_get I.hok ha
  obtain ⟨mB, J', _⟩ := ins_get I.hok hb
  obtain ⟨od, J, _⟩ := J.look
  obtain ⟨od', J', _⟩ := J'.look
  show wpAny (model X.prog X.w) X.A (richCompare .NotEq _ _) (EP X pins σ Q) X.xe s
  have hu : X.A.units + 1 < cLine := hr.in1.units0
  refine PySem.W.sk_ne hu I.kIn J J'.type (kt.nf c c' hc hc') (kt.ne c hc) (kt.mo c hc) me.at_ me.fn ?_
  refine wpAny_mono (run_fnA (A := X.A.in1) (vs := [.ref a, .ref b]) F hr.in1 rfl bd hx I (.cons rfl (.cons rfl .nil)) sp) (fun v s' z => ?_) fun _ _ e => e
  obtain ⟨v', H', I', rv, k, rfl, q⟩ := z
  cases rv
  exact ⟨k, rfl, .bl (!k), H', I', rfl, q⟩
/-- what data of one kind may be seen as -/
def isOb : D → Bool
  | .obj _ _ => true
  | _ => false
theorem own_ops {n : Nat} {eqs : Nat → Option (List D → M D)} {neg : Bool} {W : Wd} {H : Hp} {S : Store} {c c' : Nat} {fs gs : List D} {v w : V} {Q : VK} {R : Nat → List D → Store → Prop} (g : Gd K L W H S) (t1 : Tp K L W H (.obj c fs) v) (t2 : Tp K L W H (.obj c' gs) w)
    (f1 : Rp K L W (.obj c fs) v) (f2 : Rp K L W (.obj c' gs) w)
    (h : wpO ((if decide (c < n ∧ c' < n) = true then (match eqs c with
      | some f => M.bind (noX (f [.obj c fs, .obj c' gs])) fun d => M.bind (asB d) fun b => M.pure (.bl (if neg = true then !b else b))
      | none => stk) else stk) S) (PV K L W H Q) R) : rOwn K L n eqs E neg v w H Q := by
  obtain ⟨ck, h⟩ := wpO_ite h
  obtain ⟨h1, h2⟩ := of_decide_eq_true ck
  cases q : eqs c with
  | none =>
    rw [q] at h
    exact h.elim
  | some f =>
    rw [q] at h
    obtain ⟨a, dx, vs, rfl, e1, r1⟩ := f1
    obtain ⟨b, dy, ws, rfl, e2, r2⟩ := f2
    refine ⟨c, c', a, b, dx, dy, _, _, f, h1, h2, rfl, rfl, g.fz _ _ e1, g.fz _ _ e2, q, W, S, [.obj c fs, .obj c' gs], rfl, g, ⟨_, _, rfl, ⟨a, dx, vs, rfl, e1, r1⟩, _, _, rfl, ⟨b, dy, ws, rfl, e2, r2⟩, rfl⟩, ?_⟩
    refine wpO_noX (wpO_imp (wpO_bind h) fun d S1 w1 => ?_)
    obtain ⟨k, rfl, w2⟩ := wpO_asB (wpO_bind w1)
    exact fun W' H' v' st g' rv => ⟨k, rv, w2 W' H' _ st g' rfl⟩
theorem Tp.frozen {W : Wd} {H : Hp} {c : Nat} {fs : List D} {v : V} (t : Tp K L W H (.obj c fs) v) (h : ∀ p, v = .ref p → W.G p ≠ none) : Rp K L W (.obj c fs) v := by
  rcases t with t | ⟨p, e, n1, _⟩
  · exact t
  · exact absurd n1 (h p e)
theorem ops_eqO {n : Nat} {eqs : Nat → Option (List D → M D)} : ∀ (W : Wd) (H : Hp) (S : Store) (x y : D) (v w : V) (Q : VK) (R : Nat → List D → Store → Prop), Gd K L W H S → Rp K L W x v → Rp K L W y w → wpO (oEqO n eqs x y S) (PV K L W H Q) R → rEqD K v w H Q ∨ rOwn K L n eqs E false v w H Q := by
  intro W H S x y v w Q R g r1 r2 h
  by_cases hx : isOb x = true ∧ isOb y = true
  · obtain ⟨h1, h2⟩ := hx
    cases x <;> first | cases h1 | skip
    cases y <;> first | cases h2 | skip
    exact .inr (own_ops g (.inl r1) (.inl r2) r1 r2 h)
  · have e : oEqO n eqs x y = oEq x y := by
      cases x <;> first | rfl | skip
      cases y <;> first | rfl | exact absurd ⟨rfl, rfl⟩ hx
    rw [e] at h
    exact .inl (ops_eq W H S x y v w Q R g (.inl r1) (.inl r2) h)
theorem ops_neO {n : Nat} {eqs : Nat → Option (List D → M D)} : ∀ (W : Wd) (H : Hp) (S : Store) (x y : D) (v w : V) (Q : VK) (R : Nat → List D → Store → Prop), Gd K L W H S → Rp K L W x v → Rp K L W y w → wpO (oNeO n eqs x y S) (PV K L W H Q) R → rNeD K v w H Q ∨ rOwn K L n eqs E true v w H Q := by
  intro W H S x y v w Q R g r1 r2 h
  by_cases hx : isOb x = true ∧ isOb y = true
  · obtain ⟨h1, h2⟩ := hx
    cases x <;> first | cases h1 | skip
    cases y <;> first | cases h2 | skip
    exact .inr (own_ops g (.inl r1) (.inl r2) r1 r2 h)
  · have e : oNeO n eqs x y = oNe x y := by
      cases x <;> first | rfl | skip
      cases y <;> first | rfl | exact absurd ⟨rfl, rfl⟩ hx
    rw [e] at h
    exact .inl (ops_ne W H S x y v w Q R g (.inl r1) (.inl r2) h)
theorem sem_binF {r : R2} {f : D → D → M D} (hs : ∀ (W : Wd) (H : Hp) (S : Store) (x y : D) (v w : V) (Q : VK) (R : Nat → List D → Store → Prop), Gd K L W H S → Rp K L W x v → Rp K L W y w → wpO (f x y S) (PV K L W H Q) R → r v w H Q)
    (ha : Sem K L E da ta) (hb : Sem K L E db tb) : Sem K L E (dBin f da db) (tOp r ta tb) := by
  intro F W H S env σ Q fr w
  refine ha F W H S env σ _ fr (wpO_imp (wpO_bind w) fun x S1 w1 W1 H1 v1 st1 g1 r1 => ?_)
  refine hb F W1 H1 S1 env σ _ (fr.next st1 g1) (wpO_imp (wpO_bind w1) fun y S2 w2 W2 H2 v2 st2 g2 r2 => ?_)
  exact hs W2 H2 S2 x y v1 v2 Q _ g2 (r1.mono st2.le) r2 (wpO_imp w2 fun d S' q => q.mono (st1.trans st2))
def rEqX (K : PySem.W.Frag) (L : Ly) (n : Nat) (eqs : Nat → Option (List D → M D)) (E : XK) : R2 := fun v w H Q => rEqD K v w H Q ∨ rOwn K L n eqs E false v w H Q
def rNeX (K : PySem.W.Frag) (L : Ly) (n : Nat) (eqs : Nat → Option (List D → M D)) (E : XK) : R2 := fun v w H Q => rNeD K v w H Q ∨ rOwn K L n eqs E true v w H Q
theorem se_eqO {n : Nat} {eqs : Nat → Option (List D → M D)} (hu : X.A.units + 64 < cLine) (kt : Kits X.K L n) (hx : Passes (L2.CX X.prog X.w) X E) (ht : Tab X L "__eq__" 2 eqs) (ha : SE X K L E a ta da) (hb : SE X K L E b tb db) :
    SE X K L E (.Compare a [.Eq] [b] pos) (tOp (rEqX K L n eqs E) ta tb) (dBin (oEqO n eqs) da db) := by
  obtain ⟨rfl, pa, sa⟩ := ha
  exact ⟨rfl, pe_cmpR ((op_eqD hu).or (op_eqOwn kt hx ht)) pa hb.p (nomark _), sem_binF ops_eqO sa hb.s⟩
theorem se_neO {n : Nat} {eqs : Nat → Option (List D → M D)} (hu : X.A.units + 64 < cLine) (kt : Kits X.K L n) (hx : Passes (L2.CX X.prog X.w) X E) (ht : Tab X L "__eq__" 2 eqs) (ha : SE X K L E a ta da) (hb : SE X K L E b tb db) :
    SE X K L E (.Compare a [.NotEq] [b] pos) (tOp (rNeX K L n eqs E) ta tb) (dBin (oNeO n eqs) da db) := by
  obtain ⟨rfl, pa, sa⟩ := ha
  exact ⟨rfl, pe_cmpR ((op_neD hu).or (op_neOwn kt hx ht)) pa hb.p (nomark _), sem_binF ops_neO sa hb.s⟩
theorem st_eqO {n : Nat} {eqs : Nat → Option (List D → M D)} (hu : X.A.units + 64 < cLine) (kt : Kits X.K L n) (hx : Passes (L2.CX X.prog X.w) X E) (ht : Tab X L "__eq__" 2 eqs) (ha : SE X K L E a ta da) (hb : SE X K L E b tb db) :
    ST X K L E (.Compare a [.Eq] [b] pos) (tTest (tOp (rEqX K L n eqs E) ta tb)) (tVal (dBin (oEqO n eqs) da db)) := by
  obtain ⟨rfl, pa, sa⟩ := ha
  exact ⟨rfl, pt_cmpR ((op_eqD hu).or (op_eqOwn kt hx ht)) pa hb.p (nomark _), sem_test (sem_binF ops_eqO sa hb.s)⟩
theorem st_neO {n : Nat} {eqs : Nat → Option (List D → M D)} (hu : X.A.units + 64 < cLine) (kt : Kits X.K L n) (hx : Passes (L2.CX X.prog X.w) X E) (ht : Tab X L "__eq__" 2 eqs) (ha : SE X K L E a ta da) (hb : SE X K L E b tb db) :
    ST X K L E (.Compare a [.NotEq] [b] pos) (tTest (tOp (rNeX K L n eqs E) ta tb)) (tVal (dBin (oNeO n eqs) da db)) := by
  obtain ⟨rfl, pa, sa⟩ := ha
  exact ⟨rfl, pt_cmpR ((op_neD hu).or (op_neOwn kt hx ht)) pa hb.p (nomark _), sem_test (sem_binF ops_neO sa hb.s)⟩
/-! ### truth -/
def tTru (K : PySem.W.Frag) (L : Ly) (n : Nat) (tru : Nat → Option (List D → M D)) (E : XK) (ta : TE) : TT := fun σ H Q => ta σ H fun x H1 => (∃ k, x = .bl k ∧ Q k H1) ∨ ∃ c a dx fs f, c < n ∧ x = .ref a ∧ H1 a = some (.ins (L.cls c) dx fs) ∧ tru c = some f ∧
  spM K L 1 f [x] H1 (fun v H2 => ∃ k, v = .bl k ∧ Q k H2) E
theorem pt_tru {n : Nat} {tru : Nat → Option (List D → M D)} (hx : Passes (L2.CX X.prog X.w) X E) (ht : Tab X L "__bool__" 1 tru) (pa : PE X a ta) (he : ∀ whole, isTrue a X.env whole = (do let v ← whole; standAt a.pos; holding [v] (truthy v)) := by intro _; rfl) :
    PT X a (tTru X.K L n tru E ta) := by
  refine ⟨fun pins s σ H Q I h => ?_⟩
  refine isTrue_plain (thn (pa.run pins s σ H _ I h) fun v s1 ⟨x, H1, I1, r1, q1⟩ => ?_) (he _)
  rcases q1 with ⟨k, rfl, q⟩ | ⟨c, A, dx, fs, f, hc, rfl, ea, hf, sp⟩
  · cases r1
    exact wpAny_truthy_bool ⟨H1, I1, q⟩
  · cases r1
    obtain ⟨ps, j, ⟨f0, fd, F, cl, me, nm, bd⟩, hr⟩ := ht c f hf
    obtain ⟨mA, J, _⟩ := ins_get I1.hok ea
    obtain ⟨od, J, _⟩ := J.look
    refine PySem.W.sk_truthy I1.kIn J me.at_ me.fn ?_
    refine wpAny_mono (run_fnA (vs := [.ref A]) F (hr.mono (Nat.le_succ _)) rfl bd hx I1 (.cons rfl .nil) sp) (fun v s' z => ?_) fun _ _ e => e
    obtain ⟨v', H', I', rv, k, rfl, q⟩ := z
    cases rv
    exact ⟨k, rfl, H', I', q⟩
theorem st_tru {n : Nat} {tru : Nat → Option (List D → M D)} (hx : Passes (L2.CX X.prog X.w) X E) (ht : Tab X L "__bool__" 1 tru) (ha : SE X K L E a ta da) (he : ∀ whole, isTrue a X.env whole = (do let v ← whole; standAt a.pos; holding [v] (truthy v)) := by intro _; rfl) :
    ST X K L E a (tTru K L n tru E ta) (tTruD n tru da) := by
  obtain ⟨rfl, pa, sa⟩ := ha
  refine ⟨rfl, pt_tru hx ht pa he, fun F W H S env σ Q fr w => ?_⟩
  refine sa F W H S env σ _ fr (wpO_imp (wpO_bind w) fun x S1 w1 W1 H1 v1 st1 g1 r1 => ?_)
  cases x with
  | bl k => exact .inl ⟨k, r1, w1 W1 H1 st1 g1⟩
  | obj c fs =>
    obtain ⟨ck, w2⟩ := wpO_ite w1
    cases q : tru c with
    | none =>
      rw [q] at w2
      exact w2.elim
    | some f =>
      rw [q] at w2
      obtain ⟨A, dx, vs, rfl, e1, r⟩ := r1
      refine .inr ⟨c, A, dx, _, f, of_decide_eq_true ck, rfl, g1.fz _ _ e1, q, W1, S1, [.obj c fs], rfl, g1, ⟨_, _, rfl, ⟨A, dx, vs, rfl, e1, r⟩, rfl⟩, ?_⟩
      refine wpO_noX (wpO_imp (wpO_bind w2) fun d S2 w3 => ?_)
      obtain ⟨k, rfl, w4⟩ := wpO_asB w3
      exact fun W' H' v' st g' rv => ⟨k, rv, w4 W' H' (st1.trans st) g'⟩
  | _ => exact w1.elim
/-! ### isinstance of own classes -/
theorem sem_isO {n c : Nat} (kt : Kits K L n) (hc : c < n) (ha : SemB K L E da ta) : Sem K L E (dUn (oIsO n c) da) (tCB (rIsi K) (tCons ta (tCons (tC (.ref (L.cls c))) tNil))) := by
  intro F W H S env σ Q fr w
  refine ha F W H S env σ _ fr (wpO_imp (wpO_bind w) fun x S1 w1 W1 H1 v1 st1 g1 r1 => ?_)
  by_cases hx : isOb x = true
  · cases x <;> first | cases hx | skip
    rename_i c' fs
    obtain ⟨ck, w2⟩ := wpO_ite w1
    have hc' := of_decide_eq_true ck
    obtain ⟨A, dx, vs, rfl, e1, r⟩ := r1.obj g1
    exact ⟨_, .ref (L.cls c), .ref (L.cls c'), .ref (L.cls c), _, rfl, .own _, .base (.ins e1 (kt.cc.cls c' hc') (kt.ca c' hc') kt.gs kt.tk (kt.mo c' hc')), kt.oo c' c hc' hc, PV.now (PV.mono st1 w2) g1 rfl⟩
  · have e : oIsO n c x = M.bind (lift (tyN x)) fun T => if tyS.contains T = true then M.pure (.bl false) else stk := by
      cases x <;> first | rfl | exact absurd rfl hx
    have w1 : wpO (oIsO n c x S1) (PV K L W H Q) (XP K L F E) := w1
    rw [e] at w1
    obtain ⟨T, eT, w2⟩ := wpO_lift (wpO_bind w1)
    obtain ⟨ck, w3⟩ := wpO_ite w2
    exact ⟨v1, .ref (L.cls c), .type T, .ref (L.cls c), false, rfl, .own _, tyx_of g1 r1 eT, kt.bo T c ck hc, PV.now (PV.mono st1 w3) g1 rfl⟩
theorem se_isO {n k : Nat} {x : Str} {p2 : Pos} (kt : Kits X.K L n) (hk : k < n) (ha : SB X K L E a ta da) (hgx : Gl X x) (hmx : X.mg x = some (.ref (L.cls k))) (hg : Gl X "isinstance") (hm : X.mg "isinstance" = none) (hd : (x == ("__debug__" : Str)) = false := by decide)
    (hst : starEach [a, .Name x p2] X.env = (false, eval a X.env) :: starEach [.Name x p2] X.env := by rfl) (hst2 : starEach [.Name x p2] X.env = [(false, eval (.Name x p2) X.env)] := by rfl) (hpl : (backTo pos (starEach [.Name x p2] X.env)).any (·.1) = false := by rfl) :
    SE X K L E (.Call (.Name "isinstance" p) [a, .Name x p2] [] pos) (tCB (rIsi K) (tCons ta (tCons (tC (.ref (L.cls k))) tNil))) (dUn (oIsO n k) da) := by
  obtain ⟨rfl, pa, sa⟩ := ha
  exact ⟨rfl, pe_callB call_isi hg hm (by decide +kernel) (pa_cons pa (pa_cons (pe_glob hgx hmx rfl hd) pa_nil hst2) hst) (he := hst) (hpl := hpl), sem_isO kt hk sa⟩
end
end Sk

set_option Elab.async false
set_option linter.all false
set_option maxRecDepth 100000
set_option maxHeartbeats 2000000
set_option autoImplicit false
/-! SkZ: more built-ins, enumerate, facts about classes by one Bool. -/
namespace Sk
open PySem PySem.Spec PyProof.Rows L2
def oIsBl : D → D → M D
  | .bl a, .bl b => M.pure (.bl (decide (a = b)))
  | _, _ => stk
def oNotBl : D → D → M D
  | .bl a, .bl b => M.pure (.bl (!decide (a = b)))
  | _, _ => stk
section
variable {X : Cx} {K : PySem.W.Frag} {L : Ly} {E : XK} {a b c e : Expr} {es : List Expr} {ta tb tc : TE} {da db dc : DE} {pos p : Pos}
theorem ops_isBl : OpS K L rIsB oIsBl := by
  intro W H S x y v w Q R g t1 t2 h
  unfold oIsBl at h
  split at h
  · rw [t1.bl, t2.bl]
    exact ⟨_, _, rfl, rfl, PV.now h g rfl⟩
  · exact h.elim
theorem ops_notBl : OpS K L rNotB oNotBl := by
  intro W H S x y v w Q R g t1 t2 h
  unfold oNotBl at h
  split at h
  · rw [t1.bl, t2.bl]
    exact ⟨_, _, rfl, rfl, PV.now h g rfl⟩
  · exact h.elim
theorem se_isBl (ha : SB X K L E a ta da) (hb : SB X K L E b tb db) : SE X K L E (.Compare a [.Is] [b] pos) (tOp rIsB ta tb) (dBin oIsBl da db) := se_cmp op_isBl ops_isBl ha hb (nomark _)
theorem se_notBl (ha : SB X K L E a ta da) (hb : SB X K L E b tb db) : SE X K L E (.Compare a [.IsNot] [b] pos) (tOp rNotB ta tb) (dBin oNotBl da db) := se_cmp op_notBl ops_notBl ha hb (nomark _)
theorem st_isBl (ha : SB X K L E a ta da) (hb : SB X K L E b tb db) : ST X K L E (.Compare a [.Is] [b] pos) (tTest (tOp rIsB ta tb)) (tVal (dBin oIsBl da db)) := ⟨ha.hK, pt_cmpR op_isBl ha.p hb.p (nomark _), sem_test (sem_bin ops_isBl ha.s hb.s)⟩
theorem st_notBl (ha : SB X K L E a ta da) (hb : SB X K L E b tb db) : ST X K L E (.Compare a [.IsNot] [b] pos) (tTest (tOp rNotB ta tb)) (tVal (dBin oNotBl da db)) := ⟨ha.hK, pt_cmpR op_notBl ha.p hb.p (nomark _), sem_test (sem_bin ops_notBl ha.s hb.s)⟩
theorem st_in (hu : X.A.units + 65 < cLine) (ha : SB X K L E a ta da) (hb : SB X K L E b tb db) (hm : behindInMarks .In b = false := by rfl) : ST X K L E (.Compare a [.In] [b] pos) (tTest (tOp (rInD2 K) ta tb)) (tVal (dBin oIn da db)) := by
  obtain ⟨rfl, pa, sa⟩ := ha
  exact ⟨rfl, pt_cmpR (op_inD2 hu) pa hb.p hm, sem_test (sem_bin ops_in sa hb.s)⟩
theorem st_notIn (hu : X.A.units + 65 < cLine) (ha : SB X K L E a ta da) (hb : SB X K L E b tb db) (hm : behindInMarks .NotIn b = false := by rfl) : ST X K L E (.Compare a [.NotIn] [b] pos) (tTest (tOp (rNotInD2 K) ta tb)) (tVal (dBin oNotIn da db)) := by
  obtain ⟨rfl, pa, sa⟩ := ha
  exact ⟨rfl, pt_cmpR (op_notInD2 hu) pa hb.p hm, sem_test (sem_bin ops_notIn sa hb.s)⟩
theorem units65 {k : Nat} {A : Around} (r : Room k A) : A.units + 65 < cLine := by have := r.un; omega
/-! ### max, min of two ints -/
theorem se_call2 {x : Str} {id : String} {r : List V → Hp → VK → Prop} {f : D → D → M D} (hc : CallR X (.builtin id) r) (hs : ∀ (W : Wd) (H : Hp) (S : Store) (x y : D) (v w : V) (Q : VK) (R : Nat → List D → Store → Prop), Gd K L W H S → Tp K L W H x v → Tp K L W H y w → wpO (f x y S) (PV K L W H Q) R → r [v, w] H Q)
    (ha : SB X K L E a ta da) (hb : SB X K L E b tb db) (hg : Gl X x) (hm : X.mg x = none) (hv : bootBuiltins x = some (.builtin id))
    (hst : starEach [a, b] X.env = (false, eval a X.env) :: starEach [b] X.env := by rfl) (hst2 : starEach [b] X.env = [(false, eval b X.env)] := by rfl) (hpl : (backTo pos (starEach [b] X.env)).any (·.1) = false := by rfl) (hn : x ≠ "__name__" := by decide) (hdb : (x == ("__debug__" : Str)) = false := by decide) :
    SE X K L E (.Call (.Name x p) [a, b] [] pos) (tCB r (tCons ta (tCons tb tNil))) (dBin f da db) := by
  refine ⟨ha.hK, pe_callB hc hg hm hv (pa_cons ha.p (pa_cons hb.p pa_nil hst2) hst) hn hdb (he := hst) (hpl := hpl), fun F W H S env σ Q fr w => ?_⟩
  refine ha.s F W H S env σ _ fr (wpO_imp (wpO_bind w) fun x S1 w1 W1 H1 v1 st1 g1 r1 => ?_)
  refine hb.s F W1 H1 S1 env σ _ (fr.next st1 g1) (wpO_imp (wpO_bind w1) fun y S2 w2 W2 H2 v2 st2 g2 r2 => ?_)
  exact hs W2 H2 S2 x y v1 v2 Q _ g2 (r1.mono st2) r2 (wpO_imp w2 fun d S' q => q.mono (st1.trans st2))
abbrev rMax2 : List V → Hp → VK → Prop := fun xs H Q => ∃ i j, xs = [.int i, .int j] ∧ Q (.int (if j > i then j else i)) H
abbrev rMin2 : List V → Hp → VK → Prop := fun xs H Q => ∃ i j, xs = [.int i, .int j] ∧ Q (.int (if j < i then j else i)) H
theorem se_max2 (hc : X.calm = true) (ha : SB X K L E a ta da) (hb : SB X K L E b tb db) (hg : Gl X "max") (hm : X.mg "max" = none)
    (hst : starEach [a, b] X.env = (false, eval a X.env) :: starEach [b] X.env := by rfl) (hst2 : starEach [b] X.env = [(false, eval b X.env)] := by rfl) (hpl : (backTo pos (starEach [b] X.env)).any (·.1) = false := by rfl) :
    SE X K L E (.Call (.Name "max" p) [a, b] [] pos) (tCB rMax2 (tCons ta (tCons tb tNil))) (dBin oMax2 da db) := by
  refine se_call2 (call_max2 hc) (fun W H S x y v w Q R g t1 t2 h => ?_) ha hb hg hm (by decide +kernel) hst hst2 hpl
  unfold oMax2 at h
  split at h
  · rw [t1.int, t2.int]
    exact ⟨_, _, rfl, PV.now h g rfl⟩
  · exact h.elim
theorem se_min2 (hc : X.calm = true) (ha : SB X K L E a ta da) (hb : SB X K L E b tb db) (hg : Gl X "min") (hm : X.mg "min" = none)
    (hst : starEach [a, b] X.env = (false, eval a X.env) :: starEach [b] X.env := by rfl) (hst2 : starEach [b] X.env = [(false, eval b X.env)] := by rfl) (hpl : (backTo pos (starEach [b] X.env)).any (·.1) = false := by rfl) :
    SE X K L E (.Call (.Name "min" p) [a, b] [] pos) (tCB rMin2 (tCons ta (tCons tb tNil))) (dBin oMin2 da db) := by
  refine se_call2 (call_min2 hc) (fun W H S x y v w Q R g t1 t2 h => ?_) ha hb hg hm (by decide +kernel) hst hst2 hpl
  unfold oMin2 at h
  split at h
  · rw [t1.int, t2.int]
    exact ⟨_, _, rfl, PV.now h g rfl⟩
  · exact h.elim
/-! ### isinstance(x, (T1, T2)) -/
theorem sem_isB2 {T1 T2 : String} (ha : SemB K L E da ta) : Sem K L E (dUn (oIsB2 T1 T2) da) (tCB (rIsiT K) (tCons ta (tCons (tTup (tCons (tC (.ty T1)) (tCons (tC (.ty T2)) tNil))) tNil))) := by
  intro F W H S env σ Q fr w
  refine ha F W H S env σ _ fr (wpO_imp (wpO_bind w) fun x S1 w1 W1 H1 v1 st1 g1 r1 => ?_)
  unfold oIsB2 at w1
  obtain ⟨t, et, w1⟩ := wpO_lift (wpO_bind w1)
  obtain ⟨b1, e1, w1⟩ := wpO_lift (wpO_bind w1)
  obtain ⟨b2, e2, w1⟩ := wpO_lift (wpO_bind w1)
  refine ⟨show 2 ≤ sizeLine by decide, fun q hq => ?_⟩
  have g2 : Gd K L W1 (upd H1 q (.tup [.ty T1, .ty T2])) S1 := g1.own (g1.freeG hq) (g1.freeC hq)
  have st2 : Stp noEx W1 H1 W1 (upd H1 q (.tup [.ty T1, .ty T2])) := Stp.own hq
  refine ⟨v1, q, [.ty T1, .ty T2], .type t, [.type T1, .type T2], b1 || b2, rfl, upd_same, .cons (.ty T1) (.cons (.ty T2) .nil), tyx_of g2 (r1.mono st2) et, ?_, PV.now (PV.mono (st1.trans st2) w1) g2 rfl⟩
  refine kitAny_cons (kit_ty e1) (fun h => ?_) (fun h => by rw [h]; rfl)
  rw [h]
  exact kitAny_cons (kit_ty e2) (fun h => by rw [h]; exact kitAny_nil) (fun h => by rw [h]; rfl)
theorem se_isB2 {T1 T2 : String} {c1 c2 : Expr} {x1 : Nat} {p2 : Pos} (ha : SB X K L E a ta da) (pc1 : PE X c1 (tC (.ty T1))) (pc2 : PE X c2 (tC (.ty T2))) (hg : Gl X "isinstance") (hm : X.mg "isinstance" = none)
    (hs1 : starEach [c1, c2] X.env = (false, eval c1 X.env) :: starEach [c2] X.env := by rfl) (hs2 : starEach [c2] X.env = [(false, eval c2 X.env)] := by rfl)
    (hst : starEach [a, .Tuple [c1, c2] x1 p2] X.env = (false, eval a X.env) :: starEach [.Tuple [c1, c2] x1 p2] X.env := by rfl) (hst2 : starEach [.Tuple [c1, c2] x1 p2] X.env = [(false, eval (.Tuple [c1, c2] x1 p2) X.env)] := by rfl) (hpl : (backTo pos (starEach [.Tuple [c1, c2] x1 p2] X.env)).any (·.1) = false := by rfl) :
    SE X K L E (.Call (.Name "isinstance" p) [a, .Tuple [c1, c2] x1 p2] [] pos) (tCB (rIsiT K) (tCons ta (tCons (tTup (tCons (tC (.ty T1)) (tCons (tC (.ty T2)) tNil))) tNil))) (dUn (oIsB2 T1 T2) da) := by
  obtain ⟨rfl, pa, sa⟩ := ha
  exact ⟨rfl, pe_callB call_isiT hg hm (by decide +kernel) (pa_cons pa (pa_cons (pe_tup (pa_cons pc1 (pa_cons pc2 pa_nil hs2) hs1)) pa_nil hst2) hst) (he := hst) (hpl := hpl), sem_isB2 sa⟩
/-! ### enumerate(list) -/
theorem enum_get {xs : List D} {i : Nat} {d : D} (h : xs[i]? = some d) : (xs.zipIdx.map fun p => (.tup [.int (p.2 : Nat), p.1] : D))[i]? = some (.tup [.int (i : Nat), d]) := by
  rw [List.getElem?_map, List.getElem?_zipIdx, h]
  simp
theorem wk_enum {W : Wd} {ds : List D} {vs : List V} {a : Addr} (q : W.G a = some (.lst vs)) (r : RpL K L W ds vs) : WK K L W (ds.zipIdx.map fun p => .tup [.int (p.2 : Nat), p.1]) (Ite K a) := by
  refine ⟨fun H => SqL K H a vs, YPair (fun i => some (.int (i : Nat))) (fun i => vs[i]?), ?_, fun W2 H2 S2 le g => SqL.of (g.fz _ _ (le.ge _ _ q)), fun i W2 H2 S2 x H3 le g hi y => ?_⟩
  · rw [List.length_map, List.length_zipIdx, ← r.length]
    exact walk_enum
  · obtain ⟨T, x1, x2, rfl, hT, rfl, e1, e2⟩ := y
    cases e1
    obtain ⟨d2, f2, g2⟩ := r.get' e2
    obtain ⟨s1, s2, s3⟩ := pair_new (d := .int (i : Nat)) g hT rfl (g2.mono le)
    exact ⟨_, _, s1, s2, enum_get f2, s3⟩
theorem si_enum {elts : List Expr} {kk : Nat} {tpos : Pos} (ha : SE X K L E a ta da) (hg : Gl X "enumerate") (hm : X.mg "enumerate" = none) (hs : starEach [a] X.env = [(false, eval a X.env)] := by rfl) :
    SI K L X E (.Tuple elts kk tpos) (.Call (.Name "enumerate" p) [a] [] pos) (iEnum K (tCons ta tNil)) (iEnumD da) := by
  obtain ⟨rfl, pa, sa⟩ := ha
  refine ⟨rfl, pi_enum hg hm (pa_cons pa pa_nil hs) hs, fun F W H S env σ R fr w => ?_⟩
  refine sa F W H S env σ _ fr (wpO_imp (wpO_bind w) fun x S1 w1 W1 H1 v1 st1 g1 r1 => ?_)
  cases x with
  | lst xs =>
    obtain ⟨A, vs, rfl, q, r⟩ := r1
    exact ⟨A, vs, rfl, SqL.of (g1.fz _ _ q), w1 W1 H1 _ st1 g1 (wk_enum q r)⟩
  | _ => exact w1.elim
end
/-! ### facts by one Bool -/
section
variable {K : PySem.W.Frag}
def nmC (names : List Str) (c : Nat) : Str := names.getD c Str.empty
def flC (flds : List (List Str)) (c : Nat) : List Str := flds.getD c []
abbrev lyOf (K : PySem.W.Frag) (names : List Str) (flds : List (List Str)) : Ly := ⟨fun c => He.ga K (nmC names c), fun c => flC flds c⟩
def exC (K : PySem.W.Frag) (names : List Str) (flds : List (List Str)) (c : Nat) : Bool :=
  (He.Fa.cls (nmC names c)).ok K && ((flC flds c).all (fun f => (He.Fa.noat (nmC names c) f).ok K) && (decide ((flC flds c).Nodup) && (decide ((flC flds c).length < 1000) &&
    (He.eqO (PySem.W.findIn K (.ref (He.ga K (nmC names c))) "__class__") (some (some (.builtin "object.__class__"))) && (decide (PySem.W.mroIn K (He.ga K (nmC names c)) (.type "object") = some true) &&
    (He.eqO (PySem.W.findIn K (.ref (He.ga K (nmC names c))) "__ne__") (some (some (.builtin "object.__ne__"))) &&
    ((List.range names.length).all (fun c' => PySem.W.notFirst K (He.ga K (nmC names c)) (.ref (He.ga K (nmC names c'))) && decide (PySem.W.kitOne K (.ref (He.ga K (nmC names c))) (.ref (He.ga K (nmC names c'))) = some (decide (c = c')))) &&
    tyS.all (fun T => decide (PySem.W.kitOne K (.type T) (.ref (He.ga K (nmC names c))) = some false) && decide (PySem.W.kitOne K (.ref (He.ga K (nmC names c))) (.type T) = some false)))))))))
def exB (names : List Str) (flds : List (List Str)) (K : PySem.W.Frag) : Bool :=
  (List.range names.length).all (fun c => exC K names flds c) && (decide (PySem.W.specialIn K (.builtin "object.__class__") "__get__" = some (some (.builtin "getset_descriptor.__get__"))) && decide (PySem.W.takesIn K (.builtin "object.__class__") = some true))
theorem kits_of {names : List Str} {flds : List (List Str)} (h : exB names flds K = true) : Kits K (lyOf K names flds) names.length := by
  obtain ⟨h1, h2⟩ := He.ba h
  obtain ⟨h2, h3⟩ := He.ba h2
  have at_ : ∀ c, c < names.length → exC K names flds c = true := fun c hc => List.all_eq_true.mp h1 c (List.mem_range.mpr hc)
  have cc : Clss K (lyOf K names flds) names.length := {
    cls := fun c hc => He.cls_ok (He.ba (at_ c hc)).1
    na := fun c hc f hf => He.noat_ok (List.all_eq_true.mp (He.ba (He.ba (at_ c hc)).2).1 f hf)
    nd := fun c hc => of_decide_eq_true (He.ba (He.ba (He.ba (at_ c hc)).2).2).1
    len := fun c hc => of_decide_eq_true (He.ba (He.ba (He.ba (He.ba (at_ c hc)).2).2).2).1 }
  have r : ∀ c, c < names.length → _ := fun c hc => (He.ba (He.ba (He.ba (He.ba (at_ c hc)).2).2).2).2
  exact {
    cc := cc
    ca := fun c hc => He.eqO_ok (He.ba (r c hc)).1
    gs := of_decide_eq_true h2
    tk := of_decide_eq_true h3
    mo := fun c hc => of_decide_eq_true (He.ba (He.ba (r c hc)).2).1
    ne := fun c hc => He.eqO_ok (He.ba (He.ba (He.ba (r c hc)).2).2).1
    nf := fun c c' hc hc' => (He.ba (List.all_eq_true.mp (He.ba (He.ba (He.ba (He.ba (r c hc)).2).2).2).1 c' (List.mem_range.mpr hc'))).1
    oo := fun c c' hc hc' => of_decide_eq_true (He.ba (List.all_eq_true.mp (He.ba (He.ba (He.ba (He.ba (r c hc)).2).2).2).1 c' (List.mem_range.mpr hc'))).2
    bo := fun T c hT hc => of_decide_eq_true (He.ba (List.all_eq_true.mp (He.ba (He.ba (He.ba (He.ba (r c hc)).2).2).2).2 T (by simpa using hT))).1
    ob := fun T c hT hc => of_decide_eq_true (He.ba (List.all_eq_true.mp (He.ba (He.ba (He.ba (He.ba (r c hc)).2).2).2).2 T (by simpa using hT))).2 }
/-- the hook: facts, defs and one Bool -/
abbrev AlE : Type := He.AlD × Bool
def obsE (n : Nat) (fa : List He.Fa) (fn : List He.DefD) (ex : PySem.W.Frag → Bool) (g : Addr → Option Obj) : AlE := (He.obsDG n fa fn g, ex (He.frG g (He.asD g n)))
def hookE (n : Nat) (fa : List He.Fa) (fn : List He.DefD) (ex : PySem.W.Frag → Bool) : PySem.W.Hook where
  α := AlE
  obs := fun s => obsE n fa fn ex s.heap.get?
  val := fun _ => (He.valD fn, true)
  says := fun _ h => ∃ K : PySem.W.Frag, K.In h ∧ He.SaysD fa fn K ∧ ex K = true
  of := fun _ _ e => ⟨_, He.frG_in, congrArg (fun z : AlE => z.1) e, congrArg (fun z : AlE => z.2) e⟩
  keeps := fun _ _ _ ⟨K, hK, c⟩ k => ⟨K, PySem.W.Frag.In.keeps hK k, c⟩
theorem obsE_eq {n : Nat} {fa : List He.Fa} {fn : List He.DefD} {ex : PySem.W.Frag → Bool} {g : Addr → Option Obj} {s : Shared} (h : ∀ a, g a = s.heap.get? a) : obsE n fa fn ex g = (hookE n fa fn ex).obs s := by
  have e : g = s.heap.get? := funext h
  rw [e] <;> rfl
end
end Sk
namespace Sk
open PySem PySem.Spec PyProof.Rows L2
section
variable {P : Program} {w : World} {K : PySem.W.Frag} {L : Ly} {mg : Str → Option Value} {base : Heap}
/-- a method -/
theorem mt_H {x qual : Str} {st : Stmt} {N ps : List Str} {c k n nn : Nat} {ds : DS} {f : Addr} {fd : FuncData} (F : FunD K x qual (defArgs st) (defBody st) (defScope st) [] [] f fd) (cl : Cls K (L.cls c)) (me : Meth K (L.cls c) x f) (nf : x ∉ L.fld c) (Sc : FnScope N ps (defScope st)) (hn : ps.length = n) (hN : N.length = nn)
    (hbind : ∀ (kV doc pm : Value) (an : Option Addr) (cdv ct : Value) (us : List Value), us.length = ps.length → bindArgs (PySem.W.fnOf x qual (defArgs st) (defBody st) (defScope st) .none kV doc pm an cdv ct) ⟨us, []⟩ = pure (ps.zip us))
    (hb : ∀ (cdv : Value) (A : Around) (outer : List PySem.Env) (s : Shared) (H : Hp) (E : XK), Room k (A.deeper (envOfC qual (defScope st) s.heap.objs.size f cdv)) →
      Passes (L2.CX P w) (cxOf (L2.CX P w) P w K mg base N qual (defScope st) f cdv A outer s H E) E →
      PassesOwn (model P w) (cxOf (L2.CX P w) P w K mg base N qual (defScope st) f cdv A outer s H E).A (cxOf (L2.CX P w) P w K mg base N qual (defScope st) f cdv A outer s H E).env (cxOf (L2.CX P w) P w K mg base N qual (defScope st) f cdv A outer s H E).xe →
      ∃ t, SS K L E (cxOf (L2.CX P w) P w K mg base N qual (defScope st) f cdv A outer s H E) (defBody st) t ds) : HasMt P w K L mg base c x ps (k + 1) n (runDef nn ds) :=
  ⟨f, fd, fn_D F Sc hn hN hb, cl, me, nf, F.bindsN hbind⟩
/-- an __init__ -/
theorem mk_H {x C qual : Str} {st : Stmt} {N ps : List Str} {c k n nn : Nat} {ds : DS} {f : Addr} {fd : FuncData} (F : FunD K x qual (defArgs st) (defBody st) (defScope st) [] [] f fd) (M : Mk K (L.cls c) f) (g : mg C = some (.ref (L.cls c))) (Sc : FnScope N ps (defScope st)) (hn : ps.length = n + 1) (hN : N.length = nn)
    (hbind : ∀ (kV doc pm : Value) (an : Option Addr) (cdv ct : Value) (us : List Value), us.length = ps.length → bindArgs (PySem.W.fnOf x qual (defArgs st) (defBody st) (defScope st) .none kV doc pm an cdv ct) ⟨us, []⟩ = pure (ps.zip us))
    (hb : ∀ (cdv : Value) (A : Around) (outer : List PySem.Env) (s : Shared) (H : Hp) (E : XK), Room k (A.deeper (envOfC qual (defScope st) s.heap.objs.size f cdv)) →
      Passes (L2.CX P w) (cxOf (L2.CX P w) P w K mg base N qual (defScope st) f cdv A outer s H E) E →
      PassesOwn (model P w) (cxOf (L2.CX P w) P w K mg base N qual (defScope st) f cdv A outer s H E).A (cxOf (L2.CX P w) P w K mg base N qual (defScope st) f cdv A outer s H E).env (cxOf (L2.CX P w) P w K mg base N qual (defScope st) f cdv A outer s H E).xe →
      ∃ t, SS K L E (cxOf (L2.CX P w) P w K mg base N qual (defScope st) f cdv A outer s H E) (defBody st) t ds) : HasMk P w K L mg base c C ps (k + 1) n (runInit nn c ds) :=
  ⟨f, fd, fn_I F Sc hn hN hb, M, g, F.bindsN hbind⟩
end
end Sk

namespace Sk
open PySem PySem.Spec PyProof.Rows L2
theorem se_globI {X : Cx} {K : PySem.W.Frag} {L : Ly} {E : XK} {pos : Pos} {x : Str} {i : Int} {t : Tok} (hg : Gl X x) (hm : X.mg x = some (.int i t)) (hd : (x == ("__debug__" : Str)) = false := by decide) (hK : X.K = K := by rfl) :
    SE X K L E (.Name x pos) (tC (.int i)) (dC (.int i)) := se_glob hg hm ⟨t, rfl⟩ (fun _ => rfl) hd hK
end Sk

namespace Sk
open PySem PySem.Spec PyProof.Rows L2
/-- an end of a slice -/
structure SP (X : Cx) (K : PySem.W.Frag) (L : Ly) (E : XK) (lo : Option Expr) (t : TO) (d : DO) : Prop where
  p : PO X lo t
  s : SemO (K := K) (L := L) E d t
section
variable {X : Cx} {K : PySem.W.Frag} {L : Ly} {E : XK} {a : Expr} {ta : TE} {da : DE} {pos : Pos}
theorem sp_none : SP X K L E none tNoPart oNoPart := ⟨po_none, sem_noPart⟩
theorem sp_some (h : SE X K L E a ta da) : SP X K L E (some a) (tPart ta) (oPart da) := ⟨po_some h.p, sem_part h.s⟩
theorem se_slice {lo hi : Option Expr} {p2 : Pos} {dl dh : DO} {tl th : TO} (ha : SB X K L E a ta da) (hl : SP X K L E lo tl dl) (hh : SP X K L E hi th dh) :
    SE X K L E (.Subscript a (.Slice lo hi none p2) pos) (tSl (rSlB K) ta tl th) (dCut da dl dh) := se_cut ha hl.p hh.p hl.s hh.s
end
end Sk

set_option Elab.async false
set_option linter.all false
set_option maxRecDepth 100000
set_option maxHeartbeats 8000000
namespace Lw
open PySem L2 Sk
/-! the plain readings -/
def clsN : List Str := ["Way", "Ways", "NoWay"]
def fldN : List (List Str) := [["start", "step"], ["one", "other"], ["places"]]
def flds (c : Nat) : List Str := Sk.flC fldN c
def d__law_number : DS := (sSeq (sAsg (dIf (tVal (dBin oNe (dVar 0) (dLst dNil))) (dTup (dCons (dBin oIx (dVar 0) (dBin oMod (dVar 1) (dUn oLen (dVar 0)))) (dCons (dBin oDiv (dVar 1) (dUn oLen (dVar 0))) dNil))) (dTup (dCons (dC (.int 12345)) (dCons (dC (.int 0)) dNil)))) (gTupD [(gSet 5), (gSet 6)])) (sSeq (sAsg (dIf (tVal (dBin oLt (dVar 6) (dC (.int 60)))) (dBin oSub (dVar 5) (dBin oPow (dC (.int 10)) (dC (.int 18)))) (dC (.int 0))) (gSet 2)) (sSeq (sFor (iRange1 (dBin oMod (dUn oInt (dVar 6)) (dC (.int 60)))) (gSet 3) (sAsg (dBin oDiv (dVar 2) (dC (.int 1009))) (gSet 2))) (sSeq (sIf (tVal (dBin oGt (dVar 2) (dC (.int 0)))) (sRet (dBin oMod (dUn oInt (dVar 2)) (dC (.int 1009)))) sNext) (sSeq (sAsg (dBin oMod (dBin oAdd (dBin oMul (dUn oInt (dBin oAdd (dVar 5) (dBin oMul (dC (.int 977)) (dVar 1)))) (dC (.int 48271))) (dBin oMul (dC (.int 31)) (dUn oLen (dVar 0)))) (dC (.int 2147483647))) (gSet 4)) (sSeq (sAsg (dBin oMod (dBin oAdd (dBin oMul (dVar 4) (dVar 4)) (dBin oMul (dC (.int 40503)) (dVar 1))) (dC (.int 2147483629))) (gSet 4)) (sRet (dUn oInt (dBin oMod (dBin oAdd (dBin oMul (dVar 4) (dC (.int 69621))) (dBin oDiv (dVar 4) (dC (.int 977)))) (dC (.int 2147483587)))))))))))
def f__law_number : List D → M D := runDef 7 d__law_number
def d__law_take : DS := (sSeq (sCelAug (dVar 0) 1 oAddI (dC (.int 1))) (sRet (dBin oMod (dUn oInt (dCall f__law_number (dCons (dBin oIx (dVar 0) (dC (.int 0))) (dCons (dUn oInt (dBin oIx (dVar 0) (dC (.int 1)))) dNil)))) (dVar 1))))
def f__law_take : List D → M D := runDef 2 d__law_take
def d__law_way : DS := (sSeq (sAsg (dUn oTuple (dLc [3] (iRange1 (dC (.int 3))) (gSet 3) tYesD (dBin oSub (dCall f__law_take (dCons (dVar 0) (dCons (dC (.int 9)) dNil))) (dC (.int 4))))) (gSet 1)) (sSeq (sAsg (dUn oTuple (dLc [3] (iRange1 (dC (.int 3))) (gSet 3) tYesD (dBin oSub (dCall f__law_take (dCons (dVar 0) (dCons (dC (.int 5)) dNil))) (dC (.int 2))))) (gSet 2)) (sRet (dTup (dCons (dVar 1) (dCons (dVar 2) dNil))))))
def f__law_way : List D → M D := runDef 4 d__law_way
def d_is_row : DS := (sRet (dUn (oIsB2 "list" "tuple") (dVar 0)))
def f_is_row : List D → M D := runDef 1 d_is_row
def d_is_integer : DS := (sRet (dAndV (dUn (oIsB "int") (dVar 0)) (dNotV (dUn (oIsB "bool") (dVar 0)))))
def f_is_integer : List D → M D := runDef 1 d_is_integer
def d_is_triple : DS := (sSeq (sIf (tOrD (tNotD (tVal (dUn (oIsB "tuple") (dVar 0)))) (tOrD (tVal (dBin oNe (dUn oLen (dVar 0)) (dC (.int 3)))) (tNotD (tVal (dUn oAll (dLc [1] (iVal (dVar 0)) (gSet 1) tYesD (dCall f_is_integer (dCons (dVar 1) dNil)))))))) (sRet (dC (.bl false))) sNext) (sRet (dBin oNe (dVar 0) (dTup (dCons (dC (.int 0)) (dCons (dC (.int 0)) (dCons (dC (.int 0)) dNil)))))))
def f_is_triple : List D → M D := runDef 2 d_is_triple
def d_is_way : DS := (sSeq (sIf (tOrD (tNotD (tVal (dCall f_is_row (dCons (dVar 0) dNil)))) (tVal (dBin oNe (dUn oLen (dVar 0)) (dC (.int 2))))) (sRet (dC (.bl false))) sNext) (sRet (dAndV (dUn oAll (dLc [1] (iVal (dVar 0)) (gSet 1) tYesD (dOrV (dBin oEq (dVar 1) (dTup (dCons (dC (.int 0)) (dCons (dC (.int 0)) (dCons (dC (.int 0)) dNil))))) (dCall f_is_triple (dCons (dVar 1) dNil))))) (dUn oAll (dLc [1] (iVal (dVar 0)) (gSet 1) tYesD (dUn (oIsB "tuple") (dVar 1)))))))
def f_is_way : List D → M D := runDef 2 d_is_way
def d_check_way : DS := (sIf (tNotD (tVal (dCall f_is_way (dCons (dVar 0) dNil)))) sStk sNext)
def f_check_way : List D → M D := runDef 1 d_check_way
def d_is_number : DS := (sRet (dAndV (dCall f_is_integer (dCons (dVar 0) dNil)) (dChain oLe oLe (dVar 1) (dVar 0) (dVar 2))))
def f_is_number : List D → M D := runDef 3 d_is_number
def d_check_number : DS := (sIf (tNotD (tVal (dCall f_is_number (dCons (dVar 1) (dCons (dVar 2) (dCons (dVar 3) dNil)))))) sStk sNext)
def f_check_number : List D → M D := runDef 4 d_check_number
def d_plus : DS := (sRet (dUn oTuple (dLc [2, 3] (iZip (dVar 0) (dVar 1)) (gTupD [(gSet 2), (gSet 3)]) tYesD (dBin oAdd (dVar 2) (dVar 3)))))
def f_plus : List D → M D := runDef 4 d_plus
def d_times : DS := (sRet (dUn oTuple (dLc [2] (iVal (dVar 1)) (gSet 2) tYesD (dBin oMul (dVar 0) (dVar 2)))))
def f_times : List D → M D := runDef 3 d_times
def d_at_night : DS := (sSeq (sExpr (dCall f_check_way (dCons (dVar 0) dNil))) (sSeq (sExpr (dCall f_check_number (dCons (dC (.str "night")) (dCons (dVar 1) (dCons (dC (.int 0)) (dCons (dC (.int 99)) dNil)))))) (sRet (dCall f_plus (dCons (dBin oIx (dVar 0) (dC (.int 0))) (dCons (dCall f_times (dCons (dVar 1) (dCons (dBin oIx (dVar 0) (dC (.int 1))) dNil))) dNil))))))
def f_at_night : List D → M D := runDef 2 d_at_night
def d_check_triple : DS := (sIf (tNotD (tVal (dCall f_is_triple (dCons (dVar 1) dNil)))) sStk sNext)
def f_check_triple : List D → M D := runDef 2 d_check_triple
def d_common : DS := (sSeq (sPar2 0 1 (dUn oAbs (dVar 0)) (dUn oAbs (dVar 1))) (sSeq (sWhile (tVal (dBin oGt (dVar 1) (dC (.int 0)))) (sPar2 0 1 (dVar 1) (dBin oMod (dVar 0) (dVar 1)))) (sRet (dVar 0))))
def f_common : List D → M D := runDef 2 d_common
def d_least : DS := (sSeq (sExpr (dCall f_check_triple (dCons (dC (.str "direction")) (dCons (dVar 0) dNil)))) (sSeq (sAsg (dCall f_common (dCons (dCall f_common (dCons (dBin oIx (dVar 0) (dC (.int 0))) (dCons (dBin oIx (dVar 0) (dC (.int 1))) dNil))) (dCons (dBin oIx (dVar 0) (dC (.int 2))) dNil))) (gSet 1)) (sRet (dUn oTuple (dLc [2] (iVal (dVar 0)) (gSet 2) tYesD (dBin oDiv (dVar 2) (dVar 1)))))))
def f_least : List D → M D := runDef 3 d_least
def d_seen : DS := (sSeq (sExpr (dCall f_check_way (dCons (dVar 0) dNil))) (sSeq (sExpr (dCall f_check_number (dCons (dC (.str "night")) (dCons (dVar 1) (dCons (dC (.int 0)) (dCons (dC (.int 99)) dNil)))))) (sSeq (sAsg (dCall f_at_night (dCons (dVar 0) (dCons (dVar 1) dNil))) (gSet 2)) (sRet (dIf (tVal (dBin oEq (dVar 2) (dTup (dCons (dC (.int 0)) (dCons (dC (.int 0)) (dCons (dC (.int 0)) dNil)))))) (dC .non) (dCall f_least (dCons (dVar 2) dNil)))))))
def f_seen : List D → M D := runDef 3 d_seen
def d_cross : DS := (sRet (dTup (dCons (dBin oSub (dBin oMul (dBin oIx (dVar 0) (dC (.int 1))) (dBin oIx (dVar 1) (dC (.int 2)))) (dBin oMul (dBin oIx (dVar 0) (dC (.int 2))) (dBin oIx (dVar 1) (dC (.int 1))))) (dCons (dBin oSub (dBin oMul (dBin oIx (dVar 0) (dC (.int 2))) (dBin oIx (dVar 1) (dC (.int 0)))) (dBin oMul (dBin oIx (dVar 0) (dC (.int 0))) (dBin oIx (dVar 1) (dC (.int 2))))) (dCons (dBin oSub (dBin oMul (dBin oIx (dVar 0) (dC (.int 0))) (dBin oIx (dVar 1) (dC (.int 1)))) (dBin oMul (dBin oIx (dVar 0) (dC (.int 1))) (dBin oIx (dVar 1) (dC (.int 0))))) dNil)))))
def f_cross : List D → M D := runDef 2 d_cross
def d_circle_of : DS := (sSeq (sExpr (dCall f_check_way (dCons (dVar 0) dNil))) (sSeq (sAsg (dCall f_cross (dCons (dBin oIx (dVar 0) (dC (.int 0))) (dCons (dBin oIx (dVar 0) (dC (.int 1))) dNil))) (gSet 1)) (sRet (dIf (tVal (dBin oEq (dVar 1) (dTup (dCons (dC (.int 0)) (dCons (dC (.int 0)) (dCons (dC (.int 0)) dNil)))))) (dC .non) (dCall f_least (dCons (dVar 1) dNil))))))
def f_circle_of : List D → M D := runDef 2 d_circle_of
def d__law_cross : DS := (sRet (dUn oTuple (dLc [2] (iRange1 (dC (.int 3))) (gSet 2) tYesD (dBin oSub (dBin oMul (dBin oIx (dVar 0) (dBin oMod (dBin oAdd (dVar 2) (dC (.int 1))) (dC (.int 3)))) (dBin oIx (dVar 1) (dBin oMod (dBin oAdd (dVar 2) (dC (.int 2))) (dC (.int 3))))) (dBin oMul (dBin oIx (dVar 0) (dBin oMod (dBin oAdd (dVar 2) (dC (.int 2))) (dC (.int 3)))) (dBin oIx (dVar 1) (dBin oMod (dBin oAdd (dVar 2) (dC (.int 1))) (dC (.int 3)))))))))
def f__law_cross : List D → M D := runDef 3 d__law_cross
def d_is_direction : DS := (sRet (dAndV (dCall f_is_triple (dCons (dVar 0) dNil)) (dUn oAll (dLc [1] (iVal (dVar 0)) (gSet 1) tYesD (dCall f_is_number (dCons (dVar 1) (dCons (dUn oNeg (dC (.int 999999))) (dCons (dC (.int 999999)) dNil))))))))
def f_is_direction : List D → M D := runDef 2 d_is_direction
def d_dot : DS := (sRet (dUn oSum (dLc [2, 3] (iZip (dVar 0) (dVar 1)) (gTupD [(gSet 2), (gSet 3)]) tYesD (dBin oMul (dVar 2) (dVar 3)))))
def f_dot : List D → M D := runDef 4 d_dot
def d_det : DS := (sRet (dCall f_dot (dCons (dCall f_cross (dCons (dVar 0) (dCons (dVar 1) dNil))) (dCons (dVar 2) dNil))))
def f_det : List D → M D := runDef 3 d_det
def d_side_of : DS := (sSeq (sExpr (dCall f_check_way (dCons (dVar 0) dNil))) (sSeq (sIf (tNotD (tVal (dCall f_is_direction (dCons (dVar 1) dNil)))) sStk sNext) (sSeq (sAsg (dCall f_det (dCons (dBin oIx (dVar 0) (dC (.int 0))) (dCons (dBin oIx (dVar 0) (dC (.int 1))) (dCons (dVar 1) dNil)))) (gSet 2)) (sRet (dIf (tVal (dBin oGt (dVar 2) (dC (.int 0)))) (dC (.int 1)) (dIf (tVal (dBin oEq (dVar 2) (dC (.int 0)))) (dC (.int 0)) (dUn oNeg (dC (.int 1)))))))))
def f_side_of : List D → M D := runDef 3 d_side_of
def d_check_sightings : DS := (sSeq (sIf (tOrD (tNotD (tVal (dCall f_is_row (dCons (dVar 0) dNil)))) (tVal (dBin oEq (dUn oLen (dVar 0)) (dC (.int 0))))) sStk sNext) (sSeq (sAsg (dUn oNeg (dC (.int 1))) (gSet 1)) (sFor (iEnumD (dVar 0)) (gTupD [(gSet 2), (gSet 3)]) (sSeq (sIf (tOrD (tNotD (tVal (dUn (oIsB "tuple") (dVar 3)))) (tOrD (tVal (dBin oNe (dUn oLen (dVar 3)) (dC (.int 2)))) (tNotD (tVal (dCall f_is_number (dCons (dBin oIx (dVar 3) (dC (.int 0))) (dCons (dBin oAdd (dVar 1) (dC (.int 1))) (dCons (dC (.int 99)) dNil)))))))) sStk sNext) (sSeq (sIf (tNotD (tVal (dCall f_is_direction (dCons (dBin oIx (dVar 3) (dC (.int 1))) dNil)))) sStk sNext) (sAsg (dBin oIx (dVar 3) (dC (.int 0))) (gSet 1)))))))
def f_check_sightings : List D → M D := runDef 4 d_check_sightings
def d_is_on_line : DS := (sRet (dBin oEq (dCall f_cross (dCons (dVar 0) (dCons (dVar 1) dNil))) (dTup (dCons (dC (.int 0)) (dCons (dC (.int 0)) (dCons (dC (.int 0)) dNil))))))
def f_is_on_line : List D → M D := runDef 2 d_is_on_line
def d_is_seen : DS := (sSeq (sExpr (dCall f_check_way (dCons (dVar 0) dNil))) (sSeq (sExpr (dCall f_check_sightings (dCons (dVar 1) dNil))) (sSeq (sFor (iVal (dVar 1)) (gTupD [(gSet 2), (gSet 3)]) (sSeq (sAsg (dCall f_at_night (dCons (dVar 0) (dCons (dVar 2) dNil))) (gSet 4)) (sIf (tOrD (tVal (dBin oEq (dVar 4) (dTup (dCons (dC (.int 0)) (dCons (dC (.int 0)) (dCons (dC (.int 0)) dNil)))))) (tVal (dBin oNe (dCall f_least (dCons (dVar 4) dNil)) (dCall f_least (dCons (dVar 3) dNil))))) (sRet (dC (.bl false))) sNext))) (sSeq (sPar2 5 6 (dCall f_at_night (dCons (dVar 0) (dCons (dBin oIx (dBin oIx (dVar 1) (dC (.int 0))) (dC (.int 0))) dNil))) (dCall f_at_night (dCons (dVar 0) (dCons (dBin oIx (dBin oIx (dVar 1) (dUn oNeg (dC (.int 1)))) (dC (.int 0))) dNil)))) (sRet (dOrV (dNotV (dCall f_is_on_line (dCons (dVar 5) (dCons (dVar 6) dNil)))) (dBin oGt (dCall f_dot (dCons (dVar 5) (dCons (dVar 6) dNil))) (dC (.int 0)))))))))
def f_is_seen : List D → M D := runDef 7 d_is_seen
def d_least_way : DS := (sSeq (sAsg (dC (.int 0)) (gSet 1)) (sSeq (sFor (iVal (dVar 0)) (gSet 2) (sFor (iVal (dVar 2)) (gSet 3) (sAsg (dCall f_common (dCons (dVar 1) (dCons (dVar 3) dNil))) (gSet 1)))) (sRet (dUn oTuple (dLc [2] (iVal (dVar 0)) (gSet 2) tYesD (dUn oTuple (dLc [3] (iVal (dVar 2)) (gSet 3) tYesD (dBin oDiv (dVar 3) (dBin oMax2 (dC (.int 1)) (dVar 1))))))))))
def f_least_way : List D → M D := runDef 4 d_least_way
def d_way_of_two : DS := (sSeq (sAsg (dBin oSub (dBin oIx (dVar 1) (dC (.int 0))) (dBin oIx (dVar 0) (dC (.int 0)))) (gSet 4)) (sSeq (sAsg (dCall f_plus (dCons (dCall f_times (dCons (dVar 3) (dCons (dBin oIx (dVar 1) (dC (.int 1))) dNil))) (dCons (dCall f_times (dCons (dUn oNeg (dVar 2)) (dCons (dBin oIx (dVar 0) (dC (.int 1))) dNil))) dNil))) (gSet 5)) (sSeq (sAsg (dCall f_plus (dCons (dCall f_times (dCons (dBin oMul (dVar 4) (dVar 2)) (dCons (dBin oIx (dVar 0) (dC (.int 1))) dNil))) (dCons (dCall f_times (dCons (dUn oNeg (dBin oIx (dVar 0) (dC (.int 0)))) (dCons (dVar 5) dNil))) dNil))) (gSet 6)) (sRet (dCall f_least_way (dCons (dTup (dCons (dVar 6) (dCons (dVar 5) dNil))) dNil))))))
def f_way_of_two : List D → M D := runDef 7 d_way_of_two
def d_is_between : DS := (sSeq (sAsg (dCall f_cross (dCons (dVar 0) (dCons (dVar 2) dNil))) (gSet 3)) (sSeq (sIf (tOrD (tVal (dBin oEq (dVar 3) (dTup (dCons (dC (.int 0)) (dCons (dC (.int 0)) (dCons (dC (.int 0)) dNil)))))) (tVal (dBin oNe (dCall f_dot (dCons (dVar 3) (dCons (dVar 1) dNil))) (dC (.int 0))))) (sRet (dC (.bl false))) sNext) (sRet (dAndV (dBin oGt (dCall f_dot (dCons (dCall f_cross (dCons (dVar 0) (dCons (dVar 1) dNil))) (dCons (dVar 3) dNil))) (dC (.int 0))) (dBin oGt (dCall f_dot (dCons (dCall f_cross (dCons (dVar 1) (dCons (dVar 2) dNil))) (dCons (dVar 3) dNil))) (dC (.int 0)))))))
def f_is_between : List D → M D := runDef 4 d_is_between
def d_ways_by : DS := (sSeq (sPar2 6 7 (dBin oIx (dVar 0) (dC (.int 0))) (dBin oIx (dVar 0) (dUn oNeg (dC (.int 1))))) (sSeq (sIf (tVal (dBin oEq (dCall f_least (dCons (dBin oIx (dVar 6) (dC (.int 1))) dNil)) (dCall f_least (dCons (dBin oIx (dVar 7) (dC (.int 1))) dNil)))) (sSeq (sAsg (dTup (dCons (dTup (dCons (dCall f_least (dCons (dBin oIx (dVar 6) (dC (.int 1))) dNil)) (dCons (dTup (dCons (dC (.int 0)) (dCons (dC (.int 0)) (dCons (dC (.int 0)) dNil)))) dNil))) (dCons (dTup (dCons (dCall f_least (dCons (dBin oIx (dVar 6) (dC (.int 1))) dNil)) (dCons (dCall f_least (dCons (dBin oIx (dVar 6) (dC (.int 1))) dNil)) dNil))) dNil))) (gSet 5)) (sRet (dIf (tVal (dCall f_is_seen (dCons (dBin oIx (dVar 5) (dC (.int 0))) (dCons (dVar 0) dNil)))) (dVar 5) (dTup dNil)))) sNext) (sSeq (sIf (tVal (dCall f_is_on_line (dCons (dBin oIx (dVar 6) (dC (.int 1))) (dCons (dBin oIx (dVar 7) (dC (.int 1))) dNil)))) (sRet (dTup dNil)) sNext) (sSeq (sIf (tVal (dBin oEq (dUn oLen (dVar 0)) (dC (.int 2)))) (sRet (dTup (dCons (dCall f_way_of_two (dCons (dVar 6) (dCons (dVar 7) (dCons (dC (.int 1)) (dCons (dC (.int 1)) dNil))))) (dCons (dCall f_way_of_two (dCons (dVar 6) (dCons (dVar 7) (dCons (dC (.int 1)) (dCons (dC (.int 2)) dNil))))) dNil)))) sNext) (sSeq (sAsg (dBin oIx (dVar 0) (dC (.int 1))) (gSet 1)) (sSeq (sIf (tNotD (tVal (dCall f_is_between (dCons (dBin oIx (dVar 6) (dC (.int 1))) (dCons (dBin oIx (dVar 1) (dC (.int 1))) (dCons (dBin oIx (dVar 7) (dC (.int 1))) dNil)))))) (sRet (dTup dNil)) sNext) (sSeq (sAsg (dCall f_cross (dCons (dBin oIx (dVar 6) (dC (.int 1))) (dCons (dBin oIx (dVar 7) (dC (.int 1))) dNil))) (gSet 2)) (sSeq (sAsg (dBin oMul (dCall f_dot (dCons (dCall f_cross (dCons (dBin oIx (dVar 1) (dC (.int 1))) (dCons (dBin oIx (dVar 7) (dC (.int 1))) dNil))) (dCons (dVar 2) dNil))) (dBin oSub (dBin oIx (dVar 1) (dC (.int 0))) (dBin oIx (dVar 6) (dC (.int 0))))) (gSet 3)) (sSeq (sAsg (dBin oMul (dCall f_dot (dCons (dCall f_cross (dCons (dBin oIx (dVar 6) (dC (.int 1))) (dCons (dBin oIx (dVar 1) (dC (.int 1))) dNil))) (dCons (dVar 2) dNil))) (dBin oSub (dBin oIx (dVar 7) (dC (.int 0))) (dBin oIx (dVar 1) (dC (.int 0))))) (gSet 4)) (sSeq (sAsg (dCall f_way_of_two (dCons (dVar 6) (dCons (dVar 7) (dCons (dVar 3) (dCons (dVar 4) dNil))))) (gSet 5)) (sRet (dIf (tVal (dCall f_is_seen (dCons (dVar 5) (dCons (dVar 0) dNil)))) (dTup (dCons (dVar 5) dNil)) (dTup dNil)))))))))))))
def f_ways_by : List D → M D := runDef 8 d_ways_by
def d_Way___init__ : DS := (sSeq (sSelf 3 flds "start" (dVar 1)) (sSelf 3 flds "step" (dVar 2)))
def f_Way___init__ : List D → M D := runInit 3 0 d_Way___init__
def d_Ways___init__ : DS := (sSeq (sSelf 3 flds "one" (dIf (tVal (dCall f_is_row (dCons (dVar 1) dNil))) (dUn oTuple (dVar 1)) (dVar 1))) (sSelf 3 flds "other" (dIf (tVal (dCall f_is_row (dCons (dVar 2) dNil))) (dUn oTuple (dVar 2)) (dVar 2))))
def f_Ways___init__ : List D → M D := runInit 3 1 d_Ways___init__
def d_judge_way : DS := (sSeq (sExpr (dCall f_check_sightings (dCons (dVar 0) dNil))) (sSeq (sFor (iRange2 (dC (.int 1)) (dBin oAdd (dUn oLen (dVar 0)) (dC (.int 1)))) (gSet 1) (sIf (tVal (dBin oEq (dCall f_ways_by (dCons (dCut (dVar 0) oNoPart (oPart (dVar 1))) dNil)) (dTup dNil))) sStk sNext)) (sSeq (sAsg (dCall f_ways_by (dCons (dVar 0) dNil)) (gSet 2)) (sRet (dIf (tVal (dBin oEq (dUn oLen (dVar 2)) (dC (.int 1)))) (dCall f_Way___init__ (dCons (dBin oIx (dBin oIx (dVar 2) (dC (.int 0))) (dC (.int 0))) (dCons (dBin oIx (dBin oIx (dVar 2) (dC (.int 0))) (dC (.int 1))) dNil))) (dCall f_Ways___init__ (dCons (dBin oIx (dVar 2) (dC (.int 0))) (dCons (dBin oIx (dVar 2) (dC (.int 1))) dNil))))))))
def f_judge_way : List D → M D := runDef 3 d_judge_way
def d_Way___eq__ : DS := (sRet (dAndV (dUn (oIsO 3 0) (dVar 1)) (dBin oEq (dTup (dCons (dUn (oFld 3 flds "start") (dVar 0)) (dCons (dUn (oFld 3 flds "step") (dVar 0)) dNil))) (dTup (dCons (dUn (oFld 3 flds "start") (dVar 1)) (dCons (dUn (oFld 3 flds "step") (dVar 1)) dNil))))))
def f_Way___eq__ : List D → M D := runDef 2 d_Way___eq__
def d_Ways___eq__ : DS := (sRet (dAndV (dUn (oIsO 3 1) (dVar 1)) (dBin oEq (dTup (dCons (dUn (oFld 3 flds "one") (dVar 0)) (dCons (dUn (oFld 3 flds "other") (dVar 0)) dNil))) (dTup (dCons (dUn (oFld 3 flds "one") (dVar 1)) (dCons (dUn (oFld 3 flds "other") (dVar 1)) dNil))))))
def f_Ways___eq__ : List D → M D := runDef 2 d_Ways___eq__
def d_NoWay___eq__ : DS := (sRet (dAndV (dUn (oIsO 3 2) (dVar 1)) (dBin oEq (dUn (oFld 3 flds "places") (dVar 0)) (dUn (oFld 3 flds "places") (dVar 1)))))
def f_NoWay___eq__ : List D → M D := runDef 2 d_NoWay___eq__
def eqs_3 : Nat → Option (List D → M D)
  | 0 => some f_Way___eq__
  | 1 => some f_Ways___eq__
  | 2 => some f_NoWay___eq__
  | _ => none
def d_Way_shows : DS := (sRet (dBin (oEqO 3 eqs_3) (dCall f_judge_way (dCons (dVar 1) dNil)) (dVar 0)))
def f_Way_shows : List D → M D := runDef 2 d_Way_shows
def d_nights_alike : DS := (sSeq (sExpr (dCall f_check_way (dCons (dVar 0) dNil))) (sSeq (sExpr (dCall f_check_way (dCons (dVar 1) dNil))) (sSeq (sExpr (dCall f_check_number (dCons (dC (.str "most")) (dCons (dVar 2) (dCons (dC (.int 0)) (dCons (dC (.int 99)) dNil)))))) (sSeq (sAsg (dLc [4] (iRange1 (dBin oAdd (dVar 2) (dC (.int 1)))) (gSet 4) tYesD (dTup (dCons (dVar 4) (dCons (dCall f_seen (dCons (dVar 0) (dCons (dVar 4) dNil))) (dCons (dCall f_seen (dCons (dVar 1) (dCons (dVar 4) dNil))) dNil))))) (gSet 3)) (sRet (dUn oTuple (dLc [4, 5, 6] (iVal (dVar 3)) (gTupD [(gSet 4), (gSet 5), (gSet 6)]) (tAndD (tVal (dBin oNotN2 (dVar 5) (dC .non))) (tVal (dBin oEq (dVar 5) (dVar 6)))) (dVar 4))))))))
def f_nights_alike : List D → M D := runDef 7 d_nights_alike
def d__law_at : DS := (sRet (dUn oTuple (dLc [2, 3] (iZip (dBin oIx (dVar 0) (dC (.int 0))) (dBin oIx (dVar 0) (dC (.int 1)))) (gTupD [(gSet 2), (gSet 3)]) tYesD (dBin oAdd (dVar 2) (dBin oMul (dVar 1) (dVar 3))))))
def f__law_at : List D → M D := runDef 4 d__law_at
def d__law_dot : DS := (sRet (dBin oAdd (dBin oAdd (dBin oMul (dBin oIx (dVar 0) (dC (.int 0))) (dBin oIx (dVar 1) (dC (.int 0)))) (dBin oMul (dBin oIx (dVar 0) (dC (.int 1))) (dBin oIx (dVar 1) (dC (.int 1))))) (dBin oMul (dBin oIx (dVar 0) (dC (.int 2))) (dBin oIx (dVar 1) (dC (.int 2))))))
def f__law_dot : List D → M D := runDef 2 d__law_dot
def d_Way___bool__ : DS := (sRet (dC (.bl true)))
def f_Way___bool__ : List D → M D := runDef 1 d_Way___bool__
def d_Ways___bool__ : DS := (sRet (dC (.bl false)))
def f_Ways___bool__ : List D → M D := runDef 1 d_Ways___bool__
def d_NoWay___bool__ : DS := (sRet (dC (.bl false)))
def f_NoWay___bool__ : List D → M D := runDef 1 d_NoWay___bool__
def trus : Nat → Option (List D → M D)
  | 0 => some f_Way___bool__
  | 1 => some f_Ways___bool__
  | 2 => some f_NoWay___bool__
  | _ => none
def d_law : DS := (sSeq (sNewCel 1 (dLst (dCons (dVar 0) (dCons (dC (.int 0)) dNil)))) (sSeq (sFor (iRange1 (dC (.int 10))) (gSet 2) (sSeq (sAsg (dTup (dCons (dCall f__law_way (dCons (dVar 1) dNil)) (dCons (dCall f__law_way (dCons (dVar 1) dNil)) (dCons (dBin oAdd (dC (.int 1)) (dCall f__law_take (dCons (dVar 1) (dCons (dC (.int 5)) dNil)))) dNil)))) (gTupD [(gSet 7), (gSet 8), (gSet 9)])) (sSeq (sAsg (dTup (dCons (dUn oTuple (dLc [17] (iVal (dBin oIx (dVar 7) (dC (.int 0)))) (gSet 17) tYesD (dBin oMul (dVar 9) (dVar 17)))) (dCons (dUn oTuple (dLc [17] (iVal (dBin oIx (dVar 7) (dC (.int 1)))) (gSet 17) tYesD (dBin oMul (dVar 9) (dVar 17)))) dNil))) (gSet 3)) (sSeq (sIf (tVal (dUn oAny (dLc [6] (iRange1 (dC (.int 12))) (gSet 6) tYesD (dOrV (dBin oNe (dCall f_seen (dCons (dVar 3) (dCons (dVar 6) dNil))) (dCall f_seen (dCons (dVar 7) (dCons (dVar 6) dNil)))) (dBin oNe (dUn oTuple (dCall f_at_night (dCons (dVar 3) (dCons (dVar 6) dNil)))) (dUn oTuple (dLc [17] (iVal (dCall f_at_night (dCons (dVar 7) (dCons (dVar 6) dNil)))) (gSet 17) tYesD (dBin oMul (dVar 9) (dVar 17))))))))) (sRet (dC (.bl false))) sNext) (sSeq (sAsg (dCall f_circle_of (dCons (dVar 7) dNil)) (gSet 4)) (sSeq (sIf (tOrD (tVal (dBin oNe (dVar 4) (dCall f_circle_of (dCons (dVar 3) dNil)))) (tVal (dBin oNe (dBin oIsN2 (dVar 4) (dC .non)) (dBin oEq (dCall f__law_cross (dCons (dBin oIx (dVar 7) (dC (.int 0))) (dCons (dBin oIx (dVar 7) (dC (.int 1))) dNil))) (dTup (dCons (dC (.int 0)) (dCons (dC (.int 0)) (dCons (dC (.int 0)) dNil)))))))) (sRet (dC (.bl false))) sNext) (sSeq (sIf (tVal (dBin oNotN2 (dVar 4) (dC .non))) (sSeq (sIf (tOrD (tVal (dUn oAny (dLc [6] (iRange1 (dC (.int 12))) (gSet 6) (tVal (dBin oNotN2 (dCall f_seen (dCons (dVar 7) (dCons (dVar 6) dNil))) (dC .non))) (dBin oNe (dCall f_side_of (dCons (dVar 7) (dCons (dCall f_seen (dCons (dVar 7) (dCons (dVar 6) dNil))) dNil))) (dC (.int 0)))))) (tOrD (tVal (dBin oNe (dCall f_side_of (dCons (dVar 7) (dCons (dVar 4) dNil))) (dC (.int 1)))) (tVal (dBin oNe (dCall f_side_of (dCons (dVar 7) (dCons (dUn oTuple (dLc [17] (iVal (dVar 4)) (gSet 17) tYesD (dBin oSub (dC (.int 0)) (dVar 17)))) dNil))) (dBin oSub (dC (.int 0)) (dC (.int 1))))))) (sRet (dC (.bl false))) sNext) (sSeq (sAsg (dLc [6] (iVal (dTup (dCons (dC (.int 0)) (dCons (dC (.int 2)) (dCons (dC (.int 5)) (dCons (dC (.int 9)) dNil)))))) (gSet 6) (tVal (dBin oNotN2 (dCall f_seen (dCons (dVar 7) (dCons (dVar 6) dNil))) (dC .non))) (dTup (dCons (dVar 6) (dCons (dCall f_seen (dCons (dVar 7) (dCons (dVar 6) dNil))) dNil)))) (gSet 10)) (sSeq (sIf (tAndD (tVal (dBin oEq (dUn oLen (dVar 10)) (dC (.int 4)))) (tOrD (tNotD (tTruD 3 trus (dCall f_judge_way (dCons (dVar 10) dNil)))) (tOrD (tNotD (tVal (dCall f_is_seen (dCons (dVar 3) (dCons (dVar 10) dNil))))) (tVal (dBin oIsBl (dMeth 0 f_Way_shows (dCall f_judge_way (dCons (dVar 10) dNil)) (dCons (dVar 10) dNil)) (dC (.bl false))))))) (sRet (dC (.bl false))) sNext) (sSeq (sIf (tAndD (tVal (dBin oEq (dUn oLen (dVar 10)) (dC (.int 4)))) (tVal (dBin (oNeO 3 eqs_3) (dCall f_judge_way (dCons (dVar 10) dNil)) (dCall f_judge_way (dCons (dBin oAdd (dCut (dVar 10) oNoPart (oPart (dC (.int 1)))) (dCut (dVar 10) (oPart (dC (.int 2))) oNoPart)) dNil))))) (sRet (dC (.bl false))) sNext) (sSeq (sAsg (dTup (dCons (dUn oTuple (dLc [18, 19] (iZip (dBin oIx (dVar 7) (dC (.int 0))) (dBin oIx (dVar 7) (dC (.int 1)))) (gTupD [(gSet 18), (gSet 19)]) tYesD (dBin oAdd (dVar 18) (dVar 19)))) (dCons (dBin oIx (dVar 7) (dC (.int 1))) dNil))) (gSet 11)) (sIf (tAndD (tVal (dBin oEq (dUn oLen (dVar 10)) (dC (.int 4)))) (tVal (dBin (oNeO 3 eqs_3) (dCall f_judge_way (dCons (dLc [6] (iVal (dTup (dCons (dC (.int 0)) (dCons (dC (.int 1)) (dCons (dC (.int 4)) (dCons (dC (.int 8)) dNil)))))) (gSet 6) tYesD (dTup (dCons (dVar 6) (dCons (dCall f_seen (dCons (dVar 11) (dCons (dVar 6) dNil))) dNil)))) dNil)) (dCall f_judge_way (dCons (dLc [6] (iVal (dTup (dCons (dC (.int 1)) (dCons (dC (.int 2)) (dCons (dC (.int 5)) (dCons (dC (.int 9)) dNil)))))) (gSet 6) tYesD (dTup (dCons (dBin oSub (dVar 6) (dC (.int 1))) (dCons (dCall f_seen (dCons (dVar 7) (dCons (dVar 6) dNil))) dNil)))) dNil))))) (sRet (dC (.bl false))) sNext)))))) sNext) (sSeq (sAsg (dUn oList (dCall f_nights_alike (dCons (dVar 7) (dCons (dVar 8) (dCons (dC (.int 40)) dNil))))) (gSet 5)) (sSeq (sFor (iRange1 (dC (.int 41))) (gSet 6) (sSeq (sPar2 15 16 (dCall f__law_at (dCons (dVar 7) (dCons (dVar 6) dNil))) (dCall f__law_at (dCons (dVar 8) (dCons (dVar 6) dNil)))) (sSeq (sAsg (dAndV (dBin oNotIn (dTup (dCons (dC (.int 0)) (dCons (dC (.int 0)) (dCons (dC (.int 0)) dNil)))) (dTup (dCons (dVar 15) (dCons (dVar 16) dNil)))) (dAndV (dBin oEq (dCall f__law_cross (dCons (dVar 15) (dCons (dVar 16) dNil))) (dTup (dCons (dC (.int 0)) (dCons (dC (.int 0)) (dCons (dC (.int 0)) dNil))))) (dBin oGt (dCall f__law_dot (dCons (dVar 15) (dCons (dVar 16) dNil))) (dC (.int 0))))) (gSet 12)) (sIf (tVal (dBin oNe (dVar 12) (dBin oIn (dVar 6) (dVar 5)))) (sRet (dC (.bl false))) sNext)))) (sSeq (sIf (tOrD (tVal (dBin oNe (dUn oList (dCall f_nights_alike (dCons (dVar 7) (dCons (dVar 3) (dCons (dC (.int 20)) dNil))))) (dLc [6] (iRange1 (dC (.int 21))) (gSet 6) (tVal (dBin oNotN2 (dCall f_seen (dCons (dVar 7) (dCons (dVar 6) dNil))) (dC .non))) (dVar 6)))) (tVal (dBin oNe (dUn oList (dCall f_nights_alike (dCons (dVar 8) (dCons (dVar 7) (dCons (dC (.int 40)) dNil))))) (dVar 5)))) (sRet (dC (.bl false))) sNext) (sSeq (sPar2 13 14 (dCall f_circle_of (dCons (dVar 7) dNil)) (dCall f_circle_of (dCons (dVar 8) dNil))) (sSeq (sIf (tAndD (tVal (dBin oNotN2 (dVar 13) (dC .non))) (tAndD (tVal (dBin oNotN2 (dVar 14) (dC .non))) (tAndD (tVal (dBin oNe (dCall f__law_cross (dCons (dVar 13) (dCons (dVar 14) dNil))) (dTup (dCons (dC (.int 0)) (dCons (dC (.int 0)) (dCons (dC (.int 0)) dNil)))))) (tVal (dBin oGt (dUn oLen (dVar 5)) (dC (.int 2))))))) (sRet (dC (.bl false))) sNext) (sIf (tAndD (tVal (dBin oNotN2 (dVar 4) (dC .non))) (tVal (dBin (oEqO 3 eqs_3) (dCall f_judge_way (dCons (dIf (tAndD (tVal (dBin oNotN2 (dCall f_seen (dCons (dVar 7) (dCons (dC (.int 0)) dNil))) (dC .non))) (tVal (dBin oNotN2 (dCall f_seen (dCons (dVar 7) (dCons (dC (.int 1)) dNil))) (dC .non)))) (dLst (dCons (dTup (dCons (dC (.int 0)) (dCons (dCall f_seen (dCons (dVar 7) (dCons (dC (.int 0)) dNil))) dNil))) (dCons (dTup (dCons (dC (.int 1)) (dCons (dCall f_seen (dCons (dVar 7) (dCons (dC (.int 1)) dNil))) dNil))) dNil))) (dLst (dCons (dTup (dCons (dC (.int 0)) (dCons (dTup (dCons (dC (.int 1)) (dCons (dC (.int 0)) (dCons (dC (.int 0)) dNil)))) dNil))) dNil))) dNil)) (dCall f_Way___init__ (dCons (dBin oIx (dVar 7) (dC (.int 0))) (dCons (dBin oIx (dVar 7) (dC (.int 1))) dNil)))))) (sRet (dC (.bl false))) sNext))))))))))))) (sRet (dC (.bl true)))))
def f_law : List D → M D := runDef 20 d_law
end Lw

set_option Elab.async false
set_option linter.all false
set_option maxRecDepth 100000
set_option maxHeartbeats 8000000
namespace Lw
open PySem PySem.Spec PyProof.Rows L2 Sk
/-! the walk -/
def top (i : Nat) : Stmt := PySem.Challenge.pw_skyplaced_k49_ways_multiplied.main.body.getD i (.Pass ⟨0, 0, 0, 0⟩)
def clsB : Stmt → List Stmt := fun s => match s with | .ClassDef (body := b) .. => b | _ => []
def mth (i j : Nat) : Stmt := (clsB (top i)).getD j (.Pass ⟨0, 0, 0, 0⟩)
section
variable {P : Program} {w : World} {K : PySem.W.Frag} {mg : Str → Option Value} {base : Heap}
abbrev ly (K : PySem.W.Frag) : Ly := lyOf K clsN fldN
abbrev s__law_number : Stmt := top 41
abbrev N__law_number : List Str := ["script", "index", "rest", "step", "blend", "cell", "turn"]
theorem sc__law_number : FnScope N__law_number ["script", "index"] (defScope s__law_number) := ⟨rfl, rfl, rfl, by decide +kernel, rfl, by decide +kernel, by decide +kernel⟩
theorem ok__law_number (A : AtD K mg "_law_number" s__law_number) (m_len : mg "len" = none) (m_range : mg "range" = none) (m_int : mg "int" = none) : HasFn P w K (ly K) mg base "_law_number" ["script", "index"] 1 2 f__law_number := by
  refine fn_H A sc__law_number rfl rfl (fun _ _ _ _ _ _ us hl => match us, hl with | [_, _], _ => rfl) (fun f cdv A outer s H E hr hx hp => ?_)
  exact ⟨_, (ss_cons (s1_asg (se_if (st_ne hr.units (se_sb (se_var 0)) (se_sb (se_lst sa_nil))) (se_tup (sa_cons (se_ix (se_sb (se_var 0)) (se_mod (se_sb (se_var 1)) (se_sb (se_len (se_sb (se_var 0)) rfl m_len))) (fun _ _ => rfl)) (sa_cons (se_div (se_sb (se_var 1)) (se_sb (se_len (se_sb (se_var 0)) rfl m_len))) sa_nil))) (se_tup (sa_cons se_int (sa_cons se_int sa_nil)))) (sg_tup rfl (sgs_cons (sg_name 5 sc__law_number.nd) (sgs_cons (sg_name 6 sc__law_number.nd) sgs_nil)))) (ss_cons (s1_set 2 sc__law_number.nd (se_if (st_lt (se_sb (se_var 6)) (se_sb se_int)) (se_sub (se_sb (se_var 5)) (se_sb (se_pow (se_sb se_int) (se_sb se_int)))) se_int)) (ss_cons (s1_for hp rfl (si_range1 (se_mod (se_sb (se_intc (se_sb (se_var 6)) rfl m_int)) (se_sb se_int)) rfl m_range) (sg_name 3 sc__law_number.nd) (ss_one (s1_set 2 sc__law_number.nd (se_div (se_sb (se_var 2)) (se_sb se_int))))) (ss_cons (s1_if (st_gt (se_sb (se_var 2)) (se_sb se_int)) (ss_one (s1_ret (se_mod (se_sb (se_intc (se_sb (se_var 2)) rfl m_int)) (se_sb se_int)))) ss_nil) (ss_cons (s1_set 4 sc__law_number.nd (se_mod (se_sb (se_add (se_sb (se_mul (se_sb (se_intc (se_sb (se_add (se_sb (se_var 5)) (se_sb (se_mul (se_sb se_int) (se_sb (se_var 1)))))) rfl m_int)) (se_sb se_int))) (se_sb (se_mul (se_sb se_int) (se_sb (se_len (se_sb (se_var 0)) rfl m_len)))))) (se_sb se_int))) (ss_cons (s1_set 4 sc__law_number.nd (se_mod (se_sb (se_add (se_sb (se_mul (se_sb (se_var 4)) (se_sb (se_var 4)))) (se_sb (se_mul (se_sb se_int) (se_sb (se_var 1)))))) (se_sb se_int))) (ss_one (s1_ret (se_intc (se_sb (se_mod (se_sb (se_add (se_sb (se_mul (se_sb (se_var 4)) (se_sb se_int))) (se_sb (se_div (se_sb (se_var 4)) (se_sb se_int))))) (se_sb se_int))) rfl m_int)))))))))⟩
abbrev s__law_take : Stmt := top 42
abbrev N__law_take : List Str := ["draw", "many"]
theorem sc__law_take : FnScope N__law_take ["draw", "many"] (defScope s__law_take) := ⟨rfl, rfl, rfl, by decide +kernel, rfl, by decide +kernel, by decide +kernel⟩
theorem ok__law_take (A : AtD K mg "_law_take" s__law_take) (h__law_number : HasFn P w K (ly K) mg base "_law_number" ["script", "index"] 1 2 f__law_number) (m_int : mg "int" = none) : HasFn P w K (ly K) mg base "_law_take" ["draw", "many"] 2 2 f__law_take := by
  refine fn_H A sc__law_take rfl rfl (fun _ _ _ _ _ _ us hl => match us, hl with | [_, _], _ => rfl) (fun f cdv A outer s H E hr hx hp => ?_)
  exact ⟨_, (ss_cons (s1_celAug iop_add ops_addI (se_var 0) se_int) (ss_one (s1_ret (se_mod (se_sb (se_intc (se_sb (se_callH h__law_number (hr.mono (by decide)) hx (sa_cons (se_ix (se_sb (se_var 0)) se_int (fun _ _ => rfl)) (sa_cons (se_intc (se_sb (se_ix (se_sb (se_var 0)) se_int (fun _ _ => rfl))) rfl m_int) sa_nil)) (cnt_cons (cnt_cons cnt_nil)))) rfl m_int)) (se_sb (se_var 1))))))⟩
abbrev s__law_way : Stmt := top 45
abbrev N__law_way : List Str := ["draw", "start", "step", "again"]
theorem sc__law_way : FnScope N__law_way ["draw"] (defScope s__law_way) := ⟨rfl, rfl, rfl, by decide +kernel, rfl, by decide +kernel, by decide +kernel⟩
theorem ok__law_way (A : AtD K mg "_law_way" s__law_way) (h__law_take : HasFn P w K (ly K) mg base "_law_take" ["draw", "many"] 2 2 f__law_take) (m_tuple : mg "tuple" = none) (m_range : mg "range" = none) : HasFn P w K (ly K) mg base "_law_way" ["draw"] 3 1 f__law_way := by
  refine fn_H A sc__law_way rfl rfl (fun _ _ _ _ _ _ us hl => match us, hl with | [_], _ => rfl) (fun f cdv A outer s H E hr hx hp => ?_)
  exact ⟨_, (ss_cons (s1_set 1 sc__law_way.nd (se_tuple (se_sb (se_sf (sf_lc (own := [("again", 3)]) rfl sc__law_way.nd (si_range1 se_int rfl m_range) (blkOk_by (N := N__law_way) (sc := defScope s__law_way) (by decide +kernel)) (fun _ _ _ _ _ => (sg_name 3 sc__law_way.nd)) (fun _ _ _ _ _ => sts_nil) (fun _ _ _ _ _ => (se_sub (se_sb (se_callH h__law_take (hr.mono (by decide)) passL (sa_cons (se_var 0) (sa_cons se_int sa_nil)) (cnt_cons (cnt_cons cnt_nil)))) (se_sb se_int)))) lsts_lc)) rfl m_tuple)) (ss_cons (s1_set 2 sc__law_way.nd (se_tuple (se_sb (se_sf (sf_lc (own := [("again", 3)]) rfl sc__law_way.nd (si_range1 se_int rfl m_range) (blkOk_by (N := N__law_way) (sc := defScope s__law_way) (by decide +kernel)) (fun _ _ _ _ _ => (sg_name 3 sc__law_way.nd)) (fun _ _ _ _ _ => sts_nil) (fun _ _ _ _ _ => (se_sub (se_sb (se_callH h__law_take (hr.mono (by decide)) passL (sa_cons (se_var 0) (sa_cons se_int sa_nil)) (cnt_cons (cnt_cons cnt_nil)))) (se_sb se_int)))) lsts_lc)) rfl m_tuple)) (ss_one (s1_ret (se_tup (sa_cons (se_var 1) (sa_cons (se_var 2) sa_nil)))))))⟩
abbrev s_is_row : Stmt := top 7
abbrev N_is_row : List Str := ["thing"]
theorem sc_is_row : FnScope N_is_row ["thing"] (defScope s_is_row) := ⟨rfl, rfl, rfl, by decide +kernel, rfl, by decide +kernel, by decide +kernel⟩
theorem ok_is_row (A : AtD K mg "is_row" s_is_row) (m_isinstance : mg "isinstance" = none) (m_list : mg "list" = none) (m_tuple : mg "tuple" = none) : HasFn P w K (ly K) mg base "is_row" ["thing"] 1 1 f_is_row := by
  refine fn_H A sc_is_row rfl rfl (fun _ _ _ _ _ _ us hl => match us, hl with | [_], _ => rfl) (fun f cdv A outer s H E hr hx hp => ?_)
  exact ⟨_, (ss_one (s1_ret (se_isB2 (se_sb (se_var 0)) (pe_bltn rfl m_list (by decide +kernel) rfl) (pe_bltn rfl m_tuple (by decide +kernel) rfl) rfl m_isinstance)))⟩
abbrev s_is_integer : Stmt := top 4
abbrev N_is_integer : List Str := ["thing"]
theorem sc_is_integer : FnScope N_is_integer ["thing"] (defScope s_is_integer) := ⟨rfl, rfl, rfl, by decide +kernel, rfl, by decide +kernel, by decide +kernel⟩
theorem ok_is_integer (A : AtD K mg "is_integer" s_is_integer) (m_isinstance : mg "isinstance" = none) (m_int : mg "int" = none) (m_bool : mg "bool" = none) : HasFn P w K (ly K) mg base "is_integer" ["thing"] 1 1 f_is_integer := by
  refine fn_H A sc_is_integer rfl rfl (fun _ _ _ _ _ _ us hl => match us, hl with | [_], _ => rfl) (fun f cdv A outer s H E hr hx hp => ?_)
  exact ⟨_, (ss_one (s1_ret (se_and (se_isB (se_sb (se_var 0)) (pe_bltn rfl m_int (by decide +kernel) rfl) rfl m_isinstance) (se_one (se_not (se_isB (se_sb (se_var 0)) (pe_bltn rfl m_bool (by decide +kernel) rfl) rfl m_isinstance))))))⟩
abbrev s_is_triple : Stmt := top 11
abbrev N_is_triple : List Str := ["thing", "one"]
theorem sc_is_triple : FnScope N_is_triple ["thing"] (defScope s_is_triple) := ⟨rfl, rfl, rfl, by decide +kernel, rfl, by decide +kernel, by decide +kernel⟩
theorem ok_is_triple (A : AtD K mg "is_triple" s_is_triple) (h_is_integer : HasFn P w K (ly K) mg base "is_integer" ["thing"] 1 1 f_is_integer) (m_isinstance : mg "isinstance" = none) (m_tuple : mg "tuple" = none) (m_len : mg "len" = none) (m_all : mg "all" = none) : HasFn P w K (ly K) mg base "is_triple" ["thing"] 2 1 f_is_triple := by
  refine fn_H A sc_is_triple rfl rfl (fun _ _ _ _ _ _ us hl => match us, hl with | [_], _ => rfl) (fun f cdv A outer s H E hr hx hp => ?_)
  exact ⟨_, (ss_cons (s1_if (st_w (sw_or (st_not (st_val (se_isB (se_sb (se_var 0)) (pe_bltn rfl m_tuple (by decide +kernel) rfl) rfl m_isinstance))) (sw_or (st_ne hr.units (se_sb (se_len (se_sb (se_var 0)) rfl m_len)) (se_sb se_int)) (sw_or1 (st_not (st_val (se_all rfl (se_sb (se_sf (sf_lc (own := [("one", 1)]) rfl sc_is_triple.nd (si_val (se_var 0)) (blkOk_by (N := N_is_triple) (sc := defScope s_is_triple) (by decide +kernel)) (fun _ _ _ _ _ => (sg_name 1 sc_is_triple.nd)) (fun _ _ _ _ _ => sts_nil) (fun _ _ _ _ _ => (se_callH h_is_integer (hr.mono (by decide)) passL (sa_cons (se_var 1) sa_nil) (cnt_cons cnt_nil)))) lsts_lc)) rfl m_all))))))) (ss_one (s1_ret se_bl)) ss_nil) (ss_one (s1_ret (se_ne hr.units (se_sb (se_var 0)) (se_sb (se_tup (sa_cons se_int (sa_cons se_int (sa_cons se_int sa_nil)))))))))⟩
abbrev s_is_way : Stmt := top 28
abbrev N_is_way : List Str := ["way", "one"]
theorem sc_is_way : FnScope N_is_way ["way"] (defScope s_is_way) := ⟨rfl, rfl, rfl, by decide +kernel, rfl, by decide +kernel, by decide +kernel⟩
theorem ok_is_way (A : AtD K mg "is_way" s_is_way) (h_is_row : HasFn P w K (ly K) mg base "is_row" ["thing"] 1 1 f_is_row) (h_is_triple : HasFn P w K (ly K) mg base "is_triple" ["thing"] 2 1 f_is_triple) (m_len : mg "len" = none) (m_all : mg "all" = none) (m_isinstance : mg "isinstance" = none) (m_tuple : mg "tuple" = none) : HasFn P w K (ly K) mg base "is_way" ["way"] 3 1 f_is_way := by
  refine fn_H A sc_is_way rfl rfl (fun _ _ _ _ _ _ us hl => match us, hl with | [_], _ => rfl) (fun f cdv A outer s H E hr hx hp => ?_)
  exact ⟨_, (ss_cons (s1_if (st_w (sw_or (st_not (st_val (se_callH h_is_row (hr.mono (by decide)) hx (sa_cons (se_var 0) sa_nil) (cnt_cons cnt_nil)))) (sw_or1 (st_ne hr.units (se_sb (se_len (se_sb (se_var 0)) rfl m_len)) (se_sb se_int))))) (ss_one (s1_ret se_bl)) ss_nil) (ss_one (s1_ret (se_and (se_all rfl (se_sb (se_sf (sf_lc (own := [("one", 1)]) rfl sc_is_way.nd (si_val (se_var 0)) (blkOk_by (N := N_is_way) (sc := defScope s_is_way) (by decide +kernel)) (fun _ _ _ _ _ => (sg_name 1 sc_is_way.nd)) (fun _ _ _ _ _ => sts_nil) (fun _ _ _ _ _ => (se_or (se_eq hr.units (se_sb (se_var 1)) (se_sb (se_tup (sa_cons se_int (sa_cons se_int (sa_cons se_int sa_nil)))))) (se_one (se_callH h_is_triple (hr.mono (by decide)) passL (sa_cons (se_var 1) sa_nil) (cnt_cons cnt_nil)))))) lsts_lc)) rfl m_all) (se_one (se_all rfl (se_sb (se_sf (sf_lc (own := [("one", 1)]) rfl sc_is_way.nd (si_val (se_var 0)) (blkOk_by (N := N_is_way) (sc := defScope s_is_way) (by decide +kernel)) (fun _ _ _ _ _ => (sg_name 1 sc_is_way.nd)) (fun _ _ _ _ _ => sts_nil) (fun _ _ _ _ _ => (se_isB (se_sb (se_var 1)) (pe_bltn rfl m_tuple (by decide +kernel) rfl) rfl m_isinstance))) lsts_lc)) rfl m_all))))))⟩
abbrev s_check_way : Stmt := top 32
abbrev N_check_way : List Str := ["way"]
theorem sc_check_way : FnScope N_check_way ["way"] (defScope s_check_way) := ⟨rfl, rfl, rfl, by decide +kernel, rfl, by decide +kernel, by decide +kernel⟩
theorem ok_check_way (A : AtD K mg "check_way" s_check_way) (h_is_way : HasFn P w K (ly K) mg base "is_way" ["way"] 3 1 f_is_way) : HasFn P w K (ly K) mg base "check_way" ["way"] 4 1 f_check_way := by
  refine fn_H A sc_check_way rfl rfl (fun _ _ _ _ _ _ us hl => match us, hl with | [_], _ => rfl) (fun f cdv A outer s H E hr hx hp => ?_)
  exact ⟨_, (ss_one (s1_if (st_not (st_val (se_callH h_is_way (hr.mono (by decide)) hx (sa_cons (se_var 0) sa_nil) (cnt_cons cnt_nil)))) (ss_one s1_never) ss_nil))⟩
abbrev s_is_number : Stmt := top 5
abbrev N_is_number : List Str := ["thing", "low", "high"]
theorem sc_is_number : FnScope N_is_number ["thing", "low", "high"] (defScope s_is_number) := ⟨rfl, rfl, rfl, by decide +kernel, rfl, by decide +kernel, by decide +kernel⟩
theorem ok_is_number (A : AtD K mg "is_number" s_is_number) (h_is_integer : HasFn P w K (ly K) mg base "is_integer" ["thing"] 1 1 f_is_integer) : HasFn P w K (ly K) mg base "is_number" ["thing", "low", "high"] 2 3 f_is_number := by
  refine fn_H A sc_is_number rfl rfl (fun _ _ _ _ _ _ us hl => match us, hl with | [_, _, _], _ => rfl) (fun f cdv A outer s H E hr hx hp => ?_)
  exact ⟨_, (ss_one (s1_ret (se_and (se_callH h_is_integer (hr.mono (by decide)) hx (sa_cons (se_var 0) sa_nil) (cnt_cons cnt_nil)) (se_one (se_chain op_le op_le ops_le ops_le (se_sb (se_var 1)) (se_sb (se_var 0)) (se_sb (se_var 2)))))))⟩
abbrev s_check_number : Stmt := top 6
abbrev N_check_number : List Str := ["part", "thing", "low", "high"]
theorem sc_check_number : FnScope N_check_number ["part", "thing", "low", "high"] (defScope s_check_number) := ⟨rfl, rfl, rfl, by decide +kernel, rfl, by decide +kernel, by decide +kernel⟩
theorem ok_check_number (A : AtD K mg "check_number" s_check_number) (h_is_number : HasFn P w K (ly K) mg base "is_number" ["thing", "low", "high"] 2 3 f_is_number) : HasFn P w K (ly K) mg base "check_number" ["part", "thing", "low", "high"] 3 4 f_check_number := by
  refine fn_H A sc_check_number rfl rfl (fun _ _ _ _ _ _ us hl => match us, hl with | [_, _, _, _], _ => rfl) (fun f cdv A outer s H E hr hx hp => ?_)
  exact ⟨_, (ss_one (s1_if (st_not (st_val (se_callH h_is_number (hr.mono (by decide)) hx (sa_cons (se_var 1) (sa_cons (se_var 2) (sa_cons (se_var 3) sa_nil))) (cnt_cons (cnt_cons (cnt_cons cnt_nil)))))) (ss_one s1_never) ss_nil))⟩
abbrev s_plus : Stmt := top 18
abbrev N_plus : List Str := ["one", "other", "left", "right"]
theorem sc_plus : FnScope N_plus ["one", "other"] (defScope s_plus) := ⟨rfl, rfl, rfl, by decide +kernel, rfl, by decide +kernel, by decide +kernel⟩
theorem ok_plus (A : AtD K mg "plus" s_plus) (m_tuple : mg "tuple" = none) (m_zip : mg "zip" = none) : HasFn P w K (ly K) mg base "plus" ["one", "other"] 1 2 f_plus := by
  refine fn_H A sc_plus rfl rfl (fun _ _ _ _ _ _ us hl => match us, hl with | [_, _], _ => rfl) (fun f cdv A outer s H E hr hx hp => ?_)
  exact ⟨_, (ss_one (s1_ret (se_tuple (se_sb (se_sf (sf_lc (own := [("left", 2), ("right", 3)]) rfl sc_plus.nd (si_zip (se_var 0) (se_var 1) rfl m_zip) (blkOk_by (N := N_plus) (sc := defScope s_plus) (by decide +kernel)) (fun _ _ _ _ _ => (sg_tup rfl (sgs_cons (sg_name 2 sc_plus.nd) (sgs_cons (sg_name 3 sc_plus.nd) sgs_nil)))) (fun _ _ _ _ _ => sts_nil) (fun _ _ _ _ _ => (se_add (se_sb (se_var 2)) (se_sb (se_var 3))))) lsts_lc)) rfl m_tuple)))⟩
abbrev s_times : Stmt := top 19
abbrev N_times : List Str := ["factor", "triple", "one"]
theorem sc_times : FnScope N_times ["factor", "triple"] (defScope s_times) := ⟨rfl, rfl, rfl, by decide +kernel, rfl, by decide +kernel, by decide +kernel⟩
theorem ok_times (A : AtD K mg "times" s_times) (m_tuple : mg "tuple" = none) : HasFn P w K (ly K) mg base "times" ["factor", "triple"] 1 2 f_times := by
  refine fn_H A sc_times rfl rfl (fun _ _ _ _ _ _ us hl => match us, hl with | [_, _], _ => rfl) (fun f cdv A outer s H E hr hx hp => ?_)
  exact ⟨_, (ss_one (s1_ret (se_tuple (se_sb (se_sf (sf_lc (own := [("one", 2)]) rfl sc_times.nd (si_val (se_var 1)) (blkOk_by (N := N_times) (sc := defScope s_times) (by decide +kernel)) (fun _ _ _ _ _ => (sg_name 2 sc_times.nd)) (fun _ _ _ _ _ => sts_nil) (fun _ _ _ _ _ => (se_mul (se_sb (se_var 0)) (se_sb (se_var 2))))) lsts_lc)) rfl m_tuple)))⟩
abbrev s_at_night : Stmt := top 30
abbrev N_at_night : List Str := ["way", "night"]
theorem sc_at_night : FnScope N_at_night ["way", "night"] (defScope s_at_night) := ⟨rfl, rfl, rfl, by decide +kernel, rfl, by decide +kernel, by decide +kernel⟩
theorem ok_at_night (A : AtD K mg "at_night" s_at_night) (h_check_way : HasFn P w K (ly K) mg base "check_way" ["way"] 4 1 f_check_way) (h_check_number : HasFn P w K (ly K) mg base "check_number" ["part", "thing", "low", "high"] 3 4 f_check_number) (h_plus : HasFn P w K (ly K) mg base "plus" ["one", "other"] 1 2 f_plus) (h_times : HasFn P w K (ly K) mg base "times" ["factor", "triple"] 1 2 f_times) (c0_MOST_NIGHT : ∃ t, mg "MOST_NIGHT" = some (.int 99 t)) : HasFn P w K (ly K) mg base "at_night" ["way", "night"] 5 2 f_at_night := by
  obtain ⟨t_MOST_NIGHT, c_MOST_NIGHT⟩ := c0_MOST_NIGHT
  refine fn_H A sc_at_night rfl rfl (fun _ _ _ _ _ _ us hl => match us, hl with | [_, _], _ => rfl) (fun f cdv A outer s H E hr hx hp => ?_)
  exact ⟨_, (ss_cons (s1_expr (se_callH h_check_way (hr.mono (by decide)) hx (sa_cons (se_var 0) sa_nil) (cnt_cons cnt_nil))) (ss_cons (s1_expr (se_callH h_check_number (hr.mono (by decide)) hx (sa_cons se_str (sa_cons (se_var 1) (sa_cons se_int (sa_cons (se_globI rfl c_MOST_NIGHT) sa_nil)))) (cnt_cons (cnt_cons (cnt_cons (cnt_cons cnt_nil)))))) (ss_one (s1_ret (se_callH h_plus (hr.mono (by decide)) hx (sa_cons (se_ix (se_sb (se_var 0)) se_int (fun _ _ => rfl)) (sa_cons (se_callH h_times (hr.mono (by decide)) hx (sa_cons (se_var 1) (sa_cons (se_ix (se_sb (se_var 0)) se_int (fun _ _ => rfl)) sa_nil)) (cnt_cons (cnt_cons cnt_nil))) sa_nil)) (cnt_cons (cnt_cons cnt_nil)))))))⟩
abbrev s_check_triple : Stmt := top 13
abbrev N_check_triple : List Str := ["part", "thing"]
theorem sc_check_triple : FnScope N_check_triple ["part", "thing"] (defScope s_check_triple) := ⟨rfl, rfl, rfl, by decide +kernel, rfl, by decide +kernel, by decide +kernel⟩
theorem ok_check_triple (A : AtD K mg "check_triple" s_check_triple) (h_is_triple : HasFn P w K (ly K) mg base "is_triple" ["thing"] 2 1 f_is_triple) : HasFn P w K (ly K) mg base "check_triple" ["part", "thing"] 3 2 f_check_triple := by
  refine fn_H A sc_check_triple rfl rfl (fun _ _ _ _ _ _ us hl => match us, hl with | [_, _], _ => rfl) (fun f cdv A outer s H E hr hx hp => ?_)
  exact ⟨_, (ss_one (s1_if (st_not (st_val (se_callH h_is_triple (hr.mono (by decide)) hx (sa_cons (se_var 1) sa_nil) (cnt_cons cnt_nil)))) (ss_one s1_never) ss_nil))⟩
abbrev s_common : Stmt := top 8
abbrev N_common : List Str := ["one", "other"]
theorem sc_common : FnScope N_common ["one", "other"] (defScope s_common) := ⟨rfl, rfl, rfl, by decide +kernel, rfl, by decide +kernel, by decide +kernel⟩
theorem ok_common (A : AtD K mg "common" s_common) (m_abs : mg "abs" = none) : HasFn P w K (ly K) mg base "common" ["one", "other"] 1 2 f_common := by
  refine fn_H A sc_common rfl rfl (fun _ _ _ _ _ _ us hl => match us, hl with | [_, _], _ => rfl) (fun f cdv A outer s H E hr hx hp => ?_)
  exact ⟨_, (ss_cons (s1_par2 0 1 rfl sc_common.nd (se_abs (se_sb (se_var 0)) rfl m_abs) (se_abs (se_sb (se_var 1)) rfl m_abs)) (ss_cons (s1_while hp (st_gt (se_sb (se_var 1)) (se_sb se_int)) (ss_one (s1_par2 0 1 rfl sc_common.nd (se_var 1) (se_mod (se_sb (se_var 0)) (se_sb (se_var 1)))))) (ss_one (s1_ret (se_var 0)))))⟩
abbrev s_least : Stmt := top 14
abbrev N_least : List Str := ["direction", "divisor", "one"]
theorem sc_least : FnScope N_least ["direction"] (defScope s_least) := ⟨rfl, rfl, rfl, by decide +kernel, rfl, by decide +kernel, by decide +kernel⟩
theorem ok_least (A : AtD K mg "least" s_least) (h_check_triple : HasFn P w K (ly K) mg base "check_triple" ["part", "thing"] 3 2 f_check_triple) (h_common : HasFn P w K (ly K) mg base "common" ["one", "other"] 1 2 f_common) (m_tuple : mg "tuple" = none) : HasFn P w K (ly K) mg base "least" ["direction"] 4 1 f_least := by
  refine fn_H A sc_least rfl rfl (fun _ _ _ _ _ _ us hl => match us, hl with | [_], _ => rfl) (fun f cdv A outer s H E hr hx hp => ?_)
  exact ⟨_, (ss_cons (s1_expr (se_callH h_check_triple (hr.mono (by decide)) hx (sa_cons se_str (sa_cons (se_var 0) sa_nil)) (cnt_cons (cnt_cons cnt_nil)))) (ss_cons (s1_set 1 sc_least.nd (se_callH h_common (hr.mono (by decide)) hx (sa_cons (se_callH h_common (hr.mono (by decide)) hx (sa_cons (se_ix (se_sb (se_var 0)) se_int (fun _ _ => rfl)) (sa_cons (se_ix (se_sb (se_var 0)) se_int (fun _ _ => rfl)) sa_nil)) (cnt_cons (cnt_cons cnt_nil))) (sa_cons (se_ix (se_sb (se_var 0)) se_int (fun _ _ => rfl)) sa_nil)) (cnt_cons (cnt_cons cnt_nil)))) (ss_one (s1_ret (se_tuple (se_sb (se_sf (sf_lc (own := [("one", 2)]) rfl sc_least.nd (si_val (se_var 0)) (blkOk_by (N := N_least) (sc := defScope s_least) (by decide +kernel)) (fun _ _ _ _ _ => (sg_name 2 sc_least.nd)) (fun _ _ _ _ _ => sts_nil) (fun _ _ _ _ _ => (se_div (se_sb (se_var 2)) (se_sb (se_var 1))))) lsts_lc)) rfl m_tuple)))))⟩
abbrev s_seen : Stmt := top 31
abbrev N_seen : List Str := ["way", "night", "found"]
theorem sc_seen : FnScope N_seen ["way", "night"] (defScope s_seen) := ⟨rfl, rfl, rfl, by decide +kernel, rfl, by decide +kernel, by decide +kernel⟩
theorem ok_seen (A : AtD K mg "seen" s_seen) (h_check_way : HasFn P w K (ly K) mg base "check_way" ["way"] 4 1 f_check_way) (h_check_number : HasFn P w K (ly K) mg base "check_number" ["part", "thing", "low", "high"] 3 4 f_check_number) (h_at_night : HasFn P w K (ly K) mg base "at_night" ["way", "night"] 5 2 f_at_night) (h_least : HasFn P w K (ly K) mg base "least" ["direction"] 4 1 f_least) (c0_MOST_NIGHT : ∃ t, mg "MOST_NIGHT" = some (.int 99 t)) : HasFn P w K (ly K) mg base "seen" ["way", "night"] 6 2 f_seen := by
  obtain ⟨t_MOST_NIGHT, c_MOST_NIGHT⟩ := c0_MOST_NIGHT
  refine fn_H A sc_seen rfl rfl (fun _ _ _ _ _ _ us hl => match us, hl with | [_, _], _ => rfl) (fun f cdv A outer s H E hr hx hp => ?_)
  exact ⟨_, (ss_cons (s1_expr (se_callH h_check_way (hr.mono (by decide)) hx (sa_cons (se_var 0) sa_nil) (cnt_cons cnt_nil))) (ss_cons (s1_expr (se_callH h_check_number (hr.mono (by decide)) hx (sa_cons se_str (sa_cons (se_var 1) (sa_cons se_int (sa_cons (se_globI rfl c_MOST_NIGHT) sa_nil)))) (cnt_cons (cnt_cons (cnt_cons (cnt_cons cnt_nil)))))) (ss_cons (s1_set 2 sc_seen.nd (se_callH h_at_night (hr.mono (by decide)) hx (sa_cons (se_var 0) (sa_cons (se_var 1) sa_nil)) (cnt_cons (cnt_cons cnt_nil)))) (ss_one (s1_ret (se_if (st_eq hr.units (se_sb (se_var 2)) (se_sb (se_tup (sa_cons se_int (sa_cons se_int (sa_cons se_int sa_nil)))))) se_non (se_callH h_least (hr.mono (by decide)) hx (sa_cons (se_var 2) sa_nil) (cnt_cons cnt_nil))))))))⟩
abbrev s_cross : Stmt := top 16
abbrev N_cross : List Str := ["one", "other"]
theorem sc_cross : FnScope N_cross ["one", "other"] (defScope s_cross) := ⟨rfl, rfl, rfl, by decide +kernel, rfl, by decide +kernel, by decide +kernel⟩
theorem ok_cross (A : AtD K mg "cross" s_cross) : HasFn P w K (ly K) mg base "cross" ["one", "other"] 1 2 f_cross := by
  refine fn_H A sc_cross rfl rfl (fun _ _ _ _ _ _ us hl => match us, hl with | [_, _], _ => rfl) (fun f cdv A outer s H E hr hx hp => ?_)
  exact ⟨_, (ss_one (s1_ret (se_tup (sa_cons (se_sub (se_sb (se_mul (se_sb (se_ix (se_sb (se_var 0)) se_int (fun _ _ => rfl))) (se_sb (se_ix (se_sb (se_var 1)) se_int (fun _ _ => rfl))))) (se_sb (se_mul (se_sb (se_ix (se_sb (se_var 0)) se_int (fun _ _ => rfl))) (se_sb (se_ix (se_sb (se_var 1)) se_int (fun _ _ => rfl)))))) (sa_cons (se_sub (se_sb (se_mul (se_sb (se_ix (se_sb (se_var 0)) se_int (fun _ _ => rfl))) (se_sb (se_ix (se_sb (se_var 1)) se_int (fun _ _ => rfl))))) (se_sb (se_mul (se_sb (se_ix (se_sb (se_var 0)) se_int (fun _ _ => rfl))) (se_sb (se_ix (se_sb (se_var 1)) se_int (fun _ _ => rfl)))))) (sa_cons (se_sub (se_sb (se_mul (se_sb (se_ix (se_sb (se_var 0)) se_int (fun _ _ => rfl))) (se_sb (se_ix (se_sb (se_var 1)) se_int (fun _ _ => rfl))))) (se_sb (se_mul (se_sb (se_ix (se_sb (se_var 0)) se_int (fun _ _ => rfl))) (se_sb (se_ix (se_sb (se_var 1)) se_int (fun _ _ => rfl)))))) sa_nil))))))⟩
abbrev s_circle_of : Stmt := top 38
abbrev N_circle_of : List Str := ["way", "found"]
theorem sc_circle_of : FnScope N_circle_of ["way"] (defScope s_circle_of) := ⟨rfl, rfl, rfl, by decide +kernel, rfl, by decide +kernel, by decide +kernel⟩
theorem ok_circle_of (A : AtD K mg "circle_of" s_circle_of) (h_check_way : HasFn P w K (ly K) mg base "check_way" ["way"] 4 1 f_check_way) (h_cross : HasFn P w K (ly K) mg base "cross" ["one", "other"] 1 2 f_cross) (h_least : HasFn P w K (ly K) mg base "least" ["direction"] 4 1 f_least) : HasFn P w K (ly K) mg base "circle_of" ["way"] 5 1 f_circle_of := by
  refine fn_H A sc_circle_of rfl rfl (fun _ _ _ _ _ _ us hl => match us, hl with | [_], _ => rfl) (fun f cdv A outer s H E hr hx hp => ?_)
  exact ⟨_, (ss_cons (s1_expr (se_callH h_check_way (hr.mono (by decide)) hx (sa_cons (se_var 0) sa_nil) (cnt_cons cnt_nil))) (ss_cons (s1_set 1 sc_circle_of.nd (se_callH h_cross (hr.mono (by decide)) hx (sa_cons (se_ix (se_sb (se_var 0)) se_int (fun _ _ => rfl)) (sa_cons (se_ix (se_sb (se_var 0)) se_int (fun _ _ => rfl)) sa_nil)) (cnt_cons (cnt_cons cnt_nil)))) (ss_one (s1_ret (se_if (st_eq hr.units (se_sb (se_var 1)) (se_sb (se_tup (sa_cons se_int (sa_cons se_int (sa_cons se_int sa_nil)))))) se_non (se_callH h_least (hr.mono (by decide)) hx (sa_cons (se_var 1) sa_nil) (cnt_cons cnt_nil)))))))⟩
abbrev s__law_cross : Stmt := top 44
abbrev N__law_cross : List Str := ["one", "other", "at"]
theorem sc__law_cross : FnScope N__law_cross ["one", "other"] (defScope s__law_cross) := ⟨rfl, rfl, rfl, by decide +kernel, rfl, by decide +kernel, by decide +kernel⟩
theorem ok__law_cross (A : AtD K mg "_law_cross" s__law_cross) (m_tuple : mg "tuple" = none) (m_range : mg "range" = none) : HasFn P w K (ly K) mg base "_law_cross" ["one", "other"] 1 2 f__law_cross := by
  refine fn_H A sc__law_cross rfl rfl (fun _ _ _ _ _ _ us hl => match us, hl with | [_, _], _ => rfl) (fun f cdv A outer s H E hr hx hp => ?_)
  exact ⟨_, (ss_one (s1_ret (se_tuple (se_sb (se_sf (sf_lc (own := [("at", 2)]) rfl sc__law_cross.nd (si_range1 se_int rfl m_range) (blkOk_by (N := N__law_cross) (sc := defScope s__law_cross) (by decide +kernel)) (fun _ _ _ _ _ => (sg_name 2 sc__law_cross.nd)) (fun _ _ _ _ _ => sts_nil) (fun _ _ _ _ _ => (se_sub (se_sb (se_mul (se_sb (se_ix (se_sb (se_var 0)) (se_mod (se_sb (se_add (se_sb (se_var 2)) (se_sb se_int))) (se_sb se_int)) (fun _ _ => rfl))) (se_sb (se_ix (se_sb (se_var 1)) (se_mod (se_sb (se_add (se_sb (se_var 2)) (se_sb se_int))) (se_sb se_int)) (fun _ _ => rfl))))) (se_sb (se_mul (se_sb (se_ix (se_sb (se_var 0)) (se_mod (se_sb (se_add (se_sb (se_var 2)) (se_sb se_int))) (se_sb se_int)) (fun _ _ => rfl))) (se_sb (se_ix (se_sb (se_var 1)) (se_mod (se_sb (se_add (se_sb (se_var 2)) (se_sb se_int))) (se_sb se_int)) (fun _ _ => rfl)))))))) lsts_lc)) rfl m_tuple)))⟩
abbrev s_is_direction : Stmt := top 12
abbrev N_is_direction : List Str := ["thing", "one"]
theorem sc_is_direction : FnScope N_is_direction ["thing"] (defScope s_is_direction) := ⟨rfl, rfl, rfl, by decide +kernel, rfl, by decide +kernel, by decide +kernel⟩
theorem ok_is_direction (A : AtD K mg "is_direction" s_is_direction) (h_is_triple : HasFn P w K (ly K) mg base "is_triple" ["thing"] 2 1 f_is_triple) (h_is_number : HasFn P w K (ly K) mg base "is_number" ["thing", "low", "high"] 2 3 f_is_number) (m_all : mg "all" = none) (c0_MOST : ∃ t, mg "MOST" = some (.int 999999 t)) : HasFn P w K (ly K) mg base "is_direction" ["thing"] 3 1 f_is_direction := by
  obtain ⟨t_MOST, c_MOST⟩ := c0_MOST
  refine fn_H A sc_is_direction rfl rfl (fun _ _ _ _ _ _ us hl => match us, hl with | [_], _ => rfl) (fun f cdv A outer s H E hr hx hp => ?_)
  exact ⟨_, (ss_one (s1_ret (se_and (se_callH h_is_triple (hr.mono (by decide)) hx (sa_cons (se_var 0) sa_nil) (cnt_cons cnt_nil)) (se_one (se_all rfl (se_sb (se_sf (sf_lc (own := [("one", 1)]) rfl sc_is_direction.nd (si_val (se_var 0)) (blkOk_by (N := N_is_direction) (sc := defScope s_is_direction) (by decide +kernel)) (fun _ _ _ _ _ => (sg_name 1 sc_is_direction.nd)) (fun _ _ _ _ _ => sts_nil) (fun _ _ _ _ _ => (se_callH h_is_number (hr.mono (by decide)) passL (sa_cons (se_var 1) (sa_cons (se_neg (se_sb (se_globI rfl c_MOST))) (sa_cons (se_globI rfl c_MOST) sa_nil))) (cnt_cons (cnt_cons (cnt_cons cnt_nil)))))) lsts_lc)) rfl m_all)))))⟩
abbrev s_dot : Stmt := top 15
abbrev N_dot : List Str := ["one", "other", "left", "right"]
theorem sc_dot : FnScope N_dot ["one", "other"] (defScope s_dot) := ⟨rfl, rfl, rfl, by decide +kernel, rfl, by decide +kernel, by decide +kernel⟩
theorem ok_dot (A : AtD K mg "dot" s_dot) (m_sum : mg "sum" = none) (m_zip : mg "zip" = none) : HasFn P w K (ly K) mg base "dot" ["one", "other"] 1 2 f_dot := by
  refine fn_H A sc_dot rfl rfl (fun _ _ _ _ _ _ us hl => match us, hl with | [_, _], _ => rfl) (fun f cdv A outer s H E hr hx hp => ?_)
  exact ⟨_, (ss_one (s1_ret (se_sum rfl (se_sb (se_sf (sf_lc (own := [("left", 2), ("right", 3)]) rfl sc_dot.nd (si_zip (se_var 0) (se_var 1) rfl m_zip) (blkOk_by (N := N_dot) (sc := defScope s_dot) (by decide +kernel)) (fun _ _ _ _ _ => (sg_tup rfl (sgs_cons (sg_name 2 sc_dot.nd) (sgs_cons (sg_name 3 sc_dot.nd) sgs_nil)))) (fun _ _ _ _ _ => sts_nil) (fun _ _ _ _ _ => (se_mul (se_sb (se_var 2)) (se_sb (se_var 3))))) lsts_lc)) rfl m_sum)))⟩
abbrev s_det : Stmt := top 17
abbrev N_det : List Str := ["one", "other", "third"]
theorem sc_det : FnScope N_det ["one", "other", "third"] (defScope s_det) := ⟨rfl, rfl, rfl, by decide +kernel, rfl, by decide +kernel, by decide +kernel⟩
theorem ok_det (A : AtD K mg "det" s_det) (h_dot : HasFn P w K (ly K) mg base "dot" ["one", "other"] 1 2 f_dot) (h_cross : HasFn P w K (ly K) mg base "cross" ["one", "other"] 1 2 f_cross) : HasFn P w K (ly K) mg base "det" ["one", "other", "third"] 2 3 f_det := by
  refine fn_H A sc_det rfl rfl (fun _ _ _ _ _ _ us hl => match us, hl with | [_, _, _], _ => rfl) (fun f cdv A outer s H E hr hx hp => ?_)
  exact ⟨_, (ss_one (s1_ret (se_callH h_dot (hr.mono (by decide)) hx (sa_cons (se_callH h_cross (hr.mono (by decide)) hx (sa_cons (se_var 0) (sa_cons (se_var 1) sa_nil)) (cnt_cons (cnt_cons cnt_nil))) (sa_cons (se_var 2) sa_nil)) (cnt_cons (cnt_cons cnt_nil)))))⟩
abbrev s_side_of : Stmt := top 39
abbrev N_side_of : List Str := ["way", "direction", "found"]
theorem sc_side_of : FnScope N_side_of ["way", "direction"] (defScope s_side_of) := ⟨rfl, rfl, rfl, by decide +kernel, rfl, by decide +kernel, by decide +kernel⟩
theorem ok_side_of (A : AtD K mg "side_of" s_side_of) (h_check_way : HasFn P w K (ly K) mg base "check_way" ["way"] 4 1 f_check_way) (h_is_direction : HasFn P w K (ly K) mg base "is_direction" ["thing"] 3 1 f_is_direction) (h_det : HasFn P w K (ly K) mg base "det" ["one", "other", "third"] 2 3 f_det) : HasFn P w K (ly K) mg base "side_of" ["way", "direction"] 5 2 f_side_of := by
  refine fn_H A sc_side_of rfl rfl (fun _ _ _ _ _ _ us hl => match us, hl with | [_, _], _ => rfl) (fun f cdv A outer s H E hr hx hp => ?_)
  exact ⟨_, (ss_cons (s1_expr (se_callH h_check_way (hr.mono (by decide)) hx (sa_cons (se_var 0) sa_nil) (cnt_cons cnt_nil))) (ss_cons (s1_if (st_not (st_val (se_callH h_is_direction (hr.mono (by decide)) hx (sa_cons (se_var 1) sa_nil) (cnt_cons cnt_nil)))) (ss_one s1_never) ss_nil) (ss_cons (s1_set 2 sc_side_of.nd (se_callH h_det (hr.mono (by decide)) hx (sa_cons (se_ix (se_sb (se_var 0)) se_int (fun _ _ => rfl)) (sa_cons (se_ix (se_sb (se_var 0)) se_int (fun _ _ => rfl)) (sa_cons (se_var 1) sa_nil))) (cnt_cons (cnt_cons (cnt_cons cnt_nil))))) (ss_one (s1_ret (se_if (st_gt (se_sb (se_var 2)) (se_sb se_int)) se_int (se_if (st_eq hr.units (se_sb (se_var 2)) (se_sb se_int)) se_int (se_neg (se_sb se_int)))))))))⟩
abbrev s_check_sightings : Stmt := top 27
abbrev N_check_sightings : List Str := ["sightings", "last", "place", "row"]
theorem sc_check_sightings : FnScope N_check_sightings ["sightings"] (defScope s_check_sightings) := ⟨rfl, rfl, rfl, by decide +kernel, rfl, by decide +kernel, by decide +kernel⟩
theorem ok_check_sightings (A : AtD K mg "check_sightings" s_check_sightings) (h_is_row : HasFn P w K (ly K) mg base "is_row" ["thing"] 1 1 f_is_row) (h_is_number : HasFn P w K (ly K) mg base "is_number" ["thing", "low", "high"] 2 3 f_is_number) (h_is_direction : HasFn P w K (ly K) mg base "is_direction" ["thing"] 3 1 f_is_direction) (m_len : mg "len" = none) (m_enumerate : mg "enumerate" = none) (m_isinstance : mg "isinstance" = none) (m_tuple : mg "tuple" = none) (c0_MOST_NIGHT : ∃ t, mg "MOST_NIGHT" = some (.int 99 t)) : HasFn P w K (ly K) mg base "check_sightings" ["sightings"] 4 1 f_check_sightings := by
  obtain ⟨t_MOST_NIGHT, c_MOST_NIGHT⟩ := c0_MOST_NIGHT
  refine fn_H A sc_check_sightings rfl rfl (fun _ _ _ _ _ _ us hl => match us, hl with | [_], _ => rfl) (fun f cdv A outer s H E hr hx hp => ?_)
  exact ⟨_, (ss_cons (s1_if (st_w (sw_or (st_not (st_val (se_callH h_is_row (hr.mono (by decide)) hx (sa_cons (se_var 0) sa_nil) (cnt_cons cnt_nil)))) (sw_or1 (st_eq hr.units (se_sb (se_len (se_sb (se_var 0)) rfl m_len)) (se_sb se_int))))) (ss_one s1_never) ss_nil) (ss_cons (s1_set 1 sc_check_sightings.nd (se_neg (se_sb se_int))) (ss_one (s1_for hp rfl (si_enum (se_var 0) rfl m_enumerate) (sg_tup rfl (sgs_cons (sg_name 2 sc_check_sightings.nd) (sgs_cons (sg_name 3 sc_check_sightings.nd) sgs_nil))) (ss_cons (s1_if (st_w (sw_or (st_not (st_val (se_isB (se_sb (se_var 3)) (pe_bltn rfl m_tuple (by decide +kernel) rfl) rfl m_isinstance))) (sw_or (st_ne hr.units (se_sb (se_len (se_sb (se_var 3)) rfl m_len)) (se_sb se_int)) (sw_or1 (st_not (st_val (se_callH h_is_number (hr.mono (by decide)) hx (sa_cons (se_ix (se_sb (se_var 3)) se_int (fun _ _ => rfl)) (sa_cons (se_add (se_sb (se_var 1)) (se_sb se_int)) (sa_cons (se_globI rfl c_MOST_NIGHT) sa_nil))) (cnt_cons (cnt_cons (cnt_cons cnt_nil)))))))))) (ss_one s1_never) ss_nil) (ss_cons (s1_if (st_not (st_val (se_callH h_is_direction (hr.mono (by decide)) hx (sa_cons (se_ix (se_sb (se_var 3)) se_int (fun _ _ => rfl)) sa_nil) (cnt_cons cnt_nil)))) (ss_one s1_never) ss_nil) (ss_one (s1_set 1 sc_check_sightings.nd (se_ix (se_sb (se_var 3)) se_int (fun _ _ => rfl))))))))))⟩
abbrev s_is_on_line : Stmt := top 20
abbrev N_is_on_line : List Str := ["one", "other"]
theorem sc_is_on_line : FnScope N_is_on_line ["one", "other"] (defScope s_is_on_line) := ⟨rfl, rfl, rfl, by decide +kernel, rfl, by decide +kernel, by decide +kernel⟩
theorem ok_is_on_line (A : AtD K mg "is_on_line" s_is_on_line) (h_cross : HasFn P w K (ly K) mg base "cross" ["one", "other"] 1 2 f_cross) : HasFn P w K (ly K) mg base "is_on_line" ["one", "other"] 2 2 f_is_on_line := by
  refine fn_H A sc_is_on_line rfl rfl (fun _ _ _ _ _ _ us hl => match us, hl with | [_, _], _ => rfl) (fun f cdv A outer s H E hr hx hp => ?_)
  exact ⟨_, (ss_one (s1_ret (se_eq hr.units (se_sb (se_callH h_cross (hr.mono (by decide)) hx (sa_cons (se_var 0) (sa_cons (se_var 1) sa_nil)) (cnt_cons (cnt_cons cnt_nil)))) (se_sb (se_tup (sa_cons se_int (sa_cons se_int (sa_cons se_int sa_nil))))))))⟩
abbrev s_is_seen : Stmt := top 33
abbrev N_is_seen : List Str := ["way", "sightings", "night", "direction", "found", "first", "last"]
theorem sc_is_seen : FnScope N_is_seen ["way", "sightings"] (defScope s_is_seen) := ⟨rfl, rfl, rfl, by decide +kernel, rfl, by decide +kernel, by decide +kernel⟩
theorem ok_is_seen (A : AtD K mg "is_seen" s_is_seen) (h_check_way : HasFn P w K (ly K) mg base "check_way" ["way"] 4 1 f_check_way) (h_check_sightings : HasFn P w K (ly K) mg base "check_sightings" ["sightings"] 4 1 f_check_sightings) (h_at_night : HasFn P w K (ly K) mg base "at_night" ["way", "night"] 5 2 f_at_night) (h_least : HasFn P w K (ly K) mg base "least" ["direction"] 4 1 f_least) (h_is_on_line : HasFn P w K (ly K) mg base "is_on_line" ["one", "other"] 2 2 f_is_on_line) (h_dot : HasFn P w K (ly K) mg base "dot" ["one", "other"] 1 2 f_dot) : HasFn P w K (ly K) mg base "is_seen" ["way", "sightings"] 6 2 f_is_seen := by
  refine fn_H A sc_is_seen rfl rfl (fun _ _ _ _ _ _ us hl => match us, hl with | [_, _], _ => rfl) (fun f cdv A outer s H E hr hx hp => ?_)
  exact ⟨_, (ss_cons (s1_expr (se_callH h_check_way (hr.mono (by decide)) hx (sa_cons (se_var 0) sa_nil) (cnt_cons cnt_nil))) (ss_cons (s1_expr (se_callH h_check_sightings (hr.mono (by decide)) hx (sa_cons (se_var 1) sa_nil) (cnt_cons cnt_nil))) (ss_cons (s1_for hp rfl (si_val (se_var 1)) (sg_tup rfl (sgs_cons (sg_name 2 sc_is_seen.nd) (sgs_cons (sg_name 3 sc_is_seen.nd) sgs_nil))) (ss_cons (s1_set 4 sc_is_seen.nd (se_callH h_at_night (hr.mono (by decide)) hx (sa_cons (se_var 0) (sa_cons (se_var 2) sa_nil)) (cnt_cons (cnt_cons cnt_nil)))) (ss_one (s1_if (st_w (sw_or (st_eq hr.units (se_sb (se_var 4)) (se_sb (se_tup (sa_cons se_int (sa_cons se_int (sa_cons se_int sa_nil)))))) (sw_or1 (st_ne hr.units (se_sb (se_callH h_least (hr.mono (by decide)) hx (sa_cons (se_var 4) sa_nil) (cnt_cons cnt_nil))) (se_sb (se_callH h_least (hr.mono (by decide)) hx (sa_cons (se_var 3) sa_nil) (cnt_cons cnt_nil))))))) (ss_one (s1_ret se_bl)) ss_nil)))) (ss_cons (s1_par2 5 6 rfl sc_is_seen.nd (se_callH h_at_night (hr.mono (by decide)) hx (sa_cons (se_var 0) (sa_cons (se_ix (se_sb (se_ix (se_sb (se_var 1)) se_int (fun _ _ => rfl))) se_int (fun _ _ => rfl)) sa_nil)) (cnt_cons (cnt_cons cnt_nil))) (se_callH h_at_night (hr.mono (by decide)) hx (sa_cons (se_var 0) (sa_cons (se_ix (se_sb (se_ix (se_sb (se_var 1)) (se_neg (se_sb se_int)) (fun _ _ => rfl))) se_int (fun _ _ => rfl)) sa_nil)) (cnt_cons (cnt_cons cnt_nil)))) (ss_one (s1_ret (se_or (se_not (se_callH h_is_on_line (hr.mono (by decide)) hx (sa_cons (se_var 5) (sa_cons (se_var 6) sa_nil)) (cnt_cons (cnt_cons cnt_nil)))) (se_one (se_gt (se_sb (se_callH h_dot (hr.mono (by decide)) hx (sa_cons (se_var 5) (sa_cons (se_var 6) sa_nil)) (cnt_cons (cnt_cons cnt_nil)))) (se_sb se_int))))))))))⟩
abbrev s_least_way : Stmt := top 29
abbrev N_least_way : List Str := ["way", "divisor", "triple", "number"]
theorem sc_least_way : FnScope N_least_way ["way"] (defScope s_least_way) := ⟨rfl, rfl, rfl, by decide +kernel, rfl, by decide +kernel, by decide +kernel⟩
theorem ok_least_way (A : AtD K mg "least_way" s_least_way) (h_common : HasFn P w K (ly K) mg base "common" ["one", "other"] 1 2 f_common) (m_tuple : mg "tuple" = none) (m_max : mg "max" = none) : HasFn P w K (ly K) mg base "least_way" ["way"] 2 1 f_least_way := by
  refine fn_H A sc_least_way rfl rfl (fun _ _ _ _ _ _ us hl => match us, hl with | [_], _ => rfl) (fun f cdv A outer s H E hr hx hp => ?_)
  exact ⟨_, (ss_cons (s1_set 1 sc_least_way.nd se_int) (ss_cons (s1_for hp rfl (si_val (se_var 0)) (sg_name 2 sc_least_way.nd) (ss_one (s1_for hp rfl (si_val (se_var 2)) (sg_name 3 sc_least_way.nd) (ss_one (s1_set 1 sc_least_way.nd (se_callH h_common (hr.mono (by decide)) hx (sa_cons (se_var 1) (sa_cons (se_var 3) sa_nil)) (cnt_cons (cnt_cons cnt_nil)))))))) (ss_one (s1_ret (se_tuple (se_sb (se_sf (sf_lc (own := [("triple", 2)]) rfl sc_least_way.nd (si_val (se_var 0)) (blkOk_by (N := N_least_way) (sc := defScope s_least_way) (by decide +kernel)) (fun _ _ _ _ _ => (sg_name 2 sc_least_way.nd)) (fun _ _ _ _ _ => sts_nil) (fun _ _ _ _ _ => (se_tuple (se_sb (se_sf (sf_lc (own := [("number", 3)]) rfl sc_least_way.nd (si_val (se_var 2)) (blkOk_by (by kernel_rfl)) (fun _ _ _ _ _ => (sg_name 3 sc_least_way.nd)) (fun _ _ _ _ _ => sts_nil) (fun _ _ _ _ _ => (se_div (se_sb (se_var 3)) (se_sb (se_max2 rfl (se_sb se_int) (se_sb (se_var 1)) rfl m_max))))) lsts_lc)) rfl m_tuple))) lsts_lc)) rfl m_tuple)))))⟩
abbrev s_way_of_two : Stmt := top 34
abbrev N_way_of_two : List Str := ["one", "other", "near", "far", "between", "step", "start"]
theorem sc_way_of_two : FnScope N_way_of_two ["one", "other", "near", "far"] (defScope s_way_of_two) := ⟨rfl, rfl, rfl, by decide +kernel, rfl, by decide +kernel, by decide +kernel⟩
theorem ok_way_of_two (A : AtD K mg "way_of_two" s_way_of_two) (h_plus : HasFn P w K (ly K) mg base "plus" ["one", "other"] 1 2 f_plus) (h_times : HasFn P w K (ly K) mg base "times" ["factor", "triple"] 1 2 f_times) (h_least_way : HasFn P w K (ly K) mg base "least_way" ["way"] 2 1 f_least_way) : HasFn P w K (ly K) mg base "way_of_two" ["one", "other", "near", "far"] 3 4 f_way_of_two := by
  refine fn_H A sc_way_of_two rfl rfl (fun _ _ _ _ _ _ us hl => match us, hl with | [_, _, _, _], _ => rfl) (fun f cdv A outer s H E hr hx hp => ?_)
  exact ⟨_, (ss_cons (s1_set 4 sc_way_of_two.nd (se_sub (se_sb (se_ix (se_sb (se_var 1)) se_int (fun _ _ => rfl))) (se_sb (se_ix (se_sb (se_var 0)) se_int (fun _ _ => rfl))))) (ss_cons (s1_set 5 sc_way_of_two.nd (se_callH h_plus (hr.mono (by decide)) hx (sa_cons (se_callH h_times (hr.mono (by decide)) hx (sa_cons (se_var 3) (sa_cons (se_ix (se_sb (se_var 1)) se_int (fun _ _ => rfl)) sa_nil)) (cnt_cons (cnt_cons cnt_nil))) (sa_cons (se_callH h_times (hr.mono (by decide)) hx (sa_cons (se_neg (se_sb (se_var 2))) (sa_cons (se_ix (se_sb (se_var 0)) se_int (fun _ _ => rfl)) sa_nil)) (cnt_cons (cnt_cons cnt_nil))) sa_nil)) (cnt_cons (cnt_cons cnt_nil)))) (ss_cons (s1_set 6 sc_way_of_two.nd (se_callH h_plus (hr.mono (by decide)) hx (sa_cons (se_callH h_times (hr.mono (by decide)) hx (sa_cons (se_mul (se_sb (se_var 4)) (se_sb (se_var 2))) (sa_cons (se_ix (se_sb (se_var 0)) se_int (fun _ _ => rfl)) sa_nil)) (cnt_cons (cnt_cons cnt_nil))) (sa_cons (se_callH h_times (hr.mono (by decide)) hx (sa_cons (se_neg (se_sb (se_ix (se_sb (se_var 0)) se_int (fun _ _ => rfl)))) (sa_cons (se_var 5) sa_nil)) (cnt_cons (cnt_cons cnt_nil))) sa_nil)) (cnt_cons (cnt_cons cnt_nil)))) (ss_one (s1_ret (se_callH h_least_way (hr.mono (by decide)) hx (sa_cons (se_tup (sa_cons (se_var 6) (sa_cons (se_var 5) sa_nil))) sa_nil) (cnt_cons cnt_nil)))))))⟩
abbrev s_is_between : Stmt := top 21
abbrev N_is_between : List Str := ["one", "middle", "other", "normal"]
theorem sc_is_between : FnScope N_is_between ["one", "middle", "other"] (defScope s_is_between) := ⟨rfl, rfl, rfl, by decide +kernel, rfl, by decide +kernel, by decide +kernel⟩
theorem ok_is_between (A : AtD K mg "is_between" s_is_between) (h_cross : HasFn P w K (ly K) mg base "cross" ["one", "other"] 1 2 f_cross) (h_dot : HasFn P w K (ly K) mg base "dot" ["one", "other"] 1 2 f_dot) : HasFn P w K (ly K) mg base "is_between" ["one", "middle", "other"] 2 3 f_is_between := by
  refine fn_H A sc_is_between rfl rfl (fun _ _ _ _ _ _ us hl => match us, hl with | [_, _, _], _ => rfl) (fun f cdv A outer s H E hr hx hp => ?_)
  exact ⟨_, (ss_cons (s1_set 3 sc_is_between.nd (se_callH h_cross (hr.mono (by decide)) hx (sa_cons (se_var 0) (sa_cons (se_var 2) sa_nil)) (cnt_cons (cnt_cons cnt_nil)))) (ss_cons (s1_if (st_w (sw_or (st_eq hr.units (se_sb (se_var 3)) (se_sb (se_tup (sa_cons se_int (sa_cons se_int (sa_cons se_int sa_nil)))))) (sw_or1 (st_ne hr.units (se_sb (se_callH h_dot (hr.mono (by decide)) hx (sa_cons (se_var 3) (sa_cons (se_var 1) sa_nil)) (cnt_cons (cnt_cons cnt_nil)))) (se_sb se_int))))) (ss_one (s1_ret se_bl)) ss_nil) (ss_one (s1_ret (se_and (se_gt (se_sb (se_callH h_dot (hr.mono (by decide)) hx (sa_cons (se_callH h_cross (hr.mono (by decide)) hx (sa_cons (se_var 0) (sa_cons (se_var 1) sa_nil)) (cnt_cons (cnt_cons cnt_nil))) (sa_cons (se_var 3) sa_nil)) (cnt_cons (cnt_cons cnt_nil)))) (se_sb se_int)) (se_one (se_gt (se_sb (se_callH h_dot (hr.mono (by decide)) hx (sa_cons (se_callH h_cross (hr.mono (by decide)) hx (sa_cons (se_var 1) (sa_cons (se_var 2) sa_nil)) (cnt_cons (cnt_cons cnt_nil))) (sa_cons (se_var 3) sa_nil)) (cnt_cons (cnt_cons cnt_nil)))) (se_sb se_int))))))))⟩
abbrev s_ways_by : Stmt := top 35
abbrev N_ways_by : List Str := ["sightings", "middle", "normal", "near", "far", "found", "one", "other"]
theorem sc_ways_by : FnScope N_ways_by ["sightings"] (defScope s_ways_by) := ⟨rfl, rfl, rfl, by decide +kernel, rfl, by decide +kernel, by decide +kernel⟩
theorem ok_ways_by (A : AtD K mg "ways_by" s_ways_by) (h_least : HasFn P w K (ly K) mg base "least" ["direction"] 4 1 f_least) (h_is_seen : HasFn P w K (ly K) mg base "is_seen" ["way", "sightings"] 6 2 f_is_seen) (h_is_on_line : HasFn P w K (ly K) mg base "is_on_line" ["one", "other"] 2 2 f_is_on_line) (h_way_of_two : HasFn P w K (ly K) mg base "way_of_two" ["one", "other", "near", "far"] 3 4 f_way_of_two) (h_is_between : HasFn P w K (ly K) mg base "is_between" ["one", "middle", "other"] 2 3 f_is_between) (h_cross : HasFn P w K (ly K) mg base "cross" ["one", "other"] 1 2 f_cross) (h_dot : HasFn P w K (ly K) mg base "dot" ["one", "other"] 1 2 f_dot) (m_len : mg "len" = none) : HasFn P w K (ly K) mg base "ways_by" ["sightings"] 7 1 f_ways_by := by
  refine fn_H A sc_ways_by rfl rfl (fun _ _ _ _ _ _ us hl => match us, hl with | [_], _ => rfl) (fun f cdv A outer s H E hr hx hp => ?_)
  exact ⟨_, (ss_cons (s1_par2 6 7 rfl sc_ways_by.nd (se_ix (se_sb (se_var 0)) se_int (fun _ _ => rfl)) (se_ix (se_sb (se_var 0)) (se_neg (se_sb se_int)) (fun _ _ => rfl))) (ss_cons (s1_if (st_eq hr.units (se_sb (se_callH h_least (hr.mono (by decide)) hx (sa_cons (se_ix (se_sb (se_var 6)) se_int (fun _ _ => rfl)) sa_nil) (cnt_cons cnt_nil))) (se_sb (se_callH h_least (hr.mono (by decide)) hx (sa_cons (se_ix (se_sb (se_var 7)) se_int (fun _ _ => rfl)) sa_nil) (cnt_cons cnt_nil)))) (ss_cons (s1_set 5 sc_ways_by.nd (se_tup (sa_cons (se_tup (sa_cons (se_callH h_least (hr.mono (by decide)) hx (sa_cons (se_ix (se_sb (se_var 6)) se_int (fun _ _ => rfl)) sa_nil) (cnt_cons cnt_nil)) (sa_cons (se_tup (sa_cons se_int (sa_cons se_int (sa_cons se_int sa_nil)))) sa_nil))) (sa_cons (se_tup (sa_cons (se_callH h_least (hr.mono (by decide)) hx (sa_cons (se_ix (se_sb (se_var 6)) se_int (fun _ _ => rfl)) sa_nil) (cnt_cons cnt_nil)) (sa_cons (se_callH h_least (hr.mono (by decide)) hx (sa_cons (se_ix (se_sb (se_var 6)) se_int (fun _ _ => rfl)) sa_nil) (cnt_cons cnt_nil)) sa_nil))) sa_nil)))) (ss_one (s1_ret (se_if (st_val (se_callH h_is_seen (hr.mono (by decide)) hx (sa_cons (se_ix (se_sb (se_var 5)) se_int (fun _ _ => rfl)) (sa_cons (se_var 0) sa_nil)) (cnt_cons (cnt_cons cnt_nil)))) (se_var 5) (se_tup sa_nil))))) ss_nil) (ss_cons (s1_if (st_val (se_callH h_is_on_line (hr.mono (by decide)) hx (sa_cons (se_ix (se_sb (se_var 6)) se_int (fun _ _ => rfl)) (sa_cons (se_ix (se_sb (se_var 7)) se_int (fun _ _ => rfl)) sa_nil)) (cnt_cons (cnt_cons cnt_nil)))) (ss_one (s1_ret (se_tup sa_nil))) ss_nil) (ss_cons (s1_if (st_eq hr.units (se_sb (se_len (se_sb (se_var 0)) rfl m_len)) (se_sb se_int)) (ss_one (s1_ret (se_tup (sa_cons (se_callH h_way_of_two (hr.mono (by decide)) hx (sa_cons (se_var 6) (sa_cons (se_var 7) (sa_cons se_int (sa_cons se_int sa_nil)))) (cnt_cons (cnt_cons (cnt_cons (cnt_cons cnt_nil))))) (sa_cons (se_callH h_way_of_two (hr.mono (by decide)) hx (sa_cons (se_var 6) (sa_cons (se_var 7) (sa_cons se_int (sa_cons se_int sa_nil)))) (cnt_cons (cnt_cons (cnt_cons (cnt_cons cnt_nil))))) sa_nil))))) ss_nil) (ss_cons (s1_set 1 sc_ways_by.nd (se_ix (se_sb (se_var 0)) se_int (fun _ _ => rfl))) (ss_cons (s1_if (st_not (st_val (se_callH h_is_between (hr.mono (by decide)) hx (sa_cons (se_ix (se_sb (se_var 6)) se_int (fun _ _ => rfl)) (sa_cons (se_ix (se_sb (se_var 1)) se_int (fun _ _ => rfl)) (sa_cons (se_ix (se_sb (se_var 7)) se_int (fun _ _ => rfl)) sa_nil))) (cnt_cons (cnt_cons (cnt_cons cnt_nil)))))) (ss_one (s1_ret (se_tup sa_nil))) ss_nil) (ss_cons (s1_set 2 sc_ways_by.nd (se_callH h_cross (hr.mono (by decide)) hx (sa_cons (se_ix (se_sb (se_var 6)) se_int (fun _ _ => rfl)) (sa_cons (se_ix (se_sb (se_var 7)) se_int (fun _ _ => rfl)) sa_nil)) (cnt_cons (cnt_cons cnt_nil)))) (ss_cons (s1_set 3 sc_ways_by.nd (se_mul (se_sb (se_callH h_dot (hr.mono (by decide)) hx (sa_cons (se_callH h_cross (hr.mono (by decide)) hx (sa_cons (se_ix (se_sb (se_var 1)) se_int (fun _ _ => rfl)) (sa_cons (se_ix (se_sb (se_var 7)) se_int (fun _ _ => rfl)) sa_nil)) (cnt_cons (cnt_cons cnt_nil))) (sa_cons (se_var 2) sa_nil)) (cnt_cons (cnt_cons cnt_nil)))) (se_sb (se_sub (se_sb (se_ix (se_sb (se_var 1)) se_int (fun _ _ => rfl))) (se_sb (se_ix (se_sb (se_var 6)) se_int (fun _ _ => rfl))))))) (ss_cons (s1_set 4 sc_ways_by.nd (se_mul (se_sb (se_callH h_dot (hr.mono (by decide)) hx (sa_cons (se_callH h_cross (hr.mono (by decide)) hx (sa_cons (se_ix (se_sb (se_var 6)) se_int (fun _ _ => rfl)) (sa_cons (se_ix (se_sb (se_var 1)) se_int (fun _ _ => rfl)) sa_nil)) (cnt_cons (cnt_cons cnt_nil))) (sa_cons (se_var 2) sa_nil)) (cnt_cons (cnt_cons cnt_nil)))) (se_sb (se_sub (se_sb (se_ix (se_sb (se_var 7)) se_int (fun _ _ => rfl))) (se_sb (se_ix (se_sb (se_var 1)) se_int (fun _ _ => rfl))))))) (ss_cons (s1_set 5 sc_ways_by.nd (se_callH h_way_of_two (hr.mono (by decide)) hx (sa_cons (se_var 6) (sa_cons (se_var 7) (sa_cons (se_var 3) (sa_cons (se_var 4) sa_nil)))) (cnt_cons (cnt_cons (cnt_cons (cnt_cons cnt_nil)))))) (ss_one (s1_ret (se_if (st_val (se_callH h_is_seen (hr.mono (by decide)) hx (sa_cons (se_var 5) (sa_cons (se_var 0) sa_nil)) (cnt_cons (cnt_cons cnt_nil)))) (se_tup (sa_cons (se_var 5) sa_nil)) (se_tup sa_nil))))))))))))))⟩
abbrev s_Way___init__ : Stmt := mth 24 0
abbrev N_Way___init__ : List Str := ["self", "start", "step"]
theorem sc_Way___init__ : FnScope N_Way___init__ ["self", "start", "step"] (defScope s_Way___init__) := ⟨rfl, rfl, rfl, by decide +kernel, rfl, by decide +kernel, by decide +kernel⟩
theorem ok_Way___init__ {f : Addr} {fd : FuncData} (F : FunD K "__init__" "Way.__init__" (defArgs s_Way___init__) (defBody s_Way___init__) (defScope s_Way___init__) [] [] f fd) (M : Mk K ((ly K).cls 0) f) (g : mg "Way" = some (.ref ((ly K).cls 0))) (kt : Kits K (ly K) 3) : HasMk P w K (ly K) mg base 0 "Way" ["self", "start", "step"] 1 2 f_Way___init__ := by
  refine mk_H F M g sc_Way___init__ rfl rfl (fun _ _ _ _ _ _ us hl => match us, hl with | [_, _, _], _ => rfl) (fun cdv A outer s H E hr hx hp => ?_)
  exact ⟨_, (ss_cons (s1_self kt.cc rfl (se_var 1)) (ss_one (s1_self kt.cc rfl (se_var 2))))⟩
abbrev s_Ways___init__ : Stmt := mth 25 0
abbrev N_Ways___init__ : List Str := ["self", "one", "other"]
theorem sc_Ways___init__ : FnScope N_Ways___init__ ["self", "one", "other"] (defScope s_Ways___init__) := ⟨rfl, rfl, rfl, by decide +kernel, rfl, by decide +kernel, by decide +kernel⟩
theorem ok_Ways___init__ {f : Addr} {fd : FuncData} (F : FunD K "__init__" "Ways.__init__" (defArgs s_Ways___init__) (defBody s_Ways___init__) (defScope s_Ways___init__) [] [] f fd) (M : Mk K ((ly K).cls 1) f) (g : mg "Ways" = some (.ref ((ly K).cls 1))) (h_is_row : HasFn P w K (ly K) mg base "is_row" ["thing"] 1 1 f_is_row) (m_tuple : mg "tuple" = none) (kt : Kits K (ly K) 3) : HasMk P w K (ly K) mg base 1 "Ways" ["self", "one", "other"] 2 2 f_Ways___init__ := by
  refine mk_H F M g sc_Ways___init__ rfl rfl (fun _ _ _ _ _ _ us hl => match us, hl with | [_, _, _], _ => rfl) (fun cdv A outer s H E hr hx hp => ?_)
  exact ⟨_, (ss_cons (s1_self kt.cc rfl (se_if (st_val (se_callH h_is_row (hr.mono (by decide)) hx (sa_cons (se_var 1) sa_nil) (cnt_cons cnt_nil))) (se_tuple (se_sb (se_var 1)) rfl m_tuple) (se_var 1))) (ss_one (s1_self kt.cc rfl (se_if (st_val (se_callH h_is_row (hr.mono (by decide)) hx (sa_cons (se_var 2) sa_nil) (cnt_cons cnt_nil))) (se_tuple (se_sb (se_var 2)) rfl m_tuple) (se_var 2)))))⟩
abbrev s_judge_way : Stmt := top 36
abbrev N_judge_way : List Str := ["sightings", "many", "found"]
theorem sc_judge_way : FnScope N_judge_way ["sightings"] (defScope s_judge_way) := ⟨rfl, rfl, rfl, by decide +kernel, rfl, by decide +kernel, by decide +kernel⟩
theorem ok_judge_way (A : AtD K mg "judge_way" s_judge_way) (h_check_sightings : HasFn P w K (ly K) mg base "check_sightings" ["sightings"] 4 1 f_check_sightings) (h_ways_by : HasFn P w K (ly K) mg base "ways_by" ["sightings"] 7 1 f_ways_by) (h_Way___init__ : HasMk P w K (ly K) mg base 0 "Way" ["self", "start", "step"] 1 2 f_Way___init__) (h_Ways___init__ : HasMk P w K (ly K) mg base 1 "Ways" ["self", "one", "other"] 2 2 f_Ways___init__) (m_range : mg "range" = none) (m_len : mg "len" = none) : HasFn P w K (ly K) mg base "judge_way" ["sightings"] 8 1 f_judge_way := by
  refine fn_H A sc_judge_way rfl rfl (fun _ _ _ _ _ _ us hl => match us, hl with | [_], _ => rfl) (fun f cdv A outer s H E hr hx hp => ?_)
  exact ⟨_, (ss_cons (s1_expr (se_callH h_check_sightings (hr.mono (by decide)) hx (sa_cons (se_var 0) sa_nil) (cnt_cons cnt_nil))) (ss_cons (s1_for hp rfl (si_range2 se_int (se_add (se_sb (se_len (se_sb (se_var 0)) rfl m_len)) (se_sb se_int)) rfl m_range) (sg_name 1 sc_judge_way.nd) (ss_one (s1_if (st_eq hr.units (se_sb (se_callH h_ways_by (hr.mono (by decide)) hx (sa_cons (se_slice (se_sb (se_var 0)) sp_none (sp_some (se_var 1))) sa_nil) (cnt_cons cnt_nil))) (se_sb (se_tup sa_nil))) (ss_one s1_never) ss_nil))) (ss_cons (s1_set 2 sc_judge_way.nd (se_callH h_ways_by (hr.mono (by decide)) hx (sa_cons (se_var 0) sa_nil) (cnt_cons cnt_nil))) (ss_one (s1_ret (se_if (st_eq hr.units (se_sb (se_len (se_sb (se_var 2)) rfl m_len)) (se_sb se_int)) (se_make h_Way___init__ (hr.mono (by decide)) hx (sa_cons (se_ix (se_sb (se_ix (se_sb (se_var 2)) se_int (fun _ _ => rfl))) se_int (fun _ _ => rfl)) (sa_cons (se_ix (se_sb (se_ix (se_sb (se_var 2)) se_int (fun _ _ => rfl))) se_int (fun _ _ => rfl)) sa_nil)) (cnt_cons (cnt_cons cnt_nil))) (se_make h_Ways___init__ (hr.mono (by decide)) hx (sa_cons (se_ix (se_sb (se_var 2)) se_int (fun _ _ => rfl)) (sa_cons (se_ix (se_sb (se_var 2)) se_int (fun _ _ => rfl)) sa_nil)) (cnt_cons (cnt_cons cnt_nil)))))))))⟩
abbrev s_Way___eq__ : Stmt := mth 24 2
abbrev N_Way___eq__ : List Str := ["self", "other"]
theorem sc_Way___eq__ : FnScope N_Way___eq__ ["self", "other"] (defScope s_Way___eq__) := ⟨rfl, rfl, rfl, by decide +kernel, rfl, by decide +kernel, by decide +kernel⟩
theorem ok_Way___eq__ {f : Addr} {fd : FuncData} (F : FunD K "__eq__" "Way.__eq__" (defArgs s_Way___eq__) (defBody s_Way___eq__) (defScope s_Way___eq__) [] [] f fd) (cl : Cls K ((ly K).cls 0)) (me : Meth K ((ly K).cls 0) "__eq__" f) (m_isinstance : mg "isinstance" = none) (g_Way : mg "Way" = some (.ref ((ly K).cls 0))) (kt : Kits K (ly K) 3) : HasMt P w K (ly K) mg base 0 "__eq__" ["self", "other"] 1 2 f_Way___eq__ := by
  refine mt_H F cl me (show ("__eq__" : Str) ∉ flds 0 by decide) sc_Way___eq__ rfl rfl (fun _ _ _ _ _ _ us hl => match us, hl with | [_, _], _ => rfl) (fun cdv A outer s H E hr hx hp => ?_)
  exact ⟨_, (ss_one (s1_ret (se_and (se_isO kt (by decide) (se_sb (se_var 1)) rfl g_Way rfl m_isinstance) (se_one (se_eq hr.units (se_sb (se_tup (sa_cons (se_fld kt.cc rfl (se_sb (se_var 0))) (sa_cons (se_fld kt.cc rfl (se_sb (se_var 0))) sa_nil)))) (se_sb (se_tup (sa_cons (se_fld kt.cc rfl (se_sb (se_var 1))) (sa_cons (se_fld kt.cc rfl (se_sb (se_var 1))) sa_nil)))))))))⟩
abbrev s_Ways___eq__ : Stmt := mth 25 2
abbrev N_Ways___eq__ : List Str := ["self", "other"]
theorem sc_Ways___eq__ : FnScope N_Ways___eq__ ["self", "other"] (defScope s_Ways___eq__) := ⟨rfl, rfl, rfl, by decide +kernel, rfl, by decide +kernel, by decide +kernel⟩
theorem ok_Ways___eq__ {f : Addr} {fd : FuncData} (F : FunD K "__eq__" "Ways.__eq__" (defArgs s_Ways___eq__) (defBody s_Ways___eq__) (defScope s_Ways___eq__) [] [] f fd) (cl : Cls K ((ly K).cls 1)) (me : Meth K ((ly K).cls 1) "__eq__" f) (m_isinstance : mg "isinstance" = none) (g_Ways : mg "Ways" = some (.ref ((ly K).cls 1))) (kt : Kits K (ly K) 3) : HasMt P w K (ly K) mg base 1 "__eq__" ["self", "other"] 1 2 f_Ways___eq__ := by
  refine mt_H F cl me (show ("__eq__" : Str) ∉ flds 1 by decide) sc_Ways___eq__ rfl rfl (fun _ _ _ _ _ _ us hl => match us, hl with | [_, _], _ => rfl) (fun cdv A outer s H E hr hx hp => ?_)
  exact ⟨_, (ss_one (s1_ret (se_and (se_isO kt (by decide) (se_sb (se_var 1)) rfl g_Ways rfl m_isinstance) (se_one (se_eq hr.units (se_sb (se_tup (sa_cons (se_fld kt.cc rfl (se_sb (se_var 0))) (sa_cons (se_fld kt.cc rfl (se_sb (se_var 0))) sa_nil)))) (se_sb (se_tup (sa_cons (se_fld kt.cc rfl (se_sb (se_var 1))) (sa_cons (se_fld kt.cc rfl (se_sb (se_var 1))) sa_nil)))))))))⟩
abbrev s_NoWay___eq__ : Stmt := mth 26 2
abbrev N_NoWay___eq__ : List Str := ["self", "other"]
theorem sc_NoWay___eq__ : FnScope N_NoWay___eq__ ["self", "other"] (defScope s_NoWay___eq__) := ⟨rfl, rfl, rfl, by decide +kernel, rfl, by decide +kernel, by decide +kernel⟩
theorem ok_NoWay___eq__ {f : Addr} {fd : FuncData} (F : FunD K "__eq__" "NoWay.__eq__" (defArgs s_NoWay___eq__) (defBody s_NoWay___eq__) (defScope s_NoWay___eq__) [] [] f fd) (cl : Cls K ((ly K).cls 2)) (me : Meth K ((ly K).cls 2) "__eq__" f) (m_isinstance : mg "isinstance" = none) (g_NoWay : mg "NoWay" = some (.ref ((ly K).cls 2))) (kt : Kits K (ly K) 3) : HasMt P w K (ly K) mg base 2 "__eq__" ["self", "other"] 1 2 f_NoWay___eq__ := by
  refine mt_H F cl me (show ("__eq__" : Str) ∉ flds 2 by decide) sc_NoWay___eq__ rfl rfl (fun _ _ _ _ _ _ us hl => match us, hl with | [_, _], _ => rfl) (fun cdv A outer s H E hr hx hp => ?_)
  exact ⟨_, (ss_one (s1_ret (se_and (se_isO kt (by decide) (se_sb (se_var 1)) rfl g_NoWay rfl m_isinstance) (se_one (se_eq hr.units (se_sb (se_fld kt.cc rfl (se_sb (se_var 0)))) (se_sb (se_fld kt.cc rfl (se_sb (se_var 1)))))))))⟩
abbrev s_Way_shows : Stmt := mth 24 3
abbrev N_Way_shows : List Str := ["self", "sightings"]
theorem sc_Way_shows : FnScope N_Way_shows ["self", "sightings"] (defScope s_Way_shows) := ⟨rfl, rfl, rfl, by decide +kernel, rfl, by decide +kernel, by decide +kernel⟩
theorem ok_Way_shows {f : Addr} {fd : FuncData} (F : FunD K "shows" "Way.shows" (defArgs s_Way_shows) (defBody s_Way_shows) (defScope s_Way_shows) [] [] f fd) (cl : Cls K ((ly K).cls 0)) (me : Meth K ((ly K).cls 0) "shows" f) (h_judge_way : HasFn P w K (ly K) mg base "judge_way" ["sightings"] 8 1 f_judge_way) (h_Way___eq__ : HasMt P w K (ly K) mg base 0 "__eq__" ["self", "other"] 1 2 f_Way___eq__) (h_Ways___eq__ : HasMt P w K (ly K) mg base 1 "__eq__" ["self", "other"] 1 2 f_Ways___eq__) (h_NoWay___eq__ : HasMt P w K (ly K) mg base 2 "__eq__" ["self", "other"] 1 2 f_NoWay___eq__) (kt : Kits K (ly K) 3) : HasMt P w K (ly K) mg base 0 "shows" ["self", "sightings"] 9 2 f_Way_shows := by
  refine mt_H F cl me (show ("shows" : Str) ∉ flds 0 by decide) sc_Way_shows rfl rfl (fun _ _ _ _ _ _ us hl => match us, hl with | [_, _], _ => rfl) (fun cdv A outer s H E hr hx hp => ?_)
  exact ⟨_, (ss_one (s1_ret (se_eqO hr.units kt hx (fun c f h => match c, h with | 0, rfl => ⟨_, _, h_Way___eq__, hr.mono (by decide)⟩ | 1, rfl => ⟨_, _, h_Ways___eq__, hr.mono (by decide)⟩ | 2, rfl => ⟨_, _, h_NoWay___eq__, hr.mono (by decide)⟩ | _ + 3, h => nomatch h) (se_callH h_judge_way (hr.mono (by decide)) hx (sa_cons (se_var 1) sa_nil) (cnt_cons cnt_nil)) (se_var 0))))⟩
abbrev s_nights_alike : Stmt := top 37
abbrev N_nights_alike : List Str := ["one", "other", "most", "rows", "night", "left", "right"]
theorem sc_nights_alike : FnScope N_nights_alike ["one", "other", "most"] (defScope s_nights_alike) := ⟨rfl, rfl, rfl, by decide +kernel, rfl, by decide +kernel, by decide +kernel⟩
theorem ok_nights_alike (A : AtD K mg "nights_alike" s_nights_alike) (h_check_way : HasFn P w K (ly K) mg base "check_way" ["way"] 4 1 f_check_way) (h_check_number : HasFn P w K (ly K) mg base "check_number" ["part", "thing", "low", "high"] 3 4 f_check_number) (h_seen : HasFn P w K (ly K) mg base "seen" ["way", "night"] 6 2 f_seen) (m_range : mg "range" = none) (m_tuple : mg "tuple" = none) (c0_MOST_NIGHT : ∃ t, mg "MOST_NIGHT" = some (.int 99 t)) : HasFn P w K (ly K) mg base "nights_alike" ["one", "other", "most"] 7 3 f_nights_alike := by
  obtain ⟨t_MOST_NIGHT, c_MOST_NIGHT⟩ := c0_MOST_NIGHT
  refine fn_H A sc_nights_alike rfl rfl (fun _ _ _ _ _ _ us hl => match us, hl with | [_, _, _], _ => rfl) (fun f cdv A outer s H E hr hx hp => ?_)
  exact ⟨_, (ss_cons (s1_expr (se_callH h_check_way (hr.mono (by decide)) hx (sa_cons (se_var 0) sa_nil) (cnt_cons cnt_nil))) (ss_cons (s1_expr (se_callH h_check_way (hr.mono (by decide)) hx (sa_cons (se_var 1) sa_nil) (cnt_cons cnt_nil))) (ss_cons (s1_expr (se_callH h_check_number (hr.mono (by decide)) hx (sa_cons se_str (sa_cons (se_var 2) (sa_cons se_int (sa_cons (se_globI rfl c_MOST_NIGHT) sa_nil)))) (cnt_cons (cnt_cons (cnt_cons (cnt_cons cnt_nil)))))) (ss_cons (s1_setLc 3 (own := [("night", 4)]) rfl sc_nights_alike.nd (si_range1 (se_add (se_sb (se_var 2)) (se_sb se_int)) rfl m_range) (blkOk_by (N := N_nights_alike) (sc := defScope s_nights_alike) (by decide +kernel)) (fun _ _ _ _ _ => (sg_name 4 sc_nights_alike.nd)) (fun _ _ _ _ _ => sts_nil) (fun _ _ _ _ _ => (se_tup (sa_cons (se_var 4) (sa_cons (se_callH h_seen (hr.mono (by decide)) passL (sa_cons (se_var 0) (sa_cons (se_var 4) sa_nil)) (cnt_cons (cnt_cons cnt_nil))) (sa_cons (se_callH h_seen (hr.mono (by decide)) passL (sa_cons (se_var 1) (sa_cons (se_var 4) sa_nil)) (cnt_cons (cnt_cons cnt_nil))) sa_nil)))))) (ss_one (s1_ret (se_tuple (se_sb (se_sf (sf_lc (own := [("night", 4), ("left", 5), ("right", 6)]) rfl sc_nights_alike.nd (si_val (se_var 3)) (blkOk_by (N := N_nights_alike) (sc := defScope s_nights_alike) (by decide +kernel)) (fun _ _ _ _ _ => (sg_tup rfl (sgs_cons (sg_name 4 sc_nights_alike.nd) (sgs_cons (sg_name 5 sc_nights_alike.nd) (sgs_cons (sg_name 6 sc_nights_alike.nd) sgs_nil))))) (fun _ _ _ _ _ => (sts_one (st_w (sw_and (st_notN (se_sb (se_var 5)) (se_sb se_non)) (sw_and1 (st_eq hr.units (se_sb (se_var 5)) (se_sb (se_var 6)))))))) (fun _ _ _ _ _ => (se_var 4))) lsts_lc)) rfl m_tuple)))))))⟩
abbrev s__law_at : Stmt := top 46
abbrev N__law_at : List Str := ["way", "night", "left", "right"]
theorem sc__law_at : FnScope N__law_at ["way", "night"] (defScope s__law_at) := ⟨rfl, rfl, rfl, by decide +kernel, rfl, by decide +kernel, by decide +kernel⟩
theorem ok__law_at (A : AtD K mg "_law_at" s__law_at) (m_tuple : mg "tuple" = none) (m_zip : mg "zip" = none) : HasFn P w K (ly K) mg base "_law_at" ["way", "night"] 1 2 f__law_at := by
  refine fn_H A sc__law_at rfl rfl (fun _ _ _ _ _ _ us hl => match us, hl with | [_, _], _ => rfl) (fun f cdv A outer s H E hr hx hp => ?_)
  exact ⟨_, (ss_one (s1_ret (se_tuple (se_sb (se_sf (sf_lc (own := [("left", 2), ("right", 3)]) rfl sc__law_at.nd (si_zip (se_ix (se_sb (se_var 0)) se_int (fun _ _ => rfl)) (se_ix (se_sb (se_var 0)) se_int (fun _ _ => rfl)) rfl m_zip) (blkOk_by (N := N__law_at) (sc := defScope s__law_at) (by decide +kernel)) (fun _ _ _ _ _ => (sg_tup rfl (sgs_cons (sg_name 2 sc__law_at.nd) (sgs_cons (sg_name 3 sc__law_at.nd) sgs_nil)))) (fun _ _ _ _ _ => sts_nil) (fun _ _ _ _ _ => (se_add (se_sb (se_var 2)) (se_sb (se_mul (se_sb (se_var 1)) (se_sb (se_var 3))))))) lsts_lc)) rfl m_tuple)))⟩
abbrev s__law_dot : Stmt := top 43
abbrev N__law_dot : List Str := ["one", "other"]
theorem sc__law_dot : FnScope N__law_dot ["one", "other"] (defScope s__law_dot) := ⟨rfl, rfl, rfl, by decide +kernel, rfl, by decide +kernel, by decide +kernel⟩
theorem ok__law_dot (A : AtD K mg "_law_dot" s__law_dot) : HasFn P w K (ly K) mg base "_law_dot" ["one", "other"] 1 2 f__law_dot := by
  refine fn_H A sc__law_dot rfl rfl (fun _ _ _ _ _ _ us hl => match us, hl with | [_, _], _ => rfl) (fun f cdv A outer s H E hr hx hp => ?_)
  exact ⟨_, (ss_one (s1_ret (se_add (se_sb (se_add (se_sb (se_mul (se_sb (se_ix (se_sb (se_var 0)) se_int (fun _ _ => rfl))) (se_sb (se_ix (se_sb (se_var 1)) se_int (fun _ _ => rfl))))) (se_sb (se_mul (se_sb (se_ix (se_sb (se_var 0)) se_int (fun _ _ => rfl))) (se_sb (se_ix (se_sb (se_var 1)) se_int (fun _ _ => rfl))))))) (se_sb (se_mul (se_sb (se_ix (se_sb (se_var 0)) se_int (fun _ _ => rfl))) (se_sb (se_ix (se_sb (se_var 1)) se_int (fun _ _ => rfl))))))))⟩
abbrev s_Way___bool__ : Stmt := mth 24 1
abbrev N_Way___bool__ : List Str := ["self"]
theorem sc_Way___bool__ : FnScope N_Way___bool__ ["self"] (defScope s_Way___bool__) := ⟨rfl, rfl, rfl, by decide +kernel, rfl, by decide +kernel, by decide +kernel⟩
theorem ok_Way___bool__ {f : Addr} {fd : FuncData} (F : FunD K "__bool__" "Way.__bool__" (defArgs s_Way___bool__) (defBody s_Way___bool__) (defScope s_Way___bool__) [] [] f fd) (cl : Cls K ((ly K).cls 0)) (me : Meth K ((ly K).cls 0) "__bool__" f) : HasMt P w K (ly K) mg base 0 "__bool__" ["self"] 1 1 f_Way___bool__ := by
  refine mt_H F cl me (show ("__bool__" : Str) ∉ flds 0 by decide) sc_Way___bool__ rfl rfl (fun _ _ _ _ _ _ us hl => match us, hl with | [_], _ => rfl) (fun cdv A outer s H E hr hx hp => ?_)
  exact ⟨_, (ss_one (s1_ret se_bl))⟩
abbrev s_Ways___bool__ : Stmt := mth 25 1
abbrev N_Ways___bool__ : List Str := ["self"]
theorem sc_Ways___bool__ : FnScope N_Ways___bool__ ["self"] (defScope s_Ways___bool__) := ⟨rfl, rfl, rfl, by decide +kernel, rfl, by decide +kernel, by decide +kernel⟩
theorem ok_Ways___bool__ {f : Addr} {fd : FuncData} (F : FunD K "__bool__" "Ways.__bool__" (defArgs s_Ways___bool__) (defBody s_Ways___bool__) (defScope s_Ways___bool__) [] [] f fd) (cl : Cls K ((ly K).cls 1)) (me : Meth K ((ly K).cls 1) "__bool__" f) : HasMt P w K (ly K) mg base 1 "__bool__" ["self"] 1 1 f_Ways___bool__ := by
  refine mt_H F cl me (show ("__bool__" : Str) ∉ flds 1 by decide) sc_Ways___bool__ rfl rfl (fun _ _ _ _ _ _ us hl => match us, hl with | [_], _ => rfl) (fun cdv A outer s H E hr hx hp => ?_)
  exact ⟨_, (ss_one (s1_ret se_bl))⟩
abbrev s_NoWay___bool__ : Stmt := mth 26 1
abbrev N_NoWay___bool__ : List Str := ["self"]
theorem sc_NoWay___bool__ : FnScope N_NoWay___bool__ ["self"] (defScope s_NoWay___bool__) := ⟨rfl, rfl, rfl, by decide +kernel, rfl, by decide +kernel, by decide +kernel⟩
theorem ok_NoWay___bool__ {f : Addr} {fd : FuncData} (F : FunD K "__bool__" "NoWay.__bool__" (defArgs s_NoWay___bool__) (defBody s_NoWay___bool__) (defScope s_NoWay___bool__) [] [] f fd) (cl : Cls K ((ly K).cls 2)) (me : Meth K ((ly K).cls 2) "__bool__" f) : HasMt P w K (ly K) mg base 2 "__bool__" ["self"] 1 1 f_NoWay___bool__ := by
  refine mt_H F cl me (show ("__bool__" : Str) ∉ flds 2 by decide) sc_NoWay___bool__ rfl rfl (fun _ _ _ _ _ _ us hl => match us, hl with | [_], _ => rfl) (fun cdv A outer s H E hr hx hp => ?_)
  exact ⟨_, (ss_one (s1_ret se_bl))⟩
abbrev s_law : Stmt := top 47
abbrev N_law : List Str := ["script", "draw", "turn", "wide", "normal", "same", "night", "way", "other", "many", "rows", "late", "alike", "first", "second", "one", "two", "number", "left", "right"]
theorem sc_law : FnScope N_law ["script"] (defScope s_law) := ⟨rfl, rfl, rfl, by decide +kernel, rfl, by decide +kernel, by decide +kernel⟩
theorem okf_law {f : Addr} {fd : FuncData} (F : FunD K "law" "law" (defArgs s_law) (defBody s_law) (defScope s_law) [] [] f fd) (h__law_take : HasFn P w K (ly K) mg base "_law_take" ["draw", "many"] 2 2 f__law_take) (h__law_way : HasFn P w K (ly K) mg base "_law_way" ["draw"] 3 1 f__law_way) (h_seen : HasFn P w K (ly K) mg base "seen" ["way", "night"] 6 2 f_seen) (h_at_night : HasFn P w K (ly K) mg base "at_night" ["way", "night"] 5 2 f_at_night) (h_circle_of : HasFn P w K (ly K) mg base "circle_of" ["way"] 5 1 f_circle_of) (h__law_cross : HasFn P w K (ly K) mg base "_law_cross" ["one", "other"] 1 2 f__law_cross) (h_side_of : HasFn P w K (ly K) mg base "side_of" ["way", "direction"] 5 2 f_side_of) (h_judge_way : HasFn P w K (ly K) mg base "judge_way" ["sightings"] 8 1 f_judge_way) (h_is_seen : HasFn P w K (ly K) mg base "is_seen" ["way", "sightings"] 6 2 f_is_seen) (h_Way_shows : HasMt P w K (ly K) mg base 0 "shows" ["self", "sightings"] 9 2 f_Way_shows) (h_nights_alike : HasFn P w K (ly K) mg base "nights_alike" ["one", "other", "most"] 7 3 f_nights_alike) (h__law_at : HasFn P w K (ly K) mg base "_law_at" ["way", "night"] 1 2 f__law_at) (h__law_dot : HasFn P w K (ly K) mg base "_law_dot" ["one", "other"] 1 2 f__law_dot) (h_Way___init__ : HasMk P w K (ly K) mg base 0 "Way" ["self", "start", "step"] 1 2 f_Way___init__) (h_Way___eq__ : HasMt P w K (ly K) mg base 0 "__eq__" ["self", "other"] 1 2 f_Way___eq__) (h_Ways___eq__ : HasMt P w K (ly K) mg base 1 "__eq__" ["self", "other"] 1 2 f_Ways___eq__) (h_NoWay___eq__ : HasMt P w K (ly K) mg base 2 "__eq__" ["self", "other"] 1 2 f_NoWay___eq__) (h_Way___bool__ : HasMt P w K (ly K) mg base 0 "__bool__" ["self"] 1 1 f_Way___bool__) (h_Ways___bool__ : HasMt P w K (ly K) mg base 1 "__bool__" ["self"] 1 1 f_Ways___bool__) (h_NoWay___bool__ : HasMt P w K (ly K) mg base 2 "__bool__" ["self"] 1 1 f_NoWay___bool__) (m_range : mg "range" = none) (m_tuple : mg "tuple" = none) (m_any : mg "any" = none) (m_len : mg "len" = none) (m_zip : mg "zip" = none) (m_list : mg "list" = none) (kt : Kits K (ly K) 3) : FnOk P w K mg base (L2.CX P w) 10 f fd ["script"] (spM K (ly K) 1 f_law) := by
  refine fn_D F sc_law rfl rfl (fun cdv A outer s H E hr hx hp => ?_)
  exact ⟨_, (ss_cons (s1_newCel 1 sc_law.nd (sf_lst (sa_cons (se_var 0) (sa_cons se_int sa_nil)))) (ss_cons (s1_for hp rfl (si_range1 se_int rfl m_range) (sg_name 2 sc_law.nd) (ss_cons (s1_asg (se_tup (sa_cons (se_callH h__law_way (hr.mono (by decide)) hx (sa_cons (se_var 1) sa_nil) (cnt_cons cnt_nil)) (sa_cons (se_callH h__law_way (hr.mono (by decide)) hx (sa_cons (se_var 1) sa_nil) (cnt_cons cnt_nil)) (sa_cons (se_add (se_sb se_int) (se_sb (se_callH h__law_take (hr.mono (by decide)) hx (sa_cons (se_var 1) (sa_cons se_int sa_nil)) (cnt_cons (cnt_cons cnt_nil))))) sa_nil)))) (sg_tup rfl (sgs_cons (sg_name 7 sc_law.nd) (sgs_cons (sg_name 8 sc_law.nd) (sgs_cons (sg_name 9 sc_law.nd) sgs_nil))))) (ss_cons (s1_set 3 sc_law.nd (se_tup (sa_cons (se_tuple (se_sb (se_sf (sf_lc (own := [("number", 17)]) rfl sc_law.nd (si_val (se_ix (se_sb (se_var 7)) se_int (fun _ _ => rfl))) (blkOk_by (N := N_law) (sc := defScope s_law) (by decide +kernel)) (fun _ _ _ _ _ => (sg_name 17 sc_law.nd)) (fun _ _ _ _ _ => sts_nil) (fun _ _ _ _ _ => (se_mul (se_sb (se_var 9)) (se_sb (se_var 17))))) lsts_lc)) rfl m_tuple) (sa_cons (se_tuple (se_sb (se_sf (sf_lc (own := [("number", 17)]) rfl sc_law.nd (si_val (se_ix (se_sb (se_var 7)) se_int (fun _ _ => rfl))) (blkOk_by (N := N_law) (sc := defScope s_law) (by decide +kernel)) (fun _ _ _ _ _ => (sg_name 17 sc_law.nd)) (fun _ _ _ _ _ => sts_nil) (fun _ _ _ _ _ => (se_mul (se_sb (se_var 9)) (se_sb (se_var 17))))) lsts_lc)) rfl m_tuple) sa_nil)))) (ss_cons (s1_if (st_val (se_any rfl (se_sb (se_sf (sf_lc (own := [("night", 6)]) rfl sc_law.nd (si_range1 se_int rfl m_range) (blkOk_by (N := N_law) (sc := defScope s_law) (by decide +kernel)) (fun _ _ _ _ _ => (sg_name 6 sc_law.nd)) (fun _ _ _ _ _ => sts_nil) (fun _ _ _ _ _ => (se_or (se_ne hr.units (se_sb (se_callH h_seen (hr.mono (by decide)) passL (sa_cons (se_var 3) (sa_cons (se_var 6) sa_nil)) (cnt_cons (cnt_cons cnt_nil)))) (se_sb (se_callH h_seen (hr.mono (by decide)) passL (sa_cons (se_var 7) (sa_cons (se_var 6) sa_nil)) (cnt_cons (cnt_cons cnt_nil))))) (se_one (se_ne hr.units (se_sb (se_tuple (se_sb (se_callH h_at_night (hr.mono (by decide)) passL (sa_cons (se_var 3) (sa_cons (se_var 6) sa_nil)) (cnt_cons (cnt_cons cnt_nil)))) rfl m_tuple)) (se_sb (se_tuple (se_sb (se_sf (sf_lc (own := [("number", 17)]) rfl sc_law.nd (si_val (se_callH h_at_night (hr.mono (by decide)) passL (sa_cons (se_var 7) (sa_cons (se_var 6) sa_nil)) (cnt_cons (cnt_cons cnt_nil)))) (blkOk_by (by kernel_rfl)) (fun _ _ _ _ _ => (sg_name 17 sc_law.nd)) (fun _ _ _ _ _ => sts_nil) (fun _ _ _ _ _ => (se_mul (se_sb (se_var 9)) (se_sb (se_var 17))))) lsts_lc)) rfl m_tuple))))))) lsts_lc)) rfl m_any)) (ss_one (s1_ret se_bl)) ss_nil) (ss_cons (s1_set 4 sc_law.nd (se_callH h_circle_of (hr.mono (by decide)) hx (sa_cons (se_var 7) sa_nil) (cnt_cons cnt_nil))) (ss_cons (s1_if (st_w (sw_or (st_ne hr.units (se_sb (se_var 4)) (se_sb (se_callH h_circle_of (hr.mono (by decide)) hx (sa_cons (se_var 3) sa_nil) (cnt_cons cnt_nil)))) (sw_or1 (st_ne hr.units (se_sb (se_isN (se_sb (se_var 4)) (se_sb se_non))) (se_sb (se_eq hr.units (se_sb (se_callH h__law_cross (hr.mono (by decide)) hx (sa_cons (se_ix (se_sb (se_var 7)) se_int (fun _ _ => rfl)) (sa_cons (se_ix (se_sb (se_var 7)) se_int (fun _ _ => rfl)) sa_nil)) (cnt_cons (cnt_cons cnt_nil)))) (se_sb (se_tup (sa_cons se_int (sa_cons se_int (sa_cons se_int sa_nil))))))))))) (ss_one (s1_ret se_bl)) ss_nil) (ss_cons (s1_if (st_notN (se_sb (se_var 4)) (se_sb se_non)) (ss_cons (s1_if (st_w (sw_or (st_val (se_any rfl (se_sb (se_sf (sf_lc (own := [("night", 6)]) rfl sc_law.nd (si_range1 se_int rfl m_range) (blkOk_by (N := N_law) (sc := defScope s_law) (by decide +kernel)) (fun _ _ _ _ _ => (sg_name 6 sc_law.nd)) (fun _ _ _ _ _ => (sts_one (st_notN (se_sb (se_callH h_seen (hr.mono (by decide)) passL (sa_cons (se_var 7) (sa_cons (se_var 6) sa_nil)) (cnt_cons (cnt_cons cnt_nil)))) (se_sb se_non)))) (fun _ _ _ _ _ => (se_ne hr.units (se_sb (se_callH h_side_of (hr.mono (by decide)) passL (sa_cons (se_var 7) (sa_cons (se_callH h_seen (hr.mono (by decide)) passL (sa_cons (se_var 7) (sa_cons (se_var 6) sa_nil)) (cnt_cons (cnt_cons cnt_nil))) sa_nil)) (cnt_cons (cnt_cons cnt_nil)))) (se_sb se_int)))) lsts_lc)) rfl m_any)) (sw_or (st_ne hr.units (se_sb (se_callH h_side_of (hr.mono (by decide)) hx (sa_cons (se_var 7) (sa_cons (se_var 4) sa_nil)) (cnt_cons (cnt_cons cnt_nil)))) (se_sb se_int)) (sw_or1 (st_ne hr.units (se_sb (se_callH h_side_of (hr.mono (by decide)) hx (sa_cons (se_var 7) (sa_cons (se_tuple (se_sb (se_sf (sf_lc (own := [("number", 17)]) rfl sc_law.nd (si_val (se_var 4)) (blkOk_by (N := N_law) (sc := defScope s_law) (by decide +kernel)) (fun _ _ _ _ _ => (sg_name 17 sc_law.nd)) (fun _ _ _ _ _ => sts_nil) (fun _ _ _ _ _ => (se_sub (se_sb se_int) (se_sb (se_var 17))))) lsts_lc)) rfl m_tuple) sa_nil)) (cnt_cons (cnt_cons cnt_nil)))) (se_sb (se_sub (se_sb se_int) (se_sb se_int)))))))) (ss_one (s1_ret se_bl)) ss_nil) (ss_cons (s1_setLc 10 (own := [("night", 6)]) rfl sc_law.nd (si_val (se_tup (sa_cons se_int (sa_cons se_int (sa_cons se_int (sa_cons se_int sa_nil)))))) (blkOk_by (N := N_law) (sc := defScope s_law) (by decide +kernel)) (fun _ _ _ _ _ => (sg_name 6 sc_law.nd)) (fun _ _ _ _ _ => (sts_one (st_notN (se_sb (se_callH h_seen (hr.mono (by decide)) passL (sa_cons (se_var 7) (sa_cons (se_var 6) sa_nil)) (cnt_cons (cnt_cons cnt_nil)))) (se_sb se_non)))) (fun _ _ _ _ _ => (se_tup (sa_cons (se_var 6) (sa_cons (se_callH h_seen (hr.mono (by decide)) passL (sa_cons (se_var 7) (sa_cons (se_var 6) sa_nil)) (cnt_cons (cnt_cons cnt_nil))) sa_nil))))) (ss_cons (s1_if (st_w (sw_and (st_eq hr.units (se_sb (se_len (se_sb (se_var 10)) rfl m_len)) (se_sb se_int)) (sw_and1 (st_w (sw_or (st_not (st_tru hx (fun c f h => match c, h with | 0, rfl => ⟨_, _, h_Way___bool__, hr.mono (by decide)⟩ | 1, rfl => ⟨_, _, h_Ways___bool__, hr.mono (by decide)⟩ | 2, rfl => ⟨_, _, h_NoWay___bool__, hr.mono (by decide)⟩ | _ + 3, h => nomatch h) (se_callH h_judge_way (hr.mono (by decide)) hx (sa_cons (se_var 10) sa_nil) (cnt_cons cnt_nil)))) (sw_or (st_not (st_val (se_callH h_is_seen (hr.mono (by decide)) hx (sa_cons (se_var 3) (sa_cons (se_var 10) sa_nil)) (cnt_cons (cnt_cons cnt_nil))))) (sw_or1 (st_isBl (se_sb (se_meth h_Way_shows (hr.mono (by decide)) hx (se_callH h_judge_way (hr.mono (by decide)) hx (sa_cons (se_var 10) sa_nil) (cnt_cons cnt_nil)) (sa_cons (se_var 10) sa_nil) (cnt_cons cnt_nil))) (se_sb se_bl))))))))) (ss_one (s1_ret se_bl)) ss_nil) (ss_cons (s1_if (st_w (sw_and (st_eq hr.units (se_sb (se_len (se_sb (se_var 10)) rfl m_len)) (se_sb se_int)) (sw_and1 (st_neO hr.units kt hx (fun c f h => match c, h with | 0, rfl => ⟨_, _, h_Way___eq__, hr.mono (by decide)⟩ | 1, rfl => ⟨_, _, h_Ways___eq__, hr.mono (by decide)⟩ | 2, rfl => ⟨_, _, h_NoWay___eq__, hr.mono (by decide)⟩ | _ + 3, h => nomatch h) (se_callH h_judge_way (hr.mono (by decide)) hx (sa_cons (se_var 10) sa_nil) (cnt_cons cnt_nil)) (se_callH h_judge_way (hr.mono (by decide)) hx (sa_cons (se_add (se_sb (se_slice (se_sb (se_var 10)) sp_none (sp_some se_int))) (se_sb (se_slice (se_sb (se_var 10)) (sp_some se_int) sp_none))) sa_nil) (cnt_cons cnt_nil)))))) (ss_one (s1_ret se_bl)) ss_nil) (ss_cons (s1_set 11 sc_law.nd (se_tup (sa_cons (se_tuple (se_sb (se_sf (sf_lc (own := [("left", 18), ("right", 19)]) rfl sc_law.nd (si_zip (se_ix (se_sb (se_var 7)) se_int (fun _ _ => rfl)) (se_ix (se_sb (se_var 7)) se_int (fun _ _ => rfl)) rfl m_zip) (blkOk_by (N := N_law) (sc := defScope s_law) (by decide +kernel)) (fun _ _ _ _ _ => (sg_tup rfl (sgs_cons (sg_name 18 sc_law.nd) (sgs_cons (sg_name 19 sc_law.nd) sgs_nil)))) (fun _ _ _ _ _ => sts_nil) (fun _ _ _ _ _ => (se_add (se_sb (se_var 18)) (se_sb (se_var 19))))) lsts_lc)) rfl m_tuple) (sa_cons (se_ix (se_sb (se_var 7)) se_int (fun _ _ => rfl)) sa_nil)))) (ss_one (s1_if (st_w (sw_and (st_eq hr.units (se_sb (se_len (se_sb (se_var 10)) rfl m_len)) (se_sb se_int)) (sw_and1 (st_neO hr.units kt hx (fun c f h => match c, h with | 0, rfl => ⟨_, _, h_Way___eq__, hr.mono (by decide)⟩ | 1, rfl => ⟨_, _, h_Ways___eq__, hr.mono (by decide)⟩ | 2, rfl => ⟨_, _, h_NoWay___eq__, hr.mono (by decide)⟩ | _ + 3, h => nomatch h) (se_callH h_judge_way (hr.mono (by decide)) hx (sa_cons (se_sf (sf_lc (own := [("night", 6)]) rfl sc_law.nd (si_val (se_tup (sa_cons se_int (sa_cons se_int (sa_cons se_int (sa_cons se_int sa_nil)))))) (blkOk_by (N := N_law) (sc := defScope s_law) (by decide +kernel)) (fun _ _ _ _ _ => (sg_name 6 sc_law.nd)) (fun _ _ _ _ _ => sts_nil) (fun _ _ _ _ _ => (se_tup (sa_cons (se_var 6) (sa_cons (se_callH h_seen (hr.mono (by decide)) passL (sa_cons (se_var 11) (sa_cons (se_var 6) sa_nil)) (cnt_cons (cnt_cons cnt_nil))) sa_nil))))) lsts_lc) sa_nil) (cnt_cons cnt_nil)) (se_callH h_judge_way (hr.mono (by decide)) hx (sa_cons (se_sf (sf_lc (own := [("night", 6)]) rfl sc_law.nd (si_val (se_tup (sa_cons se_int (sa_cons se_int (sa_cons se_int (sa_cons se_int sa_nil)))))) (blkOk_by (N := N_law) (sc := defScope s_law) (by decide +kernel)) (fun _ _ _ _ _ => (sg_name 6 sc_law.nd)) (fun _ _ _ _ _ => sts_nil) (fun _ _ _ _ _ => (se_tup (sa_cons (se_sub (se_sb (se_var 6)) (se_sb se_int)) (sa_cons (se_callH h_seen (hr.mono (by decide)) passL (sa_cons (se_var 7) (sa_cons (se_var 6) sa_nil)) (cnt_cons (cnt_cons cnt_nil))) sa_nil))))) lsts_lc) sa_nil) (cnt_cons cnt_nil)))))) (ss_one (s1_ret se_bl)) ss_nil))))))) ss_nil) (ss_cons (s1_set 5 sc_law.nd (se_list (se_sb (se_callH h_nights_alike (hr.mono (by decide)) hx (sa_cons (se_var 7) (sa_cons (se_var 8) (sa_cons se_int sa_nil))) (cnt_cons (cnt_cons (cnt_cons cnt_nil))))) rfl m_list)) (ss_cons (s1_for hp rfl (si_range1 se_int rfl m_range) (sg_name 6 sc_law.nd) (ss_cons (s1_par2 15 16 rfl sc_law.nd (se_callH h__law_at (hr.mono (by decide)) hx (sa_cons (se_var 7) (sa_cons (se_var 6) sa_nil)) (cnt_cons (cnt_cons cnt_nil))) (se_callH h__law_at (hr.mono (by decide)) hx (sa_cons (se_var 8) (sa_cons (se_var 6) sa_nil)) (cnt_cons (cnt_cons cnt_nil)))) (ss_cons (s1_set 12 sc_law.nd (se_and (se_notIn (units65 hr) (se_sb (se_tup (sa_cons se_int (sa_cons se_int (sa_cons se_int sa_nil))))) (se_sb (se_tup (sa_cons (se_var 15) (sa_cons (se_var 16) sa_nil))))) (se_and (se_eq hr.units (se_sb (se_callH h__law_cross (hr.mono (by decide)) hx (sa_cons (se_var 15) (sa_cons (se_var 16) sa_nil)) (cnt_cons (cnt_cons cnt_nil)))) (se_sb (se_tup (sa_cons se_int (sa_cons se_int (sa_cons se_int sa_nil)))))) (se_one (se_gt (se_sb (se_callH h__law_dot (hr.mono (by decide)) hx (sa_cons (se_var 15) (sa_cons (se_var 16) sa_nil)) (cnt_cons (cnt_cons cnt_nil)))) (se_sb se_int)))))) (ss_one (s1_if (st_ne hr.units (se_sb (se_var 12)) (se_sb (se_in (units65 hr) (se_sb (se_var 6)) (se_sb (se_var 5))))) (ss_one (s1_ret se_bl)) ss_nil))))) (ss_cons (s1_if (st_w (sw_or (st_ne hr.units (se_sb (se_list (se_sb (se_callH h_nights_alike (hr.mono (by decide)) hx (sa_cons (se_var 7) (sa_cons (se_var 3) (sa_cons se_int sa_nil))) (cnt_cons (cnt_cons (cnt_cons cnt_nil))))) rfl m_list)) (se_sb (se_sf (sf_lc (own := [("night", 6)]) rfl sc_law.nd (si_range1 se_int rfl m_range) (blkOk_by (N := N_law) (sc := defScope s_law) (by decide +kernel)) (fun _ _ _ _ _ => (sg_name 6 sc_law.nd)) (fun _ _ _ _ _ => (sts_one (st_notN (se_sb (se_callH h_seen (hr.mono (by decide)) passL (sa_cons (se_var 7) (sa_cons (se_var 6) sa_nil)) (cnt_cons (cnt_cons cnt_nil)))) (se_sb se_non)))) (fun _ _ _ _ _ => (se_var 6))) lsts_lc))) (sw_or1 (st_ne hr.units (se_sb (se_list (se_sb (se_callH h_nights_alike (hr.mono (by decide)) hx (sa_cons (se_var 8) (sa_cons (se_var 7) (sa_cons se_int sa_nil))) (cnt_cons (cnt_cons (cnt_cons cnt_nil))))) rfl m_list)) (se_sb (se_var 5)))))) (ss_one (s1_ret se_bl)) ss_nil) (ss_cons (s1_par2 13 14 rfl sc_law.nd (se_callH h_circle_of (hr.mono (by decide)) hx (sa_cons (se_var 7) sa_nil) (cnt_cons cnt_nil)) (se_callH h_circle_of (hr.mono (by decide)) hx (sa_cons (se_var 8) sa_nil) (cnt_cons cnt_nil))) (ss_cons (s1_if (st_w (sw_and (st_notN (se_sb (se_var 13)) (se_sb se_non)) (sw_and (st_notN (se_sb (se_var 14)) (se_sb se_non)) (sw_and (st_ne hr.units (se_sb (se_callH h__law_cross (hr.mono (by decide)) hx (sa_cons (se_var 13) (sa_cons (se_var 14) sa_nil)) (cnt_cons (cnt_cons cnt_nil)))) (se_sb (se_tup (sa_cons se_int (sa_cons se_int (sa_cons se_int sa_nil)))))) (sw_and1 (st_gt (se_sb (se_len (se_sb (se_var 5)) rfl m_len)) (se_sb se_int))))))) (ss_one (s1_ret se_bl)) ss_nil) (ss_one (s1_if (st_w (sw_and (st_notN (se_sb (se_var 4)) (se_sb se_non)) (sw_and1 (st_eqO hr.units kt hx (fun c f h => match c, h with | 0, rfl => ⟨_, _, h_Way___eq__, hr.mono (by decide)⟩ | 1, rfl => ⟨_, _, h_Ways___eq__, hr.mono (by decide)⟩ | 2, rfl => ⟨_, _, h_NoWay___eq__, hr.mono (by decide)⟩ | _ + 3, h => nomatch h) (se_callH h_judge_way (hr.mono (by decide)) hx (sa_cons (se_if (st_w (sw_and (st_notN (se_sb (se_callH h_seen (hr.mono (by decide)) hx (sa_cons (se_var 7) (sa_cons se_int sa_nil)) (cnt_cons (cnt_cons cnt_nil)))) (se_sb se_non)) (sw_and1 (st_notN (se_sb (se_callH h_seen (hr.mono (by decide)) hx (sa_cons (se_var 7) (sa_cons se_int sa_nil)) (cnt_cons (cnt_cons cnt_nil)))) (se_sb se_non))))) (se_lst (sa_cons (se_tup (sa_cons se_int (sa_cons (se_callH h_seen (hr.mono (by decide)) hx (sa_cons (se_var 7) (sa_cons se_int sa_nil)) (cnt_cons (cnt_cons cnt_nil))) sa_nil))) (sa_cons (se_tup (sa_cons se_int (sa_cons (se_callH h_seen (hr.mono (by decide)) hx (sa_cons (se_var 7) (sa_cons se_int sa_nil)) (cnt_cons (cnt_cons cnt_nil))) sa_nil))) sa_nil))) (se_lst (sa_cons (se_tup (sa_cons se_int (sa_cons (se_tup (sa_cons se_int (sa_cons se_int (sa_cons se_int sa_nil)))) sa_nil))) sa_nil))) sa_nil) (cnt_cons cnt_nil)) (se_make h_Way___init__ (hr.mono (by decide)) hx (sa_cons (se_ix (se_sb (se_var 7)) se_int (fun _ _ => rfl)) (sa_cons (se_ix (se_sb (se_var 7)) se_int (fun _ _ => rfl)) sa_nil)) (cnt_cons (cnt_cons cnt_nil))))))) (ss_one (s1_ret se_bl)) ss_nil)))))))))))))) (ss_one (s1_ret se_bl))))⟩
end
/-! the head -/
def fD (x : Str) (i : Nat) : He.DefD := ⟨(x, none), x, x, defArgs (top i), defBody (top i), defScope (top i), [], []⟩
def fM (c m ql : Str) (i j : Nat) : He.DefD := ⟨(c, some m), m, ql, defArgs (mth i j), defBody (mth i j), defScope (mth i j), [], []⟩
def fn : List He.DefD := [fD "_law_number" 41, fD "_law_take" 42, fD "_law_way" 45, fD "is_row" 7, fD "is_integer" 4, fD "is_triple" 11, fD "is_way" 28, fD "check_way" 32, fD "is_number" 5, fD "check_number" 6, fD "plus" 18, fD "times" 19, fD "at_night" 30, fD "check_triple" 13, fD "common" 8, fD "least" 14, fD "seen" 31, fD "cross" 16, fD "circle_of" 38, fD "_law_cross" 44, fD "is_direction" 12, fD "dot" 15, fD "det" 17, fD "side_of" 39, fD "check_sightings" 27, fD "is_on_line" 20, fD "is_seen" 33, fD "least_way" 29, fD "way_of_two" 34, fD "is_between" 21, fD "ways_by" 35, fM "Way" "__init__" "Way.__init__" 24 0, fM "Ways" "__init__" "Ways.__init__" 25 0, fD "judge_way" 36, fM "Way" "__eq__" "Way.__eq__" 24 2, fM "Ways" "__eq__" "Ways.__eq__" 25 2, fM "NoWay" "__eq__" "NoWay.__eq__" 26 2, fM "Way" "shows" "Way.shows" 24 3, fD "nights_alike" 37, fD "_law_at" 46, fD "_law_dot" 43, fM "Way" "__bool__" "Way.__bool__" 24 1, fM "Ways" "__bool__" "Ways.__bool__" 25 1, fM "NoWay" "__bool__" "NoWay.__bool__" 26 1, fD "law" 47]
def fa : List He.Fa := [.glo "_law_number", .glo "_law_take", .glo "_law_way", .glo "is_row", .glo "is_integer", .glo "is_triple", .glo "is_way", .glo "check_way", .glo "is_number", .glo "check_number", .glo "plus", .glo "times", .glo "at_night", .glo "check_triple", .glo "common", .glo "least", .glo "seen", .glo "cross", .glo "circle_of", .glo "_law_cross", .glo "is_direction", .glo "dot", .glo "det", .glo "side_of", .glo "check_sightings", .glo "is_on_line", .glo "is_seen", .glo "least_way", .glo "way_of_two", .glo "is_between", .glo "ways_by", .glo "judge_way", .glo "nights_alike", .glo "_law_at", .glo "_law_dot", .glo "law", .glo "Way", .cls "Way", .glo "Ways", .cls "Ways", .glo "NoWay", .cls "NoWay", .mkr "Way", .mkr "Ways", .meth "Way" "__eq__", .meth "Ways" "__eq__", .meth "NoWay" "__eq__", .meth "Way" "shows", .meth "Way" "__bool__", .meth "Ways" "__bool__", .meth "NoWay" "__bool__", .free "abs", .free "all", .free "any", .free "bool", .free "enumerate", .free "int", .free "isinstance", .free "len", .free "list", .free "max", .free "range", .free "sum", .free "tuple", .free "zip", .int "MOST" 999999, .int "MOST_NIGHT" 99]
def looseL : List Str := (["SkyError", "BadPart", "is_integer", "is_number", "check_number", "is_row", "common", "is_triple", "is_direction", "check_triple", "least", "dot", "cross", "det", "plus", "times", "is_on_line", "is_between", "Way", "Ways", "NoWay", "check_sightings", "is_way", "least_way", "at_night", "seen", "check_way", "is_seen", "way_of_two", "ways_by"] : List Str) ++ (["judge_way", "nights_alike", "circle_of", "side_of", "_law_number", "_law_take", "_law_dot", "_law_cross", "_law_way", "_law_at", "MOST", "MOST_NIGHT"] : List Str)
abbrev R : PySem.W.OpenRow := PySem.W.OpenLaw.row PySem.Challenge.rw_skyplaced_k49_ways_multiplied
abbrev hk : PySem.W.Hook := hookE 4 fa fn (exB clsN fldN)
def ob (s : PySem.W.SharedT) : AlE := obsE 4 fa fn (exB clsN fldN) (HandSHeadRun.getT s)
theorem ob_eq (s : PySem.W.SharedT) : ob s = hk.obs s.abs := obsE_eq (HandSHeadRun.getT_eq s)
theorem run (w : World) : HandSHeadRun.RunEq R (PySem.W.view R.prog [47]) hk ob 8000 Lw.looseL w := by
  intro os
  kernel_rfl
theorem facts {P : Program} {w : World} {K : PySem.W.Frag} {h : Heap} {mg : Str → Option Value} {f : Addr} (X : K.In h) (G : h.Ns mainGlobals mg) (hfa : mg ("law" : Str) = some (.ref f)) (c : He.SaysD fa fn K ∧ exB clsN fldN K = true) :
    ∃ fd : FuncData, (∀ (s : Shared) (v : Value), BindsTo s fd ⟨[v], []⟩ [("script", v)]) ∧ ∀ base : Heap, FnOk P w K mg base (L2.CX P w) 10 f fd ["script"] (spM K (ly K) 1 f_law) := by
  obtain ⟨c, cx⟩ := c
  have kt : Kits K (ly K) 3 := kits_of cx
  have g_Way : mg "Way" = some (.ref ((ly K).cls 0)) := He.glo_ok X G (c.fact 36 (f := .glo "Way") rfl)
  have g_Ways : mg "Ways" = some (.ref ((ly K).cls 1)) := He.glo_ok X G (c.fact 38 (f := .glo "Ways") rfl)
  have g_NoWay : mg "NoWay" = some (.ref ((ly K).cls 2)) := He.glo_ok X G (c.fact 40 (f := .glo "NoWay") rfl)
  have m_abs : mg "abs" = none := He.free_ok X G (c.fact 51 (f := .free "abs") rfl)
  have m_all : mg "all" = none := He.free_ok X G (c.fact 52 (f := .free "all") rfl)
  have m_any : mg "any" = none := He.free_ok X G (c.fact 53 (f := .free "any") rfl)
  have m_bool : mg "bool" = none := He.free_ok X G (c.fact 54 (f := .free "bool") rfl)
  have m_enumerate : mg "enumerate" = none := He.free_ok X G (c.fact 55 (f := .free "enumerate") rfl)
  have m_int : mg "int" = none := He.free_ok X G (c.fact 56 (f := .free "int") rfl)
  have m_isinstance : mg "isinstance" = none := He.free_ok X G (c.fact 57 (f := .free "isinstance") rfl)
  have m_len : mg "len" = none := He.free_ok X G (c.fact 58 (f := .free "len") rfl)
  have m_list : mg "list" = none := He.free_ok X G (c.fact 59 (f := .free "list") rfl)
  have m_max : mg "max" = none := He.free_ok X G (c.fact 60 (f := .free "max") rfl)
  have m_range : mg "range" = none := He.free_ok X G (c.fact 61 (f := .free "range") rfl)
  have m_sum : mg "sum" = none := He.free_ok X G (c.fact 62 (f := .free "sum") rfl)
  have m_tuple : mg "tuple" = none := He.free_ok X G (c.fact 63 (f := .free "tuple") rfl)
  have m_zip : mg "zip" = none := He.free_ok X G (c.fact 64 (f := .free "zip") rfl)
  have c0_MOST := He.int_ok X G (c.fact 65 (f := .int "MOST" 999999) rfl)
  have c0_MOST_NIGHT := He.int_ok X G (c.fact 66 (f := .int "MOST_NIGHT" 99) rfl)
  obtain ⟨fd__law_number, F__law_number⟩ := c.def_ 0 (d := fD "_law_number" 41) rfl
  have g__law_number : mg "_law_number" = some (.ref (He.ga K "_law_number")) := He.glo_ok X G (c.fact 0 (f := .glo "_law_number") rfl)
  obtain ⟨fd__law_take, F__law_take⟩ := c.def_ 1 (d := fD "_law_take" 42) rfl
  have g__law_take : mg "_law_take" = some (.ref (He.ga K "_law_take")) := He.glo_ok X G (c.fact 1 (f := .glo "_law_take") rfl)
  obtain ⟨fd__law_way, F__law_way⟩ := c.def_ 2 (d := fD "_law_way" 45) rfl
  have g__law_way : mg "_law_way" = some (.ref (He.ga K "_law_way")) := He.glo_ok X G (c.fact 2 (f := .glo "_law_way") rfl)
  obtain ⟨fd_is_row, F_is_row⟩ := c.def_ 3 (d := fD "is_row" 7) rfl
  have g_is_row : mg "is_row" = some (.ref (He.ga K "is_row")) := He.glo_ok X G (c.fact 3 (f := .glo "is_row") rfl)
  obtain ⟨fd_is_integer, F_is_integer⟩ := c.def_ 4 (d := fD "is_integer" 4) rfl
  have g_is_integer : mg "is_integer" = some (.ref (He.ga K "is_integer")) := He.glo_ok X G (c.fact 4 (f := .glo "is_integer") rfl)
  obtain ⟨fd_is_triple, F_is_triple⟩ := c.def_ 5 (d := fD "is_triple" 11) rfl
  have g_is_triple : mg "is_triple" = some (.ref (He.ga K "is_triple")) := He.glo_ok X G (c.fact 5 (f := .glo "is_triple") rfl)
  obtain ⟨fd_is_way, F_is_way⟩ := c.def_ 6 (d := fD "is_way" 28) rfl
  have g_is_way : mg "is_way" = some (.ref (He.ga K "is_way")) := He.glo_ok X G (c.fact 6 (f := .glo "is_way") rfl)
  obtain ⟨fd_check_way, F_check_way⟩ := c.def_ 7 (d := fD "check_way" 32) rfl
  have g_check_way : mg "check_way" = some (.ref (He.ga K "check_way")) := He.glo_ok X G (c.fact 7 (f := .glo "check_way") rfl)
  obtain ⟨fd_is_number, F_is_number⟩ := c.def_ 8 (d := fD "is_number" 5) rfl
  have g_is_number : mg "is_number" = some (.ref (He.ga K "is_number")) := He.glo_ok X G (c.fact 8 (f := .glo "is_number") rfl)
  obtain ⟨fd_check_number, F_check_number⟩ := c.def_ 9 (d := fD "check_number" 6) rfl
  have g_check_number : mg "check_number" = some (.ref (He.ga K "check_number")) := He.glo_ok X G (c.fact 9 (f := .glo "check_number") rfl)
  obtain ⟨fd_plus, F_plus⟩ := c.def_ 10 (d := fD "plus" 18) rfl
  have g_plus : mg "plus" = some (.ref (He.ga K "plus")) := He.glo_ok X G (c.fact 10 (f := .glo "plus") rfl)
  obtain ⟨fd_times, F_times⟩ := c.def_ 11 (d := fD "times" 19) rfl
  have g_times : mg "times" = some (.ref (He.ga K "times")) := He.glo_ok X G (c.fact 11 (f := .glo "times") rfl)
  obtain ⟨fd_at_night, F_at_night⟩ := c.def_ 12 (d := fD "at_night" 30) rfl
  have g_at_night : mg "at_night" = some (.ref (He.ga K "at_night")) := He.glo_ok X G (c.fact 12 (f := .glo "at_night") rfl)
  obtain ⟨fd_check_triple, F_check_triple⟩ := c.def_ 13 (d := fD "check_triple" 13) rfl
  have g_check_triple : mg "check_triple" = some (.ref (He.ga K "check_triple")) := He.glo_ok X G (c.fact 13 (f := .glo "check_triple") rfl)
  obtain ⟨fd_common, F_common⟩ := c.def_ 14 (d := fD "common" 8) rfl
  have g_common : mg "common" = some (.ref (He.ga K "common")) := He.glo_ok X G (c.fact 14 (f := .glo "common") rfl)
  obtain ⟨fd_least, F_least⟩ := c.def_ 15 (d := fD "least" 14) rfl
  have g_least : mg "least" = some (.ref (He.ga K "least")) := He.glo_ok X G (c.fact 15 (f := .glo "least") rfl)
  obtain ⟨fd_seen, F_seen⟩ := c.def_ 16 (d := fD "seen" 31) rfl
  have g_seen : mg "seen" = some (.ref (He.ga K "seen")) := He.glo_ok X G (c.fact 16 (f := .glo "seen") rfl)
  obtain ⟨fd_cross, F_cross⟩ := c.def_ 17 (d := fD "cross" 16) rfl
  have g_cross : mg "cross" = some (.ref (He.ga K "cross")) := He.glo_ok X G (c.fact 17 (f := .glo "cross") rfl)
  obtain ⟨fd_circle_of, F_circle_of⟩ := c.def_ 18 (d := fD "circle_of" 38) rfl
  have g_circle_of : mg "circle_of" = some (.ref (He.ga K "circle_of")) := He.glo_ok X G (c.fact 18 (f := .glo "circle_of") rfl)
  obtain ⟨fd__law_cross, F__law_cross⟩ := c.def_ 19 (d := fD "_law_cross" 44) rfl
  have g__law_cross : mg "_law_cross" = some (.ref (He.ga K "_law_cross")) := He.glo_ok X G (c.fact 19 (f := .glo "_law_cross") rfl)
  obtain ⟨fd_is_direction, F_is_direction⟩ := c.def_ 20 (d := fD "is_direction" 12) rfl
  have g_is_direction : mg "is_direction" = some (.ref (He.ga K "is_direction")) := He.glo_ok X G (c.fact 20 (f := .glo "is_direction") rfl)
  obtain ⟨fd_dot, F_dot⟩ := c.def_ 21 (d := fD "dot" 15) rfl
  have g_dot : mg "dot" = some (.ref (He.ga K "dot")) := He.glo_ok X G (c.fact 21 (f := .glo "dot") rfl)
  obtain ⟨fd_det, F_det⟩ := c.def_ 22 (d := fD "det" 17) rfl
  have g_det : mg "det" = some (.ref (He.ga K "det")) := He.glo_ok X G (c.fact 22 (f := .glo "det") rfl)
  obtain ⟨fd_side_of, F_side_of⟩ := c.def_ 23 (d := fD "side_of" 39) rfl
  have g_side_of : mg "side_of" = some (.ref (He.ga K "side_of")) := He.glo_ok X G (c.fact 23 (f := .glo "side_of") rfl)
  obtain ⟨fd_check_sightings, F_check_sightings⟩ := c.def_ 24 (d := fD "check_sightings" 27) rfl
  have g_check_sightings : mg "check_sightings" = some (.ref (He.ga K "check_sightings")) := He.glo_ok X G (c.fact 24 (f := .glo "check_sightings") rfl)
  obtain ⟨fd_is_on_line, F_is_on_line⟩ := c.def_ 25 (d := fD "is_on_line" 20) rfl
  have g_is_on_line : mg "is_on_line" = some (.ref (He.ga K "is_on_line")) := He.glo_ok X G (c.fact 25 (f := .glo "is_on_line") rfl)
  obtain ⟨fd_is_seen, F_is_seen⟩ := c.def_ 26 (d := fD "is_seen" 33) rfl
  have g_is_seen : mg "is_seen" = some (.ref (He.ga K "is_seen")) := He.glo_ok X G (c.fact 26 (f := .glo "is_seen") rfl)
  obtain ⟨fd_least_way, F_least_way⟩ := c.def_ 27 (d := fD "least_way" 29) rfl
  have g_least_way : mg "least_way" = some (.ref (He.ga K "least_way")) := He.glo_ok X G (c.fact 27 (f := .glo "least_way") rfl)
  obtain ⟨fd_way_of_two, F_way_of_two⟩ := c.def_ 28 (d := fD "way_of_two" 34) rfl
  have g_way_of_two : mg "way_of_two" = some (.ref (He.ga K "way_of_two")) := He.glo_ok X G (c.fact 28 (f := .glo "way_of_two") rfl)
  obtain ⟨fd_is_between, F_is_between⟩ := c.def_ 29 (d := fD "is_between" 21) rfl
  have g_is_between : mg "is_between" = some (.ref (He.ga K "is_between")) := He.glo_ok X G (c.fact 29 (f := .glo "is_between") rfl)
  obtain ⟨fd_ways_by, F_ways_by⟩ := c.def_ 30 (d := fD "ways_by" 35) rfl
  have g_ways_by : mg "ways_by" = some (.ref (He.ga K "ways_by")) := He.glo_ok X G (c.fact 30 (f := .glo "ways_by") rfl)
  obtain ⟨fd_Way___init__, F_Way___init__⟩ := c.def_ 31 (d := fM "Way" "__init__" "Way.__init__" 24 0) rfl
  obtain ⟨fd_Ways___init__, F_Ways___init__⟩ := c.def_ 32 (d := fM "Ways" "__init__" "Ways.__init__" 25 0) rfl
  obtain ⟨fd_judge_way, F_judge_way⟩ := c.def_ 33 (d := fD "judge_way" 36) rfl
  have g_judge_way : mg "judge_way" = some (.ref (He.ga K "judge_way")) := He.glo_ok X G (c.fact 31 (f := .glo "judge_way") rfl)
  obtain ⟨fd_Way___eq__, F_Way___eq__⟩ := c.def_ 34 (d := fM "Way" "__eq__" "Way.__eq__" 24 2) rfl
  obtain ⟨fd_Ways___eq__, F_Ways___eq__⟩ := c.def_ 35 (d := fM "Ways" "__eq__" "Ways.__eq__" 25 2) rfl
  obtain ⟨fd_NoWay___eq__, F_NoWay___eq__⟩ := c.def_ 36 (d := fM "NoWay" "__eq__" "NoWay.__eq__" 26 2) rfl
  obtain ⟨fd_Way_shows, F_Way_shows⟩ := c.def_ 37 (d := fM "Way" "shows" "Way.shows" 24 3) rfl
  obtain ⟨fd_nights_alike, F_nights_alike⟩ := c.def_ 38 (d := fD "nights_alike" 37) rfl
  have g_nights_alike : mg "nights_alike" = some (.ref (He.ga K "nights_alike")) := He.glo_ok X G (c.fact 32 (f := .glo "nights_alike") rfl)
  obtain ⟨fd__law_at, F__law_at⟩ := c.def_ 39 (d := fD "_law_at" 46) rfl
  have g__law_at : mg "_law_at" = some (.ref (He.ga K "_law_at")) := He.glo_ok X G (c.fact 33 (f := .glo "_law_at") rfl)
  obtain ⟨fd__law_dot, F__law_dot⟩ := c.def_ 40 (d := fD "_law_dot" 43) rfl
  have g__law_dot : mg "_law_dot" = some (.ref (He.ga K "_law_dot")) := He.glo_ok X G (c.fact 34 (f := .glo "_law_dot") rfl)
  obtain ⟨fd_Way___bool__, F_Way___bool__⟩ := c.def_ 41 (d := fM "Way" "__bool__" "Way.__bool__" 24 1) rfl
  obtain ⟨fd_Ways___bool__, F_Ways___bool__⟩ := c.def_ 42 (d := fM "Ways" "__bool__" "Ways.__bool__" 25 1) rfl
  obtain ⟨fd_NoWay___bool__, F_NoWay___bool__⟩ := c.def_ 43 (d := fM "NoWay" "__bool__" "NoWay.__bool__" 26 1) rfl
  obtain ⟨fd_law, F_law⟩ := c.def_ 44 (d := fD "law" 47) rfl
  have g_law : mg "law" = some (.ref (He.ga K "law")) := He.glo_ok X G (c.fact 35 (f := .glo "law") rfl)
  have e := hfa.symm.trans g_law
  cases e
  have b := FunD.bindsA (ps := ["script"]) F_law fun _ _ _ _ _ _ us hl => match us, hl with | [_], _ => rfl
  refine ⟨fd_law, fun s v => b s [v] rfl, fun base => ?_⟩
  have h__law_number : HasFn P w K (ly K) mg base "_law_number" ["script", "index"] 1 2 f__law_number := ok__law_number ⟨_, fd__law_number, F__law_number, g__law_number⟩ m_len m_range m_int
  have h__law_take : HasFn P w K (ly K) mg base "_law_take" ["draw", "many"] 2 2 f__law_take := ok__law_take ⟨_, fd__law_take, F__law_take, g__law_take⟩ h__law_number m_int
  have h__law_way : HasFn P w K (ly K) mg base "_law_way" ["draw"] 3 1 f__law_way := ok__law_way ⟨_, fd__law_way, F__law_way, g__law_way⟩ h__law_take m_tuple m_range
  have h_is_row : HasFn P w K (ly K) mg base "is_row" ["thing"] 1 1 f_is_row := ok_is_row ⟨_, fd_is_row, F_is_row, g_is_row⟩ m_isinstance m_list m_tuple
  have h_is_integer : HasFn P w K (ly K) mg base "is_integer" ["thing"] 1 1 f_is_integer := ok_is_integer ⟨_, fd_is_integer, F_is_integer, g_is_integer⟩ m_isinstance m_int m_bool
  have h_is_triple : HasFn P w K (ly K) mg base "is_triple" ["thing"] 2 1 f_is_triple := ok_is_triple ⟨_, fd_is_triple, F_is_triple, g_is_triple⟩ h_is_integer m_isinstance m_tuple m_len m_all
  have h_is_way : HasFn P w K (ly K) mg base "is_way" ["way"] 3 1 f_is_way := ok_is_way ⟨_, fd_is_way, F_is_way, g_is_way⟩ h_is_row h_is_triple m_len m_all m_isinstance m_tuple
  have h_check_way : HasFn P w K (ly K) mg base "check_way" ["way"] 4 1 f_check_way := ok_check_way ⟨_, fd_check_way, F_check_way, g_check_way⟩ h_is_way
  have h_is_number : HasFn P w K (ly K) mg base "is_number" ["thing", "low", "high"] 2 3 f_is_number := ok_is_number ⟨_, fd_is_number, F_is_number, g_is_number⟩ h_is_integer
  have h_check_number : HasFn P w K (ly K) mg base "check_number" ["part", "thing", "low", "high"] 3 4 f_check_number := ok_check_number ⟨_, fd_check_number, F_check_number, g_check_number⟩ h_is_number
  have h_plus : HasFn P w K (ly K) mg base "plus" ["one", "other"] 1 2 f_plus := ok_plus ⟨_, fd_plus, F_plus, g_plus⟩ m_tuple m_zip
  have h_times : HasFn P w K (ly K) mg base "times" ["factor", "triple"] 1 2 f_times := ok_times ⟨_, fd_times, F_times, g_times⟩ m_tuple
  have h_at_night : HasFn P w K (ly K) mg base "at_night" ["way", "night"] 5 2 f_at_night := ok_at_night ⟨_, fd_at_night, F_at_night, g_at_night⟩ h_check_way h_check_number h_plus h_times c0_MOST_NIGHT
  have h_check_triple : HasFn P w K (ly K) mg base "check_triple" ["part", "thing"] 3 2 f_check_triple := ok_check_triple ⟨_, fd_check_triple, F_check_triple, g_check_triple⟩ h_is_triple
  have h_common : HasFn P w K (ly K) mg base "common" ["one", "other"] 1 2 f_common := ok_common ⟨_, fd_common, F_common, g_common⟩ m_abs
  have h_least : HasFn P w K (ly K) mg base "least" ["direction"] 4 1 f_least := ok_least ⟨_, fd_least, F_least, g_least⟩ h_check_triple h_common m_tuple
  have h_seen : HasFn P w K (ly K) mg base "seen" ["way", "night"] 6 2 f_seen := ok_seen ⟨_, fd_seen, F_seen, g_seen⟩ h_check_way h_check_number h_at_night h_least c0_MOST_NIGHT
  have h_cross : HasFn P w K (ly K) mg base "cross" ["one", "other"] 1 2 f_cross := ok_cross ⟨_, fd_cross, F_cross, g_cross⟩ 
  have h_circle_of : HasFn P w K (ly K) mg base "circle_of" ["way"] 5 1 f_circle_of := ok_circle_of ⟨_, fd_circle_of, F_circle_of, g_circle_of⟩ h_check_way h_cross h_least
  have h__law_cross : HasFn P w K (ly K) mg base "_law_cross" ["one", "other"] 1 2 f__law_cross := ok__law_cross ⟨_, fd__law_cross, F__law_cross, g__law_cross⟩ m_tuple m_range
  have h_is_direction : HasFn P w K (ly K) mg base "is_direction" ["thing"] 3 1 f_is_direction := ok_is_direction ⟨_, fd_is_direction, F_is_direction, g_is_direction⟩ h_is_triple h_is_number m_all c0_MOST
  have h_dot : HasFn P w K (ly K) mg base "dot" ["one", "other"] 1 2 f_dot := ok_dot ⟨_, fd_dot, F_dot, g_dot⟩ m_sum m_zip
  have h_det : HasFn P w K (ly K) mg base "det" ["one", "other", "third"] 2 3 f_det := ok_det ⟨_, fd_det, F_det, g_det⟩ h_dot h_cross
  have h_side_of : HasFn P w K (ly K) mg base "side_of" ["way", "direction"] 5 2 f_side_of := ok_side_of ⟨_, fd_side_of, F_side_of, g_side_of⟩ h_check_way h_is_direction h_det
  have h_check_sightings : HasFn P w K (ly K) mg base "check_sightings" ["sightings"] 4 1 f_check_sightings := ok_check_sightings ⟨_, fd_check_sightings, F_check_sightings, g_check_sightings⟩ h_is_row h_is_number h_is_direction m_len m_enumerate m_isinstance m_tuple c0_MOST_NIGHT
  have h_is_on_line : HasFn P w K (ly K) mg base "is_on_line" ["one", "other"] 2 2 f_is_on_line := ok_is_on_line ⟨_, fd_is_on_line, F_is_on_line, g_is_on_line⟩ h_cross
  have h_is_seen : HasFn P w K (ly K) mg base "is_seen" ["way", "sightings"] 6 2 f_is_seen := ok_is_seen ⟨_, fd_is_seen, F_is_seen, g_is_seen⟩ h_check_way h_check_sightings h_at_night h_least h_is_on_line h_dot
  have h_least_way : HasFn P w K (ly K) mg base "least_way" ["way"] 2 1 f_least_way := ok_least_way ⟨_, fd_least_way, F_least_way, g_least_way⟩ h_common m_tuple m_max
  have h_way_of_two : HasFn P w K (ly K) mg base "way_of_two" ["one", "other", "near", "far"] 3 4 f_way_of_two := ok_way_of_two ⟨_, fd_way_of_two, F_way_of_two, g_way_of_two⟩ h_plus h_times h_least_way
  have h_is_between : HasFn P w K (ly K) mg base "is_between" ["one", "middle", "other"] 2 3 f_is_between := ok_is_between ⟨_, fd_is_between, F_is_between, g_is_between⟩ h_cross h_dot
  have h_ways_by : HasFn P w K (ly K) mg base "ways_by" ["sightings"] 7 1 f_ways_by := ok_ways_by ⟨_, fd_ways_by, F_ways_by, g_ways_by⟩ h_least h_is_seen h_is_on_line h_way_of_two h_is_between h_cross h_dot m_len
  have h_Way___init__ : HasMk P w K (ly K) mg base 0 "Way" ["self", "start", "step"] 1 2 f_Way___init__ := ok_Way___init__ F_Way___init__ (He.mkr_ok (c.fact 42 (f := .mkr "Way") rfl)) g_Way kt
  have h_Ways___init__ : HasMk P w K (ly K) mg base 1 "Ways" ["self", "one", "other"] 2 2 f_Ways___init__ := ok_Ways___init__ F_Ways___init__ (He.mkr_ok (c.fact 43 (f := .mkr "Ways") rfl)) g_Ways h_is_row m_tuple kt
  have h_judge_way : HasFn P w K (ly K) mg base "judge_way" ["sightings"] 8 1 f_judge_way := ok_judge_way ⟨_, fd_judge_way, F_judge_way, g_judge_way⟩ h_check_sightings h_ways_by h_Way___init__ h_Ways___init__ m_range m_len
  have h_Way___eq__ : HasMt P w K (ly K) mg base 0 "__eq__" ["self", "other"] 1 2 f_Way___eq__ := ok_Way___eq__ F_Way___eq__ (He.cls_ok (c.fact 37 (f := .cls "Way") rfl)) (He.meth_ok (c.fact 44 (f := .meth "Way" "__eq__") rfl)) m_isinstance g_Way kt
  have h_Ways___eq__ : HasMt P w K (ly K) mg base 1 "__eq__" ["self", "other"] 1 2 f_Ways___eq__ := ok_Ways___eq__ F_Ways___eq__ (He.cls_ok (c.fact 39 (f := .cls "Ways") rfl)) (He.meth_ok (c.fact 45 (f := .meth "Ways" "__eq__") rfl)) m_isinstance g_Ways kt
  have h_NoWay___eq__ : HasMt P w K (ly K) mg base 2 "__eq__" ["self", "other"] 1 2 f_NoWay___eq__ := ok_NoWay___eq__ F_NoWay___eq__ (He.cls_ok (c.fact 41 (f := .cls "NoWay") rfl)) (He.meth_ok (c.fact 46 (f := .meth "NoWay" "__eq__") rfl)) m_isinstance g_NoWay kt
  have h_Way_shows : HasMt P w K (ly K) mg base 0 "shows" ["self", "sightings"] 9 2 f_Way_shows := ok_Way_shows F_Way_shows (He.cls_ok (c.fact 37 (f := .cls "Way") rfl)) (He.meth_ok (c.fact 47 (f := .meth "Way" "shows") rfl)) h_judge_way h_Way___eq__ h_Ways___eq__ h_NoWay___eq__ kt
  have h_nights_alike : HasFn P w K (ly K) mg base "nights_alike" ["one", "other", "most"] 7 3 f_nights_alike := ok_nights_alike ⟨_, fd_nights_alike, F_nights_alike, g_nights_alike⟩ h_check_way h_check_number h_seen m_range m_tuple c0_MOST_NIGHT
  have h__law_at : HasFn P w K (ly K) mg base "_law_at" ["way", "night"] 1 2 f__law_at := ok__law_at ⟨_, fd__law_at, F__law_at, g__law_at⟩ m_tuple m_zip
  have h__law_dot : HasFn P w K (ly K) mg base "_law_dot" ["one", "other"] 1 2 f__law_dot := ok__law_dot ⟨_, fd__law_dot, F__law_dot, g__law_dot⟩ 
  have h_Way___bool__ : HasMt P w K (ly K) mg base 0 "__bool__" ["self"] 1 1 f_Way___bool__ := ok_Way___bool__ F_Way___bool__ (He.cls_ok (c.fact 37 (f := .cls "Way") rfl)) (He.meth_ok (c.fact 48 (f := .meth "Way" "__bool__") rfl)) 
  have h_Ways___bool__ : HasMt P w K (ly K) mg base 1 "__bool__" ["self"] 1 1 f_Ways___bool__ := ok_Ways___bool__ F_Ways___bool__ (He.cls_ok (c.fact 39 (f := .cls "Ways") rfl)) (He.meth_ok (c.fact 49 (f := .meth "Ways" "__bool__") rfl)) 
  have h_NoWay___bool__ : HasMt P w K (ly K) mg base 2 "__bool__" ["self"] 1 1 f_NoWay___bool__ := ok_NoWay___bool__ F_NoWay___bool__ (He.cls_ok (c.fact 41 (f := .cls "NoWay") rfl)) (He.meth_ok (c.fact 50 (f := .meth "NoWay" "__bool__") rfl)) 
  exact okf_law F_law h__law_take h__law_way h_seen h_at_night h_circle_of h__law_cross h_side_of h_judge_way h_is_seen h_Way_shows h_nights_alike h__law_at h__law_dot h_Way___init__ h_Way___eq__ h_Ways___eq__ h_NoWay___eq__ h_Way___bool__ h_Ways___bool__ h_NoWay___bool__ m_range m_tuple m_any m_len m_zip m_list kt
end Lw


set_option Elab.async false
set_option linter.all false
set_option maxRecDepth 100000
set_option maxHeartbeats 4000000
set_option autoImplicit false
namespace Lw
open PySem L2 Sk
theorem bind_pure {α β : Type} (a : α) (f : α → M β) : M.bind (M.pure a) f = f a := rfl
theorem noX_pure {α : Type} (a : α) : noX (M.pure a) = M.pure a := rfl
theorem lift_some {α : Type} (a : α) : lift (some a) = M.pure a := rfl
theorem atI_n {α : Type} (xs : List α) (n : Nat) (x : α) (h : xs[n]? = some x) : atI xs (n : Int) = some x := atI_nat h
theorem atI0 {α : Type} (x : α) (r : List α) : atI (x :: r) 0 = some x := atI_nat (j := 0) rfl
theorem atI1 {α : Type} (x y : α) (r : List α) : atI (x :: y :: r) 1 = some y := atI_nat (j := 1) rfl
theorem atI2 {α : Type} (x y z : α) (r : List α) : atI (x :: y :: z :: r) 2 = some z := atI_nat (j := 2) rfl
/-- triples -/
abbrev T3 := Int × Int × Int
def tD (a : T3) : D := .tup [.int a.1, .int a.2.1, .int a.2.2]
/-- numbers of at most k bits -/
def Bi (k : Nat) (i : Int) : Prop := i.natAbs < 2 ^ k
def B (k : Nat) (a : T3) : Prop := Bi k a.1 ∧ Bi k a.2.1 ∧ Bi k a.2.2
theorem Bi.mono {k m : Nat} {i : Int} (h : Bi k i) (hk : k ≤ m) : Bi m i := Nat.lt_of_lt_of_le h (Nat.pow_le_pow_right (by omega) hk)
theorem B.mono {k m : Nat} {a : T3} (h : B k a) (hk : k ≤ m) : B m a := ⟨h.1.mono hk, h.2.1.mono hk, h.2.2.mono hk⟩
theorem Bi.mul {k m : Nat} {i j : Int} (h : Bi k i) (g : Bi m j) : Bi (k + m) (i * j) := by
  unfold Bi at *
  rw [Int.natAbs_mul, Nat.pow_add]
  exact Nat.mul_lt_mul'' h g
theorem Bi.add {k : Nat} {i j : Int} (h : Bi k i) (g : Bi k j) : Bi (k + 1) (i + j) := by
  unfold Bi at *
  rw [Nat.pow_succ]
  omega
theorem Bi.sub {k : Nat} {i j : Int} (h : Bi k i) (g : Bi k j) : Bi (k + 1) (i - j) := by
  unfold Bi at *
  rw [Nat.pow_succ]
  omega
theorem Bi.neg {k : Nat} {i : Int} (h : Bi k i) : Bi k (-i) := by
  unfold Bi at *
  omega
theorem Bi.zero {k : Nat} : Bi k 0 := Nat.two_pow_pos k
theorem oMul_b {k m : Nat} {i j : Int} (h : Bi k i) (g : Bi m j) (hk : k ≤ 8000) (hm : m ≤ 8000) : oMul (.int i) (.int j) = M.pure (.int (i * j)) := by
  have h1 : i.natAbs < 2 ^ 8000 := h.mono hk
  have h2 : j.natAbs < 2 ^ 8000 := g.mono hm
  have e : mulOk i j = true := by
    unfold mulOk
    rw [decide_eq_true h1, decide_eq_true h2]
    simp
  show (if mulOk i j = true then M.pure (D.int (i * j)) else stk) = _
  rw [if_pos e]
def cross (a b : T3) : T3 := (a.2.1 * b.2.2 - a.2.2 * b.2.1, a.2.2 * b.1 - a.1 * b.2.2, a.1 * b.2.1 - a.2.1 * b.1)
def dot (a b : T3) : Int := a.1 * b.1 + (a.2.1 * b.2.1 + (a.2.2 * b.2.2 + 0))
theorem B.cross {k m : Nat} {a b : T3} (h : B k a) (g : B m b) : B (k + m + 1) (cross a b) :=
  ⟨(h.2.1.mul g.2.2).sub (h.2.2.mul g.2.1), (h.2.2.mul g.1).sub (h.1.mul g.2.2), (h.1.mul g.2.1).sub (h.2.1.mul g.1)⟩
theorem B.dot {k m : Nat} {a b : T3} (h : B k a) (g : B m b) : Bi (k + m + 2) (dot a b) := by
  have h1 := h.1.mul g.1
  have h2 := h.2.1.mul g.2.1
  have h3 := h.2.2.mul g.2.2
  unfold Bi Lw.dot at *
  rw [Nat.pow_succ, Nat.pow_succ]
  omega
theorem f_cross_eq {k m : Nat} {a b : T3} (h : B k a) (g : B m b) (hk : k ≤ 8000) (hm : m ≤ 8000) : f_cross [tD a, tD b] = M.pure (tD (cross a b)) := by
  obtain ⟨h1, h2, h3⟩ := h
  obtain ⟨g1, g2, g3⟩ := g
  simp only [f_cross, d_cross, tD, atI0, atI1, atI2, oMul_b h1 g2 hk hm, oMul_b h1 g3 hk hm, oMul_b h2 g1 hk hm, oMul_b h2 g3 hk hm, oMul_b h3 g1 hk hm, oMul_b h3 g2 hk hm, bind_pure, lift_some, noX_pure, runDef, sNext, sSeq, sExpr, sRet, sRetN, sIf, sAsg, sPar2, sPar3, sAug, sOwn, noObj, sAppend, sFreeze, endOf, dVar, bVar, dC, dUn, dBin, dNil, dCons, dTup, dLst, dCall, asB, tVal, tAndD, tOrD, tNotD, dOfT, dIf, dAndV, dOrV, dNotV, oAdd, oAddI, oSub, oMod, oNeg, oLt, oLe, oGt, oGe, oIsNone, oNotNone, oIsN2, oNotN2, oAll, oAny, oSum, oLen, oTuple, oList, oAbs, oInt, oIx, asBs, asIs, wipeE, itemsOf, iVal, lcLoop, lcTurn, dLc, tYesD, gSet, gAll, gTupD, zipD, Sk.iZip, List.zip_cons_cons, List.zip_nil_right, List.zip_nil_left, List.map_cons, List.map_nil, List.length_cons, List.length_nil, List.replicate_succ, List.replicate_zero, List.cons_append, List.nil_append, List.append_nil, List.getElem?_cons_zero, List.getElem?_cons_succ, List.set_cons_zero, List.set_cons_succ, Option.map_some, Option.bind_some, Nat.reduceAdd, Nat.reduceSub, Nat.reduceLeDiff, ite_true, ite_false, Bool.false_eq_true, Bool.not_true, Bool.not_false, if_true, if_false, reduceIte, reduceCtorEq, List.sum_cons, List.sum_nil, List.all_cons, List.all_nil, List.any_cons, List.any_nil, id_eq, Bool.and_true, Bool.true_and, Bool.or_false, Bool.false_or, Bool.and_self, Bool.false_and, Bool.and_false, Bool.true_or, Bool.or_true, Int.cast_ofNat_Int, beq_self_eq_true, Int.reduceBEq, Int.reduceLT, Int.reduceLE, decide_true, decide_false]
  rfl
theorem f_dot_eq {k m : Nat} {a b : T3} (h : B k a) (g : B m b) (hk : k ≤ 8000) (hm : m ≤ 8000) : f_dot [tD a, tD b] = M.pure (.int (dot a b)) := by
  obtain ⟨h1, h2, h3⟩ := h
  obtain ⟨g1, g2, g3⟩ := g
  simp only [f_dot, d_dot, tD, oMul_b h1 g1 hk hm, oMul_b h2 g2 hk hm, oMul_b h3 g3 hk hm, bind_pure, lift_some, noX_pure, runDef, sNext, sSeq, sExpr, sRet, sRetN, sIf, sAsg, sPar2, sPar3, sAug, sOwn, noObj, sAppend, sFreeze, endOf, dVar, bVar, dC, dUn, dBin, dNil, dCons, dTup, dLst, dCall, asB, tVal, tAndD, tOrD, tNotD, dOfT, dIf, dAndV, dOrV, dNotV, oAdd, oAddI, oSub, oMod, oNeg, oLt, oLe, oGt, oGe, oIsNone, oNotNone, oIsN2, oNotN2, oAll, oAny, oSum, oLen, oTuple, oList, oAbs, oInt, oIx, asBs, asIs, wipeE, itemsOf, iVal, lcLoop, lcTurn, dLc, tYesD, gSet, gAll, gTupD, zipD, Sk.iZip, List.zip_cons_cons, List.zip_nil_right, List.zip_nil_left, List.map_cons, List.map_nil, List.length_cons, List.length_nil, List.replicate_succ, List.replicate_zero, List.cons_append, List.nil_append, List.append_nil, List.getElem?_cons_zero, List.getElem?_cons_succ, List.set_cons_zero, List.set_cons_succ, Option.map_some, Option.bind_some, Nat.reduceAdd, Nat.reduceSub, Nat.reduceLeDiff, ite_true, ite_false, Bool.false_eq_true, Bool.not_true, Bool.not_false, if_true, if_false, reduceIte, reduceCtorEq, List.sum_cons, List.sum_nil, List.all_cons, List.all_nil, List.any_cons, List.any_nil, id_eq, Bool.and_true, Bool.true_and, Bool.or_false, Bool.false_or, Bool.and_self, Bool.false_and, Bool.and_false, Bool.true_or, Bool.or_true, Int.cast_ofNat_Int, beq_self_eq_true, Int.reduceBEq, Int.reduceLT, Int.reduceLE, decide_true, decide_false]
  rfl
/-! ### kinds, equality -/
theorem isB_ii (i : Int) : oIsB "int" (.int i) = M.pure (.bl true) := by
  have e : kitB "int" "int" = some true := by decide +kernel
  simp only [oIsB, tyN, e, bind_pure, lift_some]
theorem isB_bi (i : Int) : oIsB "bool" (.int i) = M.pure (.bl false) := by
  have e : kitB "int" "bool" = some false := by decide +kernel
  simp only [oIsB, tyN, e, bind_pure, lift_some]
theorem isB_tt (xs : List D) : oIsB "tuple" (.tup xs) = M.pure (.bl true) := by
  have e : kitB "tuple" "tuple" = some true := by decide +kernel
  simp only [oIsB, tyN, e, bind_pure, lift_some]
theorem oEq_int (i j : Int) : oEq (.int i) (.int j) = M.pure (.bl (i == j)) := rfl
theorem oNe_int (i j : Int) : oNe (.int i) (.int j) = M.pure (.bl (!(i == j))) := rfl
theorem t3_beq (a b : T3) : (a.1 == b.1 && (a.2.1 == b.2.1 && (a.2.2 == b.2.2 && true))) = decide (a = b) := by
  obtain ⟨a1, a2, a3⟩ := a
  obtain ⟨b1, b2, b3⟩ := b
  by_cases h1 : a1 = b1 <;> by_cases h2 : a2 = b2 <;> by_cases h3 : a3 = b3 <;> simp [h1, h2, h3]
theorem oEq_t3 (a b : T3) : oEq (tD a) (tD b) = M.pure (.bl (decide (a = b))) := by
  rw [← t3_beq]
  rfl
theorem oNe_t3 (a b : T3) : oNe (tD a) (tD b) = M.pure (.bl (!decide (a = b))) := by
  rw [← t3_beq]
  rfl
abbrev z3 : T3 := (0, 0, 0)
theorem f_is_integer_eq (i : Int) : f_is_integer [.int i] = M.pure (.bl true) := by
  simp only [f_is_integer, d_is_integer, isB_ii, isB_bi, bind_pure, lift_some, noX_pure, runDef, sNext, sSeq, sExpr, sRet, sRetN, sIf, sAsg, sPar2, sPar3, sAug, sOwn, noObj, sAppend, sFreeze, endOf, dVar, bVar, dC, dUn, dBin, dNil, dCons, dTup, dLst, dCall, asB, tVal, tAndD, tOrD, tNotD, dOfT, dIf, dAndV, dOrV, dNotV, oAdd, oAddI, oSub, oMod, oNeg, oLt, oLe, oGt, oGe, oIsNone, oNotNone, oIsN2, oNotN2, oAll, oAny, oSum, oLen, oTuple, oList, oAbs, oInt, oIx, asBs, asIs, wipeE, itemsOf, iVal, lcLoop, lcTurn, dLc, tYesD, gSet, gAll, gTupD, zipD, Sk.iZip, List.zip_cons_cons, List.zip_nil_right, List.zip_nil_left, List.map_cons, List.map_nil, List.length_cons, List.length_nil, List.replicate_succ, List.replicate_zero, List.cons_append, List.nil_append, List.append_nil, List.getElem?_cons_zero, List.getElem?_cons_succ, List.set_cons_zero, List.set_cons_succ, Option.map_some, Option.bind_some, Nat.reduceAdd, Nat.reduceSub, Nat.reduceLeDiff, ite_true, ite_false, Bool.false_eq_true, Bool.not_true, Bool.not_false, if_true, if_false, reduceIte, reduceCtorEq, List.sum_cons, List.sum_nil, List.all_cons, List.all_nil, List.any_cons, List.any_nil, id_eq, Bool.and_true, Bool.true_and, Bool.or_false, Bool.false_or, Bool.and_self, Bool.false_and, Bool.and_false, Bool.true_or, Bool.or_true, Int.cast_ofNat_Int, beq_self_eq_true, Int.reduceBEq, Int.reduceLT, Int.reduceLE, decide_true, decide_false]
theorem f_is_triple_eq (a : T3) : f_is_triple [tD a] = M.pure (.bl (!decide (a = z3))) := by
  have e : oNe (.tup [.int a.1, .int a.2.1, .int a.2.2]) (.tup [.int 0, .int 0, .int 0]) = M.pure (.bl (!decide (a = z3))) := oNe_t3 a z3
  simp only [f_is_triple, d_is_triple, tD, isB_tt, f_is_integer_eq, oNe_int, e, bind_pure, lift_some, noX_pure, runDef, sNext, sSeq, sExpr, sRet, sRetN, sIf, sAsg, sPar2, sPar3, sAug, sOwn, noObj, sAppend, sFreeze, endOf, dVar, bVar, dC, dUn, dBin, dNil, dCons, dTup, dLst, dCall, asB, tVal, tAndD, tOrD, tNotD, dOfT, dIf, dAndV, dOrV, dNotV, oAdd, oAddI, oSub, oMod, oNeg, oLt, oLe, oGt, oGe, oIsNone, oNotNone, oIsN2, oNotN2, oAll, oAny, oSum, oLen, oTuple, oList, oAbs, oInt, oIx, asBs, asIs, wipeE, itemsOf, iVal, lcLoop, lcTurn, dLc, tYesD, gSet, gAll, gTupD, zipD, Sk.iZip, List.zip_cons_cons, List.zip_nil_right, List.zip_nil_left, List.map_cons, List.map_nil, List.length_cons, List.length_nil, List.replicate_succ, List.replicate_zero, List.cons_append, List.nil_append, List.append_nil, List.getElem?_cons_zero, List.getElem?_cons_succ, List.set_cons_zero, List.set_cons_succ, Option.map_some, Option.bind_some, Nat.reduceAdd, Nat.reduceSub, Nat.reduceLeDiff, ite_true, ite_false, Bool.false_eq_true, Bool.not_true, Bool.not_false, if_true, if_false, reduceIte, reduceCtorEq, List.sum_cons, List.sum_nil, List.all_cons, List.all_nil, List.any_cons, List.any_nil, id_eq, Bool.and_true, Bool.true_and, Bool.or_false, Bool.false_or, Bool.and_self, Bool.false_and, Bool.and_false, Bool.true_or, Bool.or_true, Int.cast_ofNat_Int, beq_self_eq_true, Int.reduceBEq, Int.reduceLT, Int.reduceLE, decide_true, decide_false]
theorem f_check_triple_eq (s : Str) {a : T3} (h : a ≠ z3) : f_check_triple [.str s, tD a] = M.pure .non := by
  have e : f_is_triple [.tup [.int a.1, .int a.2.1, .int a.2.2]] = M.pure (.bl (!decide (a = z3))) := f_is_triple_eq a
  rw [decide_eq_false h] at e
  simp only [f_check_triple, d_check_triple, tD, e, bind_pure, lift_some, noX_pure, runDef, sNext, sSeq, sExpr, sRet, sRetN, sIf, sAsg, sPar2, sPar3, sAug, sOwn, noObj, sAppend, sFreeze, endOf, dVar, bVar, dC, dUn, dBin, dNil, dCons, dTup, dLst, dCall, asB, tVal, tAndD, tOrD, tNotD, dOfT, dIf, dAndV, dOrV, dNotV, oAdd, oAddI, oSub, oMod, oNeg, oLt, oLe, oGt, oGe, oIsNone, oNotNone, oIsN2, oNotN2, oAll, oAny, oSum, oLen, oTuple, oList, oAbs, oInt, oIx, asBs, asIs, wipeE, itemsOf, iVal, lcLoop, lcTurn, dLc, tYesD, gSet, gAll, gTupD, zipD, Sk.iZip, List.zip_cons_cons, List.zip_nil_right, List.zip_nil_left, List.map_cons, List.map_nil, List.length_cons, List.length_nil, List.replicate_succ, List.replicate_zero, List.cons_append, List.nil_append, List.append_nil, List.getElem?_cons_zero, List.getElem?_cons_succ, List.set_cons_zero, List.set_cons_succ, Option.map_some, Option.bind_some, Nat.reduceAdd, Nat.reduceSub, Nat.reduceLeDiff, ite_true, ite_false, Bool.false_eq_true, Bool.not_true, Bool.not_false, if_true, if_false, reduceIte, reduceCtorEq, List.sum_cons, List.sum_nil, List.all_cons, List.all_nil, List.any_cons, List.any_nil, id_eq, Bool.and_true, Bool.true_and, Bool.or_false, Bool.false_or, Bool.and_self, Bool.false_and, Bool.and_false, Bool.true_or, Bool.or_true, Int.cast_ofNat_Int, beq_self_eq_true, Int.reduceBEq, Int.reduceLT, Int.reduceLE, decide_true, decide_false]
theorem while_succ (t : DB) (b : DS) (n : Nat) (env : Sk.Env) : whileLoop t b (n + 1) env = M.bind (t env) fun c => if c = true then M.bind (b env) fun fl => (match fl with
      | .next e => whileLoop t b n e
      | .cont e => whileLoop t b n e
      | .brk e => M.pure (.next e)
      | .ret d => M.pure (.ret d)) else M.pure (.next env) := rfl
/-! ### common divisors -/
theorem common_loop : ∀ (n f m k : Nat), n + 1 ≤ f → k ≤ m → m * k < 2 ^ n →
    whileLoop (tVal (dBin oGt (dVar 1) (dC (.int 0)))) (sPar2 0 1 (dVar 1) (dBin oMod (dVar 0) (dVar 1))) f [.shr (.int m), .shr (.int k)] = M.pure (.next [.shr (.int (Nat.gcd m k)), .shr (.int 0)]) := by
  intro n
  induction n with
  | zero =>
    intro f m k hf hk h
    obtain ⟨f, rfl⟩ : ∃ g, f = g + 1 := ⟨f - 1, by omega⟩
    have hk0 : k = 0 := by
      rcases Nat.eq_zero_or_pos k with z | z
      · exact z
      · have : 1 ≤ m * k := Nat.mul_pos (by omega) z
        omega
    subst hk0
    have e : decide ((0 : Int) < ((0 : Nat) : Int)) = false := rfl
    simp only [whileLoop, e, bind_pure, lift_some, noX_pure, runDef, sNext, sSeq, sExpr, sRet, sRetN, sIf, sAsg, sPar2, sPar3, sAug, sOwn, noObj, sAppend, sFreeze, endOf, dVar, bVar, dC, dUn, dBin, dNil, dCons, dTup, dLst, dCall, asB, tVal, tAndD, tOrD, tNotD, dOfT, dIf, dAndV, dOrV, dNotV, oAdd, oAddI, oSub, oMod, oNeg, oLt, oLe, oGt, oGe, oIsNone, oNotNone, oIsN2, oNotN2, oAll, oAny, oSum, oLen, oTuple, oList, oAbs, oInt, oIx, asBs, asIs, wipeE, itemsOf, iVal, lcLoop, lcTurn, dLc, tYesD, gSet, gAll, gTupD, zipD, Sk.iZip, List.zip_cons_cons, List.zip_nil_right, List.zip_nil_left, List.map_cons, List.map_nil, List.length_cons, List.length_nil, List.replicate_succ, List.replicate_zero, List.cons_append, List.nil_append, List.append_nil, List.getElem?_cons_zero, List.getElem?_cons_succ, List.set_cons_zero, List.set_cons_succ, Option.map_some, Option.bind_some, Nat.reduceAdd, Nat.reduceSub, Nat.reduceLeDiff, ite_true, ite_false, Bool.false_eq_true, Bool.not_true, Bool.not_false, if_true, if_false, reduceIte, reduceCtorEq, List.sum_cons, List.sum_nil, List.all_cons, List.all_nil, List.any_cons, List.any_nil, id_eq, Bool.and_true, Bool.true_and, Bool.or_false, Bool.false_or, Bool.and_self, Bool.false_and, Bool.and_false, Bool.true_or, Bool.or_true, Int.cast_ofNat_Int, beq_self_eq_true, Int.reduceBEq, Int.reduceLT, Int.reduceLE, decide_true, decide_false, Nat.gcd_zero_right]
  | succ n ih =>
    intro f m k hf hk h
    obtain ⟨f, rfl⟩ : ∃ g, f = g + 1 := ⟨f - 1, by omega⟩
    rcases Nat.eq_zero_or_pos k with z | z
    · subst z
      have e : decide ((0 : Int) < ((0 : Nat) : Int)) = false := rfl
      simp only [whileLoop, e, bind_pure, lift_some, noX_pure, runDef, sNext, sSeq, sExpr, sRet, sRetN, sIf, sAsg, sPar2, sPar3, sAug, sOwn, noObj, sAppend, sFreeze, endOf, dVar, bVar, dC, dUn, dBin, dNil, dCons, dTup, dLst, dCall, asB, tVal, tAndD, tOrD, tNotD, dOfT, dIf, dAndV, dOrV, dNotV, oAdd, oAddI, oSub, oMod, oNeg, oLt, oLe, oGt, oGe, oIsNone, oNotNone, oIsN2, oNotN2, oAll, oAny, oSum, oLen, oTuple, oList, oAbs, oInt, oIx, asBs, asIs, wipeE, itemsOf, iVal, lcLoop, lcTurn, dLc, tYesD, gSet, gAll, gTupD, zipD, Sk.iZip, List.zip_cons_cons, List.zip_nil_right, List.zip_nil_left, List.map_cons, List.map_nil, List.length_cons, List.length_nil, List.replicate_succ, List.replicate_zero, List.cons_append, List.nil_append, List.append_nil, List.getElem?_cons_zero, List.getElem?_cons_succ, List.set_cons_zero, List.set_cons_succ, Option.map_some, Option.bind_some, Nat.reduceAdd, Nat.reduceSub, Nat.reduceLeDiff, ite_true, ite_false, Bool.false_eq_true, Bool.not_true, Bool.not_false, if_true, if_false, reduceIte, reduceCtorEq, List.sum_cons, List.sum_nil, List.all_cons, List.all_nil, List.any_cons, List.any_nil, id_eq, Bool.and_true, Bool.true_and, Bool.or_false, Bool.false_or, Bool.and_self, Bool.false_and, Bool.and_false, Bool.true_or, Bool.or_true, Int.cast_ofNat_Int, beq_self_eq_true, Int.reduceBEq, Int.reduceLT, Int.reduceLE, decide_true, decide_false, Nat.gcd_zero_right]
    · have e : decide ((0 : Int) < (k : Int)) = true := decide_eq_true (by omega)
      have hr : m % k < k := Nat.mod_lt _ z
      have h2 : 2 * (m % k) ≤ m := by
        have := Nat.div_add_mod m k
        have h1 : 1 ≤ m / k := Nat.div_pos hk z
        have : k * 1 ≤ k * (m / k) := Nat.mul_le_mul_left k h1
        omega
      have h3 : k * (m % k) < 2 ^ n := by
        have a1 : k * (2 * (m % k)) ≤ k * m := Nat.mul_le_mul_left k h2
        have a2 : k * (2 * (m % k)) = 2 * (k * (m % k)) := by rw [Nat.mul_left_comm]
        have a3 : k * m = m * k := Nat.mul_comm k m
        have a4 : 2 ^ (n + 1) = 2 * 2 ^ n := by rw [Nat.pow_succ, Nat.mul_comm]
        omega
      have i := ih f k (m % k) (by omega) (by omega) h3
      have em : ((m : Int) % (k : Int)) = ((m % k : Nat) : Int) := rfl
      simp only [whileLoop, e, em, bind_pure, lift_some, noX_pure, runDef, sNext, sSeq, sExpr, sRet, sRetN, sIf, sAsg, sPar2, sPar3, sAug, sOwn, noObj, sAppend, sFreeze, endOf, dVar, bVar, dC, dUn, dBin, dNil, dCons, dTup, dLst, dCall, asB, tVal, tAndD, tOrD, tNotD, dOfT, dIf, dAndV, dOrV, dNotV, oAdd, oAddI, oSub, oMod, oNeg, oLt, oLe, oGt, oGe, oIsNone, oNotNone, oIsN2, oNotN2, oAll, oAny, oSum, oLen, oTuple, oList, oAbs, oInt, oIx, asBs, asIs, wipeE, itemsOf, iVal, lcLoop, lcTurn, dLc, tYesD, gSet, gAll, gTupD, zipD, Sk.iZip, List.zip_cons_cons, List.zip_nil_right, List.zip_nil_left, List.map_cons, List.map_nil, List.length_cons, List.length_nil, List.replicate_succ, List.replicate_zero, List.cons_append, List.nil_append, List.append_nil, List.getElem?_cons_zero, List.getElem?_cons_succ, List.set_cons_zero, List.set_cons_succ, Option.map_some, Option.bind_some, Nat.reduceAdd, Nat.reduceSub, Nat.reduceLeDiff, ite_true, ite_false, Bool.false_eq_true, Bool.not_true, Bool.not_false, if_true, if_false, reduceIte, reduceCtorEq, List.sum_cons, List.sum_nil, List.all_cons, List.all_nil, List.any_cons, List.any_nil, id_eq, Bool.and_true, Bool.true_and, Bool.or_false, Bool.false_or, Bool.and_self, Bool.false_and, Bool.and_false, Bool.true_or, Bool.or_true, Int.cast_ofNat_Int, beq_self_eq_true, Int.reduceBEq, Int.reduceLT, Int.reduceLE, decide_true, decide_false, i]
      rw [Nat.gcd_comm m k, Nat.gcd_rec k m, Nat.gcd_comm]
theorem natAbs_ite (i : Int) : (if i < 0 then -i else i) = (i.natAbs : Int) := by
  split <;> omega
theorem f_common_eq {a b : Int} (ha : a.natAbs < 2 ^ 20000) (hb : b.natAbs < 2 ^ 20000) : f_common [.int a, .int b] = M.pure (.int (Int.gcd a b)) := by
  have hp : a.natAbs * b.natAbs < 2 ^ 40000 := by
    have := Nat.mul_lt_mul'' ha hb
    rwa [← Nat.pow_add] at this
  have key : whileLoop (tVal (dBin oGt (dVar 1) (dC (.int 0)))) (sPar2 0 1 (dVar 1) (dBin oMod (dVar 0) (dVar 1))) 100000 [.shr (.int a.natAbs), .shr (.int b.natAbs)] = M.pure (.next [.shr (.int (Nat.gcd a.natAbs b.natAbs)), .shr (.int 0)]) := by
    rcases Nat.le_total b.natAbs a.natAbs with h | h
    · exact common_loop 40000 100000 _ _ (by omega) h hp
    · rcases Nat.eq_zero_or_pos b.natAbs with z | z
      · rw [z] at h ⊢
        have : a.natAbs = 0 := by omega
        rw [this]
        exact common_loop 0 100000 0 0 (by omega) (by omega) (by decide)
      · have e : decide ((0 : Int) < (b.natAbs : Int)) = true := decide_eq_true (by omega)
        have em : ((a.natAbs : Int) % (b.natAbs : Int)) = ((a.natAbs % b.natAbs : Nat) : Int) := rfl
        have hlt : a.natAbs % b.natAbs < b.natAbs := Nat.mod_lt _ z
        have hle : a.natAbs % b.natAbs ≤ a.natAbs := Nat.mod_le _ _
        have i := common_loop 40000 99999 b.natAbs (a.natAbs % b.natAbs) (by omega) (by omega) (by
          have h1 : b.natAbs * (a.natAbs % b.natAbs) ≤ b.natAbs * a.natAbs := Nat.mul_le_mul_left _ hle
          have h2 : b.natAbs * a.natAbs = a.natAbs * b.natAbs := Nat.mul_comm _ _
          omega)
        rw [show (100000 : Nat) = 99999 + 1 from rfl, while_succ]
        generalize 99999 = f at *
        simp only [e, em, bind_pure, lift_some, noX_pure, runDef, sNext, sSeq, sExpr, sRet, sRetN, sIf, sAsg, sPar2, sPar3, sAug, sOwn, noObj, sAppend, sFreeze, endOf, dVar, bVar, dC, dUn, dBin, dNil, dCons, dTup, dLst, dCall, asB, tVal, tAndD, tOrD, tNotD, dOfT, dIf, dAndV, dOrV, dNotV, oAdd, oAddI, oSub, oMod, oNeg, oLt, oLe, oGt, oGe, oIsNone, oNotNone, oIsN2, oNotN2, oAll, oAny, oSum, oLen, oTuple, oList, oAbs, oInt, oIx, asBs, asIs, wipeE, itemsOf, iVal, lcLoop, lcTurn, dLc, tYesD, gSet, gAll, gTupD, zipD, Sk.iZip, List.zip_cons_cons, List.zip_nil_right, List.zip_nil_left, List.map_cons, List.map_nil, List.length_cons, List.length_nil, List.replicate_succ, List.replicate_zero, List.cons_append, List.nil_append, List.append_nil, List.getElem?_cons_zero, List.getElem?_cons_succ, List.set_cons_zero, List.set_cons_succ, Option.map_some, Option.bind_some, Nat.reduceAdd, Nat.reduceSub, Nat.reduceLeDiff, ite_true, ite_false, Bool.false_eq_true, Bool.not_true, Bool.not_false, if_true, if_false, reduceIte, reduceCtorEq, List.sum_cons, List.sum_nil, List.all_cons, List.all_nil, List.any_cons, List.any_nil, id_eq, Bool.and_true, Bool.true_and, Bool.or_false, Bool.false_or, Bool.and_self, Bool.false_and, Bool.and_false, Bool.true_or, Bool.or_true, Int.cast_ofNat_Int, beq_self_eq_true, Int.reduceBEq, Int.reduceLT, Int.reduceLE, decide_true, decide_false, i]
        rw [Nat.gcd_comm a.natAbs b.natAbs, Nat.gcd_rec b.natAbs a.natAbs, Nat.gcd_comm]
  simp only [f_common, d_common, sWhile, natAbs_ite, bind_pure, lift_some, noX_pure, runDef, sNext, sSeq, sExpr, sRet, sRetN, sIf, sAsg, sPar2, sPar3, sAug, sOwn, noObj, sAppend, sFreeze, endOf, dVar, bVar, dC, dUn, dBin, dNil, dCons, dTup, dLst, dCall, asB, tVal, tAndD, tOrD, tNotD, dOfT, dIf, dAndV, dOrV, dNotV, oAdd, oAddI, oSub, oMod, oNeg, oLt, oLe, oGt, oGe, oIsNone, oNotNone, oIsN2, oNotN2, oAll, oAny, oSum, oLen, oTuple, oList, oAbs, oInt, oIx, asBs, asIs, wipeE, itemsOf, iVal, lcLoop, lcTurn, dLc, tYesD, gSet, gAll, gTupD, zipD, Sk.iZip, List.zip_cons_cons, List.zip_nil_right, List.zip_nil_left, List.map_cons, List.map_nil, List.length_cons, List.length_nil, List.replicate_succ, List.replicate_zero, List.cons_append, List.nil_append, List.append_nil, List.getElem?_cons_zero, List.getElem?_cons_succ, List.set_cons_zero, List.set_cons_succ, Option.map_some, Option.bind_some, Nat.reduceAdd, Nat.reduceSub, Nat.reduceLeDiff, ite_true, ite_false, Bool.false_eq_true, Bool.not_true, Bool.not_false, if_true, if_false, reduceIte, reduceCtorEq, List.sum_cons, List.sum_nil, List.all_cons, List.all_nil, List.any_cons, List.any_nil, id_eq, Bool.and_true, Bool.true_and, Bool.or_false, Bool.false_or, Bool.and_self, Bool.false_and, Bool.and_false, Bool.true_or, Bool.or_true, Int.cast_ofNat_Int, beq_self_eq_true, Int.reduceBEq, Int.reduceLT, Int.reduceLE, decide_true, decide_false, key]
  rfl

/-! ### roots -/
theorem sq_le {a b : Nat} (h : a ≤ b) : a * a ≤ b * b := Nat.mul_le_mul h h
theorem sq_lt {a b : Nat} (h : a * a < b * b) : a < b := by
  rcases Nat.lt_or_ge a b with z | z
  · exact z
  · have := sq_le z
    omega
theorem oMul_n {m k : Nat} (h : m < 2 ^ 8000) (h2 : k < 2 ^ 8000) : oMul (.int (m : Int)) (.int (k : Int)) = M.pure (.int ((m * k : Nat) : Int)) := by
  have e : mulOk (m : Int) (k : Int) = true := by
    unfold mulOk
    rw [Int.natAbs_natCast, Int.natAbs_natCast, decide_eq_true h, decide_eq_true h2]
    simp
  show (if mulOk (m : Int) (k : Int) = true then M.pure (D.int ((m : Int) * (k : Int))) else stk) = _
  rw [if_pos e]
  rfl
theorem root_up (N : Nat) (hN : N < 2 ^ 4000) : ∀ (n f h : Nat), n + 1 ≤ f → 1 ≤ h → h ≤ 2 * N + 1 → N < h * h * 4 ^ n →
    ∃ h', N < h' * h' ∧ h' ≤ 2 * N + 1 ∧ whileLoop (tVal (dBin oLe (dBin oMul (dVar 2) (dVar 2)) (dVar 0))) (sAug 2 oMul (dC (.int 2))) f [.shr (.int N), .shr (.int 0), .shr (.int h), .no] = M.pure (.next [.shr (.int N), .shr (.int 0), .shr (.int h'), .no]) := by
  have hb : 2 ^ 4000 * 4 ≤ 2 ^ 8000 := by decide +kernel
  intro n
  induction n with
  | zero =>
    intro f h hf h1 h2 hlt
    obtain ⟨f, rfl⟩ : ∃ g, f = g + 1 := ⟨f - 1, by omega⟩
    rw [Nat.pow_zero, Nat.mul_one] at hlt
    have hm : oMul (.int (h : Int)) (.int (h : Int)) = M.pure (.int ((h * h : Nat) : Int)) := oMul_n (by omega) (by omega)
    have e : decide (((h * h : Nat) : Int) ≤ (N : Int)) = false := decide_eq_false (by omega)
    refine ⟨h, hlt, h2, ?_⟩
    rw [while_succ]
    simp only [hm, e, bind_pure, lift_some, noX_pure, runDef, sNext, sSeq, sExpr, sRet, sRetN, sIf, sAsg, sPar2, sPar3, sAug, sOwn, noObj, sAppend, sFreeze, endOf, dVar, bVar, dC, dUn, dBin, dNil, dCons, dTup, dLst, dCall, asB, tVal, tAndD, tOrD, tNotD, dOfT, dIf, dAndV, dOrV, dNotV, oAdd, oAddI, oSub, oMod, oNeg, oLt, oLe, oGt, oGe, oIsNone, oNotNone, oIsN2, oNotN2, oAll, oAny, oSum, oLen, oTuple, oList, oAbs, oInt, oIx, asBs, asIs, wipeE, itemsOf, iVal, lcLoop, lcTurn, dLc, tYesD, gSet, gAll, gTupD, zipD, Sk.iZip, List.zip_cons_cons, List.zip_nil_right, List.zip_nil_left, List.map_cons, List.map_nil, List.length_cons, List.length_nil, List.replicate_succ, List.replicate_zero, List.cons_append, List.nil_append, List.append_nil, List.getElem?_cons_zero, List.getElem?_cons_succ, List.set_cons_zero, List.set_cons_succ, Option.map_some, Option.bind_some, Nat.reduceAdd, Nat.reduceSub, Nat.reduceLeDiff, ite_true, ite_false, Bool.false_eq_true, Bool.not_true, Bool.not_false, if_true, if_false, reduceIte, reduceCtorEq, List.sum_cons, List.sum_nil, List.all_cons, List.all_nil, List.any_cons, List.any_nil, id_eq, Bool.and_true, Bool.true_and, Bool.or_false, Bool.false_or, Bool.and_self, Bool.false_and, Bool.and_false, Bool.true_or, Bool.or_true, Int.cast_ofNat_Int, beq_self_eq_true, Int.reduceBEq, Int.reduceLT, Int.reduceLE, decide_true, decide_false]
  | succ n ih =>
    intro f h hf h1 h2 hlt
    obtain ⟨f, rfl⟩ : ∃ g, f = g + 1 := ⟨f - 1, by omega⟩
    have hm : oMul (.int (h : Int)) (.int (h : Int)) = M.pure (.int ((h * h : Nat) : Int)) := oMul_n (by omega) (by omega)
    rcases Nat.lt_or_ge N (h * h) with z | z
    · have e : decide (((h * h : Nat) : Int) ≤ (N : Int)) = false := decide_eq_false (by omega)
      refine ⟨h, z, h2, ?_⟩
      rw [while_succ]
      simp only [hm, e, bind_pure, lift_some, noX_pure, runDef, sNext, sSeq, sExpr, sRet, sRetN, sIf, sAsg, sPar2, sPar3, sAug, sOwn, noObj, sAppend, sFreeze, endOf, dVar, bVar, dC, dUn, dBin, dNil, dCons, dTup, dLst, dCall, asB, tVal, tAndD, tOrD, tNotD, dOfT, dIf, dAndV, dOrV, dNotV, oAdd, oAddI, oSub, oMod, oNeg, oLt, oLe, oGt, oGe, oIsNone, oNotNone, oIsN2, oNotN2, oAll, oAny, oSum, oLen, oTuple, oList, oAbs, oInt, oIx, asBs, asIs, wipeE, itemsOf, iVal, lcLoop, lcTurn, dLc, tYesD, gSet, gAll, gTupD, zipD, Sk.iZip, List.zip_cons_cons, List.zip_nil_right, List.zip_nil_left, List.map_cons, List.map_nil, List.length_cons, List.length_nil, List.replicate_succ, List.replicate_zero, List.cons_append, List.nil_append, List.append_nil, List.getElem?_cons_zero, List.getElem?_cons_succ, List.set_cons_zero, List.set_cons_succ, Option.map_some, Option.bind_some, Nat.reduceAdd, Nat.reduceSub, Nat.reduceLeDiff, ite_true, ite_false, Bool.false_eq_true, Bool.not_true, Bool.not_false, if_true, if_false, reduceIte, reduceCtorEq, List.sum_cons, List.sum_nil, List.all_cons, List.all_nil, List.any_cons, List.any_nil, id_eq, Bool.and_true, Bool.true_and, Bool.or_false, Bool.false_or, Bool.and_self, Bool.false_and, Bool.and_false, Bool.true_or, Bool.or_true, Int.cast_ofNat_Int, beq_self_eq_true, Int.reduceBEq, Int.reduceLT, Int.reduceLE, decide_true, decide_false]
    · have e : decide (((h * h : Nat) : Int) ≤ (N : Int)) = true := decide_eq_true (by omega)
      have hm2 : oMul (.int (h : Int)) (.int 2) = M.pure (.int ((h * 2 : Nat) : Int)) := oMul_n (k := 2) (by omega) (by decide +kernel)
      have hh : h * 1 ≤ h * h := Nat.mul_le_mul_left h h1
      obtain ⟨h', a1, a2, a3⟩ := ih f (h * 2) (by omega) (by omega) (by omega) (by
        have : h * 2 * (h * 2) * 4 ^ n = h * h * 4 ^ (n + 1) := by
          rw [Nat.pow_succ]
          have : h * 2 * (h * 2) = h * h * 4 := by
            rw [Nat.mul_mul_mul_comm]
          rw [this, Nat.mul_assoc, Nat.mul_comm 4]
        omega)
      refine ⟨h', a1, a2, ?_⟩
      rw [while_succ]
      simp only [hm, hm2, e, bind_pure, lift_some, noX_pure, runDef, sNext, sSeq, sExpr, sRet, sRetN, sIf, sAsg, sPar2, sPar3, sAug, sOwn, noObj, sAppend, sFreeze, endOf, dVar, bVar, dC, dUn, dBin, dNil, dCons, dTup, dLst, dCall, asB, tVal, tAndD, tOrD, tNotD, dOfT, dIf, dAndV, dOrV, dNotV, oAdd, oAddI, oSub, oMod, oNeg, oLt, oLe, oGt, oGe, oIsNone, oNotNone, oIsN2, oNotN2, oAll, oAny, oSum, oLen, oTuple, oList, oAbs, oInt, oIx, asBs, asIs, wipeE, itemsOf, iVal, lcLoop, lcTurn, dLc, tYesD, gSet, gAll, gTupD, zipD, Sk.iZip, List.zip_cons_cons, List.zip_nil_right, List.zip_nil_left, List.map_cons, List.map_nil, List.length_cons, List.length_nil, List.replicate_succ, List.replicate_zero, List.cons_append, List.nil_append, List.append_nil, List.getElem?_cons_zero, List.getElem?_cons_succ, List.set_cons_zero, List.set_cons_succ, Option.map_some, Option.bind_some, Nat.reduceAdd, Nat.reduceSub, Nat.reduceLeDiff, ite_true, ite_false, Bool.false_eq_true, Bool.not_true, Bool.not_false, if_true, if_false, reduceIte, reduceCtorEq, List.sum_cons, List.sum_nil, List.all_cons, List.all_nil, List.any_cons, List.any_nil, id_eq, Bool.and_true, Bool.true_and, Bool.or_false, Bool.false_or, Bool.and_self, Bool.false_and, Bool.and_false, Bool.true_or, Bool.or_true, Int.cast_ofNat_Int, beq_self_eq_true, Int.reduceBEq, Int.reduceLT, Int.reduceLE, decide_true, decide_false, a3]
abbrev rootB : DS := sSeq (sAsg (dBin oDiv (dBin oAdd (dVar 1) (dVar 2)) (dC (.int 2))) (gSet 3)) (sIf (tVal (dBin oLt (dBin oMul (dVar 3) (dVar 3)) (dVar 0))) (sAsg (dBin oAdd (dVar 3) (dC (.int 1))) (gSet 1)) (sAsg (dVar 3) (gSet 2)))
theorem root_in (N : Nat) (hN : N < 2 ^ 4000) : ∀ (n f l h : Nat) (s : Slot), n + 1 ≤ f → l ≤ h → h ≤ 2 * N + 1 → (∀ x, x < l → x * x < N) → N ≤ h * h → h - l < 2 ^ n →
    ∃ (r : Nat) (s' : Slot), (∀ x, x < r → x * x < N) ∧ N ≤ r * r ∧ r ≤ 2 * N + 1 ∧ whileLoop (tVal (dBin oLt (dVar 1) (dVar 2))) rootB f [.shr (.int N), .shr (.int l), .shr (.int h), s] = M.pure (.next [.shr (.int N), .shr (.int r), .shr (.int r), s']) := by
  have hb : 2 ^ 4000 * 4 ≤ 2 ^ 8000 := by decide +kernel
  have hdiv : divOk 2 = true := by decide +kernel
  intro n
  induction n with
  | zero =>
    intro f l h s hf hl h2 hx hy hd
    obtain ⟨f, rfl⟩ : ∃ g, f = g + 1 := ⟨f - 1, by omega⟩
    have hlh : l = h := by omega
    subst hlh
    have e : decide ((l : Int) < (l : Int)) = false := decide_eq_false (by omega)
    refine ⟨l, s, hx, hy, h2, ?_⟩
    rw [while_succ]
    simp only [e, bind_pure, lift_some, noX_pure, runDef, sNext, sSeq, sExpr, sRet, sRetN, sIf, sAsg, sPar2, sPar3, sAug, sOwn, noObj, sAppend, sFreeze, endOf, dVar, bVar, dC, dUn, dBin, dNil, dCons, dTup, dLst, dCall, asB, tVal, tAndD, tOrD, tNotD, dOfT, dIf, dAndV, dOrV, dNotV, oAdd, oAddI, oSub, oMod, oNeg, oLt, oLe, oGt, oGe, oIsNone, oNotNone, oIsN2, oNotN2, oAll, oAny, oSum, oLen, oTuple, oList, oAbs, oInt, oIx, asBs, asIs, wipeE, itemsOf, iVal, lcLoop, lcTurn, dLc, tYesD, gSet, gAll, gTupD, zipD, Sk.iZip, List.zip_cons_cons, List.zip_nil_right, List.zip_nil_left, List.map_cons, List.map_nil, List.length_cons, List.length_nil, List.replicate_succ, List.replicate_zero, List.cons_append, List.nil_append, List.append_nil, List.getElem?_cons_zero, List.getElem?_cons_succ, List.set_cons_zero, List.set_cons_succ, Option.map_some, Option.bind_some, Nat.reduceAdd, Nat.reduceSub, Nat.reduceLeDiff, ite_true, ite_false, Bool.false_eq_true, Bool.not_true, Bool.not_false, if_true, if_false, reduceIte, reduceCtorEq, List.sum_cons, List.sum_nil, List.all_cons, List.all_nil, List.any_cons, List.any_nil, id_eq, Bool.and_true, Bool.true_and, Bool.or_false, Bool.false_or, Bool.and_self, Bool.false_and, Bool.and_false, Bool.true_or, Bool.or_true, Int.cast_ofNat_Int, beq_self_eq_true, Int.reduceBEq, Int.reduceLT, Int.reduceLE, decide_true, decide_false]
  | succ n ih =>
    intro f l h s hf hl h2 hx hy hd
    obtain ⟨f, rfl⟩ : ∃ g, f = g + 1 := ⟨f - 1, by omega⟩
    rcases Nat.lt_or_ge l h with z | z
    · have e : decide ((l : Int) < (h : Int)) = true := decide_eq_true (by omega)
      have em : ((l : Int) + (h : Int)) / 2 = (((l + h) / 2 : Nat) : Int) := by omega
      generalize hmid : (l + h) / 2 = m at em
      have hm : oMul (.int (m : Int)) (.int (m : Int)) = M.pure (.int ((m * m : Nat) : Int)) := oMul_n (by omega) (by omega)
      have hp : 2 ^ (n + 1) = 2 * 2 ^ n := by rw [Nat.pow_succ, Nat.mul_comm]
      rcases Nat.lt_or_ge (m * m) N with y | y
      · have e2 : decide (((m * m : Nat) : Int) < (N : Int)) = true := decide_eq_true (by omega)
        have ea : ((m : Int) + 1) = ((m + 1 : Nat) : Int) := by omega
        obtain ⟨r, s', a1, a2, a3, a4⟩ := ih f (m + 1) h (.shr (.int m)) (by omega) (by omega) h2 (fun x hx' => by
          have := sq_le (a := x) (b := m) (by omega)
          omega) hy (by omega)
        refine ⟨r, s', a1, a2, a3, ?_⟩
        rw [while_succ]
        simp only [rootB, oDiv, hdiv, e, e2, em, ea, hm, bind_pure, lift_some, noX_pure, runDef, sNext, sSeq, sExpr, sRet, sRetN, sIf, sAsg, sPar2, sPar3, sAug, sOwn, noObj, sAppend, sFreeze, endOf, dVar, bVar, dC, dUn, dBin, dNil, dCons, dTup, dLst, dCall, asB, tVal, tAndD, tOrD, tNotD, dOfT, dIf, dAndV, dOrV, dNotV, oAdd, oAddI, oSub, oMod, oNeg, oLt, oLe, oGt, oGe, oIsNone, oNotNone, oIsN2, oNotN2, oAll, oAny, oSum, oLen, oTuple, oList, oAbs, oInt, oIx, asBs, asIs, wipeE, itemsOf, iVal, lcLoop, lcTurn, dLc, tYesD, gSet, gAll, gTupD, zipD, Sk.iZip, List.zip_cons_cons, List.zip_nil_right, List.zip_nil_left, List.map_cons, List.map_nil, List.length_cons, List.length_nil, List.replicate_succ, List.replicate_zero, List.cons_append, List.nil_append, List.append_nil, List.getElem?_cons_zero, List.getElem?_cons_succ, List.set_cons_zero, List.set_cons_succ, Option.map_some, Option.bind_some, Nat.reduceAdd, Nat.reduceSub, Nat.reduceLeDiff, ite_true, ite_false, Bool.false_eq_true, Bool.not_true, Bool.not_false, if_true, if_false, reduceIte, reduceCtorEq, List.sum_cons, List.sum_nil, List.all_cons, List.all_nil, List.any_cons, List.any_nil, id_eq, Bool.and_true, Bool.true_and, Bool.or_false, Bool.false_or, Bool.and_self, Bool.false_and, Bool.and_false, Bool.true_or, Bool.or_true, Int.cast_ofNat_Int, beq_self_eq_true, Int.reduceBEq, Int.reduceLT, Int.reduceLE, decide_true, decide_false, a4]
      · have e2 : decide (((m * m : Nat) : Int) < (N : Int)) = false := decide_eq_false (by omega)
        obtain ⟨r, s', a1, a2, a3, a4⟩ := ih f l m (.shr (.int m)) (by omega) (by omega) (by omega) hx y (by omega)
        refine ⟨r, s', a1, a2, a3, ?_⟩
        rw [while_succ]
        simp only [rootB, oDiv, hdiv, e, e2, em, hm, bind_pure, lift_some, noX_pure, runDef, sNext, sSeq, sExpr, sRet, sRetN, sIf, sAsg, sPar2, sPar3, sAug, sOwn, noObj, sAppend, sFreeze, endOf, dVar, bVar, dC, dUn, dBin, dNil, dCons, dTup, dLst, dCall, asB, tVal, tAndD, tOrD, tNotD, dOfT, dIf, dAndV, dOrV, dNotV, oAdd, oAddI, oSub, oMod, oNeg, oLt, oLe, oGt, oGe, oIsNone, oNotNone, oIsN2, oNotN2, oAll, oAny, oSum, oLen, oTuple, oList, oAbs, oInt, oIx, asBs, asIs, wipeE, itemsOf, iVal, lcLoop, lcTurn, dLc, tYesD, gSet, gAll, gTupD, zipD, Sk.iZip, List.zip_cons_cons, List.zip_nil_right, List.zip_nil_left, List.map_cons, List.map_nil, List.length_cons, List.length_nil, List.replicate_succ, List.replicate_zero, List.cons_append, List.nil_append, List.append_nil, List.getElem?_cons_zero, List.getElem?_cons_succ, List.set_cons_zero, List.set_cons_succ, Option.map_some, Option.bind_some, Nat.reduceAdd, Nat.reduceSub, Nat.reduceLeDiff, ite_true, ite_false, Bool.false_eq_true, Bool.not_true, Bool.not_false, if_true, if_false, reduceIte, reduceCtorEq, List.sum_cons, List.sum_nil, List.all_cons, List.all_nil, List.any_cons, List.any_nil, id_eq, Bool.and_true, Bool.true_and, Bool.or_false, Bool.false_or, Bool.and_self, Bool.false_and, Bool.and_false, Bool.true_or, Bool.or_true, Int.cast_ofNat_Int, beq_self_eq_true, Int.reduceBEq, Int.reduceLT, Int.reduceLE, decide_true, decide_false, a4]
    · have hlh : l = h := by omega
      subst hlh
      have e : decide ((l : Int) < (l : Int)) = false := decide_eq_false (by omega)
      refine ⟨l, s, hx, hy, h2, ?_⟩
      rw [while_succ]
      simp only [e, bind_pure, lift_some, noX_pure, runDef, sNext, sSeq, sExpr, sRet, sRetN, sIf, sAsg, sPar2, sPar3, sAug, sOwn, noObj, sAppend, sFreeze, endOf, dVar, bVar, dC, dUn, dBin, dNil, dCons, dTup, dLst, dCall, asB, tVal, tAndD, tOrD, tNotD, dOfT, dIf, dAndV, dOrV, dNotV, oAdd, oAddI, oSub, oMod, oNeg, oLt, oLe, oGt, oGe, oIsNone, oNotNone, oIsN2, oNotN2, oAll, oAny, oSum, oLen, oTuple, oList, oAbs, oInt, oIx, asBs, asIs, wipeE, itemsOf, iVal, lcLoop, lcTurn, dLc, tYesD, gSet, gAll, gTupD, zipD, Sk.iZip, List.zip_cons_cons, List.zip_nil_right, List.zip_nil_left, List.map_cons, List.map_nil, List.length_cons, List.length_nil, List.replicate_succ, List.replicate_zero, List.cons_append, List.nil_append, List.append_nil, List.getElem?_cons_zero, List.getElem?_cons_succ, List.set_cons_zero, List.set_cons_succ, Option.map_some, Option.bind_some, Nat.reduceAdd, Nat.reduceSub, Nat.reduceLeDiff, ite_true, ite_false, Bool.false_eq_true, Bool.not_true, Bool.not_false, if_true, if_false, reduceIte, reduceCtorEq, List.sum_cons, List.sum_nil, List.all_cons, List.all_nil, List.any_cons, List.any_nil, id_eq, Bool.and_true, Bool.true_and, Bool.or_false, Bool.false_or, Bool.and_self, Bool.false_and, Bool.and_false, Bool.true_or, Bool.or_true, Int.cast_ofNat_Int, beq_self_eq_true, Int.reduceBEq, Int.reduceLT, Int.reduceLE, decide_true, decide_false]
/-- the whole root, none if there is none -/
def rootN (N : Nat) : Option Nat := (List.range (N + 1)).find? fun r => r * r == N
theorem rootN_some {N r : Nat} (h : rootN N = some r) : r * r = N := by
  have := List.find?_some h
  simpa using this
theorem rootN_of {N r : Nat} (h : r * r = N) : rootN N = some r := by
  cases e : rootN N with
  | none =>
    unfold rootN at e
    rw [List.find?_eq_none] at e
    have hr : r ≤ N := by
      rcases Nat.eq_zero_or_pos r with z | z
      · omega
      · have : r * 1 ≤ r * r := Nat.mul_le_mul_left r z
        omega
    have := e r (List.mem_range.mpr (by omega))
    simp [h] at this
  | some q =>
    have h2 := rootN_some e
    have : q = r := by
      rcases Nat.lt_trichotomy q r with z | z | z
      · have := Nat.mul_self_lt_mul_self z
        omega
      · exact z
      · have := Nat.mul_self_lt_mul_self z
        omega
    rw [this]
def optD : Option Nat → D
  | some r => .int r
  | none => .non
/-! ### lowest terms, ratios -/
theorem oDiv_g {i g : Int} (h : 0 < g) (hb : g.natAbs < 2 ^ 8000) : oDiv (.int i) (.int g) = M.pure (.int (i / g)) := by
  have e : divOk g = true := by
    unfold divOk
    rw [decide_eq_true h, decide_eq_true hb]
    rfl
  show (if divOk g = true then M.pure (D.int (i / g)) else stk) = _
  rw [if_pos e]
theorem gcd_pos {a b : Int} (h : a ≠ 0 ∨ b ≠ 0) : 0 < Int.gcd a b := by
  rcases Nat.eq_zero_or_pos (Int.gcd a b) with z | z
  · rw [Int.gcd_eq_zero_iff] at z
    omega
  · exact z
theorem gcd_le {a b : Int} (h : b ≠ 0) : Int.gcd a b ≤ b.natAbs := Nat.le_of_dvd (by omega) (Int.natAbs_dvd_natAbs.mpr (Int.gcd_dvd_right a b) |> fun z => by simpa using z)
def lowN (a b : Int) : Int × Int := (a / (Int.gcd a b : Int), b / (Int.gcd a b : Int))
def times (k : Int) (a : T3) : T3 := (k * a.1, k * a.2.1, k * a.2.2)
def plus (a b : T3) : T3 := (a.1 + b.1, a.2.1 + b.2.1, a.2.2 + b.2.2)
def neg (a : T3) : T3 := (-a.1, -a.2.1, -a.2.2)
def gcd3 (a : T3) : Int := (Int.gcd (Int.gcd a.1 a.2.1 : Int) a.2.2 : Int)
def least (a : T3) : T3 := (a.1 / gcd3 a, a.2.1 / gcd3 a, a.2.2 / gcd3 a)
def sq (a : T3) : Nat := a.1.natAbs * a.1.natAbs + (a.2.1.natAbs * a.2.1.natAbs + a.2.2.natAbs * a.2.2.natAbs)
theorem dot_self (a : T3) : dot a a = (sq a : Int) := by
  unfold dot sq
  rw [Int.natCast_add, Int.natCast_add, Int.natCast_mul, Int.natCast_mul, Int.natCast_mul, Int.natAbs_mul_self', Int.natAbs_mul_self', Int.natAbs_mul_self']
  omega
theorem gcd3_pos {a : T3} (h : a ≠ z3) : 0 < gcd3 a := by
  unfold gcd3
  have : 0 < Int.gcd (Int.gcd a.1 a.2.1 : Int) a.2.2 := by
    rcases Nat.eq_zero_or_pos (Int.gcd (Int.gcd a.1 a.2.1 : Int) a.2.2) with z | z
    · exfalso
      rw [Int.gcd_eq_zero_iff] at z
      have z1 : Int.gcd a.1 a.2.1 = 0 := by omega
      rw [Int.gcd_eq_zero_iff] at z1
      exact h (Prod.ext z1.1 (Prod.ext z1.2 z.2))
    · exact z
  omega
theorem gcd3_dvd (a : T3) : gcd3 a ∣ a.1 ∧ gcd3 a ∣ a.2.1 ∧ gcd3 a ∣ a.2.2 := by
  unfold gcd3
  have h1 : (Int.gcd (Int.gcd a.1 a.2.1 : Int) a.2.2 : Int) ∣ (Int.gcd a.1 a.2.1 : Int) := Int.gcd_dvd_left ..
  exact ⟨Int.dvd_trans h1 (Int.gcd_dvd_left ..), Int.dvd_trans h1 (Int.gcd_dvd_right ..), Int.gcd_dvd_right ..⟩
theorem natAbs_le_of_dvd {g a : Int} (h : g ∣ a) (ha : a ≠ 0) : g.natAbs ≤ a.natAbs := Nat.le_of_dvd (by omega) (Int.natAbs_dvd_natAbs.mpr h)
theorem gcd3_B {k : Nat} {a : T3} (h : B k a) (ha : a ≠ z3) : Bi k (gcd3 a) := by
  obtain ⟨d1, d2, d3⟩ := gcd3_dvd a
  obtain ⟨h1, h2, h3⟩ := h
  unfold Bi at *
  by_cases e1 : a.1 = 0
  · by_cases e2 : a.2.1 = 0
    · by_cases e3 : a.2.2 = 0
      · exact absurd (Prod.ext e1 (Prod.ext e2 e3)) ha
      · have := natAbs_le_of_dvd d3 e3
        omega
    · have := natAbs_le_of_dvd d2 e2
      omega
  · have := natAbs_le_of_dvd d1 e1
    omega
theorem Bi.gcd {k : Nat} {i j : Int} (h : Bi k i) (g : Bi k j) : Bi k (Int.gcd i j : Int) := by
  unfold Bi at *
  rw [Int.natAbs_natCast]
  by_cases e : i = 0
  · subst e
    rw [Int.gcd_zero_left]
    exact g
  · have := natAbs_le_of_dvd (Int.gcd_dvd_left i j) e
    rw [Int.natAbs_natCast] at this
    omega
theorem Bi.ediv {k : Nat} {i j : Int} (h : Bi k i) (hj : 0 < j) (d : j ∣ i) : Bi k (i / j) := by
  unfold Bi at *
  obtain ⟨q, rfl⟩ := d
  rw [Int.mul_ediv_cancel_left _ (by omega)]
  rw [Int.natAbs_mul] at h
  have : 1 * q.natAbs ≤ j.natAbs * q.natAbs := Nat.mul_le_mul_right _ (by omega)
  omega
theorem f_times_eq {k m : Nat} {c : Int} {a : T3} (hc : Bi k c) (h : B m a) (hk : k ≤ 8000) (hm : m ≤ 8000) : f_times [.int c, tD a] = M.pure (tD (times c a)) := by
  obtain ⟨h1, h2, h3⟩ := h
  simp only [f_times, d_times, tD, oMul_b hc h1 hk hm, oMul_b hc h2 hk hm, oMul_b hc h3 hk hm, bind_pure, lift_some, noX_pure, runDef, sNext, sSeq, sExpr, sRet, sRetN, sIf, sAsg, sPar2, sPar3, sAug, sOwn, noObj, sAppend, sFreeze, endOf, dVar, bVar, dC, dUn, dBin, dNil, dCons, dTup, dLst, dCall, asB, tVal, tAndD, tOrD, tNotD, dOfT, dIf, dAndV, dOrV, dNotV, oAdd, oAddI, oSub, oMod, oNeg, oLt, oLe, oGt, oGe, oIsNone, oNotNone, oIsN2, oNotN2, oAll, oAny, oSum, oLen, oTuple, oList, oAbs, oInt, oIx, asBs, asIs, wipeE, itemsOf, iVal, lcLoop, lcTurn, dLc, tYesD, gSet, gAll, gTupD, zipD, Sk.iZip, List.zip_cons_cons, List.zip_nil_right, List.zip_nil_left, List.map_cons, List.map_nil, List.length_cons, List.length_nil, List.replicate_succ, List.replicate_zero, List.cons_append, List.nil_append, List.append_nil, List.getElem?_cons_zero, List.getElem?_cons_succ, List.set_cons_zero, List.set_cons_succ, Option.map_some, Option.bind_some, Nat.reduceAdd, Nat.reduceSub, Nat.reduceLeDiff, ite_true, ite_false, Bool.false_eq_true, Bool.not_true, Bool.not_false, if_true, if_false, reduceIte, reduceCtorEq, List.sum_cons, List.sum_nil, List.all_cons, List.all_nil, List.any_cons, List.any_nil, id_eq, Bool.and_true, Bool.true_and, Bool.or_false, Bool.false_or, Bool.and_self, Bool.false_and, Bool.and_false, Bool.true_or, Bool.or_true, Int.cast_ofNat_Int, beq_self_eq_true, Int.reduceBEq, Int.reduceLT, Int.reduceLE, decide_true, decide_false, times]
theorem f_plus_eq {a b : T3} : f_plus [tD a, tD b] = M.pure (tD (plus a b)) := by
  simp only [f_plus, d_plus, tD, bind_pure, lift_some, noX_pure, runDef, sNext, sSeq, sExpr, sRet, sRetN, sIf, sAsg, sPar2, sPar3, sAug, sOwn, noObj, sAppend, sFreeze, endOf, dVar, bVar, dC, dUn, dBin, dNil, dCons, dTup, dLst, dCall, asB, tVal, tAndD, tOrD, tNotD, dOfT, dIf, dAndV, dOrV, dNotV, oAdd, oAddI, oSub, oMod, oNeg, oLt, oLe, oGt, oGe, oIsNone, oNotNone, oIsN2, oNotN2, oAll, oAny, oSum, oLen, oTuple, oList, oAbs, oInt, oIx, asBs, asIs, wipeE, itemsOf, iVal, lcLoop, lcTurn, dLc, tYesD, gSet, gAll, gTupD, zipD, Sk.iZip, List.zip_cons_cons, List.zip_nil_right, List.zip_nil_left, List.map_cons, List.map_nil, List.length_cons, List.length_nil, List.replicate_succ, List.replicate_zero, List.cons_append, List.nil_append, List.append_nil, List.getElem?_cons_zero, List.getElem?_cons_succ, List.set_cons_zero, List.set_cons_succ, Option.map_some, Option.bind_some, Nat.reduceAdd, Nat.reduceSub, Nat.reduceLeDiff, ite_true, ite_false, Bool.false_eq_true, Bool.not_true, Bool.not_false, if_true, if_false, reduceIte, reduceCtorEq, List.sum_cons, List.sum_nil, List.all_cons, List.all_nil, List.any_cons, List.any_nil, id_eq, Bool.and_true, Bool.true_and, Bool.or_false, Bool.false_or, Bool.and_self, Bool.false_and, Bool.and_false, Bool.true_or, Bool.or_true, Int.cast_ofNat_Int, beq_self_eq_true, Int.reduceBEq, Int.reduceLT, Int.reduceLE, decide_true, decide_false, plus]
def det (a b c : T3) : Int := dot (cross a b) c
theorem f_det_eq {k m n : Nat} {a b c : T3} (h : B k a) (g : B m b) (f : B n c) (hk : k + m + 1 ≤ 8000) (hn : n ≤ 8000) : f_det [tD a, tD b, tD c] = M.pure (.int (det a b c)) := by
  have e1 : f_cross [.tup [.int a.1, .int a.2.1, .int a.2.2], .tup [.int b.1, .int b.2.1, .int b.2.2]] = M.pure (tD (cross a b)) := f_cross_eq h g (by omega) (by omega)
  have e2 : f_dot [.tup [.int (cross a b).1, .int (cross a b).2.1, .int (cross a b).2.2], .tup [.int c.1, .int c.2.1, .int c.2.2]] = M.pure (.int (det a b c)) := f_dot_eq (h.cross g) f (by omega) (by omega)
  simp only [f_det, d_det, tD, e1, e2, bind_pure, lift_some, noX_pure, runDef, sNext, sSeq, sExpr, sRet, sRetN, sIf, sAsg, sPar2, sPar3, sAug, sOwn, noObj, sAppend, sFreeze, endOf, dVar, bVar, dC, dUn, dBin, dNil, dCons, dTup, dLst, dCall, asB, tVal, tAndD, tOrD, tNotD, dOfT, dIf, dAndV, dOrV, dNotV, oAdd, oAddI, oSub, oMod, oNeg, oLt, oLe, oGt, oGe, oIsNone, oNotNone, oIsN2, oNotN2, oAll, oAny, oSum, oLen, oTuple, oList, oAbs, oInt, oIx, asBs, asIs, wipeE, itemsOf, iVal, lcLoop, lcTurn, dLc, tYesD, gSet, gAll, gTupD, zipD, Sk.iZip, List.zip_cons_cons, List.zip_nil_right, List.zip_nil_left, List.map_cons, List.map_nil, List.length_cons, List.length_nil, List.replicate_succ, List.replicate_zero, List.cons_append, List.nil_append, List.append_nil, List.getElem?_cons_zero, List.getElem?_cons_succ, List.set_cons_zero, List.set_cons_succ, Option.map_some, Option.bind_some, Nat.reduceAdd, Nat.reduceSub, Nat.reduceLeDiff, ite_true, ite_false, Bool.false_eq_true, Bool.not_true, Bool.not_false, if_true, if_false, reduceIte, reduceCtorEq, List.sum_cons, List.sum_nil, List.all_cons, List.all_nil, List.any_cons, List.any_nil, id_eq, Bool.and_true, Bool.true_and, Bool.or_false, Bool.false_or, Bool.and_self, Bool.false_and, Bool.and_false, Bool.true_or, Bool.or_true, Int.cast_ofNat_Int, beq_self_eq_true, Int.reduceBEq, Int.reduceLT, Int.reduceLE, decide_true, decide_false]
theorem f_is_on_line_eq {k m : Nat} {a b : T3} (h : B k a) (g : B m b) (hk : k ≤ 8000) (hm : m ≤ 8000) : f_is_on_line [tD a, tD b] = M.pure (.bl (decide (cross a b = z3))) := by
  have e1 : f_cross [.tup [.int a.1, .int a.2.1, .int a.2.2], .tup [.int b.1, .int b.2.1, .int b.2.2]] = M.pure (tD (cross a b)) := f_cross_eq h g hk hm
  have e2 : oEq (.tup [.int (cross a b).1, .int (cross a b).2.1, .int (cross a b).2.2]) (.tup [.int 0, .int 0, .int 0]) = M.pure (.bl (decide (cross a b = z3))) := oEq_t3 _ z3
  simp only [f_is_on_line, d_is_on_line, tD, e1, e2, bind_pure, lift_some, noX_pure, runDef, sNext, sSeq, sExpr, sRet, sRetN, sIf, sAsg, sPar2, sPar3, sAug, sOwn, noObj, sAppend, sFreeze, endOf, dVar, bVar, dC, dUn, dBin, dNil, dCons, dTup, dLst, dCall, asB, tVal, tAndD, tOrD, tNotD, dOfT, dIf, dAndV, dOrV, dNotV, oAdd, oAddI, oSub, oMod, oNeg, oLt, oLe, oGt, oGe, oIsNone, oNotNone, oIsN2, oNotN2, oAll, oAny, oSum, oLen, oTuple, oList, oAbs, oInt, oIx, asBs, asIs, wipeE, itemsOf, iVal, lcLoop, lcTurn, dLc, tYesD, gSet, gAll, gTupD, zipD, Sk.iZip, List.zip_cons_cons, List.zip_nil_right, List.zip_nil_left, List.map_cons, List.map_nil, List.length_cons, List.length_nil, List.replicate_succ, List.replicate_zero, List.cons_append, List.nil_append, List.append_nil, List.getElem?_cons_zero, List.getElem?_cons_succ, List.set_cons_zero, List.set_cons_succ, Option.map_some, Option.bind_some, Nat.reduceAdd, Nat.reduceSub, Nat.reduceLeDiff, ite_true, ite_false, Bool.false_eq_true, Bool.not_true, Bool.not_false, if_true, if_false, reduceIte, reduceCtorEq, List.sum_cons, List.sum_nil, List.all_cons, List.all_nil, List.any_cons, List.any_nil, id_eq, Bool.and_true, Bool.true_and, Bool.or_false, Bool.false_or, Bool.and_self, Bool.false_and, Bool.and_false, Bool.true_or, Bool.or_true, Int.cast_ofNat_Int, beq_self_eq_true, Int.reduceBEq, Int.reduceLT, Int.reduceLE, decide_true, decide_false]
theorem f_least_eq {k : Nat} {a : T3} (h : B k a) (hk : k ≤ 4000) (ha : a ≠ z3) : f_least [tD a] = M.pure (tD (least a)) := by
  have hp : 2 ^ 4000 ≤ 2 ^ 20000 := Nat.pow_le_pow_right (by omega) (by omega)
  have c0 : f_check_triple [.str "direction", .tup [.int a.1, .int a.2.1, .int a.2.2]] = M.pure .non := f_check_triple_eq _ ha
  have h12 : Bi k (Int.gcd a.1 a.2.1 : Int) := h.1.gcd h.2.1
  have b20 : ∀ i, Bi k i → i.natAbs < 2 ^ 20000 := fun i hi => Nat.lt_of_lt_of_le (hi.mono hk) hp
  have c1 := f_common_eq (b20 _ h.1) (b20 _ h.2.1)
  have c2 : f_common [.int (Int.gcd a.1 a.2.1 : Int), .int a.2.2] = M.pure (.int (gcd3 a)) := f_common_eq (b20 _ h12) (b20 _ h.2.2)
  have gp := gcd3_pos ha
  have gb : (gcd3 a).natAbs < 2 ^ 8000 := (gcd3_B h ha).mono (by omega)
  have d1 : ∀ i, oDiv (.int i) (.int (gcd3 a)) = M.pure (.int (i / gcd3 a)) := fun i => oDiv_g gp gb
  simp only [f_least, d_least, tD, atI0, atI1, atI2, c0, c1, c2, d1, bind_pure, lift_some, noX_pure, runDef, sNext, sSeq, sExpr, sRet, sRetN, sIf, sAsg, sPar2, sPar3, sAug, sOwn, noObj, sAppend, sFreeze, endOf, dVar, bVar, dC, dUn, dBin, dNil, dCons, dTup, dLst, dCall, asB, tVal, tAndD, tOrD, tNotD, dOfT, dIf, dAndV, dOrV, dNotV, oAdd, oAddI, oSub, oMod, oNeg, oLt, oLe, oGt, oGe, oIsNone, oNotNone, oIsN2, oNotN2, oAll, oAny, oSum, oLen, oTuple, oList, oAbs, oInt, oIx, asBs, asIs, wipeE, itemsOf, iVal, lcLoop, lcTurn, dLc, tYesD, gSet, gAll, gTupD, zipD, Sk.iZip, List.zip_cons_cons, List.zip_nil_right, List.zip_nil_left, List.map_cons, List.map_nil, List.length_cons, List.length_nil, List.replicate_succ, List.replicate_zero, List.cons_append, List.nil_append, List.append_nil, List.getElem?_cons_zero, List.getElem?_cons_succ, List.set_cons_zero, List.set_cons_succ, Option.map_some, Option.bind_some, Nat.reduceAdd, Nat.reduceSub, Nat.reduceLeDiff, ite_true, ite_false, Bool.false_eq_true, Bool.not_true, Bool.not_false, if_true, if_false, reduceIte, reduceCtorEq, List.sum_cons, List.sum_nil, List.all_cons, List.all_nil, List.any_cons, List.any_nil, id_eq, Bool.and_true, Bool.true_and, Bool.or_false, Bool.false_or, Bool.and_self, Bool.false_and, Bool.and_false, Bool.true_or, Bool.or_true, Int.cast_ofNat_Int, beq_self_eq_true, Int.reduceBEq, Int.reduceLT, Int.reduceLE, decide_true, decide_false, least]
theorem ediv_zero {g a : Int} (hg : 0 < g) (d : g ∣ a) (h : a / g = 0) : a = 0 := by
  obtain ⟨q, rfl⟩ := d
  rw [Int.mul_ediv_cancel_left _ (by omega)] at h
  rw [h, Int.mul_zero]
theorem least_ne {a : T3} (h : a ≠ z3) : least a ≠ z3 := by
  intro e
  have gp := gcd3_pos h
  obtain ⟨d1, d2, d3⟩ := gcd3_dvd a
  have e1 : a.1 / gcd3 a = 0 := congrArg Prod.fst e
  have e2 : a.2.1 / gcd3 a = 0 := congrArg (fun x => x.2.1) e
  have e3 : a.2.2 / gcd3 a = 0 := congrArg (fun x => x.2.2) e
  exact h (Prod.ext (ediv_zero gp d1 e1) (Prod.ext (ediv_zero gp d2 e2) (ediv_zero gp d3 e3)))
theorem B.least {k : Nat} {a : T3} (h : B k a) (ha : a ≠ z3) : B k (least a) := by
  obtain ⟨d1, d2, d3⟩ := gcd3_dvd a
  have gp := gcd3_pos ha
  exact ⟨h.1.ediv gp d1, h.2.1.ediv gp d2, h.2.2.ediv gp d3⟩
theorem B.neg {k : Nat} {a : T3} (h : B k a) : B k (neg a) := ⟨h.1.neg, h.2.1.neg, h.2.2.neg⟩
theorem B.times {k m : Nat} {c : Int} {a : T3} (hc : Bi k c) (h : B m a) : B (k + m) (times c a) := ⟨hc.mul h.1, hc.mul h.2.1, hc.mul h.2.2⟩
theorem B.plus {k : Nat} {a b : T3} (h : B k a) (g : B k b) : B (k + 1) (plus a b) := ⟨h.1.add g.1, h.2.1.add g.2.1, h.2.2.add g.2.2⟩
def sgn (i : Int) : Int := if 0 < i then 1 else if i = 0 then 0 else -1
def between (a m b : T3) : Bool := !decide (cross a b = z3) && (dot (cross a b) m == 0) && decide (0 < dot (cross a m) (cross a b)) && decide (0 < dot (cross m b) (cross a b))
theorem f_is_between_eq {k m n : Nat} {a c b : T3} (h : B k a) (f : B m c) (g : B n b) (hk : k + m + n ≤ 3000) : f_is_between [tD a, tD c, tD b] = M.pure (.bl (between a c b)) := by
  have c1 : f_cross [.tup [.int a.1, .int a.2.1, .int a.2.2], .tup [.int b.1, .int b.2.1, .int b.2.2]] = M.pure (.tup [.int (cross a b).1, .int (cross a b).2.1, .int (cross a b).2.2]) := f_cross_eq h g (by omega) (by omega)
  have c2 : f_cross [.tup [.int a.1, .int a.2.1, .int a.2.2], .tup [.int c.1, .int c.2.1, .int c.2.2]] = M.pure (.tup [.int (cross a c).1, .int (cross a c).2.1, .int (cross a c).2.2]) := f_cross_eq h f (by omega) (by omega)
  have c3 : f_cross [.tup [.int c.1, .int c.2.1, .int c.2.2], .tup [.int b.1, .int b.2.1, .int b.2.2]] = M.pure (.tup [.int (cross c b).1, .int (cross c b).2.1, .int (cross c b).2.2]) := f_cross_eq f g (by omega) (by omega)
  have e2 : oEq (.tup [.int (cross a b).1, .int (cross a b).2.1, .int (cross a b).2.2]) (.tup [.int 0, .int 0, .int 0]) = M.pure (.bl (decide (cross a b = z3))) := oEq_t3 _ z3
  have d1 : f_dot [.tup [.int (cross a b).1, .int (cross a b).2.1, .int (cross a b).2.2], .tup [.int c.1, .int c.2.1, .int c.2.2]] = M.pure (.int (dot (cross a b) c)) := f_dot_eq (h.cross g) f (by omega) (by omega)
  have d2 : f_dot [.tup [.int (cross a c).1, .int (cross a c).2.1, .int (cross a c).2.2], .tup [.int (cross a b).1, .int (cross a b).2.1, .int (cross a b).2.2]] = M.pure (.int (dot (cross a c) (cross a b))) := f_dot_eq (h.cross f) (h.cross g) (by omega) (by omega)
  have d3 : f_dot [.tup [.int (cross c b).1, .int (cross c b).2.1, .int (cross c b).2.2], .tup [.int (cross a b).1, .int (cross a b).2.1, .int (cross a b).2.2]] = M.pure (.int (dot (cross c b) (cross a b))) := f_dot_eq (f.cross g) (h.cross g) (by omega) (by omega)
  simp only [f_is_between, d_is_between, tD, c1, c2, c3, e2, d1, d2, d3, oNe_int, bind_pure, lift_some, noX_pure, runDef, sNext, sSeq, sExpr, sRet, sRetN, sIf, sAsg, sPar2, sPar3, sAug, sOwn, noObj, sAppend, sFreeze, endOf, dVar, bVar, dC, dUn, dBin, dNil, dCons, dTup, dLst, dCall, asB, tVal, tAndD, tOrD, tNotD, dOfT, dIf, dAndV, dOrV, dNotV, oAdd, oAddI, oSub, oMod, oNeg, oLt, oLe, oGt, oGe, oIsNone, oNotNone, oIsN2, oNotN2, oAll, oAny, oSum, oLen, oTuple, oList, oAbs, oInt, oIx, asBs, asIs, wipeE, itemsOf, iVal, lcLoop, lcTurn, dLc, tYesD, gSet, gAll, gTupD, zipD, Sk.iZip, List.zip_cons_cons, List.zip_nil_right, List.zip_nil_left, List.map_cons, List.map_nil, List.length_cons, List.length_nil, List.replicate_succ, List.replicate_zero, List.cons_append, List.nil_append, List.append_nil, List.getElem?_cons_zero, List.getElem?_cons_succ, List.set_cons_zero, List.set_cons_succ, Option.map_some, Option.bind_some, Nat.reduceAdd, Nat.reduceSub, Nat.reduceLeDiff, ite_true, ite_false, Bool.false_eq_true, Bool.not_true, Bool.not_false, if_true, if_false, reduceIte, reduceCtorEq, List.sum_cons, List.sum_nil, List.all_cons, List.all_nil, List.any_cons, List.any_nil, id_eq, Bool.and_true, Bool.true_and, Bool.or_false, Bool.false_or, Bool.and_self, Bool.false_and, Bool.and_false, Bool.true_or, Bool.or_true, Int.cast_ofNat_Int, beq_self_eq_true, Int.reduceBEq, Int.reduceLT, Int.reduceLE, decide_true, decide_false, between]
  cases decide (cross a b = z3) <;> cases (dot (cross a b) c == 0) <;> cases hd : decide (0 < dot (cross a c) (cross a b)) <;> simp only [c2, c3, d2, d3, hd, bind_pure, lift_some, noX_pure, runDef, sNext, sSeq, sExpr, sRet, sRetN, sIf, sAsg, sPar2, sPar3, sAug, sOwn, noObj, sAppend, sFreeze, endOf, dVar, bVar, dC, dUn, dBin, dNil, dCons, dTup, dLst, dCall, asB, tVal, tAndD, tOrD, tNotD, dOfT, dIf, dAndV, dOrV, dNotV, oAdd, oAddI, oSub, oMod, oNeg, oLt, oLe, oGt, oGe, oIsNone, oNotNone, oIsN2, oNotN2, oAll, oAny, oSum, oLen, oTuple, oList, oAbs, oInt, oIx, asBs, asIs, wipeE, itemsOf, iVal, lcLoop, lcTurn, dLc, tYesD, gSet, gAll, gTupD, zipD, Sk.iZip, List.zip_cons_cons, List.zip_nil_right, List.zip_nil_left, List.map_cons, List.map_nil, List.length_cons, List.length_nil, List.replicate_succ, List.replicate_zero, List.cons_append, List.nil_append, List.append_nil, List.getElem?_cons_zero, List.getElem?_cons_succ, List.set_cons_zero, List.set_cons_succ, Option.map_some, Option.bind_some, Nat.reduceAdd, Nat.reduceSub, Nat.reduceLeDiff, ite_true, ite_false, Bool.false_eq_true, Bool.not_true, Bool.not_false, if_true, if_false, reduceIte, reduceCtorEq, List.sum_cons, List.sum_nil, List.all_cons, List.all_nil, List.any_cons, List.any_nil, id_eq, Bool.and_true, Bool.true_and, Bool.or_false, Bool.false_or, Bool.and_self, Bool.false_and, Bool.and_false, Bool.true_or, Bool.or_true, Int.cast_ofNat_Int, beq_self_eq_true, Int.reduceBEq, Int.reduceLT, Int.reduceLE, decide_true, decide_false]
def ratio (a b : T3) : Option (Int × Int) := (rootN (sq a * sq b)).map fun (r : Nat) => lowN (r : Int) (sq b : Int)
def ratD : Option (Int × Int) → D
  | none => .non
  | some p => .tup [.int p.1, .int p.2]
theorem sq_pos {a : T3} (h : a ≠ z3) : 0 < sq a := by
  rcases Nat.eq_zero_or_pos (sq a) with z | z
  · exfalso
    unfold sq at z
    have h1 : a.1.natAbs * a.1.natAbs = 0 := by omega
    have h2 : a.2.1.natAbs * a.2.1.natAbs = 0 := by omega
    have h3 : a.2.2.natAbs * a.2.2.natAbs = 0 := by omega
    rw [Nat.mul_eq_zero, or_self, Int.natAbs_eq_zero] at h1 h2 h3
    exact h (Prod.ext h1 (Prod.ext h2 h3))
  · exact z
theorem B.sq {k : Nat} {a : T3} (h : B k a) : sq a < 2 ^ (2 * k + 2) := by
  have := h.dot h
  rw [dot_self] at this
  unfold Bi at this
  rw [Int.natAbs_natCast] at this
  rwa [show 2 * k + 2 = k + k + 2 by omega]
theorem root_le {N r : Nat} (h : r * r = N) : r ≤ N := by
  rcases Nat.eq_zero_or_pos r with z | z
  · omega
  · have : r * 1 ≤ r * r := Nat.mul_le_mul_left r z
    omega
def alike (a b c d : T3) : Bool := if dot a b * dot c d < 0 ∨ dot a b * dot a b * (sq c : Int) * (sq d : Int) ≠ dot c d * dot c d * ((sq a : Int) * (sq b : Int)) then false else
  match ratio a c, ratio b d with
  | some p, some q => dot c d * p.1 * q.1 == dot a b * p.2 * q.2
  | _, _ => false
theorem rat_B {k m : Nat} {a b : T3} (h : B k a) (g : B m b) {p : Int × Int} (e : ratio a b = some p) (hb : b ≠ z3) : Bi (2 * k + 2 + (2 * m + 2)) p.1 ∧ Bi (2 * m + 2) p.2 := by
  unfold ratio at e
  cases e1 : rootN (sq a * sq b) with
  | none =>
    rw [e1] at e
    cases e
  | some q =>
    rw [e1] at e
    cases e
    have hq := root_le (rootN_some e1)
    have s1 := h.sq
    have s2 := g.sq
    have s3 := Nat.mul_lt_mul'' s1 s2
    rw [← Nat.pow_add] at s3
    have sb := sq_pos hb
    have gp : 0 < Int.gcd (q : Int) (sq b : Int) := gcd_pos (.inr (by omega))
    refine ⟨Bi.ediv ?_ (by omega) (Int.gcd_dvd_left ..), Bi.ediv ?_ (by omega) (Int.gcd_dvd_right ..)⟩
    · unfold Bi
      rw [Int.natAbs_natCast]
      omega
    · unfold Bi
      rw [Int.natAbs_natCast]
      omega
theorem tD_ix0 (a : T3) : oIx (tD a) (.int 0) = M.pure (.int a.1) := rfl
end Lw

set_option Elab.async false
set_option linter.all false
set_option maxRecDepth 100000
set_option maxHeartbeats 4000000
set_option autoImplicit false
namespace Lw
open PySem L2 Sk
/-! ### draws -/
theorem bind_assoc {α β γ : Type} (m : M α) (f : α → M β) (g : β → M γ) : M.bind (M.bind m f) g = M.bind m fun a => M.bind (f a) g := by
  funext S
  show (match (match m S with | .ok a S' => f a S' | .exc c fs S' => .exc c fs S' | .stuck => .stuck) with | .ok a S' => g a S' | .exc c fs S' => .exc c fs S' | .stuck => .stuck) = (match m S with | .ok a S' => (match f a S' with | .ok a S' => g a S' | .exc c fs S' => .exc c fs S' | .stuck => .stuck) | .exc c fs S' => .exc c fs S' | .stuck => .stuck)
  cases m S <;> rfl
theorem oDiv1009 (i : Int) : oDiv (.int i) (.int 1009) = M.pure (.int (i / 1009)) := rfl
theorem oDiv977 (i : Int) : oDiv (.int i) (.int 977) = M.pure (.int (i / 977)) := rfl
theorem oMul_small {i j : Int} (h : j.natAbs < 2 ^ 64) : oMul (.int i) (.int j) = M.pure (.int (i * j)) := by
  have e : mulOk i j = true := by
    unfold mulOk
    rw [decide_eq_true h]
    simp
  show (if mulOk i j = true then M.pure (D.int (i * j)) else stk) = _
  rw [if_pos e]
theorem oMul_smallL {i j : Int} (h : i.natAbs < 2 ^ 64) : oMul (.int i) (.int j) = M.pure (.int (i * j)) := by
  have e : mulOk i j = true := by
    unfold mulOk
    rw [decide_eq_true h]
    simp
  show (if mulOk i j = true then M.pure (D.int (i * j)) else stk) = _
  rw [if_pos e]
theorem eqv_nil {a : Int} {r : List Int} : PyData.eqv (.list ((a :: r).map PyData.int)) (.list []) = false := rfl
theorem oNe_scr (ns : List Int) : oNe (.scr ns) (.lst []) = M.pure (.bl (!ns.isEmpty)) := by
  cases ns <;> rfl
def nR : List D → Int → Int
  | [], r => r
  | _ :: xs, r => nR xs (r / 1009)
def nS : List D → Slot → Slot
  | [], s => s
  | x :: xs, _ => nS xs (.shr x)
theorem num_loop (a b c4 c5 c6 : Slot) : ∀ (xs : List D) (r : Int) (s : Slot), forLoop (fun x e => M.bind (lift (gSet 3 x e)) (sAsg (dBin oDiv (dVar 2) (dC (.int 1009))) (gSet 2))) xs [a, b, .shr (.int r), s, c4, c5, c6] = M.pure (.next [a, b, .shr (.int (nR xs r)), nS xs s, c4, c5, c6]) := by
  intro xs
  induction xs with
  | nil =>
    intro r s
    rfl
  | cons x xs ih =>
    intro r s
    simp only [forLoop, oDiv1009, bind_pure, lift_some, noX_pure, runDef, sNext, sSeq, sExpr, sRet, sRetN, sIf, sAsg, sPar2, sPar3, sAug, sOwn, noObj, sAppend, sFreeze, endOf, dVar, bVar, dC, dUn, dBin, dNil, dCons, dTup, dLst, dCall, asB, tVal, tAndD, tOrD, tNotD, dOfT, dIf, dAndV, dOrV, dNotV, oAdd, oAddI, oSub, oMod, oNeg, oLt, oLe, oGt, oGe, oIsNone, oNotNone, oIsN2, oNotN2, oAll, oAny, oSum, oLen, oTuple, oList, oAbs, oInt, oIx, asBs, asIs, wipeE, itemsOf, iVal, lcLoop, lcTurn, dLc, tYesD, gSet, gAll, gTupD, zipD, Sk.iZip, List.zip_cons_cons, List.zip_nil_right, List.zip_nil_left, List.map_cons, List.map_nil, List.length_cons, List.length_nil, List.replicate_succ, List.replicate_zero, List.cons_append, List.nil_append, List.append_nil, List.getElem?_cons_zero, List.getElem?_cons_succ, List.set_cons_zero, List.set_cons_succ, Option.map_some, Option.bind_some, Nat.reduceAdd, Nat.reduceSub, Nat.reduceLeDiff, ite_true, ite_false, Bool.false_eq_true, Bool.not_true, Bool.not_false, if_true, if_false, reduceIte, reduceCtorEq, List.sum_cons, List.sum_nil, List.all_cons, List.all_nil, List.any_cons, List.any_nil, id_eq, Bool.and_true, Bool.true_and, Bool.or_false, Bool.false_or, Bool.and_self, Bool.false_and, Bool.and_false, Bool.true_or, Bool.or_true, Int.cast_ofNat_Int, beq_self_eq_true, Int.reduceBEq, Int.reduceLT, Int.reduceLE, decide_true, decide_false]
    exact ih (r / 1009) (.shr x)
theorem num_for (a b c4 c5 : Slot) (t r : Int) (s : Slot) : sFor (iRange1 (dBin oMod (dUn oInt (dVar 6)) (dC (.int 60)))) (gSet 3) (sAsg (dBin oDiv (dVar 2) (dC (.int 1009))) (gSet 2)) [a, b, .shr (.int r), s, c4, c5, .shr (.int t)] = M.pure (.next [a, b, .shr (.int (nR (rangeD 0 (t % 60)) r)), nS (rangeD 0 (t % 60)) s, c4, c5, .shr (.int t)]) := by
  have e : decide (-50000 ≤ t % 60 ∧ t % 60 ≤ 50000) = true := decide_eq_true (by omega)
  unfold sFor
  simp only [iRange1, bind_pure, lift_some, noX_pure, runDef, sNext, sSeq, sExpr, sRet, sRetN, sIf, sAsg, sPar2, sPar3, sAug, sOwn, noObj, sAppend, sFreeze, endOf, dVar, bVar, dC, dUn, dBin, dNil, dCons, dTup, dLst, dCall, asB, tVal, tAndD, tOrD, tNotD, dOfT, dIf, dAndV, dOrV, dNotV, oAdd, oAddI, oSub, oMod, oNeg, oLt, oLe, oGt, oGe, oIsNone, oNotNone, oIsN2, oNotN2, oAll, oAny, oSum, oLen, oTuple, oList, oAbs, oInt, oIx, asBs, asIs, wipeE, itemsOf, iVal, lcLoop, lcTurn, dLc, tYesD, gSet, gAll, gTupD, zipD, Sk.iZip, List.zip_cons_cons, List.zip_nil_right, List.zip_nil_left, List.map_cons, List.map_nil, List.length_cons, List.length_nil, List.replicate_succ, List.replicate_zero, List.cons_append, List.nil_append, List.append_nil, List.getElem?_cons_zero, List.getElem?_cons_succ, List.set_cons_zero, List.set_cons_succ, Option.map_some, Option.bind_some, Nat.reduceAdd, Nat.reduceSub, Nat.reduceLeDiff, ite_true, ite_false, Bool.false_eq_true, Bool.not_true, Bool.not_false, if_true, if_false, reduceIte, reduceCtorEq, List.sum_cons, List.sum_nil, List.all_cons, List.all_nil, List.any_cons, List.any_nil, id_eq, Bool.and_true, Bool.true_and, Bool.or_false, Bool.false_or, Bool.and_self, Bool.false_and, Bool.and_false, Bool.true_or, Bool.or_true, Int.cast_ofNat_Int, beq_self_eq_true, Int.reduceBEq, Int.reduceLT, Int.reduceLE, decide_true, decide_false, e]
  exact num_loop a b c4 c5 (.shr (.int t)) (rangeD 0 (t % 60)) r s
theorem f_number (ns : List Int) (i : Int) (hns : ns.length ≤ 63) : ∃ r : Int, f__law_number [.scr ns, .int i] = M.pure (.int r) := by
  have m1 : ∀ j : Int, oMul (.int 977) (.int j) = M.pure (.int (977 * j)) := fun j => oMul_smallL (by decide)
  have m2 : ∀ j : Int, oMul (.int j) (.int 48271) = M.pure (.int (j * 48271)) := fun j => oMul_small (by decide)
  have m3 : ∀ j : Int, oMul (.int 31) (.int j) = M.pure (.int (31 * j)) := fun j => oMul_smallL (by decide)
  have m4 : ∀ j : Int, oMul (.int (j % 2147483647)) (.int (j % 2147483647)) = M.pure (.int ((j % 2147483647) * (j % 2147483647))) := fun j => oMul_small (by omega)
  have m5 : ∀ j : Int, oMul (.int 40503) (.int j) = M.pure (.int (40503 * j)) := fun j => oMul_smallL (by decide)
  have m6 : ∀ j : Int, oMul (.int j) (.int 69621) = M.pure (.int (j * 69621)) := fun j => oMul_small (by decide)
  have p1 : oPow (.int 10) (.int 18) = M.pure (.int (10 ^ 18)) := rfl
  have d1 : decide ((0 : Int) < 60) = true := rfl
  have d2 : decide ((0 : Int) < 1009) = true := rfl
  have d3 : decide ((0 : Int) < 2147483647) = true := rfl
  have d4 : decide ((0 : Int) < 2147483629) = true := rfl
  have d5 : decide ((0 : Int) < 2147483587) = true := rfl
  cases ns with
  | nil =>
    simp only [f__law_number, d__law_number, oNe_scr, List.isEmpty_nil, bind_pure, lift_some, noX_pure, runDef, sNext, sSeq, sExpr, sRet, sRetN, sIf, sAsg, sPar2, sPar3, sAug, sOwn, noObj, sAppend, sFreeze, endOf, dVar, bVar, dC, dUn, dBin, dNil, dCons, dTup, dLst, dCall, asB, tVal, tAndD, tOrD, tNotD, dOfT, dIf, dAndV, dOrV, dNotV, oAdd, oAddI, oSub, oMod, oNeg, oLt, oLe, oGt, oGe, oIsNone, oNotNone, oIsN2, oNotN2, oAll, oAny, oSum, oLen, oTuple, oList, oAbs, oInt, oIx, asBs, asIs, wipeE, itemsOf, iVal, lcLoop, lcTurn, dLc, tYesD, gSet, gAll, gTupD, zipD, Sk.iZip, List.zip_cons_cons, List.zip_nil_right, List.zip_nil_left, List.map_cons, List.map_nil, List.length_cons, List.length_nil, List.replicate_succ, List.replicate_zero, List.cons_append, List.nil_append, List.append_nil, List.getElem?_cons_zero, List.getElem?_cons_succ, List.set_cons_zero, List.set_cons_succ, Option.map_some, Option.bind_some, Nat.reduceAdd, Nat.reduceSub, Nat.reduceLeDiff, ite_true, ite_false, Bool.false_eq_true, Bool.not_true, Bool.not_false, if_true, if_false, reduceIte, reduceCtorEq, List.sum_cons, List.sum_nil, List.all_cons, List.all_nil, List.any_cons, List.any_nil, id_eq, Bool.and_true, Bool.true_and, Bool.or_false, Bool.false_or, Bool.and_self, Bool.false_and, Bool.and_false, Bool.true_or, Bool.or_true, Int.cast_ofNat_Int, beq_self_eq_true, Int.reduceBEq, Int.reduceLT, Int.reduceLE, decide_true, decide_false, p1, num_for, oDiv977, m1, m2, m3, m4, m5, m6, d1, d2, d3, d4, d5]
    generalize decide ((0 : Int) < nR _ _) = b
    cases b <;> (simp only [bind_pure, lift_some, noX_pure, runDef, sNext, sSeq, sExpr, sRet, sRetN, sIf, sAsg, sPar2, sPar3, sAug, sOwn, noObj, sAppend, sFreeze, endOf, dVar, bVar, dC, dUn, dBin, dNil, dCons, dTup, dLst, dCall, asB, tVal, tAndD, tOrD, tNotD, dOfT, dIf, dAndV, dOrV, dNotV, oAdd, oAddI, oSub, oMod, oNeg, oLt, oLe, oGt, oGe, oIsNone, oNotNone, oIsN2, oNotN2, oAll, oAny, oSum, oLen, oTuple, oList, oAbs, oInt, oIx, asBs, asIs, wipeE, itemsOf, iVal, lcLoop, lcTurn, dLc, tYesD, gSet, gAll, gTupD, zipD, Sk.iZip, List.zip_cons_cons, List.zip_nil_right, List.zip_nil_left, List.map_cons, List.map_nil, List.length_cons, List.length_nil, List.replicate_succ, List.replicate_zero, List.cons_append, List.nil_append, List.append_nil, List.getElem?_cons_zero, List.getElem?_cons_succ, List.set_cons_zero, List.set_cons_succ, Option.map_some, Option.bind_some, Nat.reduceAdd, Nat.reduceSub, Nat.reduceLeDiff, ite_true, ite_false, Bool.false_eq_true, Bool.not_true, Bool.not_false, if_true, if_false, reduceIte, reduceCtorEq, List.sum_cons, List.sum_nil, List.all_cons, List.all_nil, List.any_cons, List.any_nil, id_eq, Bool.and_true, Bool.true_and, Bool.or_false, Bool.false_or, Bool.and_self, Bool.false_and, Bool.and_false, Bool.true_or, Bool.or_true, Int.cast_ofNat_Int, beq_self_eq_true, Int.reduceBEq, Int.reduceLT, Int.reduceLE, decide_true, decide_false, p1, num_for, oDiv977, m1, m2, m3, m4, m5, m6, d1, d2, d3, d4, d5]; exact ⟨_, rfl⟩)
  | cons a t =>
    have hl : (0 : Int) < ((a :: t).length : Nat) := by
      simp only [List.length_cons]
      omega
    obtain ⟨v, hv⟩ : ∃ v : Int, atI (a :: t) (i % ((a :: t).length : Nat)) = some v := by
      have h1 := Int.emod_nonneg i (show ((a :: t).length : Int) ≠ 0 by omega)
      have h2 := Int.emod_lt_of_pos i hl
      obtain ⟨n, hn⟩ : ∃ n : Nat, i % ((a :: t).length : Nat) = (n : Int) := ⟨(i % ((a :: t).length : Nat)).toNat, by omega⟩
      rw [hn]
      have h3 : n < (a :: t).length := by omega
      exact ⟨(a :: t)[n], atI_n _ n _ (List.getElem?_eq_getElem h3)⟩
    have hs : (a :: t).length ≤ 63 := hns
    have hd : oDiv (.int i) (.int ((a :: t).length : Nat)) = M.pure (.int (i / ((a :: t).length : Nat))) := oDiv_g hl (Nat.lt_of_le_of_lt (by rw [Int.natAbs_natCast]; exact hs) (by decide : (63 : Nat) < 2 ^ 8000))
    have hl' := decide_eq_true hl
    have he : (a :: t).isEmpty = false := rfl
    generalize a :: t = ns at *
    generalize hT : i / (ns.length : Nat) = T at *
    by_cases h60 : T < 60
    · simp only [f__law_number, d__law_number, oNe_scr, he, hl', hv, hd, decide_eq_true h60, bind_pure, lift_some, noX_pure, runDef, sNext, sSeq, sExpr, sRet, sRetN, sIf, sAsg, sPar2, sPar3, sAug, sOwn, noObj, sAppend, sFreeze, endOf, dVar, bVar, dC, dUn, dBin, dNil, dCons, dTup, dLst, dCall, asB, tVal, tAndD, tOrD, tNotD, dOfT, dIf, dAndV, dOrV, dNotV, oAdd, oAddI, oSub, oMod, oNeg, oLt, oLe, oGt, oGe, oIsNone, oNotNone, oIsN2, oNotN2, oAll, oAny, oSum, oLen, oTuple, oList, oAbs, oInt, oIx, asBs, asIs, wipeE, itemsOf, iVal, lcLoop, lcTurn, dLc, tYesD, gSet, gAll, gTupD, zipD, Sk.iZip, List.zip_cons_cons, List.zip_nil_right, List.zip_nil_left, List.map_cons, List.map_nil, List.length_cons, List.length_nil, List.replicate_succ, List.replicate_zero, List.cons_append, List.nil_append, List.append_nil, List.getElem?_cons_zero, List.getElem?_cons_succ, List.set_cons_zero, List.set_cons_succ, Option.map_some, Option.bind_some, Nat.reduceAdd, Nat.reduceSub, Nat.reduceLeDiff, ite_true, ite_false, Bool.false_eq_true, Bool.not_true, Bool.not_false, if_true, if_false, reduceIte, reduceCtorEq, List.sum_cons, List.sum_nil, List.all_cons, List.all_nil, List.any_cons, List.any_nil, id_eq, Bool.and_true, Bool.true_and, Bool.or_false, Bool.false_or, Bool.and_self, Bool.false_and, Bool.and_false, Bool.true_or, Bool.or_true, Int.cast_ofNat_Int, beq_self_eq_true, Int.reduceBEq, Int.reduceLT, Int.reduceLE, decide_true, decide_false, p1, num_for, oDiv977, m1, m2, m3, m4, m5, m6, d1, d2, d3, d4, d5]
      generalize decide ((0 : Int) < nR _ _) = b
      cases b <;> (simp only [bind_pure, lift_some, noX_pure, runDef, sNext, sSeq, sExpr, sRet, sRetN, sIf, sAsg, sPar2, sPar3, sAug, sOwn, noObj, sAppend, sFreeze, endOf, dVar, bVar, dC, dUn, dBin, dNil, dCons, dTup, dLst, dCall, asB, tVal, tAndD, tOrD, tNotD, dOfT, dIf, dAndV, dOrV, dNotV, oAdd, oAddI, oSub, oMod, oNeg, oLt, oLe, oGt, oGe, oIsNone, oNotNone, oIsN2, oNotN2, oAll, oAny, oSum, oLen, oTuple, oList, oAbs, oInt, oIx, asBs, asIs, wipeE, itemsOf, iVal, lcLoop, lcTurn, dLc, tYesD, gSet, gAll, gTupD, zipD, Sk.iZip, List.zip_cons_cons, List.zip_nil_right, List.zip_nil_left, List.map_cons, List.map_nil, List.length_cons, List.length_nil, List.replicate_succ, List.replicate_zero, List.cons_append, List.nil_append, List.append_nil, List.getElem?_cons_zero, List.getElem?_cons_succ, List.set_cons_zero, List.set_cons_succ, Option.map_some, Option.bind_some, Nat.reduceAdd, Nat.reduceSub, Nat.reduceLeDiff, ite_true, ite_false, Bool.false_eq_true, Bool.not_true, Bool.not_false, if_true, if_false, reduceIte, reduceCtorEq, List.sum_cons, List.sum_nil, List.all_cons, List.all_nil, List.any_cons, List.any_nil, id_eq, Bool.and_true, Bool.true_and, Bool.or_false, Bool.false_or, Bool.and_self, Bool.false_and, Bool.and_false, Bool.true_or, Bool.or_true, Int.cast_ofNat_Int, beq_self_eq_true, Int.reduceBEq, Int.reduceLT, Int.reduceLE, decide_true, decide_false, p1, num_for, oDiv977, m1, m2, m3, m4, m5, m6, d1, d2, d3, d4, d5]; exact ⟨_, rfl⟩)
    · simp only [f__law_number, d__law_number, oNe_scr, he, hl', hv, hd, decide_eq_false h60, bind_pure, lift_some, noX_pure, runDef, sNext, sSeq, sExpr, sRet, sRetN, sIf, sAsg, sPar2, sPar3, sAug, sOwn, noObj, sAppend, sFreeze, endOf, dVar, bVar, dC, dUn, dBin, dNil, dCons, dTup, dLst, dCall, asB, tVal, tAndD, tOrD, tNotD, dOfT, dIf, dAndV, dOrV, dNotV, oAdd, oAddI, oSub, oMod, oNeg, oLt, oLe, oGt, oGe, oIsNone, oNotNone, oIsN2, oNotN2, oAll, oAny, oSum, oLen, oTuple, oList, oAbs, oInt, oIx, asBs, asIs, wipeE, itemsOf, iVal, lcLoop, lcTurn, dLc, tYesD, gSet, gAll, gTupD, zipD, Sk.iZip, List.zip_cons_cons, List.zip_nil_right, List.zip_nil_left, List.map_cons, List.map_nil, List.length_cons, List.length_nil, List.replicate_succ, List.replicate_zero, List.cons_append, List.nil_append, List.append_nil, List.getElem?_cons_zero, List.getElem?_cons_succ, List.set_cons_zero, List.set_cons_succ, Option.map_some, Option.bind_some, Nat.reduceAdd, Nat.reduceSub, Nat.reduceLeDiff, ite_true, ite_false, Bool.false_eq_true, Bool.not_true, Bool.not_false, if_true, if_false, reduceIte, reduceCtorEq, List.sum_cons, List.sum_nil, List.all_cons, List.all_nil, List.any_cons, List.any_nil, id_eq, Bool.and_true, Bool.true_and, Bool.or_false, Bool.false_or, Bool.and_self, Bool.false_and, Bool.and_false, Bool.true_or, Bool.or_true, Int.cast_ofNat_Int, beq_self_eq_true, Int.reduceBEq, Int.reduceLT, Int.reduceLE, decide_true, decide_false, p1, num_for, oDiv977, m1, m2, m3, m4, m5, m6, d1, d2, d3, d4, d5]
      generalize decide ((0 : Int) < nR _ _) = b
      cases b <;> (simp only [bind_pure, lift_some, noX_pure, runDef, sNext, sSeq, sExpr, sRet, sRetN, sIf, sAsg, sPar2, sPar3, sAug, sOwn, noObj, sAppend, sFreeze, endOf, dVar, bVar, dC, dUn, dBin, dNil, dCons, dTup, dLst, dCall, asB, tVal, tAndD, tOrD, tNotD, dOfT, dIf, dAndV, dOrV, dNotV, oAdd, oAddI, oSub, oMod, oNeg, oLt, oLe, oGt, oGe, oIsNone, oNotNone, oIsN2, oNotN2, oAll, oAny, oSum, oLen, oTuple, oList, oAbs, oInt, oIx, asBs, asIs, wipeE, itemsOf, iVal, lcLoop, lcTurn, dLc, tYesD, gSet, gAll, gTupD, zipD, Sk.iZip, List.zip_cons_cons, List.zip_nil_right, List.zip_nil_left, List.map_cons, List.map_nil, List.length_cons, List.length_nil, List.replicate_succ, List.replicate_zero, List.cons_append, List.nil_append, List.append_nil, List.getElem?_cons_zero, List.getElem?_cons_succ, List.set_cons_zero, List.set_cons_succ, Option.map_some, Option.bind_some, Nat.reduceAdd, Nat.reduceSub, Nat.reduceLeDiff, ite_true, ite_false, Bool.false_eq_true, Bool.not_true, Bool.not_false, if_true, if_false, reduceIte, reduceCtorEq, List.sum_cons, List.sum_nil, List.all_cons, List.all_nil, List.any_cons, List.any_nil, id_eq, Bool.and_true, Bool.true_and, Bool.or_false, Bool.false_or, Bool.and_self, Bool.false_and, Bool.and_false, Bool.true_or, Bool.or_true, Int.cast_ofNat_Int, beq_self_eq_true, Int.reduceBEq, Int.reduceLT, Int.reduceLE, decide_true, decide_false, p1, num_for, oDiv977, m1, m2, m3, m4, m5, m6, d1, d2, d3, d4, d5]; exact ⟨_, rfl⟩)
/-! ### promises about draws -/
def Dw (ns : List Int) (c : Int) : Store := [.lst [.scr ns, .int c]]
def Ev {α : Type} (ns : List Int) (m : M α) (P : α → Prop) : Prop := ∀ c : Int, ∃ (a : α) (c' : Int), m (Dw ns c) = .ok a (Dw ns c') ∧ P a
section
variable {ns : List Int} {α β : Type}
theorem Ev.pure {a : α} {P : α → Prop} (h : P a) : Ev ns (M.pure a) P := fun c => ⟨a, c, rfl, h⟩
theorem Ev.bind {m : M α} {f : α → M β} {Q : α → Prop} {P : β → Prop} (h : Ev ns m Q) (g : ∀ a, Q a → Ev ns (f a) P) : Ev ns (M.bind m f) P := by
  intro c
  obtain ⟨a, c', e, q⟩ := h c
  obtain ⟨b, c2, e2, p⟩ := g a q c'
  refine ⟨b, c2, ?_, p⟩
  show (match m (Dw ns c) with | .ok a S' => f a S' | .exc c fs S' => .exc c fs S' | .stuck => .stuck) = _
  rw [e]
  exact e2
theorem Ev.mono {m : M α} {Q P : α → Prop} (h : Ev ns m Q) (g : ∀ a, Q a → P a) : Ev ns m P := fun c => by
  obtain ⟨a, c', e, q⟩ := h c
  exact ⟨a, c', e, g a q⟩
theorem Ev.noX {m : M α} {P : α → Prop} (h : Ev ns m P) : Ev ns (noX m) P := by
  intro c
  obtain ⟨a, c', e, q⟩ := h c
  refine ⟨a, c', ?_, q⟩
  show (match m (Dw ns c) with | .ok a S' => Out.ok a S' | _ => .stuck) = _
  rw [e]
/-- a promise about where a statement goes on -/
def Fl (I J : Sk.Env → Prop) (R : D → Prop) : Sk.Flow → Prop
  | .next e => I e
  | .cont e => I e
  | .brk e => J e
  | .ret d => R d
def Fo (I : Sk.Env → Prop) (R : D → Prop) : Sk.Flow → Prop
  | .next e => I e
  | .ret d => R d
  | _ => False
theorem Ev.forLoop {f : D → Sk.Env → M Sk.Flow} {I : Sk.Env → Prop} {R : D → Prop} : ∀ (xs : List D) (env : Sk.Env), (∀ x ∈ xs, ∀ e, I e → Ev ns (f x e) (Fl I I R)) → I env → Ev ns (Sk.forLoop f xs env) (Fo I R)
  | [], env, _, h => Ev.pure h
  | x :: xs, env, h, i => by
    refine Ev.bind (h x (.head _) env i) fun fl p => ?_
    cases fl with
    | next e => exact Ev.forLoop xs e (fun y hy => h y (.tail _ hy)) p
    | cont e => exact Ev.forLoop xs e (fun y hy => h y (.tail _ hy)) p
    | brk e => exact Ev.pure p
    | ret d => exact Ev.pure p
inductive Al (R : D → D → Prop) : List D → List D → Prop
  | nil : Al R [] []
  | cons {x y : D} {xs ys : List D} (h : R x y) (t : Al R xs ys) : Al R (x :: xs) (y :: ys)
theorem Ev.lcLoop {f : D → M (List D)} {R : D → D → Prop} : ∀ (xs : List D), (∀ x ∈ xs, Ev ns (f x) fun l => ∃ y, l = [y] ∧ R x y) → Ev ns (lcLoop f xs) (Al R xs)
  | [], _ => Ev.pure .nil
  | x :: xs, h => by
    refine Ev.bind (h x (.head _)) fun l p => ?_
    obtain ⟨y, rfl, r⟩ := p
    refine Ev.bind (Ev.lcLoop xs fun z hz => h z (.tail _ hz)) fun l p => ?_
    exact Ev.pure (.cons r p)
/-- a comprehension without a test -/
theorem Ev.dLc {vs : List Nat} {di : DI} {dg : DG} {de : DE} {env : Sk.Env} {xs : List D} {R : D → D → Prop} (hi : di env = M.pure xs) (hl : xs.length ≤ 50000) (h : ∀ x ∈ xs, ∃ env', dg x (wipeE env vs) = some env' ∧ Ev ns (de env') (R x)) : Ev ns (dLc vs di dg tYesD de env) fun d => ∃ ys, d = .lst ys ∧ Al R xs ys := by
  unfold Sk.dLc
  rw [hi, bind_pure, if_pos hl]
  refine Ev.bind (Ev.lcLoop (R := R) xs fun x hx => ?_) fun ys p => Ev.pure ⟨ys, rfl, p⟩
  obtain ⟨env', e, g⟩ := h x hx
  refine Ev.noX ?_
  unfold lcTurn
  rw [e, lift_some, bind_pure, show tYesD env' = M.pure true from rfl, bind_pure, if_pos rfl]
  exact Ev.bind g fun y r => Ev.pure ⟨y, rfl, r⟩
end
theorem f_take {ns : List Int} (hns : ns.length ≤ 63) {m : Int} (h : 0 < m) : Ev ns (f__law_take [.cel 0, .int m]) fun d => ∃ r : Int, d = .int r ∧ 0 ≤ r ∧ r < m := by
  intro c
  obtain ⟨r, e⟩ := f_number ns (c + 1) hns
  refine ⟨.int (r % m), c + 1, ?_, r % m, rfl, Int.emod_nonneg _ (by omega), Int.emod_lt_of_pos _ h⟩
  have e1 : (sCelAug (dVar 0) 1 oAddI (dC (.int 1)) [.shr (.cel 0), .shr (.int m)]) (Dw ns c) = .ok (.next [.shr (.cel 0), .shr (.int m)]) (Dw ns (c + 1)) := rfl
  have e2 : (oIxCel 0 0) (Dw ns (c + 1)) = .ok (.scr ns) (Dw ns (c + 1)) := rfl
  have e3 : (oIxCel 0 1) (Dw ns (c + 1)) = .ok (.int (c + 1)) (Dw ns (c + 1)) := rfl
  have hm := decide_eq_true h
  unfold f__law_take runDef d__law_take sSeq
  show (M.bind (M.bind (sCelAug (dVar 0) 1 oAddI (dC (.int 1)) [.shr (.cel 0), .shr (.int m)]) _) endOf) (Dw ns c) = _
  have st {α β : Type} {p : M α} {g : α → M β} {S S' : Store} {a : α} (x : p S = .ok a S') : (M.bind p g) S = g a S' := by
    show (match p S with | .ok a S' => g a S' | .exc c fs S' => .exc c fs S' | .stuck => .stuck) = _
    rw [x]
  rw [bind_assoc, st e1]
  simp only [bind_pure, lift_some, noX_pure, runDef, sNext, sSeq, sExpr, sRet, sRetN, sIf, sAsg, sPar2, sPar3, sAug, sOwn, noObj, sAppend, sFreeze, endOf, dVar, bVar, dC, dUn, dBin, dNil, dCons, dTup, dLst, dCall, asB, tVal, tAndD, tOrD, tNotD, dOfT, dIf, dAndV, dOrV, dNotV, oAdd, oAddI, oSub, oMod, oNeg, oLt, oLe, oGt, oGe, oIsNone, oNotNone, oIsN2, oNotN2, oAll, oAny, oSum, oLen, oTuple, oList, oAbs, oInt, oIx, asBs, asIs, wipeE, itemsOf, iVal, lcLoop, lcTurn, dLc, tYesD, gSet, gAll, gTupD, zipD, Sk.iZip, List.zip_cons_cons, List.zip_nil_right, List.zip_nil_left, List.map_cons, List.map_nil, List.length_cons, List.length_nil, List.replicate_succ, List.replicate_zero, List.cons_append, List.nil_append, List.append_nil, List.getElem?_cons_zero, List.getElem?_cons_succ, List.set_cons_zero, List.set_cons_succ, Option.map_some, Option.bind_some, Nat.reduceAdd, Nat.reduceSub, Nat.reduceLeDiff, ite_true, ite_false, Bool.false_eq_true, Bool.not_true, Bool.not_false, if_true, if_false, reduceIte, reduceCtorEq, List.sum_cons, List.sum_nil, List.all_cons, List.all_nil, List.any_cons, List.any_nil, id_eq, Bool.and_true, Bool.true_and, Bool.or_false, Bool.false_or, Bool.and_self, Bool.false_and, Bool.and_false, Bool.true_or, Bool.or_true, Int.cast_ofNat_Int, beq_self_eq_true, Int.reduceBEq, Int.reduceLT, Int.reduceLE, decide_true, decide_false, bind_assoc]
  refine (st e2).trans ((st e3).trans ?_)
  simp only [bind_pure, lift_some, noX_pure, runDef, sNext, sSeq, sExpr, sRet, sRetN, sIf, sAsg, sPar2, sPar3, sAug, sOwn, noObj, sAppend, sFreeze, endOf, dVar, bVar, dC, dUn, dBin, dNil, dCons, dTup, dLst, dCall, asB, tVal, tAndD, tOrD, tNotD, dOfT, dIf, dAndV, dOrV, dNotV, oAdd, oAddI, oSub, oMod, oNeg, oLt, oLe, oGt, oGe, oIsNone, oNotNone, oIsN2, oNotN2, oAll, oAny, oSum, oLen, oTuple, oList, oAbs, oInt, oIx, asBs, asIs, wipeE, itemsOf, iVal, lcLoop, lcTurn, dLc, tYesD, gSet, gAll, gTupD, zipD, Sk.iZip, List.zip_cons_cons, List.zip_nil_right, List.zip_nil_left, List.map_cons, List.map_nil, List.length_cons, List.length_nil, List.replicate_succ, List.replicate_zero, List.cons_append, List.nil_append, List.append_nil, List.getElem?_cons_zero, List.getElem?_cons_succ, List.set_cons_zero, List.set_cons_succ, Option.map_some, Option.bind_some, Nat.reduceAdd, Nat.reduceSub, Nat.reduceLeDiff, ite_true, ite_false, Bool.false_eq_true, Bool.not_true, Bool.not_false, if_true, if_false, reduceIte, reduceCtorEq, List.sum_cons, List.sum_nil, List.all_cons, List.all_nil, List.any_cons, List.any_nil, id_eq, Bool.and_true, Bool.true_and, Bool.or_false, Bool.false_or, Bool.and_self, Bool.false_and, Bool.and_false, Bool.true_or, Bool.or_true, Int.cast_ofNat_Int, beq_self_eq_true, Int.reduceBEq, Int.reduceLT, Int.reduceLE, decide_true, decide_false, e, hm]
  rfl
theorem Al.len {R : D → D → Prop} {xs ys : List D} (h : Al R xs ys) : ys.length = xs.length := by
  induction h with
  | nil => rfl
  | cons _ _ ih => rw [List.length_cons, List.length_cons, ih]
theorem Al.mem {R : D → D → Prop} {xs ys : List D} (h : Al R xs ys) : ∀ y ∈ ys, ∃ x ∈ xs, R x y := by
  induction h with
  | nil => intro y hy; cases hy
  | cons r _ ih =>
    intro y hy
    cases hy with
    | head => exact ⟨_, .head _, r⟩
    | tail _ hy =>
      obtain ⟨x, hx, r⟩ := ih y hy
      exact ⟨x, .tail _ hx, r⟩
/-! ### skies -/
def rows14 : List T3 := [(1, 0, 0), (0, 1, 0), (0, 0, 1), (1, 2, 2), (2, 1, 2), (2, 2, 1), (3, 0, 4), (0, 3, 4), (4, 3, 0), (2, 3, 6), (6, 2, 3), (1, 4, 8), (1, 1, 0), (1, 1, 1)]
def pm (i j : Int) : Prop := j = i ∨ j = -i
def Sky (a : T3) : Prop := ∃ r ∈ rows14, pm r.1 a.1 ∧ pm r.2.1 a.2.1 ∧ pm r.2.2 a.2.2
theorem atI_rows {n : Int} (h0 : 0 ≤ n) (h : n < 14) : ∃ r ∈ rows14, atI (rows14.map tD) n = some (tD r) := by
  obtain ⟨k, rfl⟩ : ∃ k : Nat, n = (k : Int) := ⟨n.toNat, by omega⟩
  have hk : k < rows14.length := by
    show k < 14
    omega
  refine ⟨rows14[k], List.getElem_mem hk, atI_n _ k _ ?_⟩
  rw [List.getElem?_map, List.getElem?_eq_getElem hk]
  rfl
theorem Sky.ne {a : T3} (h : Sky a) : a ≠ z3 := by
  obtain ⟨r, hr, p1, p2, p3⟩ := h
  rintro rfl
  unfold pm at p1 p2 p3
  simp only [rows14, List.mem_cons, List.not_mem_nil, or_false] at hr
  rcases hr with h | h | h | h | h | h | h | h | h | h | h | h | h | h <;> (subst h; dsimp only at p1 p2 p3; omega)
theorem Sky.B {a : T3} (h : Sky a) : B 4 a := by
  obtain ⟨r, hr, p1, p2, p3⟩ := h
  obtain ⟨x, y, z⟩ := a
  unfold pm at p1 p2 p3
  unfold Lw.B Bi
  simp only [rows14, List.mem_cons, List.not_mem_nil, or_false] at hr
  rcases hr with h | h | h | h | h | h | h | h | h | h | h | h | h | h <;> (subst h; dsimp only at p1 p2 p3 ⊢; omega)
end Lw

set_option Elab.async false
set_option linter.all false
set_option maxRecDepth 100000
set_option maxHeartbeats 4000000
set_option autoImplicit false
namespace Lw
open PySem L2 Sk
theorem lagrange (a b c d : T3) : dot (cross a b) (cross c d) = dot a c * dot b d - dot a d * dot b c := by
  simp only [dot, cross]
  grind
theorem cross_perp (a b : T3) : dot (cross a b) a = 0 := by
  simp only [dot, cross]
  grind
theorem cross_anti (a b : T3) : cross a b = times (0 - 1) (cross b a) := by
  simp only [cross, times, Prod.mk.injEq]
  grind
theorem jacobi (a b c : T3) : plus (plus (cross a (cross b c)) (cross b (cross c a))) (cross c (cross a b)) = z3 := by
  simp only [cross, plus, Prod.mk.injEq]
  grind
theorem det_rot (a b c : T3) : det a b c = det b c a := by
  simp only [det, dot, cross]
  grind
theorem det_swap (a b c : T3) : det a b c = 0 - det b a c := by
  simp only [det, dot, cross]
  grind
theorem det_add (a b c : T3) (k : Int) : det a b (plus c (times k a)) = det a b c := by
  simp only [det, dot, cross, plus, times]
  grind
theorem whole_eq (a b : T3) : dot (cross a b) (cross a b) + dot a b * dot a b = ((sq a * sq b : Nat) : Int) := by
  have h1 := dot_self a
  have h2 := dot_self b
  rw [Int.natCast_mul, ← h1, ← h2, lagrange]
  have : dot b a = dot a b := by
    simp only [dot]
    grind
  rw [this]
  grind
theorem dot_comm (a b : T3) : dot a b = dot b a := by
  simp only [dot]
  grind
theorem sq_zero {a : T3} : sq a = 0 ↔ a = z3 := by
  constructor
  · intro h
    refine Classical.byContradiction fun n => ?_
    have := sq_pos n
    omega
  · rintro rfl
    rfl
theorem line_eq (a b : T3) : decide (cross a b = z3) = (dot a b * dot a b == ((sq a * sq b : Nat) : Int)) := by
  have h := whole_eq a b
  rw [dot_self] at h
  by_cases c : cross a b = z3
  · have h0 := sq_zero.mpr c
    rw [decide_eq_true c, eq_comm, beq_iff_eq]
    omega
  · have h0 := sq_pos c
    rw [decide_eq_false c, eq_comm, beq_eq_false_iff_ne]
    omega
/-! ### lowest terms -/
theorem lowN_cross (x y : Int) : (lowN x y).1 * y = (lowN x y).2 * x := by
  unfold lowN
  have h1 := Int.ediv_mul_cancel (Int.gcd_dvd_left x y)
  have h2 := Int.ediv_mul_cancel (Int.gcd_dvd_right x y)
  generalize x / (Int.gcd x y : Int) = p at *
  generalize y / (Int.gcd x y : Int) = q at *
  dsimp only
  rw [← h1] 
  conv => lhs; rw [← h2]
  grind
theorem lowN_pos {x y : Int} (h : 0 < y) : 0 < (lowN x y).2 := by
  unfold lowN
  have g : 0 < Int.gcd x y := gcd_pos (.inr (by omega))
  have h2 := Int.ediv_mul_cancel (Int.gcd_dvd_right x y)
  generalize y / (Int.gcd x y : Int) = q at *
  dsimp only
  refine Classical.byContradiction fun n => ?_
  have : q * (Int.gcd x y : Int) ≤ 0 := Int.mul_nonpos_of_nonpos_of_nonneg (by omega) (by omega)
  omega
theorem lowN_cop {x y : Int} (h : 0 < y) : Int.gcd (lowN x y).1 (lowN x y).2 = 1 := by
  unfold lowN
  exact Int.gcd_ediv_gcd_ediv_gcd (gcd_pos (.inr (by omega)))
theorem cop_dvd {q p s : Int} (h : q ∣ p * s) (c : Int.gcd q p = 1) : q ∣ s := by
  have h1 := Int.natAbs_dvd_natAbs.mpr h
  rw [Int.natAbs_mul] at h1
  exact Int.natAbs_dvd_natAbs.mp (Nat.Coprime.dvd_of_dvd_mul_left c h1)
/-- lowest terms are one -/
theorem low_uniq {p q r s : Int} (h1 : Int.gcd p q = 1) (h2 : Int.gcd r s = 1) (hq : 0 < q) (hs : 0 < s) (h : p * s = r * q) : p = r ∧ q = s := by
  have d1 : q ∣ s := by
    have : q ∣ p * s := ⟨r, by rw [h, Int.mul_comm]⟩
    exact cop_dvd this (by rw [Int.gcd_comm]; exact h1)
  have d2 : s ∣ q := by
    have : s ∣ r * q := ⟨p, by rw [← h, Int.mul_comm]⟩
    exact cop_dvd this (by rw [Int.gcd_comm]; exact h2)
  have e : q = s := Int.dvd_antisymm (by omega) (by omega) d1 d2
  subst e
  exact ⟨Int.eq_of_mul_eq_mul_right (by omega) h, rfl⟩
theorem low_eq {p q x y : Int} (h1 : Int.gcd p q = 1) (hq : 0 < q) (hy : 0 < y) (h : p * y = q * x) : lowN x y = (p, q) := by
  have c := lowN_cop (x := x) hy
  have d := lowN_pos (x := x) hy
  have e := lowN_cross x y
  have : (lowN x y).1 * q = p * (lowN x y).2 := by
    have z : ((lowN x y).1 * q) * y = (p * (lowN x y).2) * y := by grind
    exact Int.eq_of_mul_eq_mul_right (by omega) z
  obtain ⟨u, v⟩ := low_uniq c h1 d hq this
  exact Prod.ext u v
theorem ratio_some {a b : T3} {p : Int × Int} (h : ratio a b = some p) : ∃ r : Nat, r * r = sq a * sq b ∧ p = lowN (r : Int) (sq b : Int) := by
  unfold ratio at h
  cases e : rootN (sq a * sq b) with
  | none => rw [e] at h; cases h
  | some r =>
    rw [e] at h
    exact ⟨r, rootN_some e, by cases h; rfl⟩
theorem ratio_of {a b : T3} {r : Nat} (h : r * r = sq a * sq b) : ratio a b = some (lowN (r : Int) (sq b : Int)) := by
  unfold ratio
  rw [rootN_of h]
  rfl
theorem root_none_iff (a b : T3) : (rootN (sq a * sq b)).isNone = (ratio a b).isNone := by
  unfold ratio
  cases rootN (sq a * sq b) <;> rfl
theorem sq_times (k : Int) (a : T3) : sq (times k a) = k.natAbs * k.natAbs * sq a := by
  simp only [sq, times, Int.natAbs_mul]
  grind
theorem ratio_swap {a b : T3} (ha : a ≠ z3) (hb : b ≠ z3) {p : Int × Int} (h : ratio a b = some p) : ratio b a = some (p.2, p.1) := by
  obtain ⟨r, e, rfl⟩ := ratio_some h
  have pa := sq_pos ha
  have pb := sq_pos hb
  rw [ratio_of (r := r) (by rw [e, Nat.mul_comm])]
  have hr : 0 < r := by
    rcases Nat.eq_zero_or_pos r with z | z
    · subst z
      have := Nat.mul_pos pa pb
      omega
    · exact z
  have e' : (r : Int) * r = (sq a : Int) * (sq b : Int) := by exact_mod_cast e
  have lc := lowN_cross (r : Int) (sq b : Int)
  have lp := lowN_pos (x := (r : Int)) (y := (sq b : Int)) (by omega)
  have cop := lowN_cop (x := (r : Int)) (y := (sq b : Int)) (by omega)
  generalize lowN (r : Int) (sq b : Int) = p at *
  have p1 : 0 < p.1 := by
    refine Classical.byContradiction fun n => ?_
    have z1 : p.1 * (sq b : Int) ≤ 0 := Int.mul_nonpos_of_nonpos_of_nonneg (by omega) (by omega)
    have z2 : 0 < p.2 * (r : Int) := Int.mul_pos lp (by omega)
    omega
  congr 1
  refine low_eq (by rw [Int.gcd_comm]; exact cop) p1 (by omega) ?_
  -- p.2 * sq a = p.1 * r
  have z : (p.2 * (sq a : Int)) * (r : Int) = (p.1 * (r : Int)) * (r : Int) := by
    have : (p.2 * (r : Int)) * (sq a : Int) = p.1 * ((r : Int) * r) := by rw [e', ← lc]; grind
    grind
  exact Int.eq_of_mul_eq_mul_right (by omega) z
theorem ratio_chain {a b c : T3} (hb : b ≠ z3) (hc : c ≠ z3) {p q : Int × Int} (h : ratio a b = some p) (g : ratio b c = some q) : ∃ t, ratio a c = some t ∧ t.1 * p.2 * q.2 = p.1 * q.1 * t.2 := by
  obtain ⟨r, e, rfl⟩ := ratio_some h
  obtain ⟨s, f, rfl⟩ := ratio_some g
  have pb := sq_pos hb
  have pc := sq_pos hc
  have dv : sq b ∣ r * s := by
    have : (sq b) ^ 2 ∣ (r * s) ^ 2 := ⟨sq a * sq c, by
      have : (r * s) ^ 2 = (r * r) * (s * s) := by grind
      rw [this, e, f]
      grind⟩
    exact (Nat.pow_dvd_pow_iff (by omega)).mp this
  obtain ⟨u, hu⟩ := dv
  have hu2 : u * u = sq a * sq c := by
    have : (sq b * sq b) * (u * u) = (sq b * sq b) * (sq a * sq c) := by
      have : (sq b * u) * (sq b * u) = (r * r) * (s * s) := by rw [← hu]; grind
      rw [e, f] at this
      grind
    exact Nat.eq_of_mul_eq_mul_left (Nat.mul_pos pb pb) this
  refine ⟨_, ratio_of hu2, ?_⟩
  have l1 := lowN_cross (r : Int) (sq b : Int)
  have l2 := lowN_cross (s : Int) (sq c : Int)
  have l3 := lowN_cross (u : Int) (sq c : Int)
  generalize lowN (r : Int) (sq b : Int) = p at *
  generalize lowN (s : Int) (sq c : Int) = q at *
  generalize lowN (u : Int) (sq c : Int) = t at *
  have hu' : (r : Int) * s = (sq b : Int) * u := by exact_mod_cast hu
  have z : (t.1 * p.2 * q.2) * ((sq b : Int) * (sq c : Int)) = (p.1 * q.1 * t.2) * ((sq b : Int) * (sq c : Int)) := by
    have : (p.1 * (sq b : Int)) * (q.1 * (sq c : Int)) * t.2 = (p.2 * q.2) * ((r : Int) * s) * t.2 := by rw [l1, l2]; grind
    rw [hu'] at this
    have w : (t.1 * (sq c : Int)) * (sq b : Int) * (p.2 * q.2) = t.2 * u * (sq b : Int) * (p.2 * q.2) := by rw [l3]
    grind
  exact Int.eq_of_mul_eq_mul_right (by
    have : 0 < (sq b : Int) * (sq c : Int) := Int.mul_pos (by omega) (by omega)
    omega) z
theorem ratio_twice {a b : T3} (hb : b ≠ z3) {p : Int × Int} (h : ratio a b = some p) : ∃ t, ratio (times 2 a) b = some t ∧ t.1 * p.2 = 2 * p.1 * t.2 := by
  obtain ⟨r, e, rfl⟩ := ratio_some h
  have pb := sq_pos hb
  have e2 : (2 * r) * (2 * r) = sq (times 2 a) * sq b := by
    rw [sq_times]
    have : (2 : Int).natAbs = 2 := rfl
    rw [this]
    grind
  refine ⟨_, ratio_of e2, ?_⟩
  have l1 := lowN_cross (r : Int) (sq b : Int)
  have l2 := lowN_cross ((2 * r : Nat) : Int) (sq b : Int)
  generalize lowN (r : Int) (sq b : Int) = p at *
  generalize lowN ((2 * r : Nat) : Int) (sq b : Int) = t at *
  have z : (t.1 * p.2) * (sq b : Int) = (2 * p.1 * t.2) * (sq b : Int) := by
    have : (t.1 * (sq b : Int)) * p.2 = t.2 * (2 * (p.2 * (r : Int))) := by
      rw [l2, Int.natCast_mul]
      grind
    rw [← l1] at this
    grind
  exact Int.eq_of_mul_eq_mul_right (by omega) z
theorem ratio_sq {a b : T3} (hb : b ≠ z3) {p : Int × Int} (h : ratio a b = some p) : p.1 * p.1 * (sq b : Int) = p.2 * p.2 * (sq a : Int) := by
  obtain ⟨r, e, rfl⟩ := ratio_some h
  have pb := sq_pos hb
  have l1 := lowN_cross (r : Int) (sq b : Int)
  generalize lowN (r : Int) (sq b : Int) = p at *
  have e' : (r : Int) * r = (sq a : Int) * (sq b : Int) := by exact_mod_cast e
  have z : (p.1 * p.1 * (sq b : Int)) * (sq b : Int) = (p.2 * p.2 * (sq a : Int)) * (sq b : Int) := by
    have : (p.1 * (sq b : Int)) * (p.1 * (sq b : Int)) = (p.2 * p.2) * ((r : Int) * r) := by rw [l1]; grind
    rw [e'] at this
    grind
  exact Int.eq_of_mul_eq_mul_right (by omega) z
theorem ratio_times {a : T3} (ha : a ≠ z3) {k : Int} (hk : 0 < k) : ratio a (times k a) = some (1, k) := by
  have pa := sq_pos ha
  have kn : (k.natAbs : Int) = k := by omega
  have e : (k.natAbs * sq a) * (k.natAbs * sq a) = sq a * sq (times k a) := by
    rw [sq_times]
    grind
  rw [ratio_of e]
  congr 1
  have kp := Nat.mul_pos (Nat.mul_pos (show 0 < k.natAbs by omega) (show 0 < k.natAbs by omega)) pa
  refine low_eq (by rw [Int.gcd_comm]; exact Int.gcd_one) hk (by rw [sq_times]; omega) ?_
  rw [sq_times]
  simp only [Int.natCast_mul, kn]
  grind
/-! ### least -/
theorem gcd3_times {k : Int} (hk : 0 < k) (a : T3) : gcd3 (times k a) = k * gcd3 a := by
  unfold gcd3 times
  dsimp only
  have kn : (k.natAbs : Int) = k := by omega
  rw [Int.gcd_mul_left, Int.natCast_mul, kn, Int.gcd_mul_left, Int.natCast_mul, kn]
theorem least_times {k : Int} (hk : 0 < k) (a : T3) : least (times k a) = least a := by
  unfold least
  rw [gcd3_times hk]
  simp only [times, Int.mul_ediv_mul_of_pos _ _ hk]
theorem gcd3_neg (a : T3) : gcd3 (neg a) = gcd3 a := by
  unfold gcd3 neg
  dsimp only
  rw [Int.gcd_neg, Int.neg_gcd, Int.gcd_neg]
theorem times_least (a : T3) : times (gcd3 a) (least a) = a := by
  obtain ⟨d1, d2, d3⟩ := gcd3_dvd a
  unfold times least
  dsimp only
  rw [Int.mul_ediv_cancel' d1, Int.mul_ediv_cancel' d2, Int.mul_ediv_cancel' d3]
theorem gcd3_least {a : T3} (h : a ≠ z3) : gcd3 (least a) = 1 := by
  have g := gcd3_pos h
  have e := gcd3_times g (least a)
  rw [times_least] at e
  have : gcd3 a * 1 = gcd3 a * gcd3 (least a) := by omega
  exact (Int.eq_of_mul_eq_mul_left (by omega) this).symm
theorem least_of_one {a : T3} (h : gcd3 a = 1) : least a = a := by
  unfold least
  rw [h]
  simp only [Int.ediv_one]
theorem neg_neg (a : T3) : neg (neg a) = a := by
  simp only [neg, Int.neg_neg]
theorem least_opp {a : T3} (h : a ≠ z3) : least (neg (least a)) = neg (least a) := least_of_one (by rw [gcd3_neg, gcd3_least h])
theorem neg_ne {a : T3} (h : a ≠ z3) : neg a ≠ z3 := by
  intro e
  have := congrArg neg e
  rw [neg_neg] at this
  exact h this
theorem dot_times (k : Int) (a b : T3) : dot a (times k b) = k * dot a b := by
  simp only [dot, times]
  grind
theorem dot_neg (a b : T3) : dot a (neg b) = -dot a b := by
  simp only [dot, neg]
  grind
theorem dot_least (a b : T3) : dot a b = gcd3 b * dot a (least b) := by
  rw [← dot_times, times_least]
theorem sgn_mul {k i : Int} (hk : 0 < k) : sgn (k * i) = sgn i := by
  unfold sgn
  by_cases h : 0 < i
  · rw [if_pos h, if_pos (Int.mul_pos hk h)]
  · by_cases h0 : i = 0
    · subst h0
      rw [Int.mul_zero]
    · have : k * i < 0 := Int.mul_neg_of_pos_of_neg hk (by omega)
      rw [if_neg h, if_neg h0, if_neg (by omega), if_neg (by omega)]
theorem sgn_opp {a b : T3} (hb : b ≠ z3) : sgn (dot a (neg (least b))) = 0 - sgn (dot a b) := by
  rw [dot_neg, dot_least a b, sgn_mul (gcd3_pos hb)]
  unfold sgn
  generalize dot a (least b) = i
  by_cases h : 0 < i
  · rw [if_neg (by omega), if_neg (by omega), if_pos h]
    rfl
  · by_cases h0 : i = 0
    · subst h0
      rfl
    · rw [if_pos (by omega), if_neg h, if_neg h0]
      rfl
/-! ### between -/
theorem btw_yes {a b : T3} {k l : Int} (hk : 0 < k) (hl : 0 < l) (n : cross a b ≠ z3) : between a (plus (times k a) (times l b)) b = true := by
  have p := sq_pos n
  have e := dot_self (cross a b)
  have h0 : dot (cross a b) (plus (times k a) (times l b)) = 0 := by
    simp only [dot, cross, plus, times]
    grind
  have h1 : dot (cross a (plus (times k a) (times l b))) (cross a b) = l * (sq (cross a b) : Int) := by
    rw [← e]
    simp only [dot, cross, plus, times]
    grind
  have h2 : dot (cross (plus (times k a) (times l b)) b) (cross a b) = k * (sq (cross a b) : Int) := by
    rw [← e]
    simp only [dot, cross, plus, times]
    grind
  have q1 : 0 < l * (sq (cross a b) : Int) := Int.mul_pos hl (by omega)
  have q2 : 0 < k * (sq (cross a b) : Int) := Int.mul_pos hk (by omega)
  unfold between
  rw [h0, h1, h2, decide_eq_false n, decide_eq_true q1, decide_eq_true q2]
  rfl
theorem cross_swap (a b : T3) : cross b a = neg (cross a b) := by
  simp only [cross, neg, Prod.mk.injEq]
  grind
theorem plus_comm (a b : T3) : plus a b = plus b a := by
  simp only [plus, Prod.mk.injEq]
  grind
theorem btw_yes' {a b : T3} {k l : Int} (hk : 0 < k) (hl : 0 < l) (n : cross a b ≠ z3) : between b (plus (times k a) (times l b)) a = true := by
  rw [plus_comm]
  exact btw_yes hl hk (by rw [cross_swap]; exact neg_ne n)
theorem mid_ne {a b : T3} {k l : Int} (hl : 0 < l) (n : cross a b ≠ z3) : plus (times k a) (times l b) ≠ z3 := by
  intro h
  apply n
  have e : times l (cross a b) = cross a (plus (times k a) (times l b)) := by
    simp only [cross, plus, times, Prod.mk.injEq]
    grind
  rw [h] at e
  have e2 : times l (cross a b) = z3 := by
    rw [e]
    simp only [cross, Prod.mk.injEq]
    grind
  generalize cross a b = x at e2
  obtain ⟨x, y, z⟩ := x
  simp only [times, Prod.mk.injEq] at e2 ⊢
  exact ⟨(Int.mul_eq_zero.mp e2.1).resolve_left (by omega), (Int.mul_eq_zero.mp e2.2.1).resolve_left (by omega), (Int.mul_eq_zero.mp e2.2.2).resolve_left (by omega)⟩
theorem btw_opp {a b : T3} {k l : Int} (hk : 0 < k) (hl : 0 < l) (n : cross a b ≠ z3) : between a (neg (least (plus (times k a) (times l b)))) b = false := by
  have m := mid_ne (k := k) hl n
  have p := sq_pos n
  have e := dot_self (cross a b)
  have h1 : dot (cross a (plus (times k a) (times l b))) (cross a b) = l * (sq (cross a b) : Int) := by
    rw [← e]
    simp only [dot, cross, plus, times]
    grind
  generalize plus (times k a) (times l b) = x at *
  have g := gcd3_pos m
  have h2 : gcd3 x * dot (cross a (neg (least x))) (cross a b) = -(l * (sq (cross a b) : Int)) := by
    rw [← h1]
    conv => rhs; rw [← times_least x]
    simp only [dot, cross, neg, times]
    grind
  have q1 : 0 < l * (sq (cross a b) : Int) := Int.mul_pos hl (by omega)
  have q2 : ¬ 0 < dot (cross a (neg (least x))) (cross a b) := fun z => by
    have := Int.mul_pos g z
    omega
  unfold between
  rw [decide_eq_false q2]
  simp
theorem btw_out {a b : T3} {k l : Int} (hk : 0 < k) (hl : 0 < l) (n : cross a b ≠ z3) : between (plus (times k a) (times l b)) a b = false := by
  have p := sq_pos n
  have e := dot_self (cross a b)
  have h2 : dot (cross (plus (times k a) (times l b)) a) (cross (plus (times k a) (times l b)) b) = -(k * l * (sq (cross a b) : Int)) := by
    rw [← e]
    simp only [dot, cross, plus, times]
    grind
  have q1 : 0 < k * l * (sq (cross a b) : Int) := Int.mul_pos (Int.mul_pos hk hl) (by omega)
  have q2 : ¬ 0 < dot (cross (plus (times k a) (times l b)) a) (cross (plus (times k a) (times l b)) b) := by omega
  unfold between
  rw [decide_eq_false q2]
  simp
theorem btw_end (a b : T3) : between a a b = false := by
  have h : dot (cross a a) (cross a b) = 0 := by
    simp only [dot, cross]
    grind
  unfold between
  rw [h]
  simp
theorem btw_normal {a b : T3} (n : cross a b ≠ z3) : between a (cross a b) b = false := by
  have p := sq_pos n
  unfold between
  rw [dot_self, beq_eq_false_iff_ne.mpr (by omega : (sq (cross a b) : Int) ≠ 0)]
  simp
/-! ### alike -/
theorem times_ne {k : Int} (hk : 0 < k) {a : T3} (h : a ≠ z3) : times k a ≠ z3 := by
  intro e
  have := sq_times k a
  rw [e] at this
  have p := Nat.mul_pos (Nat.mul_pos (show 0 < k.natAbs by omega) (show 0 < k.natAbs by omega)) (sq_pos h)
  have : sq z3 = 0 := rfl
  omega
theorem alike_times {a b : T3} {k : Int} (ha : a ≠ z3) (hb : b ≠ z3) (hk : 0 < k) : alike a b (times k a) (times 2 b) = true := by
  have d : dot (times k a) (times 2 b) = 2 * k * dot a b := by
    simp only [dot, times]
    grind
  have kn : (k.natAbs : Int) = k := by omega
  have n2 : ((2 : Int).natAbs : Int) = 2 := rfl
  have s0 : 0 ≤ dot a b * dot a b := by
    rcases Int.le_total 0 (dot a b) with h | h
    · exact Int.mul_nonneg h h
    · exact Int.mul_nonneg_of_nonpos_of_nonpos h h
  have c1 : ¬ (dot a b * dot (times k a) (times 2 b) < 0) := by
    rw [d]
    have : 0 ≤ (2 * k) * (dot a b * dot a b) := Int.mul_nonneg (by omega) s0
    have e : dot a b * (2 * k * dot a b) = (2 * k) * (dot a b * dot a b) := by grind
    omega
  have c2 : dot a b * dot a b * (sq (times k a) : Int) * (sq (times 2 b) : Int) = dot (times k a) (times 2 b) * dot (times k a) (times 2 b) * ((sq a : Int) * (sq b : Int)) := by
    rw [d, sq_times, sq_times]
    simp only [Int.natCast_mul, kn, n2]
    grind
  unfold alike
  rw [if_neg (fun z => z.elim c1 fun z => z c2), ratio_times ha hk, ratio_times hb (by omega : (0 : Int) < 2), d]
  simp only [beq_iff_eq]
  grind
theorem alike_swap {a b : T3} (ha : a ≠ z3) (hb : b ≠ z3) {p : Int × Int} (h : ratio a b = some p) : alike a b b a = true := by
  have s0 : 0 ≤ dot a b * dot a b := by
    rcases Int.le_total 0 (dot a b) with h | h
    · exact Int.mul_nonneg h h
    · exact Int.mul_nonneg_of_nonpos_of_nonpos h h
  have d := dot_comm b a
  unfold alike
  rw [d, if_neg (fun z => z.elim (by omega) fun z => z (by grind)), h, ratio_swap ha hb h]
  simp only [beq_iff_eq]
  grind
theorem alike_opp {a b : T3} (hb : b ≠ z3) (n : dot a b ≠ 0) : alike a b a (neg (least b)) = false := by
  have g := gcd3_pos hb
  have e := dot_least a b
  have c1 : dot a b * dot a (neg (least b)) < 0 := by
    rw [dot_neg]
    conv => lhs; rw [e]
    have nz : dot a (least b) ≠ 0 := fun z => n (by rw [e, z, Int.mul_zero])
    have : 0 < dot a (least b) * dot a (least b) := by
      rcases Int.lt_or_gt_of_ne nz with h | h
      · exact Int.mul_pos_of_neg_of_neg h h
      · exact Int.mul_pos h h
    have q := Int.mul_pos g this
    have : gcd3 b * dot a (least b) * -dot a (least b) = -(gcd3 b * (dot a (least b) * dot a (least b))) := by grind
    omega
  unfold alike
  rw [if_pos (.inl c1)]
end Lw

set_option Elab.async false
set_option linter.all false
set_option maxRecDepth 100000
set_option maxHeartbeats 4000000
set_option autoImplicit false
namespace Lw
open PySem L2 Sk
section
variable {ns : List Int} {env : Sk.Env} {A B : DS} {P : Sk.Flow → Prop}
/-- goes on, and Q holds of the names -/
def Nx (Q : Sk.Env → Prop) : Sk.Flow → Prop := fun fl => ∃ e, fl = .next e ∧ Q e
theorem Ev.seq {Q : Sk.Env → Prop} (hA : Ev ns (A env) (Nx Q)) (hB : ∀ e, Q e → Ev ns (B e) P) : Ev ns (sSeq A B env) P := by
  refine Ev.bind hA fun fl p => ?_
  obtain ⟨e, rfl, q⟩ := p
  exact hB e q
theorem Ev.asg {e' : Sk.Env} (hA : A env = M.pure (.next e')) (hB : Ev ns (B e') P) : Ev ns (sSeq A B env) P := by
  unfold sSeq
  rw [hA, bind_pure]
  exact hB
theorem Ev.guard {T : DB} (hT : T env = M.pure false) (hB : Ev ns (B env) P) : Ev ns (sSeq (sIf T A sNext) B env) P := by
  refine Ev.asg (e' := env) ?_ hB
  unfold sIf
  rw [hT, bind_pure, if_neg (by decide)]
  rfl
theorem Ev.guardE {T : DB} (hT : T env = M.pure false) (h : P (.next env)) : Ev ns (sIf T A sNext env) P := by
  unfold sIf
  rw [hT, bind_pure, if_neg (by decide)]
  exact Ev.pure h
theorem Ev.ite {T : DB} (b : Bool) (hT : T env = M.pure b) (h1 : b = true → Ev ns (A env) P) (h2 : b = false → Ev ns (B env) P) : Ev ns (sIf T A B env) P := by
  unfold sIf
  rw [hT, bind_pure]
  cases b with
  | true => exact h1 rfl
  | false => exact h2 rfl
theorem Ev.for {di : DI} {dg : DG} {xs : List D} {I : Sk.Env → Prop} (hi : di env = M.pure xs) (h : ∀ x ∈ xs, ∀ e, I e → ∃ e', dg x e = some e' ∧ Ev ns (A e') (Nx I)) (i : I env) : Ev ns (sFor di dg A env) (Nx I) := by
  unfold sFor
  rw [hi, bind_pure]
  refine Ev.mono (Ev.forLoop (I := I) (R := fun _ => False) xs env (fun x hx e p => ?_) i) fun fl p => ?_
  · obtain ⟨e', g, w⟩ := h x hx e p
    rw [g, lift_some, bind_pure]
    refine Ev.mono w fun fl p => ?_
    obtain ⟨e2, rfl, q⟩ := p
    exact q
  · cases fl with
    | next e => exact ⟨e, rfl, p⟩
    | cont e => cases p
    | brk e => cases p
    | ret d => cases p
theorem Ev.asgB {a : DE} {dg : DG} {Q : D → Prop} {R : Sk.Env → Prop} (h : Ev ns (a env) Q) (g : ∀ d, Q d → ∃ e, dg d env = some e ∧ R e) : Ev ns (sAsg a dg env) (Nx R) := by
  refine Ev.bind h fun d q => ?_
  obtain ⟨e, w, r⟩ := g d q
  rw [w, lift_some, bind_pure]
  exact Ev.pure ⟨e, rfl, r⟩
end
theorem law_of {ns : List Int} {k : Nat} {B : DS} (h : Ev ns (M.bind (B (.shr (.scr ns) :: .shr (.cel 0) :: List.replicate k .no)) endOf) (fun d => d = .bl true)) : ∃ S', runDef (k + 2) (sSeq (sNewCel 1 (dLst (dCons (dVar 0) (dCons (dC (.int 0)) dNil)))) B) [.scr ns] [] = .ok (.bl true) S' := by
  obtain ⟨d, c', e, rfl⟩ := h 0
  have st {α β : Type} {p : M α} {g : α → M β} {S S' : Store} {a : α} (x : p S = .ok a S') : (M.bind p g) S = g a S' := by
    show (match p S with | .ok a S' => g a S' | .exc c fs S' => .exc c fs S' | .stuck => .stuck) = _
    rw [x]
  refine ⟨_, Eq.trans ?_ e⟩
  have e1 : (sNewCel 1 (dLst (dCons (dVar 0) (dCons (dC (.int 0)) dNil))) ([D.scr ns].map Slot.shr ++ List.replicate (k + 2 - 1) .no)) [] = .ok (.next (.shr (.scr ns) :: .shr (.cel 0) :: List.replicate k .no)) (Dw ns 0) := rfl
  unfold runDef sSeq
  rw [bind_assoc]
  exact st e1
theorem oTuple_tD (a : T3) : oTuple (tD a) = M.pure (tD a) := rfl
theorem oNe_z3 (a : T3) : oNe (tD a) (.tup [.int 0, .int 0, .int 0]) = M.pure (.bl (!decide (a = z3))) := oNe_t3 a z3
theorem oNe_bl (x y : Bool) : oNe (.bl x) (.bl y) = M.pure (.bl (!(x == y))) := by cases x <;> cases y <;> rfl
theorem oEq_bl (x y : Bool) : oEq (.bl x) (.bl y) = M.pure (.bl (x == y)) := by cases x <;> cases y <;> rfl
theorem oNe_pair (a b c d : Int) : oNe (.tup [.int a, .int b]) (.tup [.int c, .int d]) = M.pure (.bl (!(a == c && (b == d && true)))) := rfl
theorem lc_map {f : D → M (List D)} (g : D → D) : ∀ (xs : List D), (∀ x ∈ xs, f x = M.pure [g x]) → lcLoop f xs = M.pure (xs.map g)
  | [], _ => rfl
  | x :: xs, h => by
    show M.bind (f x) _ = _
    rw [h x (.head _), bind_pure, lc_map g xs fun y hy => h y (.tail _ hy), bind_pure]
    rfl
end Lw

set_option Elab.async false
set_option linter.all false
set_option maxRecDepth 100000
set_option maxHeartbeats 4000000
set_option autoImplicit false
namespace Lw
open PySem L2 Sk
/-! ### words -/
theorem f_is_number_eq (i lo hi : Int) : f_is_number [.int i, .int lo, .int hi] = M.pure (.bl (decide (lo ≤ i) && decide (i ≤ hi))) := by
  simp only [f_is_number, d_is_number, f_is_integer_eq, dChain, bind_pure, lift_some, noX_pure, runDef, sNext, sSeq, sExpr, sRet, sRetN, sIf, sAsg, sPar2, sPar3, sAug, sOwn, noObj, sAppend, sFreeze, endOf, dVar, bVar, dC, dUn, dBin, dNil, dCons, dTup, dLst, dCall, asB, tVal, tAndD, tOrD, tNotD, dOfT, dIf, dAndV, dOrV, dNotV, oAdd, oAddI, oSub, oMod, oNeg, oLt, oLe, oGt, oGe, oIsNone, oNotNone, oIsN2, oNotN2, oAll, oAny, oSum, oLen, oTuple, oList, oAbs, oInt, oIx, asBs, asIs, wipeE, itemsOf, iVal, lcLoop, lcTurn, dLc, tYesD, gSet, gAll, gTupD, zipD, Sk.iZip, List.zip_cons_cons, List.zip_nil_right, List.zip_nil_left, List.map_cons, List.map_nil, List.length_cons, List.length_nil, List.replicate_succ, List.replicate_zero, List.cons_append, List.nil_append, List.append_nil, List.getElem?_cons_zero, List.getElem?_cons_succ, List.set_cons_zero, List.set_cons_succ, Option.map_some, Option.bind_some, Nat.reduceAdd, Nat.reduceSub, Nat.reduceLeDiff, ite_true, ite_false, Bool.false_eq_true, Bool.not_true, Bool.not_false, if_true, if_false, reduceIte, reduceCtorEq, List.sum_cons, List.sum_nil, List.all_cons, List.all_nil, List.any_cons, List.any_nil, id_eq, Bool.and_true, Bool.true_and, Bool.or_false, Bool.false_or, Bool.and_self, Bool.false_and, Bool.and_false, Bool.true_or, Bool.or_true, Int.cast_ofNat_Int, beq_self_eq_true, Int.reduceBEq, Int.reduceLT, Int.reduceLE, decide_true, decide_false]
  cases decide (lo ≤ i) <;> rfl
theorem f_check_number_eq {i lo hi : Int} (s : Str) (h1 : lo ≤ i) (h2 : i ≤ hi) : f_check_number [.str s, .int i, .int lo, .int hi] = M.pure .non := by
  simp only [f_check_number, d_check_number, f_is_number_eq, decide_eq_true h1, decide_eq_true h2, bind_pure, lift_some, noX_pure, runDef, sNext, sSeq, sExpr, sRet, sRetN, sIf, sAsg, sPar2, sPar3, sAug, sOwn, noObj, sAppend, sFreeze, endOf, dVar, bVar, dC, dUn, dBin, dNil, dCons, dTup, dLst, dCall, asB, tVal, tAndD, tOrD, tNotD, dOfT, dIf, dAndV, dOrV, dNotV, oAdd, oAddI, oSub, oMod, oNeg, oLt, oLe, oGt, oGe, oIsNone, oNotNone, oIsN2, oNotN2, oAll, oAny, oSum, oLen, oTuple, oList, oAbs, oInt, oIx, asBs, asIs, wipeE, itemsOf, iVal, lcLoop, lcTurn, dLc, tYesD, gSet, gAll, gTupD, zipD, Sk.iZip, List.zip_cons_cons, List.zip_nil_right, List.zip_nil_left, List.map_cons, List.map_nil, List.length_cons, List.length_nil, List.replicate_succ, List.replicate_zero, List.cons_append, List.nil_append, List.append_nil, List.getElem?_cons_zero, List.getElem?_cons_succ, List.set_cons_zero, List.set_cons_succ, Option.map_some, Option.bind_some, Nat.reduceAdd, Nat.reduceSub, Nat.reduceLeDiff, ite_true, ite_false, Bool.false_eq_true, Bool.not_true, Bool.not_false, if_true, if_false, reduceIte, reduceCtorEq, List.sum_cons, List.sum_nil, List.all_cons, List.all_nil, List.any_cons, List.any_nil, id_eq, Bool.and_true, Bool.true_and, Bool.or_false, Bool.false_or, Bool.and_self, Bool.false_and, Bool.and_false, Bool.true_or, Bool.or_true, Int.cast_ofNat_Int, beq_self_eq_true, Int.reduceBEq, Int.reduceLT, Int.reduceLE, decide_true, decide_false]
theorem kit_ll : kitB "list" "list" = some true := by decide +kernel
theorem kit_lt : kitB "list" "tuple" = some false := by decide +kernel
theorem kit_tl : kitB "tuple" "list" = some false := by decide +kernel
theorem kit_tt : kitB "tuple" "tuple" = some true := by decide +kernel
theorem f_is_row_eqT (xs : List D) : f_is_row [.tup xs] = M.pure (.bl true) := by
  simp only [f_is_row, d_is_row, oIsB2, tyN, kit_tl, kit_tt, bind_pure, lift_some, noX_pure, runDef, sNext, sSeq, sExpr, sRet, sRetN, sIf, sAsg, sPar2, sPar3, sAug, sOwn, noObj, sAppend, sFreeze, endOf, dVar, bVar, dC, dUn, dBin, dNil, dCons, dTup, dLst, dCall, asB, tVal, tAndD, tOrD, tNotD, dOfT, dIf, dAndV, dOrV, dNotV, oAdd, oAddI, oSub, oMod, oNeg, oLt, oLe, oGt, oGe, oIsNone, oNotNone, oIsN2, oNotN2, oAll, oAny, oSum, oLen, oTuple, oList, oAbs, oInt, oIx, asBs, asIs, wipeE, itemsOf, iVal, lcLoop, lcTurn, dLc, tYesD, gSet, gAll, gTupD, zipD, Sk.iZip, List.zip_cons_cons, List.zip_nil_right, List.zip_nil_left, List.map_cons, List.map_nil, List.length_cons, List.length_nil, List.replicate_succ, List.replicate_zero, List.cons_append, List.nil_append, List.append_nil, List.getElem?_cons_zero, List.getElem?_cons_succ, List.set_cons_zero, List.set_cons_succ, Option.map_some, Option.bind_some, Nat.reduceAdd, Nat.reduceSub, Nat.reduceLeDiff, ite_true, ite_false, Bool.false_eq_true, Bool.not_true, Bool.not_false, if_true, if_false, reduceIte, reduceCtorEq, List.sum_cons, List.sum_nil, List.all_cons, List.all_nil, List.any_cons, List.any_nil, id_eq, Bool.and_true, Bool.true_and, Bool.or_false, Bool.false_or, Bool.and_self, Bool.false_and, Bool.and_false, Bool.true_or, Bool.or_true, Int.cast_ofNat_Int, beq_self_eq_true, Int.reduceBEq, Int.reduceLT, Int.reduceLE, decide_true, decide_false]
theorem f_is_row_eqL (xs : List D) : f_is_row [.lst xs] = M.pure (.bl true) := by
  simp only [f_is_row, d_is_row, oIsB2, tyN, kit_ll, kit_lt, bind_pure, lift_some, noX_pure, runDef, sNext, sSeq, sExpr, sRet, sRetN, sIf, sAsg, sPar2, sPar3, sAug, sOwn, noObj, sAppend, sFreeze, endOf, dVar, bVar, dC, dUn, dBin, dNil, dCons, dTup, dLst, dCall, asB, tVal, tAndD, tOrD, tNotD, dOfT, dIf, dAndV, dOrV, dNotV, oAdd, oAddI, oSub, oMod, oNeg, oLt, oLe, oGt, oGe, oIsNone, oNotNone, oIsN2, oNotN2, oAll, oAny, oSum, oLen, oTuple, oList, oAbs, oInt, oIx, asBs, asIs, wipeE, itemsOf, iVal, lcLoop, lcTurn, dLc, tYesD, gSet, gAll, gTupD, zipD, Sk.iZip, List.zip_cons_cons, List.zip_nil_right, List.zip_nil_left, List.map_cons, List.map_nil, List.length_cons, List.length_nil, List.replicate_succ, List.replicate_zero, List.cons_append, List.nil_append, List.append_nil, List.getElem?_cons_zero, List.getElem?_cons_succ, List.set_cons_zero, List.set_cons_succ, Option.map_some, Option.bind_some, Nat.reduceAdd, Nat.reduceSub, Nat.reduceLeDiff, ite_true, ite_false, Bool.false_eq_true, Bool.not_true, Bool.not_false, if_true, if_false, reduceIte, reduceCtorEq, List.sum_cons, List.sum_nil, List.all_cons, List.all_nil, List.any_cons, List.any_nil, id_eq, Bool.and_true, Bool.true_and, Bool.or_false, Bool.false_or, Bool.and_self, Bool.false_and, Bool.and_false, Bool.true_or, Bool.or_true, Int.cast_ofNat_Int, beq_self_eq_true, Int.reduceBEq, Int.reduceLT, Int.reduceLE, decide_true, decide_false]
/-! ### ways -/
abbrev W6 := T3 × T3
def wD (w : W6) : D := .tup [tD w.1, tD w.2]
def WB (k : Nat) (w : W6) : Prop := B k w.1 ∧ B k w.2
theorem isB_tD (a : T3) : oIsB "tuple" (tD a) = M.pure (.bl true) := isB_tt _
theorem oEq_z3 (a : T3) : oEq (tD a) (.tup [.int 0, .int 0, .int 0]) = M.pure (.bl (decide (a = z3))) := oEq_t3 a z3
theorem f_is_way_eq (w : W6) : f_is_way [wD w] = M.pure (.bl true) := by
  have h : ∀ a : T3, (if decide (a = z3) = true then (M.pure (D.bl true) : M D) else M.pure (.bl (!decide (a = z3)))) = M.pure (.bl true) := by
    intro a
    cases decide (a = z3) <;> rfl
  simp only [f_is_way, d_is_way, wD, f_is_row_eqT, oNe_int, isB_tD, oEq_z3, f_is_triple_eq, h, bind_pure, lift_some, noX_pure, runDef, sNext, sSeq, sExpr, sRet, sRetN, sIf, sAsg, sPar2, sPar3, sAug, sOwn, noObj, sAppend, sFreeze, endOf, dVar, bVar, dC, dUn, dBin, dNil, dCons, dTup, dLst, dCall, asB, tVal, tAndD, tOrD, tNotD, dOfT, dIf, dAndV, dOrV, dNotV, oAdd, oAddI, oSub, oMod, oNeg, oLt, oLe, oGt, oGe, oIsNone, oNotNone, oIsN2, oNotN2, oAll, oAny, oSum, oLen, oTuple, oList, oAbs, oInt, oIx, asBs, asIs, wipeE, itemsOf, iVal, lcLoop, lcTurn, dLc, tYesD, gSet, gAll, gTupD, zipD, Sk.iZip, List.zip_cons_cons, List.zip_nil_right, List.zip_nil_left, List.map_cons, List.map_nil, List.length_cons, List.length_nil, List.replicate_succ, List.replicate_zero, List.cons_append, List.nil_append, List.append_nil, List.getElem?_cons_zero, List.getElem?_cons_succ, List.set_cons_zero, List.set_cons_succ, Option.map_some, Option.bind_some, Nat.reduceAdd, Nat.reduceSub, Nat.reduceLeDiff, ite_true, ite_false, Bool.false_eq_true, Bool.not_true, Bool.not_false, if_true, if_false, reduceIte, reduceCtorEq, List.sum_cons, List.sum_nil, List.all_cons, List.all_nil, List.any_cons, List.any_nil, id_eq, Bool.and_true, Bool.true_and, Bool.or_false, Bool.false_or, Bool.and_self, Bool.false_and, Bool.and_false, Bool.true_or, Bool.or_true, Int.cast_ofNat_Int, beq_self_eq_true, Int.reduceBEq, Int.reduceLT, Int.reduceLE, decide_true, decide_false]
theorem f_check_way_eq (w : W6) : f_check_way [wD w] = M.pure .non := by
  simp only [f_check_way, d_check_way, f_is_way_eq, bind_pure, lift_some, noX_pure, runDef, sNext, sSeq, sExpr, sRet, sRetN, sIf, sAsg, sPar2, sPar3, sAug, sOwn, noObj, sAppend, sFreeze, endOf, dVar, bVar, dC, dUn, dBin, dNil, dCons, dTup, dLst, dCall, asB, tVal, tAndD, tOrD, tNotD, dOfT, dIf, dAndV, dOrV, dNotV, oAdd, oAddI, oSub, oMod, oNeg, oLt, oLe, oGt, oGe, oIsNone, oNotNone, oIsN2, oNotN2, oAll, oAny, oSum, oLen, oTuple, oList, oAbs, oInt, oIx, asBs, asIs, wipeE, itemsOf, iVal, lcLoop, lcTurn, dLc, tYesD, gSet, gAll, gTupD, zipD, Sk.iZip, List.zip_cons_cons, List.zip_nil_right, List.zip_nil_left, List.map_cons, List.map_nil, List.length_cons, List.length_nil, List.replicate_succ, List.replicate_zero, List.cons_append, List.nil_append, List.append_nil, List.getElem?_cons_zero, List.getElem?_cons_succ, List.set_cons_zero, List.set_cons_succ, Option.map_some, Option.bind_some, Nat.reduceAdd, Nat.reduceSub, Nat.reduceLeDiff, ite_true, ite_false, Bool.false_eq_true, Bool.not_true, Bool.not_false, if_true, if_false, reduceIte, reduceCtorEq, List.sum_cons, List.sum_nil, List.all_cons, List.all_nil, List.any_cons, List.any_nil, id_eq, Bool.and_true, Bool.true_and, Bool.or_false, Bool.false_or, Bool.and_self, Bool.false_and, Bool.and_false, Bool.true_or, Bool.or_true, Int.cast_ofNat_Int, beq_self_eq_true, Int.reduceBEq, Int.reduceLT, Int.reduceLE, decide_true, decide_false]
theorem wD_ix0 (w : W6) : oIx (wD w) (.int 0) = M.pure (tD w.1) := rfl
theorem wD_ix1 (w : W6) : oIx (wD w) (.int 1) = M.pure (tD w.2) := rfl
def at_ (w : W6) (n : Int) : T3 := plus w.1 (times n w.2)
theorem B.at_ {k : Nat} {w : W6} {n : Int} (h : WB k w) (h0 : 0 ≤ n) (h1 : n ≤ 99) : B (k + 8) (at_ w n) := by
  have hn : Bi 7 n := by
    unfold Bi
    omega
  have := B.plus (h.1.mono (m := 7 + k) (by omega)) (B.times hn h.2)
  exact this.mono (by omega)
theorem f_at_night_eq {k : Nat} {w : W6} {n : Int} (h : WB k w) (hk : k ≤ 2000) (h0 : 0 ≤ n) (h1 : n ≤ 99) : f_at_night [wD w, .int n] = M.pure (tD (at_ w n)) := by
  have hn : Bi 7 n := by
    unfold Bi
    omega
  have e1 := f_times_eq hn h.2 (by omega) (by omega)
  have e2 := f_plus_eq (a := w.1) (b := times n w.2)
  have e3 := f_check_number_eq "night" h0 h1
  simp only [f_at_night, d_at_night, f_check_way_eq, e3, wD_ix0, wD_ix1, e1, e2, bind_pure, lift_some, noX_pure, runDef, sNext, sSeq, sExpr, sRet, sRetN, sIf, sAsg, sPar2, sPar3, sAug, sOwn, noObj, sAppend, sFreeze, endOf, dVar, bVar, dC, dUn, dBin, dNil, dCons, dTup, dLst, dCall, asB, tVal, tAndD, tOrD, tNotD, dOfT, dIf, dAndV, dOrV, dNotV, oAdd, oAddI, oSub, oMod, oNeg, oLt, oLe, oGt, oGe, oIsNone, oNotNone, oIsN2, oNotN2, oAll, oAny, oSum, oLen, oTuple, oList, oAbs, oInt, asBs, asIs, wipeE, itemsOf, iVal, lcLoop, lcTurn, dLc, tYesD, gSet, gAll, gTupD, zipD, Sk.iZip, List.zip_cons_cons, List.zip_nil_right, List.zip_nil_left, List.map_cons, List.map_nil, List.length_cons, List.length_nil, List.replicate_succ, List.replicate_zero, List.cons_append, List.nil_append, List.append_nil, List.getElem?_cons_zero, List.getElem?_cons_succ, List.set_cons_zero, List.set_cons_succ, Option.map_some, Option.bind_some, Nat.reduceAdd, Nat.reduceSub, Nat.reduceLeDiff, ite_true, ite_false, Bool.false_eq_true, Bool.not_true, Bool.not_false, if_true, if_false, reduceIte, reduceCtorEq, List.sum_cons, List.sum_nil, List.all_cons, List.all_nil, List.any_cons, List.any_nil, id_eq, Bool.and_true, Bool.true_and, Bool.or_false, Bool.false_or, Bool.and_self, Bool.false_and, Bool.and_false, Bool.true_or, Bool.or_true, Int.cast_ofNat_Int, beq_self_eq_true, Int.reduceBEq, Int.reduceLT, Int.reduceLE, decide_true, decide_false]
  rfl
def optT : Option T3 → D
  | none => .non
  | some a => tD a
def leastO (a : T3) : Option T3 := if a = z3 then none else some (least a)
theorem leastO_ne {a : T3} (h : a ≠ z3) : leastO a = some (least a) := if_neg h
theorem leastO_z : leastO z3 = none := if_pos rfl
def seenO (w : W6) (n : Int) : Option T3 := leastO (at_ w n)
theorem f_seen_eq {k : Nat} {w : W6} {n : Int} (h : WB k w) (hk : k ≤ 2000) (h0 : 0 ≤ n) (h1 : n ≤ 99) : f_seen [wD w, .int n] = M.pure (optT (seenO w n)) := by
  have e1 := f_at_night_eq h hk h0 h1
  have e3 := f_check_number_eq "night" h0 h1
  have b := B.at_ h h0 h1
  unfold seenO leastO
  by_cases c : at_ w n = z3
  · simp only [f_seen, d_seen, f_check_way_eq, e1, e3, oEq_z3, c, optT, bind_pure, lift_some, noX_pure, runDef, sNext, sSeq, sExpr, sRet, sRetN, sIf, sAsg, sPar2, sPar3, sAug, sOwn, noObj, sAppend, sFreeze, endOf, dVar, bVar, dC, dUn, dBin, dNil, dCons, dTup, dLst, dCall, asB, tVal, tAndD, tOrD, tNotD, dOfT, dIf, dAndV, dOrV, dNotV, oAdd, oAddI, oSub, oMod, oNeg, oLt, oLe, oGt, oGe, oIsNone, oNotNone, oIsN2, oNotN2, oAll, oAny, oSum, oLen, oTuple, oList, oAbs, oInt, oIx, asBs, asIs, wipeE, itemsOf, iVal, lcLoop, lcTurn, dLc, tYesD, gSet, gAll, gTupD, zipD, Sk.iZip, List.zip_cons_cons, List.zip_nil_right, List.zip_nil_left, List.map_cons, List.map_nil, List.length_cons, List.length_nil, List.replicate_succ, List.replicate_zero, List.cons_append, List.nil_append, List.append_nil, List.getElem?_cons_zero, List.getElem?_cons_succ, List.set_cons_zero, List.set_cons_succ, Option.map_some, Option.bind_some, Nat.reduceAdd, Nat.reduceSub, Nat.reduceLeDiff, ite_true, ite_false, Bool.false_eq_true, Bool.not_true, Bool.not_false, if_true, if_false, reduceIte, reduceCtorEq, List.sum_cons, List.sum_nil, List.all_cons, List.all_nil, List.any_cons, List.any_nil, id_eq, Bool.and_true, Bool.true_and, Bool.or_false, Bool.false_or, Bool.and_self, Bool.false_and, Bool.and_false, Bool.true_or, Bool.or_true, Int.cast_ofNat_Int, beq_self_eq_true, Int.reduceBEq, Int.reduceLT, Int.reduceLE, decide_true, decide_false]
  · have e2 := f_least_eq b (by omega) c
    simp only [f_seen, d_seen, f_check_way_eq, e1, e2, e3, oEq_z3, c, optT, bind_pure, lift_some, noX_pure, runDef, sNext, sSeq, sExpr, sRet, sRetN, sIf, sAsg, sPar2, sPar3, sAug, sOwn, noObj, sAppend, sFreeze, endOf, dVar, bVar, dC, dUn, dBin, dNil, dCons, dTup, dLst, dCall, asB, tVal, tAndD, tOrD, tNotD, dOfT, dIf, dAndV, dOrV, dNotV, oAdd, oAddI, oSub, oMod, oNeg, oLt, oLe, oGt, oGe, oIsNone, oNotNone, oIsN2, oNotN2, oAll, oAny, oSum, oLen, oTuple, oList, oAbs, oInt, oIx, asBs, asIs, wipeE, itemsOf, iVal, lcLoop, lcTurn, dLc, tYesD, gSet, gAll, gTupD, zipD, Sk.iZip, List.zip_cons_cons, List.zip_nil_right, List.zip_nil_left, List.map_cons, List.map_nil, List.length_cons, List.length_nil, List.replicate_succ, List.replicate_zero, List.cons_append, List.nil_append, List.append_nil, List.getElem?_cons_zero, List.getElem?_cons_succ, List.set_cons_zero, List.set_cons_succ, Option.map_some, Option.bind_some, Nat.reduceAdd, Nat.reduceSub, Nat.reduceLeDiff, ite_true, ite_false, Bool.false_eq_true, Bool.not_true, Bool.not_false, if_true, if_false, reduceIte, reduceCtorEq, List.sum_cons, List.sum_nil, List.all_cons, List.all_nil, List.any_cons, List.any_nil, id_eq, Bool.and_true, Bool.true_and, Bool.or_false, Bool.false_or, Bool.and_self, Bool.false_and, Bool.and_false, Bool.true_or, Bool.or_true, Int.cast_ofNat_Int, beq_self_eq_true, Int.reduceBEq, Int.reduceLT, Int.reduceLE, decide_true, decide_false]
theorem f_circle_of_eq {k : Nat} {w : W6} (h : WB k w) (hk : k ≤ 1900) : f_circle_of [wD w] = M.pure (optT (leastO (cross w.1 w.2))) := by
  have e1 := f_cross_eq h.1 h.2 (by omega) (by omega)
  have b := B.cross h.1 h.2
  unfold leastO
  by_cases c : cross w.1 w.2 = z3
  · simp only [f_circle_of, d_circle_of, f_check_way_eq, wD_ix0, wD_ix1, e1, oEq_z3, c, optT, bind_pure, lift_some, noX_pure, runDef, sNext, sSeq, sExpr, sRet, sRetN, sIf, sAsg, sPar2, sPar3, sAug, sOwn, noObj, sAppend, sFreeze, endOf, dVar, bVar, dC, dUn, dBin, dNil, dCons, dTup, dLst, dCall, asB, tVal, tAndD, tOrD, tNotD, dOfT, dIf, dAndV, dOrV, dNotV, oAdd, oAddI, oSub, oMod, oNeg, oLt, oLe, oGt, oGe, oIsNone, oNotNone, oIsN2, oNotN2, oAll, oAny, oSum, oLen, oTuple, oList, oAbs, oInt, asBs, asIs, wipeE, itemsOf, iVal, lcLoop, lcTurn, dLc, tYesD, gSet, gAll, gTupD, zipD, Sk.iZip, List.zip_cons_cons, List.zip_nil_right, List.zip_nil_left, List.map_cons, List.map_nil, List.length_cons, List.length_nil, List.replicate_succ, List.replicate_zero, List.cons_append, List.nil_append, List.append_nil, List.getElem?_cons_zero, List.getElem?_cons_succ, List.set_cons_zero, List.set_cons_succ, Option.map_some, Option.bind_some, Nat.reduceAdd, Nat.reduceSub, Nat.reduceLeDiff, ite_true, ite_false, Bool.false_eq_true, Bool.not_true, Bool.not_false, if_true, if_false, reduceIte, reduceCtorEq, List.sum_cons, List.sum_nil, List.all_cons, List.all_nil, List.any_cons, List.any_nil, id_eq, Bool.and_true, Bool.true_and, Bool.or_false, Bool.false_or, Bool.and_self, Bool.false_and, Bool.and_false, Bool.true_or, Bool.or_true, Int.cast_ofNat_Int, beq_self_eq_true, Int.reduceBEq, Int.reduceLT, Int.reduceLE, decide_true, decide_false]
  · have e2 := f_least_eq b (by omega) c
    simp only [f_circle_of, d_circle_of, f_check_way_eq, wD_ix0, wD_ix1, e1, e2, oEq_z3, c, optT, bind_pure, lift_some, noX_pure, runDef, sNext, sSeq, sExpr, sRet, sRetN, sIf, sAsg, sPar2, sPar3, sAug, sOwn, noObj, sAppend, sFreeze, endOf, dVar, bVar, dC, dUn, dBin, dNil, dCons, dTup, dLst, dCall, asB, tVal, tAndD, tOrD, tNotD, dOfT, dIf, dAndV, dOrV, dNotV, oAdd, oAddI, oSub, oMod, oNeg, oLt, oLe, oGt, oGe, oIsNone, oNotNone, oIsN2, oNotN2, oAll, oAny, oSum, oLen, oTuple, oList, oAbs, oInt, asBs, asIs, wipeE, itemsOf, iVal, lcLoop, lcTurn, dLc, tYesD, gSet, gAll, gTupD, zipD, Sk.iZip, List.zip_cons_cons, List.zip_nil_right, List.zip_nil_left, List.map_cons, List.map_nil, List.length_cons, List.length_nil, List.replicate_succ, List.replicate_zero, List.cons_append, List.nil_append, List.append_nil, List.getElem?_cons_zero, List.getElem?_cons_succ, List.set_cons_zero, List.set_cons_succ, Option.map_some, Option.bind_some, Nat.reduceAdd, Nat.reduceSub, Nat.reduceLeDiff, ite_true, ite_false, Bool.false_eq_true, Bool.not_true, Bool.not_false, if_true, if_false, reduceIte, reduceCtorEq, List.sum_cons, List.sum_nil, List.all_cons, List.all_nil, List.any_cons, List.any_nil, id_eq, Bool.and_true, Bool.true_and, Bool.or_false, Bool.false_or, Bool.and_self, Bool.false_and, Bool.and_false, Bool.true_or, Bool.or_true, Int.cast_ofNat_Int, beq_self_eq_true, Int.reduceBEq, Int.reduceLT, Int.reduceLE, decide_true, decide_false]
def dirOk (a : T3) : Prop := a ≠ z3 ∧ B 19 a
theorem le_of_B19 {i : Int} (h : Bi 19 i) : -999999 ≤ i ∧ i ≤ 999999 := by
  unfold Bi at h
  have : (2 : Nat) ^ 19 = 524288 := by decide
  omega
theorem f_is_direction_eq {a : T3} (h : dirOk a) : f_is_direction [tD a] = M.pure (.bl true) := by
  obtain ⟨h0, h1, h2, h3⟩ := h
  obtain ⟨a1, a2⟩ := le_of_B19 h1
  obtain ⟨b1, b2⟩ := le_of_B19 h2
  obtain ⟨c1, c2⟩ := le_of_B19 h3
  have e := f_is_triple_eq a
  rw [decide_eq_false h0] at e
  have n1 := f_is_number_eq a.1 (-999999) 999999
  have n2 := f_is_number_eq a.2.1 (-999999) 999999
  have n3 := f_is_number_eq a.2.2 (-999999) 999999
  rw [decide_eq_true a1, decide_eq_true a2] at n1
  rw [decide_eq_true b1, decide_eq_true b2] at n2
  rw [decide_eq_true c1, decide_eq_true c2] at n3
  unfold tD at e
  simp only [f_is_direction, d_is_direction, tD, e, n1, n2, n3, bind_pure, lift_some, noX_pure, runDef, sNext, sSeq, sExpr, sRet, sRetN, sIf, sAsg, sPar2, sPar3, sAug, sOwn, noObj, sAppend, sFreeze, endOf, dVar, bVar, dC, dUn, dBin, dNil, dCons, dTup, dLst, dCall, asB, tVal, tAndD, tOrD, tNotD, dOfT, dIf, dAndV, dOrV, dNotV, oAdd, oAddI, oSub, oMod, oNeg, oLt, oLe, oGt, oGe, oIsNone, oNotNone, oIsN2, oNotN2, oAll, oAny, oSum, oLen, oTuple, oList, oAbs, oInt, oIx, asBs, asIs, wipeE, itemsOf, iVal, lcLoop, lcTurn, dLc, tYesD, gSet, gAll, gTupD, zipD, Sk.iZip, List.zip_cons_cons, List.zip_nil_right, List.zip_nil_left, List.map_cons, List.map_nil, List.length_cons, List.length_nil, List.replicate_succ, List.replicate_zero, List.cons_append, List.nil_append, List.append_nil, List.getElem?_cons_zero, List.getElem?_cons_succ, List.set_cons_zero, List.set_cons_succ, Option.map_some, Option.bind_some, Nat.reduceAdd, Nat.reduceSub, Nat.reduceLeDiff, ite_true, ite_false, Bool.false_eq_true, Bool.not_true, Bool.not_false, if_true, if_false, reduceIte, reduceCtorEq, List.sum_cons, List.sum_nil, List.all_cons, List.all_nil, List.any_cons, List.any_nil, id_eq, Bool.and_true, Bool.true_and, Bool.or_false, Bool.false_or, Bool.and_self, Bool.false_and, Bool.and_false, Bool.true_or, Bool.or_true, Int.cast_ofNat_Int, beq_self_eq_true, Int.reduceBEq, Int.reduceLT, Int.reduceLE, decide_true, decide_false]
theorem f_side_of_eq {k : Nat} {w : W6} {a : T3} (h : WB k w) (hk : k ≤ 1000) (ha : dirOk a) : f_side_of [wD w, tD a] = M.pure (.int (sgn (det w.1 w.2 a))) := by
  have e1 := f_is_direction_eq ha
  have e2 := f_det_eq h.1 h.2 ha.2 (by omega) (by omega)
  unfold sgn
  by_cases c1 : 0 < det w.1 w.2 a
  · simp only [f_side_of, d_side_of, f_check_way_eq, wD_ix0, wD_ix1, e1, e2, c1, bind_pure, lift_some, noX_pure, runDef, sNext, sSeq, sExpr, sRet, sRetN, sIf, sAsg, sPar2, sPar3, sAug, sOwn, noObj, sAppend, sFreeze, endOf, dVar, bVar, dC, dUn, dBin, dNil, dCons, dTup, dLst, dCall, asB, tVal, tAndD, tOrD, tNotD, dOfT, dIf, dAndV, dOrV, dNotV, oAdd, oAddI, oSub, oMod, oNeg, oLt, oLe, oGt, oGe, oIsNone, oNotNone, oIsN2, oNotN2, oAll, oAny, oSum, oLen, oTuple, oList, oAbs, oInt, asBs, asIs, wipeE, itemsOf, iVal, lcLoop, lcTurn, dLc, tYesD, gSet, gAll, gTupD, zipD, Sk.iZip, List.zip_cons_cons, List.zip_nil_right, List.zip_nil_left, List.map_cons, List.map_nil, List.length_cons, List.length_nil, List.replicate_succ, List.replicate_zero, List.cons_append, List.nil_append, List.append_nil, List.getElem?_cons_zero, List.getElem?_cons_succ, List.set_cons_zero, List.set_cons_succ, Option.map_some, Option.bind_some, Nat.reduceAdd, Nat.reduceSub, Nat.reduceLeDiff, ite_true, ite_false, Bool.false_eq_true, Bool.not_true, Bool.not_false, if_true, if_false, reduceIte, reduceCtorEq, List.sum_cons, List.sum_nil, List.all_cons, List.all_nil, List.any_cons, List.any_nil, id_eq, Bool.and_true, Bool.true_and, Bool.or_false, Bool.false_or, Bool.and_self, Bool.false_and, Bool.and_false, Bool.true_or, Bool.or_true, Int.cast_ofNat_Int, beq_self_eq_true, Int.reduceBEq, Int.reduceLT, Int.reduceLE, decide_true, decide_false]
  · by_cases c2 : det w.1 w.2 a = 0
    · simp only [f_side_of, d_side_of, f_check_way_eq, wD_ix0, wD_ix1, e1, e2, c2, oEq_int, Int.lt_irrefl, bind_pure, lift_some, noX_pure, runDef, sNext, sSeq, sExpr, sRet, sRetN, sIf, sAsg, sPar2, sPar3, sAug, sOwn, noObj, sAppend, sFreeze, endOf, dVar, bVar, dC, dUn, dBin, dNil, dCons, dTup, dLst, dCall, asB, tVal, tAndD, tOrD, tNotD, dOfT, dIf, dAndV, dOrV, dNotV, oAdd, oAddI, oSub, oMod, oNeg, oLt, oLe, oGt, oGe, oIsNone, oNotNone, oIsN2, oNotN2, oAll, oAny, oSum, oLen, oTuple, oList, oAbs, oInt, asBs, asIs, wipeE, itemsOf, iVal, lcLoop, lcTurn, dLc, tYesD, gSet, gAll, gTupD, zipD, Sk.iZip, List.zip_cons_cons, List.zip_nil_right, List.zip_nil_left, List.map_cons, List.map_nil, List.length_cons, List.length_nil, List.replicate_succ, List.replicate_zero, List.cons_append, List.nil_append, List.append_nil, List.getElem?_cons_zero, List.getElem?_cons_succ, List.set_cons_zero, List.set_cons_succ, Option.map_some, Option.bind_some, Nat.reduceAdd, Nat.reduceSub, Nat.reduceLeDiff, ite_true, ite_false, Bool.false_eq_true, Bool.not_true, Bool.not_false, if_true, if_false, reduceIte, reduceCtorEq, List.sum_cons, List.sum_nil, List.all_cons, List.all_nil, List.any_cons, List.any_nil, id_eq, Bool.and_true, Bool.true_and, Bool.or_false, Bool.false_or, Bool.and_self, Bool.false_and, Bool.and_false, Bool.true_or, Bool.or_true, Int.cast_ofNat_Int, beq_self_eq_true, Int.reduceBEq, Int.reduceLT, Int.reduceLE, decide_true, decide_false]
    · have c3 : (det w.1 w.2 a == 0) = false := beq_eq_false_iff_ne.mpr c2
      simp only [f_side_of, d_side_of, f_check_way_eq, wD_ix0, wD_ix1, e1, e2, c1, c2, c3, oEq_int, bind_pure, lift_some, noX_pure, runDef, sNext, sSeq, sExpr, sRet, sRetN, sIf, sAsg, sPar2, sPar3, sAug, sOwn, noObj, sAppend, sFreeze, endOf, dVar, bVar, dC, dUn, dBin, dNil, dCons, dTup, dLst, dCall, asB, tVal, tAndD, tOrD, tNotD, dOfT, dIf, dAndV, dOrV, dNotV, oAdd, oAddI, oSub, oMod, oNeg, oLt, oLe, oGt, oGe, oIsNone, oNotNone, oIsN2, oNotN2, oAll, oAny, oSum, oLen, oTuple, oList, oAbs, oInt, asBs, asIs, wipeE, itemsOf, iVal, lcLoop, lcTurn, dLc, tYesD, gSet, gAll, gTupD, zipD, Sk.iZip, List.zip_cons_cons, List.zip_nil_right, List.zip_nil_left, List.map_cons, List.map_nil, List.length_cons, List.length_nil, List.replicate_succ, List.replicate_zero, List.cons_append, List.nil_append, List.append_nil, List.getElem?_cons_zero, List.getElem?_cons_succ, List.set_cons_zero, List.set_cons_succ, Option.map_some, Option.bind_some, Nat.reduceAdd, Nat.reduceSub, Nat.reduceLeDiff, ite_true, ite_false, Bool.false_eq_true, Bool.not_true, Bool.not_false, if_true, if_false, reduceIte, reduceCtorEq, List.sum_cons, List.sum_nil, List.all_cons, List.all_nil, List.any_cons, List.any_nil, id_eq, Bool.and_true, Bool.true_and, Bool.or_false, Bool.false_or, Bool.and_self, Bool.false_and, Bool.and_false, Bool.true_or, Bool.or_true, Int.cast_ofNat_Int, beq_self_eq_true, Int.reduceBEq, Int.reduceLT, Int.reduceLE, decide_true, decide_false]
end Lw

set_option Elab.async false
set_option linter.all false
set_option maxRecDepth 100000
set_option maxHeartbeats 4000000
set_option autoImplicit false
namespace Lw
open PySem L2 Sk
/-- a loop whose turns are known -/
theorem forLoop_det {f : D → Sk.Env → M Sk.Flow} {I : Nat → Sk.Env → Prop} : ∀ (xs : List D) (k : Nat) (env : Sk.Env), I k env → (∀ i x e, xs[i]? = some x → I (k + i) e → ∃ e', f x e = M.pure (.next e') ∧ I (k + i + 1) e') → ∃ e', Sk.forLoop f xs env = M.pure (.next e') ∧ I (k + xs.length) e'
  | [], k, env, h, _ => ⟨env, rfl, h⟩
  | x :: xs, k, env, h, st => by
    obtain ⟨e1, h1, i1⟩ := st 0 x env rfl h
    obtain ⟨e2, h2, i2⟩ := forLoop_det (I := I) xs (k + 1) e1 i1 fun i y e hy hi => by
      obtain ⟨e', q1, q2⟩ := st (i + 1) y e hy (by rw [show k + (i + 1) = k + 1 + i by omega]; exact hi)
      exact ⟨e', q1, by rw [show k + 1 + i + 1 = k + (i + 1) + 1 by omega]; exact q2⟩
    refine ⟨e2, ?_, by rw [List.length_cons, show k + (xs.length + 1) = k + 1 + xs.length by omega]; exact i2⟩
    show M.bind (f x env) _ = _
    rw [h1, bind_pure]
    exact h2
theorem sFor_det {di : DI} {dg : DG} {body : DS} {xs : List D} {env : Sk.Env} (I : Nat → Sk.Env → Prop) (hi : di env = M.pure xs) (h0 : I 0 env) (st : ∀ i x e, xs[i]? = some x → I i e → ∃ e', M.bind (lift (dg x e)) body = M.pure (.next e') ∧ I (i + 1) e') :
    ∃ e', sFor di dg body env = M.pure (.next e') ∧ I xs.length e' := by
  obtain ⟨e', h1, h2⟩ := forLoop_det (f := fun x e => M.bind (lift (dg x e)) body) (I := I) xs 0 env h0 (fun i x e hx hi => by
    rw [Nat.zero_add] at hi ⊢
    exact st i x e hx hi)
  refine ⟨e', ?_, by rw [Nat.zero_add] at h2; exact h2⟩
  unfold sFor
  rw [hi, bind_pure]
  exact h1
theorem seq_next {A B : DS} {env e' : Sk.Env} (h : A env = M.pure (.next e')) : sSeq A B env = B e' := by
  unfold sSeq
  rw [h]
  rfl
theorem seq_ret {A B : DS} {env : Sk.Env} {d : D} (h : A env = M.pure (.ret d)) : sSeq A B env = M.pure (.ret d) := by
  unfold sSeq
  rw [h]
  rfl
theorem if_no {T : DB} {A B : DS} {env : Sk.Env} (h : T env = M.pure false) : sIf T A B env = B env := by
  unfold sIf
  rw [h]
  rfl
theorem if_yes {T : DB} {A B : DS} {env : Sk.Env} (h : T env = M.pure true) : sIf T A B env = A env := by
  unfold sIf
  rw [h]
  rfl
/-! ### sightings -/
abbrev S2 := Int × T3
def pD (p : S2) : D := .tup [.int p.1, tD p.2]
def sD (ss : List S2) : D := .lst (ss.map pD)
def SOk : Int → List S2 → Prop
  | _, [] => True
  | last, p :: r => last + 1 ≤ p.1 ∧ p.1 ≤ 99 ∧ dirOk p.2 ∧ SOk p.1 r
theorem SOk.cons {last : Int} {p : S2} {r : List S2} (h : SOk last (p :: r)) : last + 1 ≤ p.1 ∧ p.1 ≤ 99 ∧ dirOk p.2 ∧ SOk p.1 r := h
theorem pD_ix0 (p : S2) : oIx (pD p) (.int 0) = M.pure (.int p.1) := rfl
theorem pD_ix1 (p : S2) : oIx (pD p) (.int 1) = M.pure (tD p.2) := rfl
theorem isB_pD (p : S2) : oIsB "tuple" (pD p) = M.pure (.bl true) := isB_tt _
theorem len_pD (p : S2) : oLen (pD p) = M.pure (.int 2) := rfl
theorem f_check_sightings_eq {ss : List S2} (h : SOk (-1) ss) (hne : ss ≠ []) : f_check_sightings [sD ss] = M.pure .non := by
  have hl : oEq (.int ((ss.map pD).length : Nat)) (.int 0) = M.pure (.bl false) := by
    rw [oEq_int, List.length_map]
    have : ((ss.length : Nat) : Int) ≠ 0 := by
      have := List.length_pos_iff.mpr hne
      omega
    rw [beq_eq_false_iff_ne.mpr this]
  have lp : ∀ x : D, x = sD ss → ∃ e', sFor (iEnumD (dVar 0)) (gTupD [(gSet 2), (gSet 3)]) (sSeq (sIf (tOrD (tNotD (tVal (dUn (oIsB "tuple") (dVar 3)))) (tOrD (tVal (dBin oNe (dUn oLen (dVar 3)) (dC (.int 2)))) (tNotD (tVal (dCall f_is_number (dCons (dBin oIx (dVar 3) (dC (.int 0))) (dCons (dBin oAdd (dVar 1) (dC (.int 1))) (dCons (dC (.int 99)) dNil)))))))) sStk sNext) (sSeq (sIf (tNotD (tVal (dCall f_is_direction (dCons (dBin oIx (dVar 3) (dC (.int 1))) dNil)))) sStk sNext) (sAsg (dBin oIx (dVar 3) (dC (.int 0))) (gSet 1)))) [.shr x, .shr (.int (-1)), .no, .no] = M.pure (.next e') ∧ ∃ last s2 s3, e' = [.shr x, .shr (.int last), s2, s3] ∧ SOk last (ss.drop ss.length) := by
    rintro x rfl
    have := sFor_det (di := iEnumD (dVar 0)) (dg := gTupD [(gSet 2), (gSet 3)]) (body := sSeq (sIf (tOrD (tNotD (tVal (dUn (oIsB "tuple") (dVar 3)))) (tOrD (tVal (dBin oNe (dUn oLen (dVar 3)) (dC (.int 2)))) (tNotD (tVal (dCall f_is_number (dCons (dBin oIx (dVar 3) (dC (.int 0))) (dCons (dBin oAdd (dVar 1) (dC (.int 1))) (dCons (dC (.int 99)) dNil)))))))) sStk sNext) (sSeq (sIf (tNotD (tVal (dCall f_is_direction (dCons (dBin oIx (dVar 3) (dC (.int 1))) dNil)))) sStk sNext) (sAsg (dBin oIx (dVar 3) (dC (.int 0))) (gSet 1))))
      (env := [.shr (sD ss), .shr (.int (-1)), .no, .no]) (xs := (ss.map pD).zipIdx.map fun p => .tup [.int (p.2 : Nat), p.1])
      (fun i e => ∃ last s2 s3, e = [.shr (sD ss), .shr (.int last), s2, s3] ∧ SOk last (ss.drop i)) rfl ⟨_, _, _, rfl, h⟩ (fun i x e hx hi => by
        obtain ⟨last, s2, s3, rfl, ho⟩ := hi
        rw [List.getElem?_map, List.getElem?_zipIdx, List.getElem?_map] at hx
        cases q : ss[i]? with
        | none =>
          rw [q] at hx
          simp at hx
        | some p =>
          rw [q] at hx
          have hx : D.tup [.int ((0 + i : Nat) : Int), pD p] = x := by simpa using hx
          subst hx
          have hi := (List.getElem?_eq_some_iff.mp q).1
          have hd : ss.drop i = p :: ss.drop (i + 1) := by
            rw [List.drop_eq_getElem_cons hi]
            congr 1
            exact (List.getElem?_eq_some_iff.mp q).2
          rw [hd] at ho
          obtain ⟨o1, o2, o3, o4⟩ := ho.cons
          have n1 := f_is_number_eq p.1 (last + 1) 99
          rw [decide_eq_true o1, decide_eq_true o2] at n1
          refine ⟨[.shr (sD ss), .shr (.int p.1), .shr (.int ((0 + i : Nat) : Int)), .shr (pD p)], ?_, p.1, .shr (.int ((0 + i : Nat) : Int)), .shr (pD p), rfl, o4⟩
          simp only [isB_pD, len_pD, pD_ix0, pD_ix1, n1, f_is_direction_eq o3, oNe_int, bind_pure, lift_some, noX_pure, runDef, sNext, sSeq, sExpr, sRet, sRetN, sIf, sAsg, sPar2, sPar3, sAug, sOwn, noObj, sAppend, sFreeze, endOf, dVar, bVar, dC, dUn, dBin, dNil, dCons, dTup, dLst, dCall, asB, tVal, tAndD, tOrD, tNotD, dOfT, dIf, dAndV, dOrV, dNotV, oAdd, oAddI, oSub, oMod, oNeg, oLt, oLe, oGt, oGe, oIsNone, oNotNone, oIsN2, oNotN2, oAll, oAny, oSum, oTuple, oList, oAbs, oInt, asBs, asIs, wipeE, itemsOf, iVal, lcLoop, lcTurn, dLc, tYesD, gSet, gAll, gTupD, zipD, Sk.iZip, List.zip_cons_cons, List.zip_nil_right, List.zip_nil_left, List.map_cons, List.map_nil, List.length_cons, List.length_nil, List.replicate_succ, List.replicate_zero, List.cons_append, List.nil_append, List.append_nil, List.getElem?_cons_zero, List.getElem?_cons_succ, List.set_cons_zero, List.set_cons_succ, Option.map_some, Option.bind_some, Nat.reduceAdd, Nat.reduceSub, Nat.reduceLeDiff, ite_true, ite_false, Bool.false_eq_true, Bool.not_true, Bool.not_false, if_true, if_false, reduceIte, reduceCtorEq, List.sum_cons, List.sum_nil, List.all_cons, List.all_nil, List.any_cons, List.any_nil, id_eq, Bool.and_true, Bool.true_and, Bool.or_false, Bool.false_or, Bool.and_self, Bool.false_and, Bool.and_false, Bool.true_or, Bool.or_true, Int.cast_ofNat_Int, beq_self_eq_true, Int.reduceBEq, Int.reduceLT, Int.reduceLE, decide_true, decide_false])
    rw [List.length_map, List.length_zipIdx, List.length_map] at this
    exact this
  obtain ⟨e', h1, h2⟩ := lp _ rfl
  show M.bind (d_check_sightings [.shr (sD ss), .no, .no, .no]) endOf = _
  unfold d_check_sightings
  have g1 : (sIf (tOrD (tNotD (tVal (dCall f_is_row (dCons (dVar 0) dNil)))) (tVal (dBin oEq (dUn oLen (dVar 0)) (dC (.int 0))))) sStk sNext) [.shr (sD ss), .no, .no, .no] = M.pure (.next [.shr (sD ss), .no, .no, .no]) := by
    simp only [sD, f_is_row_eqL, hl, bind_pure, lift_some, noX_pure, runDef, sNext, sSeq, sExpr, sRet, sRetN, sIf, sAsg, sPar2, sPar3, sAug, sOwn, noObj, sAppend, sFreeze, endOf, dVar, bVar, dC, dUn, dBin, dNil, dCons, dTup, dLst, dCall, asB, tVal, tAndD, tOrD, tNotD, dOfT, dIf, dAndV, dOrV, dNotV, oAdd, oAddI, oSub, oMod, oNeg, oLt, oLe, oGt, oGe, oIsNone, oNotNone, oIsN2, oNotN2, oAll, oAny, oSum, oLen, oTuple, oList, oAbs, oInt, oIx, asBs, asIs, wipeE, itemsOf, iVal, lcLoop, lcTurn, dLc, tYesD, gSet, gAll, gTupD, zipD, Sk.iZip, List.zip_cons_cons, List.zip_nil_right, List.zip_nil_left, List.map_cons, List.map_nil, List.length_cons, List.length_nil, List.replicate_succ, List.replicate_zero, List.cons_append, List.nil_append, List.append_nil, List.getElem?_cons_zero, List.getElem?_cons_succ, List.set_cons_zero, List.set_cons_succ, Option.map_some, Option.bind_some, Nat.reduceAdd, Nat.reduceSub, Nat.reduceLeDiff, ite_true, ite_false, Bool.false_eq_true, Bool.not_true, Bool.not_false, if_true, if_false, reduceIte, reduceCtorEq, List.sum_cons, List.sum_nil, List.all_cons, List.all_nil, List.any_cons, List.any_nil, id_eq, Bool.and_true, Bool.true_and, Bool.or_false, Bool.false_or, Bool.and_self, Bool.false_and, Bool.and_false, Bool.true_or, Bool.or_true, Int.cast_ofNat_Int, beq_self_eq_true, Int.reduceBEq, Int.reduceLT, Int.reduceLE, decide_true, decide_false]
  rw [seq_next g1, seq_next (e' := [.shr (sD ss), .shr (.int (-1)), .no, .no]) rfl, h1]
  rfl
end Lw

set_option Elab.async false
set_option linter.all false
set_option maxRecDepth 100000
set_option maxHeartbeats 4000000
set_option autoImplicit false
namespace Lw
open PySem L2 Sk
/-! ### ways in lowest terms -/
def gcd6 (w : W6) : Int := (Int.gcd (Int.gcd (Int.gcd (Int.gcd (Int.gcd (Int.gcd 0 w.1.1 : Int) w.1.2.1 : Int) w.1.2.2 : Int) w.2.1 : Int) w.2.2.1 : Int) w.2.2.2 : Int)
def divW (w : W6) (g : Int) : W6 := ((w.1.1 / g, w.1.2.1 / g, w.1.2.2 / g), (w.2.1 / g, w.2.2.1 / g, w.2.2.2 / g))
def leastW (w : W6) : W6 := divW w (gcd6 w)
def timesW (k : Int) (w : W6) : W6 := (times k w.1, times k w.2)
abbrev zW : W6 := (z3, z3)
theorem gcd6_nonneg (w : W6) : 0 ≤ gcd6 w := Int.natCast_nonneg _
theorem gcd6_dvd (w : W6) : gcd6 w ∣ w.1.1 ∧ gcd6 w ∣ w.1.2.1 ∧ gcd6 w ∣ w.1.2.2 ∧ gcd6 w ∣ w.2.1 ∧ gcd6 w ∣ w.2.2.1 ∧ gcd6 w ∣ w.2.2.2 := by
  obtain ⟨⟨a, b, c⟩, d, e, f⟩ := w
  unfold gcd6
  dsimp only
  have h1 := Int.gcd_dvd_left (Int.gcd (Int.gcd (Int.gcd (Int.gcd (Int.gcd 0 a : Int) b : Int) c : Int) d : Int) e : Int) f
  have h2 := Int.gcd_dvd_right (Int.gcd (Int.gcd (Int.gcd (Int.gcd (Int.gcd 0 a : Int) b : Int) c : Int) d : Int) e : Int) f
  have h3 := Int.gcd_dvd_left (Int.gcd (Int.gcd (Int.gcd (Int.gcd 0 a : Int) b : Int) c : Int) d : Int) e
  have h4 := Int.gcd_dvd_right (Int.gcd (Int.gcd (Int.gcd (Int.gcd 0 a : Int) b : Int) c : Int) d : Int) e
  have h5 := Int.gcd_dvd_left (Int.gcd (Int.gcd (Int.gcd 0 a : Int) b : Int) c : Int) d
  have h6 := Int.gcd_dvd_right (Int.gcd (Int.gcd (Int.gcd 0 a : Int) b : Int) c : Int) d
  have h7 := Int.gcd_dvd_left (Int.gcd (Int.gcd 0 a : Int) b : Int) c
  have h8 := Int.gcd_dvd_right (Int.gcd (Int.gcd 0 a : Int) b : Int) c
  have h9 := Int.gcd_dvd_left (Int.gcd 0 a : Int) b
  have h10 := Int.gcd_dvd_right (Int.gcd 0 a : Int) b
  have h11 := Int.gcd_dvd_right 0 a
  exact ⟨Int.dvd_trans h1 (Int.dvd_trans h3 (Int.dvd_trans h5 (Int.dvd_trans h7 (Int.dvd_trans h9 h11)))), Int.dvd_trans h1 (Int.dvd_trans h3 (Int.dvd_trans h5 (Int.dvd_trans h7 h10))), Int.dvd_trans h1 (Int.dvd_trans h3 (Int.dvd_trans h5 h8)), Int.dvd_trans h1 (Int.dvd_trans h3 h6), Int.dvd_trans h1 h4, h2⟩
theorem gcd6_pos {w : W6} (h : w ≠ zW) : 0 < gcd6 w := by
  have h0 := gcd6_nonneg w
  obtain ⟨d1, d2, d3, d4, d5, d6⟩ := gcd6_dvd w
  refine Classical.byContradiction fun n => h ?_
  have e : gcd6 w = 0 := by omega
  rw [e] at d1 d2 d3 d4 d5 d6
  obtain ⟨⟨a, b, c⟩, d, e, f⟩ := w
  simp only [Int.zero_dvd] at d1 d2 d3 d4 d5 d6
  rw [d1, d2, d3, d4, d5, d6]
theorem gcd6_times {k : Int} (hk : 0 < k) (w : W6) : gcd6 (timesW k w) = k * gcd6 w := by
  have kn : (k.natAbs : Int) = k := by omega
  have m : ∀ x y : Int, (Int.gcd (k * x) (k * y) : Int) = k * (Int.gcd x y : Int) := fun x y => by rw [Int.gcd_mul_left, Int.natCast_mul, kn]
  have m0 : ∀ y : Int, (Int.gcd 0 (k * y) : Int) = k * (Int.gcd 0 y : Int) := fun y => by
    have := m 0 y
    rw [Int.mul_zero] at this
    exact this
  unfold gcd6 timesW times
  dsimp only
  rw [m0, m, m, m, m, m]
theorem timesW_least (w : W6) : timesW (gcd6 w) (leastW w) = w := by
  obtain ⟨d1, d2, d3, d4, d5, d6⟩ := gcd6_dvd w
  unfold timesW times leastW divW
  dsimp only
  rw [Int.mul_ediv_cancel' d1, Int.mul_ediv_cancel' d2, Int.mul_ediv_cancel' d3, Int.mul_ediv_cancel' d4, Int.mul_ediv_cancel' d5, Int.mul_ediv_cancel' d6]
theorem leastW_times {k : Int} (hk : 0 < k) (w : W6) : leastW (timesW k w) = leastW w := by
  unfold leastW
  rw [gcd6_times hk]
  simp only [divW, timesW, times, Int.mul_ediv_mul_of_pos _ _ hk]
theorem at_times (k : Int) (w : W6) (n : Int) : at_ (timesW k w) n = times k (at_ w n) := by
  simp only [at_, timesW, times, plus, Prod.mk.injEq]
  grind
theorem times_eq_z {k : Int} (hk : k ≠ 0) {a : T3} (h : times k a = z3) : a = z3 := by
  obtain ⟨x, y, z⟩ := a
  simp only [times, Prod.mk.injEq] at h ⊢
  exact ⟨(Int.mul_eq_zero.mp h.1).resolve_left hk, (Int.mul_eq_zero.mp h.2.1).resolve_left hk, (Int.mul_eq_zero.mp h.2.2).resolve_left hk⟩
theorem times_zero (k : Int) : times k z3 = z3 := by
  simp [times]
/-- the lowest terms of a way at a night -/
theorem at_leastW {w : W6} (h : w ≠ zW) (n : Int) : times (gcd6 w) (at_ (leastW w) n) = at_ w n := by
  rw [← at_times, timesW_least]
theorem at_leastW_ne {w : W6} {n : Int} (h : w ≠ zW) (hn : at_ w n ≠ z3) : at_ (leastW w) n ≠ z3 := fun e => hn (by rw [← at_leastW h n, e, times_zero])
theorem least_at_leastW {w : W6} {n : Int} (h : w ≠ zW) : least (at_ (leastW w) n) = least (at_ w n) := by
  rw [← at_leastW h n, least_times (gcd6_pos h)]
theorem least_least {a : T3} (h : a ≠ z3) : least (least a) = least a := least_of_one (gcd3_least h)
theorem WB_leastW {k : Nat} {w : W6} (h : WB k w) (hw : w ≠ zW) : WB k (leastW w) := by
  have g := gcd6_pos hw
  obtain ⟨d1, d2, d3, d4, d5, d6⟩ := gcd6_dvd w
  exact ⟨⟨h.1.1.ediv g d1, h.1.2.1.ediv g d2, h.1.2.2.ediv g d3⟩, h.2.1.ediv g d4, h.2.2.1.ediv g d5, h.2.2.2.ediv g d6⟩
/-! ### a way through two sightings -/
def twoW (p q : Int × T3) (near far : Int) : W6 := 
  (plus (times ((q.1 - p.1) * near) p.2) (times (-p.1) (plus (times far q.2) (times (-near) p.2))), plus (times far q.2) (times (-near) p.2))
def nearN (d0 d1 d2 : T3) (n0 n1 : Int) : Int := dot (cross d1 d2) (cross d0 d2) * (n1 - n0)
def farN (d0 d1 d2 : T3) (n1 n2 : Int) : Int := dot (cross d0 d1) (cross d0 d2) * (n2 - n1)
theorem cross_at (w : W6) (m n : Int) : cross (at_ w m) (at_ w n) = times (n - m) (cross w.1 w.2) := by
  simp only [at_, cross, plus, times, Prod.mk.injEq]
  grind
theorem cross_times (i j : Int) (a b : T3) : cross (times i a) (times j b) = times (i * j) (cross a b) := by
  simp only [cross, times, Prod.mk.injEq]
  grind
theorem dot_times2 (i j : Int) (a b : T3) : dot (times i a) (times j b) = i * j * dot a b := by
  simp only [dot, times]
  grind
theorem cross_z (a : T3) : cross a z3 = z3 := by simp [cross]
theorem z_cross (a : T3) : cross z3 a = z3 := by simp [cross]
theorem at_ne {w : W6} (h : cross w.1 w.2 ≠ z3) (n : Int) : at_ w n ≠ z3 := fun e => by
  have := cross_at w n (n + 1)
  rw [e, z_cross] at this
  exact h (times_eq_z (by omega) this.symm)
theorem cross_least_ne {w : W6} (h : cross w.1 w.2 ≠ z3) {m n : Int} (hmn : m ≠ n) : cross (least (at_ w m)) (least (at_ w n)) ≠ z3 := fun e => by
  have h1 := times_least (at_ w m)
  have h2 := times_least (at_ w n)
  have h3 := cross_at w m n
  rw [← h1, ← h2, cross_times, e, times_zero] at h3
  exact h (times_eq_z (by omega) h3.symm)
theorem least_at_ne {w : W6} (h : cross w.1 w.2 ≠ z3) {m n : Int} (hmn : m ≠ n) : least (at_ w m) ≠ least (at_ w n) := fun e => by
  have := cross_least_ne h hmn
  rw [e] at this
  apply this
  simp only [cross, Prod.mk.injEq]
  grind
theorem w_ne {w : W6} (h : cross w.1 w.2 ≠ z3) : w ≠ zW := fun e => h (by rw [e]; rfl)
theorem pos_of_mul {k x : Int} (h : 0 < k * x) (hk : 0 < k) : 0 < x := by
  refine Classical.byContradiction fun n => ?_
  have := Int.mul_nonneg (show 0 ≤ k by omega) (show 0 ≤ -x by omega)
  rw [Int.mul_neg] at this
  omega
/-- the middle one is between -/
theorem btw_at {w : W6} (h : cross w.1 w.2 ≠ z3) {n0 n1 n2 : Int} (h1 : n0 < n1) (h2 : n1 < n2) : between (least (at_ w n0)) (least (at_ w n1)) (least (at_ w n2)) = true := by
  have p := sq_pos h
  have q := dot_self (cross w.1 w.2)
  have a0 := times_least (at_ w n0)
  have a1 := times_least (at_ w n1)
  have a2 := times_least (at_ w n2)
  have g0 := gcd3_pos (at_ne h n0)
  have g1 := gcd3_pos (at_ne h n1)
  have g2 := gcd3_pos (at_ne h n2)
  have c01 := cross_at w n0 n1
  have c12 := cross_at w n1 n2
  have c02 := cross_at w n0 n2
  have hd : dot (cross (at_ w n0) (at_ w n2)) (at_ w n1) = 0 := by
    rw [c02]
    simp only [dot, cross, at_, plus, times]
    grind
  have ne := cross_least_ne h (show n0 ≠ n2 by omega)
  rw [← a0, ← a1, cross_times] at c01
  rw [← a1, ← a2, cross_times] at c12
  rw [← a0, ← a2, cross_times] at c02
  rw [← a0, ← a2, ← a1, cross_times, dot_times2] at hd
  generalize least (at_ w n0) = d0 at *
  generalize least (at_ w n1) = d1 at *
  generalize least (at_ w n2) = d2 at *
  generalize gcd3 (at_ w n0) = G0 at *
  generalize gcd3 (at_ w n1) = G1 at *
  generalize gcd3 (at_ w n2) = G2 at *
  have e0 : dot (cross d0 d2) d1 = 0 := by
    have : 0 < G0 * G2 * G1 := Int.mul_pos (Int.mul_pos g0 g2) g1
    exact (Int.mul_eq_zero.mp hd).resolve_left (by omega)
  have e1 : (G0 * G1) * (G0 * G2) * dot (cross d0 d1) (cross d0 d2) = (n1 - n0) * (n2 - n0) * (sq (cross w.1 w.2) : Int) := by
    rw [← dot_times2, c01, c02, dot_times2, q]
  have e2 : (G1 * G2) * (G0 * G2) * dot (cross d1 d2) (cross d0 d2) = (n2 - n1) * (n2 - n0) * (sq (cross w.1 w.2) : Int) := by
    rw [← dot_times2, c12, c02, dot_times2, q]
  have k1 : 0 < (G0 * G1) * (G0 * G2) := Int.mul_pos (Int.mul_pos g0 g1) (Int.mul_pos g0 g2)
  have k2 : 0 < (G1 * G2) * (G0 * G2) := Int.mul_pos (Int.mul_pos g1 g2) (Int.mul_pos g0 g2)
  have m1 : 0 < (n1 - n0) * (n2 - n0) * (sq (cross w.1 w.2) : Int) := Int.mul_pos (Int.mul_pos (by omega) (by omega)) (by omega)
  have m2 : 0 < (n2 - n1) * (n2 - n0) * (sq (cross w.1 w.2) : Int) := Int.mul_pos (Int.mul_pos (by omega) (by omega)) (by omega)
  have p1 : 0 < dot (cross d0 d1) (cross d0 d2) := pos_of_mul (by rw [e1]; exact m1) k1
  have p2 : 0 < dot (cross d1 d2) (cross d0 d2) := pos_of_mul (by rw [e2]; exact m2) k2
  unfold between
  rw [e0, decide_eq_false ne, decide_eq_true p1, decide_eq_true p2]
  rfl
theorem comp_v {M C near far G0 G2 n0 n2 s v x y : Int} (nr : M * near = C * G0) (fr : M * far = C * G2) (a0 : G0 * x = s + n0 * v) (a2 : G2 * y = s + n2 * v) : M * (far * y + -near * x) = C * (n2 - n0) * v := by
  have e1 : M * (far * y + -near * x) = (M * far) * y - (M * near) * x := by grind
  have e2 : (C * G2) * y - (C * G0) * x = C * (G2 * y) - C * (G0 * x) := by grind
  rw [e1, nr, fr, e2, a0, a2]
  grind
theorem comp_s {M C near far G0 G2 n0 n2 s v x y : Int} (nr : M * near = C * G0) (fr : M * far = C * G2) (a0 : G0 * x = s + n0 * v) (a2 : G2 * y = s + n2 * v) : M * ((n2 - n0) * near * x + -n0 * (far * y + -near * x)) = C * (n2 - n0) * s := by
  have e0 := comp_v nr fr a0 a2
  have e1 : M * ((n2 - n0) * near * x + -n0 * (far * y + -near * x)) = (n2 - n0) * ((M * near) * x) - n0 * (M * (far * y + -near * x)) := by grind
  have e2 : (C * G0) * x = C * (G0 * x) := by grind
  rw [e1, e0, nr, e2, a0]
  grind
theorem twoW_eq {w : W6} (h : cross w.1 w.2 ≠ z3) {n0 n1 n2 : Int} (h1 : n0 < n1) (h2 : n1 < n2) :
    leastW (twoW (n0, least (at_ w n0)) (n2, least (at_ w n2)) (nearN (least (at_ w n0)) (least (at_ w n1)) (least (at_ w n2)) n0 n1) (farN (least (at_ w n0)) (least (at_ w n1)) (least (at_ w n2)) n1 n2)) = leastW w := by
  have p := sq_pos h
  have q := dot_self (cross w.1 w.2)
  have a0 := times_least (at_ w n0)
  have a1 := times_least (at_ w n1)
  have a2 := times_least (at_ w n2)
  have g0 := gcd3_pos (at_ne h n0)
  have g1 := gcd3_pos (at_ne h n1)
  have g2 := gcd3_pos (at_ne h n2)
  have c01 := cross_at w n0 n1
  have c12 := cross_at w n1 n2
  have c02 := cross_at w n0 n2
  rw [← a0, ← a1, cross_times] at c01
  rw [← a1, ← a2, cross_times] at c12
  rw [← a0, ← a2, cross_times] at c02
  generalize least (at_ w n0) = d0 at *
  generalize least (at_ w n1) = d1 at *
  generalize least (at_ w n2) = d2 at *
  generalize gcd3 (at_ w n0) = G0 at *
  generalize gcd3 (at_ w n1) = G1 at *
  generalize gcd3 (at_ w n2) = G2 at *
  generalize hS : (sq (cross w.1 w.2) : Int) = S at *
  have e1 : (G0 * G1) * (G0 * G2) * dot (cross d0 d1) (cross d0 d2) = (n1 - n0) * (n2 - n0) * S := by
    rw [← dot_times2, c01, c02, dot_times2, q]
  have e2 : (G1 * G2) * (G0 * G2) * dot (cross d1 d2) (cross d0 d2) = (n2 - n1) * (n2 - n0) * S := by
    rw [← dot_times2, c12, c02, dot_times2, q]
  -- M * near = C * G0, M * far = C * G2
  have nr : (G1 * G0 * G2 * G0 * G2) * nearN d0 d1 d2 n0 n1 = ((n2 - n1) * (n1 - n0) * (n2 - n0) * S) * G0 := by
    unfold nearN
    grind
  have fr : (G1 * G0 * G2 * G0 * G2) * farN d0 d1 d2 n1 n2 = ((n2 - n1) * (n1 - n0) * (n2 - n0) * S) * G2 := by
    unfold farN
    grind
  have Mp : 0 < G1 * G0 * G2 * G0 * G2 := Int.mul_pos (Int.mul_pos (Int.mul_pos (Int.mul_pos g1 g0) g2) g0) g2
  have Cp : 0 < (n2 - n1) * (n1 - n0) * (n2 - n0) * S := Int.mul_pos (Int.mul_pos (Int.mul_pos (by omega) (by omega)) (by omega)) (by omega)
  generalize nearN d0 d1 d2 n0 n1 = near at *
  generalize farN d0 d1 d2 n1 n2 = far at *
  generalize G1 * G0 * G2 * G0 * G2 = M at *
  generalize (n2 - n1) * (n1 - n0) * (n2 - n0) * S = C at *
  have key : timesW M (twoW (n0, d0) (n2, d2) near far) = timesW (C * (n2 - n0)) w := by
    obtain ⟨⟨s1, s2, s3⟩, v1, v2, v3⟩ := w
    obtain ⟨x1, x2, x3⟩ := d0
    obtain ⟨y1, y2, y3⟩ := d2
    simp only [at_, times, plus, Prod.mk.injEq] at a0 a2
    obtain ⟨a01, a02, a03⟩ := a0
    obtain ⟨a21, a22, a23⟩ := a2
    simp only [timesW, twoW, times, plus, Prod.mk.injEq]
    exact ⟨⟨comp_s nr fr a01 a21, comp_s nr fr a02 a22, comp_s nr fr a03 a23⟩, comp_v nr fr a01 a21, comp_v nr fr a02 a22, comp_v nr fr a03 a23⟩
  have Kp : 0 < C * (n2 - n0) := Int.mul_pos Cp (by omega)
  rw [← leastW_times Mp, key, leastW_times Kp]
end Lw

set_option Elab.async false
set_option linter.all false
set_option maxRecDepth 100000
set_option maxHeartbeats 4000000
set_option autoImplicit false
namespace Lw
open PySem L2 Sk
theorem oMax2_1 {G : Int} (h : 0 < G) : oMax2 (.int 1) (.int G) = M.pure (.int G) := by
  show M.pure (D.int (if G > 1 then G else 1)) = _
  by_cases c : G > 1
  · rw [if_pos c]
  · rw [if_neg c]
    have : G = 1 := by omega
    rw [this]
def g3 (g : Int) (a : T3) : Int := (Int.gcd (Int.gcd (Int.gcd g a.1 : Int) a.2.1 : Int) a.2.2 : Int)
theorem g3_B {k : Nat} {g : Int} {a : T3} (hg : Bi k g) (h : B k a) : Bi k (g3 g a) := ((hg.gcd h.1).gcd h.2.1).gcd h.2.2
theorem gcd6_g3 (w : W6) : gcd6 w = g3 (g3 0 w.1) w.2 := rfl
theorem lw_inner {k : Nat} {g : Int} {a : T3} (hg : Bi k g) (h : B k a) (hk : k ≤ 8000) (x s3 : Slot) : sFor (iVal (dVar 2)) (gSet 3) (sAsg (dCall f_common (dCons (dVar 1) (dCons (dVar 3) dNil))) (gSet 1)) [x, .shr (.int g), .shr (tD a), s3] = M.pure (.next [x, .shr (.int (g3 g a)), .shr (tD a), .shr (.int a.2.2)]) := by
  have up {i : Int} (b : Bi k i) : i.natAbs < 2 ^ 20000 := b.mono (by omega)
  have e1 := f_common_eq (up hg) (up h.1)
  have e2 := f_common_eq (up (hg.gcd h.1)) (up h.2.1)
  have e3 := f_common_eq (up ((hg.gcd h.1).gcd h.2.1)) (up h.2.2)
  unfold sFor
  simp only [tD, e1, e2, e3, Sk.forLoop, bind_pure, lift_some, noX_pure, runDef, sNext, sSeq, sExpr, sRet, sRetN, sIf, sAsg, sPar2, sPar3, sAug, sOwn, noObj, sAppend, sFreeze, endOf, dVar, bVar, dC, dUn, dBin, dNil, dCons, dTup, dLst, dCall, asB, tVal, tAndD, tOrD, tNotD, dOfT, dIf, dAndV, dOrV, dNotV, oAdd, oAddI, oSub, oMod, oNeg, oLt, oLe, oGt, oGe, oIsNone, oNotNone, oIsN2, oNotN2, oAll, oAny, oSum, oLen, oTuple, oList, oAbs, oInt, oIx, asBs, asIs, wipeE, itemsOf, iVal, lcLoop, lcTurn, dLc, tYesD, gSet, gAll, gTupD, zipD, Sk.iZip, List.zip_cons_cons, List.zip_nil_right, List.zip_nil_left, List.map_cons, List.map_nil, List.length_cons, List.length_nil, List.replicate_succ, List.replicate_zero, List.cons_append, List.nil_append, List.append_nil, List.getElem?_cons_zero, List.getElem?_cons_succ, List.set_cons_zero, List.set_cons_succ, Option.map_some, Option.bind_some, Nat.reduceAdd, Nat.reduceSub, Nat.reduceLeDiff, ite_true, ite_false, Bool.false_eq_true, Bool.not_true, Bool.not_false, if_true, if_false, reduceIte, reduceCtorEq, List.sum_cons, List.sum_nil, List.all_cons, List.all_nil, List.any_cons, List.any_nil, id_eq, Bool.and_true, Bool.true_and, Bool.or_false, Bool.false_or, Bool.and_self, Bool.false_and, Bool.and_false, Bool.true_or, Bool.or_true, Int.cast_ofNat_Int, beq_self_eq_true, Int.reduceBEq, Int.reduceLT, Int.reduceLE, decide_true, decide_false]
  rfl
theorem sFor_two {di : DI} {dg : DG} {body : DS} {env e1 e2 : Sk.Env} {a b : D} (hi : di env = M.pure [a, b]) (h1 : M.bind (lift (dg a env)) body = M.pure (.next e1)) (h2 : M.bind (lift (dg b e1)) body = M.pure (.next e2)) : sFor di dg body env = M.pure (.next e2) := by
  unfold sFor
  rw [hi, bind_pure]
  show M.bind (M.bind (lift (dg a env)) body) _ = _
  rw [h1, bind_pure]
  show M.bind (M.bind (lift (dg b e1)) body) _ = _
  rw [h2, bind_pure]
  rfl
theorem f_least_way_eq {k : Nat} {w : W6} (h : WB k w) (hk : k ≤ 7000) (hw : w ≠ zW) : f_least_way [wD w] = M.pure (wD (leastW w)) := by
  have G := gcd6_pos hw
  have i1 := lw_inner (g := 0) Bi.zero h.1 (by omega) (.shr (wD w)) .no
  have i2 := lw_inner (g3_B Bi.zero h.1) h.2 (by omega) (.shr (wD w)) (.shr (.int w.1.2.2))
  rw [← gcd6_g3] at i2
  have gb : Bi k (gcd6 w) := g3_B (g3_B Bi.zero h.1) h.2
  have dv : ∀ i : Int, oDiv (.int i) (.int (gcd6 w)) = M.pure (.int (i / gcd6 w)) := fun i => oDiv_g G (gb.mono (by omega))
  have mx := oMax2_1 G
  have lp : sFor (iVal (dVar 0)) (gSet 2) (sFor (iVal (dVar 2)) (gSet 3) (sAsg (dCall f_common (dCons (dVar 1) (dCons (dVar 3) dNil))) (gSet 1))) [.shr (wD w), .shr (.int 0), .no, .no] = M.pure (.next [.shr (wD w), .shr (.int (gcd6 w)), .shr (tD w.2), .shr (.int w.2.2.2)]) := by
    exact sFor_two rfl i1 i2
  show M.bind (d_least_way [.shr (wD w), .no, .no, .no]) endOf = _
  unfold d_least_way
  rw [seq_next (e' := [.shr (wD w), .shr (.int 0), .no, .no]) rfl, seq_next lp]
  simp only [wD, tD, dv, mx, bind_pure, lift_some, noX_pure, runDef, sNext, sSeq, sExpr, sRet, sRetN, sIf, sAsg, sPar2, sPar3, sAug, sOwn, noObj, sAppend, sFreeze, endOf, dVar, bVar, dC, dUn, dBin, dNil, dCons, dTup, dLst, dCall, asB, tVal, tAndD, tOrD, tNotD, dOfT, dIf, dAndV, dOrV, dNotV, oAdd, oAddI, oSub, oMod, oNeg, oLt, oLe, oGt, oGe, oIsNone, oNotNone, oIsN2, oNotN2, oAll, oAny, oSum, oLen, oTuple, oList, oAbs, oInt, oIx, asBs, asIs, wipeE, itemsOf, iVal, lcLoop, lcTurn, dLc, tYesD, gSet, gAll, gTupD, zipD, Sk.iZip, List.zip_cons_cons, List.zip_nil_right, List.zip_nil_left, List.map_cons, List.map_nil, List.length_cons, List.length_nil, List.replicate_succ, List.replicate_zero, List.cons_append, List.nil_append, List.append_nil, List.getElem?_cons_zero, List.getElem?_cons_succ, List.set_cons_zero, List.set_cons_succ, Option.map_some, Option.bind_some, Nat.reduceAdd, Nat.reduceSub, Nat.reduceLeDiff, ite_true, ite_false, Bool.false_eq_true, Bool.not_true, Bool.not_false, if_true, if_false, reduceIte, reduceCtorEq, List.sum_cons, List.sum_nil, List.all_cons, List.all_nil, List.any_cons, List.any_nil, id_eq, Bool.and_true, Bool.true_and, Bool.or_false, Bool.false_or, Bool.and_self, Bool.false_and, Bool.and_false, Bool.true_or, Bool.or_true, Int.cast_ofNat_Int, beq_self_eq_true, Int.reduceBEq, Int.reduceLT, Int.reduceLE, decide_true, decide_false]
  rfl
theorem f_way_of_two_eq {k : Nat} {p q : S2} {near far : Int} (hp : B k p.2) (hq : B k q.2) (n1 : 0 ≤ p.1) (n2 : p.1 ≤ 99) (n3 : 0 ≤ q.1) (n4 : q.1 ≤ 99) (hn : Bi k near) (hf : Bi k far) (hk : k ≤ 1000) (hne : twoW p q near far ≠ zW) : f_way_of_two [pD p, pD q, .int near, .int far] = M.pure (wD (leastW (twoW p q near far))) := by
  have b0 : Bi 7 (q.1 - p.1) := by
    unfold Bi
    omega
  have b1 : Bi 7 (-p.1) := by
    unfold Bi
    omega
  have e1 := f_times_eq hf hq (by omega) (by omega)
  have e2 := f_times_eq hn.neg hp (by omega) (by omega)
  have e3 := f_plus_eq (a := times far q.2) (b := times (-near) p.2)
  have t1 := B.times hf hq
  have t2 := B.times hn.neg hp
  have b3 := B.plus t1 t2
  have m1 := oMul_b b0 hn (by omega) (by omega)
  have e4 := f_times_eq (b0.mul hn) hp (by omega) (by omega)
  have e5 := f_times_eq b1 b3 (by omega) (by omega)
  have e6 := f_plus_eq (a := times ((q.1 - p.1) * near) p.2) (b := times (-p.1) (plus (times far q.2) (times (-near) p.2)))
  have b4 : B (k + k + 9) (plus (times ((q.1 - p.1) * near) p.2) (times (-p.1) (plus (times far q.2) (times (-near) p.2)))) := B.mono (B.plus (B.mono (m := k + k + 8) (B.times (b0.mul hn) hp) (by omega)) (B.mono (m := k + k + 8) (B.times b1 b3) (by omega))) (by omega)
  have lw := f_least_way_eq (w := twoW p q near far) (k := k + k + 9) ⟨b4, b3.mono (by omega)⟩ (by omega) hne
  have lw2 : f_least_way [.tup [tD (plus (times ((q.1 - p.1) * near) p.2) (times (-p.1) (plus (times far q.2) (times (-near) p.2)))), tD (plus (times far q.2) (times (-near) p.2))]] = M.pure (wD (leastW (twoW p q near far))) := lw
  simp only [f_way_of_two, d_way_of_two, pD_ix0, pD_ix1, e1, e2, e3, m1, e4, e5, e6, lw2, bind_pure, lift_some, noX_pure, runDef, sNext, sSeq, sExpr, sRet, sRetN, sIf, sAsg, sPar2, sPar3, sAug, sOwn, noObj, sAppend, sFreeze, endOf, dVar, bVar, dC, dUn, dBin, dNil, dCons, dTup, dLst, dCall, asB, tVal, tAndD, tOrD, tNotD, dOfT, dIf, dAndV, dOrV, dNotV, oAdd, oAddI, oSub, oMod, oNeg, oLt, oLe, oGt, oGe, oIsNone, oNotNone, oIsN2, oNotN2, oAll, oAny, oSum, oLen, oTuple, oList, oAbs, oInt, asBs, asIs, wipeE, itemsOf, iVal, lcLoop, lcTurn, dLc, tYesD, gSet, gAll, gTupD, zipD, Sk.iZip, List.zip_cons_cons, List.zip_nil_right, List.zip_nil_left, List.map_cons, List.map_nil, List.length_cons, List.length_nil, List.replicate_succ, List.replicate_zero, List.cons_append, List.nil_append, List.append_nil, List.getElem?_cons_zero, List.getElem?_cons_succ, List.set_cons_zero, List.set_cons_succ, Option.map_some, Option.bind_some, Nat.reduceAdd, Nat.reduceSub, Nat.reduceLeDiff, ite_true, ite_false, Bool.false_eq_true, Bool.not_true, Bool.not_false, if_true, if_false, reduceIte, reduceCtorEq, List.sum_cons, List.sum_nil, List.all_cons, List.all_nil, List.any_cons, List.any_nil, id_eq, Bool.and_true, Bool.true_and, Bool.or_false, Bool.false_or, Bool.and_self, Bool.false_and, Bool.and_false, Bool.true_or, Bool.or_true, Int.cast_ofNat_Int, beq_self_eq_true, Int.reduceBEq, Int.reduceLT, Int.reduceLE, decide_true, decide_false]
theorem f_is_seen_eq {k : Nat} {w : W6} {ss : List S2} {p q : S2} (h : WB k w) (hk : k ≤ 1000) (hs : SOk (-1) ss) (h0 : oIx (sD ss) (.int 0) = M.pure (pD p)) (hl : oIx (sD ss) (.int (-1)) = M.pure (pD q)) (hne : ss ≠ [])
    (hp : p ∈ ss) (hq : q ∈ ss) (hn : ∀ r ∈ ss, 0 ≤ r.1 ∧ r.1 ≤ 99 ∧ dirOk r.2) (ha : ∀ r ∈ ss, at_ w r.1 ≠ z3 ∧ least (at_ w r.1) = least r.2) (he : cross (at_ w p.1) (at_ w q.1) ≠ z3 ∨ 0 < dot (at_ w p.1) (at_ w q.1)) : f_is_seen [wD w, sD ss] = M.pure (.bl true) := by
  have ck := f_check_sightings_eq hs hne
  obtain ⟨p0, p1, p2⟩ := hn p hp
  obtain ⟨q0, q1, q2⟩ := hn q hq
  have ap := f_at_night_eq h (by omega) p0 p1
  have aq := f_at_night_eq h (by omega) q0 q1
  have bp := B.at_ h p0 p1
  have bq := B.at_ h q0 q1
  have ln := f_is_on_line_eq bp bq (by omega) (by omega)
  have dt := f_dot_eq bp bq (by omega) (by omega)
  obtain ⟨e', l1, s2, s3, s4, l2⟩ := sFor_det (di := iVal (dVar 1)) (dg := gTupD [(gSet 2), (gSet 3)]) (body := sSeq (sAsg (dCall f_at_night (dCons (dVar 0) (dCons (dVar 2) dNil))) (gSet 4)) (sIf (tOrD (tVal (dBin oEq (dVar 4) (dTup (dCons (dC (.int 0)) (dCons (dC (.int 0)) (dCons (dC (.int 0)) dNil)))))) (tVal (dBin oNe (dCall f_least (dCons (dVar 4) dNil)) (dCall f_least (dCons (dVar 3) dNil))))) (sRet (dC (.bl false))) sNext))
    (env := [.shr (wD w), .shr (sD ss), .no, .no, .no, .no, .no]) (xs := ss.map pD) (fun i e => ∃ s2 s3 s4, e = [.shr (wD w), .shr (sD ss), s2, s3, s4, .no, .no]) rfl ⟨_, _, _, rfl⟩ (fun i x e hx hi => by
      obtain ⟨s2, s3, s4, rfl⟩ := hi
      obtain ⟨r, hr, rfl⟩ := List.mem_map.mp (List.mem_of_getElem? hx)
      obtain ⟨r0, r1, r2⟩ := hn r hr
      obtain ⟨a1, a2⟩ := ha r hr
      have e1 := f_at_night_eq h (by omega) r0 r1
      have e2 := f_least_eq (B.at_ h r0 r1) (by omega) a1
      have e3 := f_least_eq r2.2 (by omega) r2.1
      refine ⟨[.shr (wD w), .shr (sD ss), .shr (.int r.1), .shr (tD r.2), .shr (tD (at_ w r.1)), .no, .no], ?_, _, _, _, rfl⟩
      have a3 : decide (at_ w r.1 = z3) = false := decide_eq_false a1
      have a4 : decide (least (at_ w r.1) = least r.2) = true := decide_eq_true a2
      simp only [pD, e1, e2, e3, oEq_z3, oNe_t3, a3, a4, bind_pure, lift_some, noX_pure, runDef, sNext, sSeq, sExpr, sRet, sRetN, sIf, sAsg, sPar2, sPar3, sAug, sOwn, noObj, sAppend, sFreeze, endOf, dVar, bVar, dC, dUn, dBin, dNil, dCons, dTup, dLst, dCall, asB, tVal, tAndD, tOrD, tNotD, dOfT, dIf, dAndV, dOrV, dNotV, oAdd, oAddI, oSub, oMod, oNeg, oLt, oLe, oGt, oGe, oIsNone, oNotNone, oIsN2, oNotN2, oAll, oAny, oSum, oLen, oTuple, oList, oAbs, oInt, oIx, asBs, asIs, wipeE, itemsOf, iVal, lcLoop, lcTurn, dLc, tYesD, gSet, gAll, gTupD, zipD, Sk.iZip, List.zip_cons_cons, List.zip_nil_right, List.zip_nil_left, List.map_cons, List.map_nil, List.length_cons, List.length_nil, List.replicate_succ, List.replicate_zero, List.cons_append, List.nil_append, List.append_nil, List.getElem?_cons_zero, List.getElem?_cons_succ, List.set_cons_zero, List.set_cons_succ, Option.map_some, Option.bind_some, Nat.reduceAdd, Nat.reduceSub, Nat.reduceLeDiff, ite_true, ite_false, Bool.false_eq_true, Bool.not_true, Bool.not_false, if_true, if_false, reduceIte, reduceCtorEq, List.sum_cons, List.sum_nil, List.all_cons, List.all_nil, List.any_cons, List.any_nil, id_eq, Bool.and_true, Bool.true_and, Bool.or_false, Bool.false_or, Bool.and_self, Bool.false_and, Bool.and_false, Bool.true_or, Bool.or_true, Int.cast_ofNat_Int, beq_self_eq_true, Int.reduceBEq, Int.reduceLT, Int.reduceLE, decide_true, decide_false])
  subst l2
  show M.bind (d_is_seen [.shr (wD w), .shr (sD ss), .no, .no, .no, .no, .no]) endOf = _
  unfold d_is_seen
  have g1 : sExpr (dCall f_check_way (dCons (dVar 0) dNil)) [.shr (wD w), .shr (sD ss), .no, .no, .no, .no, .no] = M.pure (.next [.shr (wD w), .shr (sD ss), .no, .no, .no, .no, .no]) := by
    simp only [f_check_way_eq, bind_pure, lift_some, noX_pure, runDef, sNext, sSeq, sExpr, sRet, sRetN, sIf, sAsg, sPar2, sPar3, sAug, sOwn, noObj, sAppend, sFreeze, endOf, dVar, bVar, dC, dUn, dBin, dNil, dCons, dTup, dLst, dCall, asB, tVal, tAndD, tOrD, tNotD, dOfT, dIf, dAndV, dOrV, dNotV, oAdd, oAddI, oSub, oMod, oNeg, oLt, oLe, oGt, oGe, oIsNone, oNotNone, oIsN2, oNotN2, oAll, oAny, oSum, oLen, oTuple, oList, oAbs, oInt, oIx, asBs, asIs, wipeE, itemsOf, iVal, lcLoop, lcTurn, dLc, tYesD, gSet, gAll, gTupD, zipD, Sk.iZip, List.zip_cons_cons, List.zip_nil_right, List.zip_nil_left, List.map_cons, List.map_nil, List.length_cons, List.length_nil, List.replicate_succ, List.replicate_zero, List.cons_append, List.nil_append, List.append_nil, List.getElem?_cons_zero, List.getElem?_cons_succ, List.set_cons_zero, List.set_cons_succ, Option.map_some, Option.bind_some, Nat.reduceAdd, Nat.reduceSub, Nat.reduceLeDiff, ite_true, ite_false, Bool.false_eq_true, Bool.not_true, Bool.not_false, if_true, if_false, reduceIte, reduceCtorEq, List.sum_cons, List.sum_nil, List.all_cons, List.all_nil, List.any_cons, List.any_nil, id_eq, Bool.and_true, Bool.true_and, Bool.or_false, Bool.false_or, Bool.and_self, Bool.false_and, Bool.and_false, Bool.true_or, Bool.or_true, Int.cast_ofNat_Int, beq_self_eq_true, Int.reduceBEq, Int.reduceLT, Int.reduceLE, decide_true, decide_false]
  have g2 : sExpr (dCall f_check_sightings (dCons (dVar 1) dNil)) [.shr (wD w), .shr (sD ss), .no, .no, .no, .no, .no] = M.pure (.next [.shr (wD w), .shr (sD ss), .no, .no, .no, .no, .no]) := by
    simp only [ck, bind_pure, lift_some, noX_pure, runDef, sNext, sSeq, sExpr, sRet, sRetN, sIf, sAsg, sPar2, sPar3, sAug, sOwn, noObj, sAppend, sFreeze, endOf, dVar, bVar, dC, dUn, dBin, dNil, dCons, dTup, dLst, dCall, asB, tVal, tAndD, tOrD, tNotD, dOfT, dIf, dAndV, dOrV, dNotV, oAdd, oAddI, oSub, oMod, oNeg, oLt, oLe, oGt, oGe, oIsNone, oNotNone, oIsN2, oNotN2, oAll, oAny, oSum, oLen, oTuple, oList, oAbs, oInt, oIx, asBs, asIs, wipeE, itemsOf, iVal, lcLoop, lcTurn, dLc, tYesD, gSet, gAll, gTupD, zipD, Sk.iZip, List.zip_cons_cons, List.zip_nil_right, List.zip_nil_left, List.map_cons, List.map_nil, List.length_cons, List.length_nil, List.replicate_succ, List.replicate_zero, List.cons_append, List.nil_append, List.append_nil, List.getElem?_cons_zero, List.getElem?_cons_succ, List.set_cons_zero, List.set_cons_succ, Option.map_some, Option.bind_some, Nat.reduceAdd, Nat.reduceSub, Nat.reduceLeDiff, ite_true, ite_false, Bool.false_eq_true, Bool.not_true, Bool.not_false, if_true, if_false, reduceIte, reduceCtorEq, List.sum_cons, List.sum_nil, List.all_cons, List.all_nil, List.any_cons, List.any_nil, id_eq, Bool.and_true, Bool.true_and, Bool.or_false, Bool.false_or, Bool.and_self, Bool.false_and, Bool.and_false, Bool.true_or, Bool.or_true, Int.cast_ofNat_Int, beq_self_eq_true, Int.reduceBEq, Int.reduceLT, Int.reduceLE, decide_true, decide_false]
  rw [seq_next g1, seq_next g2, seq_next l1]
  have m1 : (-1 : Int) = -1 := rfl
  by_cases c : cross (at_ w p.1) (at_ w q.1) = z3
  · have d : decide (0 < dot (at_ w p.1) (at_ w q.1)) = true := decide_eq_true (he.resolve_left fun z => z c)
    simp only [h0, hl, pD_ix0, ap, aq, ln, dt, decide_eq_true c, d, bind_pure, lift_some, noX_pure, runDef, sNext, sSeq, sExpr, sRet, sRetN, sIf, sAsg, sPar2, sPar3, sAug, sOwn, noObj, sAppend, sFreeze, endOf, dVar, bVar, dC, dUn, dBin, dNil, dCons, dTup, dLst, dCall, asB, tVal, tAndD, tOrD, tNotD, dOfT, dIf, dAndV, dOrV, dNotV, oAdd, oAddI, oSub, oMod, oNeg, oLt, oLe, oGt, oGe, oIsNone, oNotNone, oIsN2, oNotN2, oAll, oAny, oSum, oLen, oTuple, oList, oAbs, oInt, asBs, asIs, wipeE, itemsOf, iVal, lcLoop, lcTurn, dLc, tYesD, gSet, gAll, gTupD, zipD, Sk.iZip, List.zip_cons_cons, List.zip_nil_right, List.zip_nil_left, List.map_cons, List.map_nil, List.length_cons, List.length_nil, List.replicate_succ, List.replicate_zero, List.cons_append, List.nil_append, List.append_nil, List.getElem?_cons_zero, List.getElem?_cons_succ, List.set_cons_zero, List.set_cons_succ, Option.map_some, Option.bind_some, Nat.reduceAdd, Nat.reduceSub, Nat.reduceLeDiff, ite_true, ite_false, Bool.false_eq_true, Bool.not_true, Bool.not_false, if_true, if_false, reduceIte, reduceCtorEq, List.sum_cons, List.sum_nil, List.all_cons, List.all_nil, List.any_cons, List.any_nil, id_eq, Bool.and_true, Bool.true_and, Bool.or_false, Bool.false_or, Bool.and_self, Bool.false_and, Bool.and_false, Bool.true_or, Bool.or_true, Int.cast_ofNat_Int, beq_self_eq_true, Int.reduceBEq, Int.reduceLT, Int.reduceLE, decide_true, decide_false]
  · simp only [h0, hl, pD_ix0, ap, aq, ln, dt, decide_eq_false c, bind_pure, lift_some, noX_pure, runDef, sNext, sSeq, sExpr, sRet, sRetN, sIf, sAsg, sPar2, sPar3, sAug, sOwn, noObj, sAppend, sFreeze, endOf, dVar, bVar, dC, dUn, dBin, dNil, dCons, dTup, dLst, dCall, asB, tVal, tAndD, tOrD, tNotD, dOfT, dIf, dAndV, dOrV, dNotV, oAdd, oAddI, oSub, oMod, oNeg, oLt, oLe, oGt, oGe, oIsNone, oNotNone, oIsN2, oNotN2, oAll, oAny, oSum, oLen, oTuple, oList, oAbs, oInt, asBs, asIs, wipeE, itemsOf, iVal, lcLoop, lcTurn, dLc, tYesD, gSet, gAll, gTupD, zipD, Sk.iZip, List.zip_cons_cons, List.zip_nil_right, List.zip_nil_left, List.map_cons, List.map_nil, List.length_cons, List.length_nil, List.replicate_succ, List.replicate_zero, List.cons_append, List.nil_append, List.append_nil, List.getElem?_cons_zero, List.getElem?_cons_succ, List.set_cons_zero, List.set_cons_succ, Option.map_some, Option.bind_some, Nat.reduceAdd, Nat.reduceSub, Nat.reduceLeDiff, ite_true, ite_false, Bool.false_eq_true, Bool.not_true, Bool.not_false, if_true, if_false, reduceIte, reduceCtorEq, List.sum_cons, List.sum_nil, List.all_cons, List.all_nil, List.any_cons, List.any_nil, id_eq, Bool.and_true, Bool.true_and, Bool.or_false, Bool.false_or, Bool.and_self, Bool.false_and, Bool.and_false, Bool.true_or, Bool.or_true, Int.cast_ofNat_Int, beq_self_eq_true, Int.reduceBEq, Int.reduceLT, Int.reduceLE, decide_true, decide_false]
end Lw

set_option Elab.async false
set_option linter.all false
set_option maxRecDepth 100000
set_option maxHeartbeats 4000000
set_option autoImplicit false
namespace Lw
open PySem L2 Sk
theorem oIx_tup0 (a : D) (r : List D) : oIx (.tup (a :: r)) (.int 0) = M.pure a := by
  show lift (atI (a :: r) 0) = _
  rw [atI0]
  rfl
theorem oIx_tup1 (a b : D) (r : List D) : oIx (.tup (a :: b :: r)) (.int 1) = M.pure b := by
  show lift (atI (a :: b :: r) 1) = _
  rw [atI1]
  rfl
theorem wb_same {x : D} {p q : S2} (h0 : oIx x (.int 0) = M.pure (pD p)) (hl : oIx x (.int (-1)) = M.pure (pD q)) (hp : dirOk p.2) (hq : dirOk q.2) (e : least p.2 = least q.2)
    (hs : f_is_seen [wD (least p.2, z3), x] = M.pure (.bl true)) : f_ways_by [x] = M.pure (.tup [wD (least p.2, z3), wD (least p.2, least p.2)]) := by
  have e1 := f_least_eq hp.2 (by omega) hp.1
  have e2 := f_least_eq hq.2 (by omega) hq.1
  have e3 : oEq (tD (least p.2)) (tD (least q.2)) = M.pure (.bl true) := by
    rw [oEq_t3, decide_eq_true e]
  have hs2 : f_is_seen [.tup [tD (least p.2), .tup [.int 0, .int 0, .int 0]], x] = M.pure (.bl true) := hs
  simp only [f_ways_by, d_ways_by, h0, hl, pD_ix1, e1, e2, e3, oIx_tup0, hs2, bind_pure, lift_some, noX_pure, runDef, sNext, sSeq, sExpr, sRet, sRetN, sIf, sAsg, sPar2, sPar3, sAug, sOwn, noObj, sAppend, sFreeze, endOf, dVar, bVar, dC, dUn, dBin, dNil, dCons, dTup, dLst, dCall, asB, tVal, tAndD, tOrD, tNotD, dOfT, dIf, dAndV, dOrV, dNotV, oAdd, oAddI, oSub, oMod, oNeg, oLt, oLe, oGt, oGe, oIsNone, oNotNone, oIsN2, oNotN2, oAll, oAny, oSum, oLen, oTuple, oList, oAbs, oInt, asBs, asIs, wipeE, itemsOf, iVal, lcLoop, lcTurn, dLc, tYesD, gSet, gAll, gTupD, zipD, Sk.iZip, List.zip_cons_cons, List.zip_nil_right, List.zip_nil_left, List.map_cons, List.map_nil, List.length_cons, List.length_nil, List.replicate_succ, List.replicate_zero, List.cons_append, List.nil_append, List.append_nil, List.getElem?_cons_zero, List.getElem?_cons_succ, List.set_cons_zero, List.set_cons_succ, Option.map_some, Option.bind_some, Nat.reduceAdd, Nat.reduceSub, Nat.reduceLeDiff, ite_true, ite_false, Bool.false_eq_true, Bool.not_true, Bool.not_false, if_true, if_false, reduceIte, reduceCtorEq, List.sum_cons, List.sum_nil, List.all_cons, List.all_nil, List.any_cons, List.any_nil, id_eq, Bool.and_true, Bool.true_and, Bool.or_false, Bool.false_or, Bool.and_self, Bool.false_and, Bool.and_false, Bool.true_or, Bool.or_true, Int.cast_ofNat_Int, beq_self_eq_true, Int.reduceBEq, Int.reduceLT, Int.reduceLE, decide_true, decide_false]
  rfl
theorem wb_two {x : D} {p q : S2} {k : Nat} (h0 : oIx x (.int 0) = M.pure (pD p)) (hl : oIx x (.int (-1)) = M.pure (pD q)) (hn : oLen x = M.pure (.int 2)) (hp : dirOk p.2) (hq : dirOk q.2) (e : least p.2 ≠ least q.2) (c : cross p.2 q.2 ≠ z3)
    {u v : W6} (hu : f_way_of_two [pD p, pD q, .int 1, .int 1] = M.pure (wD u)) (hv : f_way_of_two [pD p, pD q, .int 1, .int 2] = M.pure (wD v)) : f_ways_by [x] = M.pure (.tup [wD u, wD v]) := by
  have e1 := f_least_eq hp.2 (by omega) hp.1
  have e2 := f_least_eq hq.2 (by omega) hq.1
  have e3 : oEq (tD (least p.2)) (tD (least q.2)) = M.pure (.bl false) := by
    rw [oEq_t3, decide_eq_false e]
  have e4 := f_is_on_line_eq hp.2 hq.2 (by omega) (by omega)
  rw [decide_eq_false c] at e4
  simp only [f_ways_by, d_ways_by, h0, hl, hn, pD_ix1, e1, e2, e3, e4, hu, hv, oEq_int, bind_pure, lift_some, noX_pure, runDef, sNext, sSeq, sExpr, sRet, sRetN, sIf, sAsg, sPar2, sPar3, sAug, sOwn, noObj, sAppend, sFreeze, endOf, dVar, bVar, dC, dUn, dBin, dNil, dCons, dTup, dLst, dCall, asB, tVal, tAndD, tOrD, tNotD, dOfT, dIf, dAndV, dOrV, dNotV, oAdd, oAddI, oSub, oMod, oNeg, oLt, oLe, oGt, oGe, oIsNone, oNotNone, oIsN2, oNotN2, oAll, oAny, oSum, oTuple, oList, oAbs, oInt, asBs, asIs, wipeE, itemsOf, iVal, lcLoop, lcTurn, dLc, tYesD, gSet, gAll, gTupD, zipD, Sk.iZip, List.zip_cons_cons, List.zip_nil_right, List.zip_nil_left, List.map_cons, List.map_nil, List.length_cons, List.length_nil, List.replicate_succ, List.replicate_zero, List.cons_append, List.nil_append, List.append_nil, List.getElem?_cons_zero, List.getElem?_cons_succ, List.set_cons_zero, List.set_cons_succ, Option.map_some, Option.bind_some, Nat.reduceAdd, Nat.reduceSub, Nat.reduceLeDiff, ite_true, ite_false, Bool.false_eq_true, Bool.not_true, Bool.not_false, if_true, if_false, reduceIte, reduceCtorEq, List.sum_cons, List.sum_nil, List.all_cons, List.all_nil, List.any_cons, List.any_nil, id_eq, Bool.and_true, Bool.true_and, Bool.or_false, Bool.false_or, Bool.and_self, Bool.false_and, Bool.and_false, Bool.true_or, Bool.or_true, Int.cast_ofNat_Int, beq_self_eq_true, Int.reduceBEq, Int.reduceLT, Int.reduceLE, decide_true, decide_false]
theorem wb_more {x : D} {p m q : S2} {L : Int} (h0 : oIx x (.int 0) = M.pure (pD p)) (h1 : oIx x (.int 1) = M.pure (pD m)) (hl : oIx x (.int (-1)) = M.pure (pD q)) (hn : oLen x = M.pure (.int L)) (hL : L ≠ 2) (hp : dirOk p.2) (hm : dirOk m.2) (hq : dirOk q.2)
    (e : least p.2 ≠ least q.2) (c : cross p.2 q.2 ≠ z3) (b : between p.2 m.2 q.2 = true) (n0 : 0 ≤ p.1) (n1 : p.1 < m.1) (n2 : m.1 < q.1) (n3 : q.1 ≤ 99)
    {u : W6} (hu : f_way_of_two [pD p, pD q, .int (nearN p.2 m.2 q.2 p.1 m.1), .int (farN p.2 m.2 q.2 m.1 q.1)] = M.pure (wD u)) (hs : f_is_seen [wD u, x] = M.pure (.bl true)) : f_ways_by [x] = M.pure (.tup [wD u]) := by
  have e1 := f_least_eq hp.2 (by omega) hp.1
  have e2 := f_least_eq hq.2 (by omega) hq.1
  have e3 : oEq (tD (least p.2)) (tD (least q.2)) = M.pure (.bl false) := by
    rw [oEq_t3, decide_eq_false e]
  have e4 := f_is_on_line_eq hp.2 hq.2 (by omega) (by omega)
  rw [decide_eq_false c] at e4
  have e5 := f_is_between_eq hp.2 hm.2 hq.2 (by omega)
  rw [b] at e5
  have e6 : (L == 2) = false := beq_eq_false_iff_ne.mpr hL
  have e7 := f_cross_eq hp.2 hq.2 (by omega) (by omega)
  have b7 := B.cross hp.2 hq.2
  have e8 := f_cross_eq hm.2 hq.2 (by omega) (by omega)
  have b8 := B.cross hm.2 hq.2
  have e9 := f_cross_eq hp.2 hm.2 (by omega) (by omega)
  have b9 := B.cross hp.2 hm.2
  have e10 := f_dot_eq b8 b7 (by omega) (by omega)
  have b10 := B.dot b8 b7
  have e11 := f_dot_eq b9 b7 (by omega) (by omega)
  have b11 := B.dot b9 b7
  have d1 : Bi 7 (m.1 - p.1) := by
    unfold Bi
    omega
  have d2 : Bi 7 (q.1 - m.1) := by
    unfold Bi
    omega
  have m1 := oMul_b b10 d1 (by omega) (by omega)
  have m2 := oMul_b b11 d2 (by omega) (by omega)
  unfold nearN farN at hu
  simp only [f_ways_by, d_ways_by, h0, h1, hl, hn, pD_ix0, pD_ix1, e1, e2, e3, e4, e5, e6, e7, e8, e9, e10, e11, m1, m2, hu, hs, oEq_int, bind_pure, lift_some, noX_pure, runDef, sNext, sSeq, sExpr, sRet, sRetN, sIf, sAsg, sPar2, sPar3, sAug, sOwn, noObj, sAppend, sFreeze, endOf, dVar, bVar, dC, dUn, dBin, dNil, dCons, dTup, dLst, dCall, asB, tVal, tAndD, tOrD, tNotD, dOfT, dIf, dAndV, dOrV, dNotV, oAdd, oAddI, oSub, oMod, oNeg, oLt, oLe, oGt, oGe, oIsNone, oNotNone, oIsN2, oNotN2, oAll, oAny, oSum, oTuple, oList, oAbs, oInt, asBs, asIs, wipeE, itemsOf, iVal, lcLoop, lcTurn, dLc, tYesD, gSet, gAll, gTupD, zipD, Sk.iZip, List.zip_cons_cons, List.zip_nil_right, List.zip_nil_left, List.map_cons, List.map_nil, List.length_cons, List.length_nil, List.replicate_succ, List.replicate_zero, List.cons_append, List.nil_append, List.append_nil, List.getElem?_cons_zero, List.getElem?_cons_succ, List.set_cons_zero, List.set_cons_succ, Option.map_some, Option.bind_some, Nat.reduceAdd, Nat.reduceSub, Nat.reduceLeDiff, ite_true, ite_false, Bool.false_eq_true, Bool.not_true, Bool.not_false, if_true, if_false, reduceIte, reduceCtorEq, List.sum_cons, List.sum_nil, List.all_cons, List.all_nil, List.any_cons, List.any_nil, id_eq, Bool.and_true, Bool.true_and, Bool.or_false, Bool.false_or, Bool.and_self, Bool.false_and, Bool.and_false, Bool.true_or, Bool.or_true, Int.cast_ofNat_Int, beq_self_eq_true, Int.reduceBEq, Int.reduceLT, Int.reduceLE, decide_true, decide_false]
theorem cut_take (xs : List D) (i : Nat) (h : i ≤ xs.length) : oCut (.lst xs) none (some (i : Int)) = M.pure (.lst (xs.take i)) := by
  have e : cutD xs none (some (i : Int)) = xs.take i := by
    unfold cutD HT.sIx
    have : ¬ ((i : Int) < 0) := by omega
    simp [this, Nat.min_eq_left h]
    try omega
  show M.pure (D.lst (cutD xs none (some (i : Int)))) = _
  rw [e]
theorem sD_cut (ss : List S2) (i : Nat) (h : i ≤ ss.length) : oCut (sD ss) none (some (i : Int)) = M.pure (sD (ss.take i)) := by
  unfold sD
  rw [cut_take _ _ (by rw [List.length_map]; exact h), List.map_take]
theorem Way_init (a b : D) : f_Way___init__ [a, b] = M.pure (.obj 0 [a, b]) := rfl
theorem Ways_init (xs ys : List D) : f_Ways___init__ [.tup xs, .tup ys] = M.pure (.obj 1 [.tup xs, .tup ys]) := by
  have h : ∀ n : Nat, (flds 1)[n]? = [Str.ofString "one", Str.ofString "other"][n]? := fun n => rfl
  simp only [f_Ways___init__, d_Ways___init__, runInit, sSelf, selfOf, f_is_row_eqT, bind_pure, lift_some, noX_pure, runDef, sNext, sSeq, sExpr, sRet, sRetN, sIf, sAsg, sPar2, sPar3, sAug, sOwn, noObj, sAppend, sFreeze, endOf, dVar, bVar, dC, dUn, dBin, dNil, dCons, dTup, dLst, dCall, asB, tVal, tAndD, tOrD, tNotD, dOfT, dIf, dAndV, dOrV, dNotV, oAdd, oAddI, oSub, oMod, oNeg, oLt, oLe, oGt, oGe, oIsNone, oNotNone, oIsN2, oNotN2, oAll, oAny, oSum, oLen, oTuple, oList, oAbs, oInt, oIx, asBs, asIs, wipeE, itemsOf, iVal, lcLoop, lcTurn, dLc, tYesD, gSet, gAll, gTupD, zipD, Sk.iZip, List.zip_cons_cons, List.zip_nil_right, List.zip_nil_left, List.map_cons, List.map_nil, List.length_cons, List.length_nil, List.replicate_succ, List.replicate_zero, List.cons_append, List.nil_append, List.append_nil, List.getElem?_cons_zero, List.getElem?_cons_succ, List.set_cons_zero, List.set_cons_succ, Option.map_some, Option.bind_some, Nat.reduceAdd, Nat.reduceSub, Nat.reduceLeDiff, ite_true, ite_false, Bool.false_eq_true, Bool.not_true, Bool.not_false, if_true, if_false, reduceIte, reduceCtorEq, List.sum_cons, List.sum_nil, List.all_cons, List.all_nil, List.any_cons, List.any_nil, id_eq, Bool.and_true, Bool.true_and, Bool.or_false, Bool.false_or, Bool.and_self, Bool.false_and, Bool.and_false, Bool.true_or, Bool.or_true, Int.cast_ofNat_Int, beq_self_eq_true, Int.reduceBEq, Int.reduceLT, Int.reduceLE, decide_true, decide_false]
  rfl
theorem judge_loop {ss : List S2} (H : ∀ i : Nat, 1 ≤ i → i ≤ ss.length → ∃ d ds, f_ways_by [sD (ss.take i)] = M.pure (.tup (d :: ds)) ∧ oEq (.tup (d :: ds)) (.tup []) = M.pure (.bl false)) (hl : ss.length ≤ 1000) :
    ∃ s1, sFor (iRange2 (dC (.int 1)) (dBin oAdd (dUn oLen (dVar 0)) (dC (.int 1)))) (gSet 1) (sIf (tVal (dBin oEq (dCall f_ways_by (dCons (dCut (dVar 0) oNoPart (oPart (dVar 1))) dNil)) (dTup dNil))) sStk sNext) [.shr (sD ss), .no, .no] = M.pure (.next [.shr (sD ss), s1, .no]) := by
  have hi : iRange2 (dC (.int 1)) (dBin oAdd (dUn oLen (dVar 0)) (dC (.int 1))) [.shr (sD ss), .no, .no] = M.pure (rangeD 1 ((ss.length : Nat) + 1)) := by
    have d : decide (-50000 ≤ ((ss.length : Nat) : Int) + 1 ∧ ((ss.length : Nat) : Int) + 1 ≤ 50000 ∧ (-50000 : Int) ≤ 1 ∧ (1 : Int) ≤ 50000) = true := decide_eq_true (by omega)
    simp only [iRange2, sD, List.length_map, bind_pure, lift_some, noX_pure, runDef, sNext, sSeq, sExpr, sRet, sRetN, sIf, sAsg, sPar2, sPar3, sAug, sOwn, noObj, sAppend, sFreeze, endOf, dVar, bVar, dC, dUn, dBin, dNil, dCons, dTup, dLst, dCall, asB, tVal, tAndD, tOrD, tNotD, dOfT, dIf, dAndV, dOrV, dNotV, oAdd, oAddI, oSub, oMod, oNeg, oLt, oLe, oGt, oGe, oIsNone, oNotNone, oIsN2, oNotN2, oAll, oAny, oSum, oLen, oTuple, oList, oAbs, oInt, oIx, asBs, asIs, wipeE, itemsOf, iVal, lcLoop, lcTurn, dLc, tYesD, gSet, gAll, gTupD, zipD, Sk.iZip, List.zip_cons_cons, List.zip_nil_right, List.zip_nil_left, List.map_cons, List.map_nil, List.length_cons, List.length_nil, List.replicate_succ, List.replicate_zero, List.cons_append, List.nil_append, List.append_nil, List.getElem?_cons_zero, List.getElem?_cons_succ, List.set_cons_zero, List.set_cons_succ, Option.map_some, Option.bind_some, Nat.reduceAdd, Nat.reduceSub, Nat.reduceLeDiff, ite_true, ite_false, Bool.false_eq_true, Bool.not_true, Bool.not_false, if_true, if_false, reduceIte, reduceCtorEq, List.sum_cons, List.sum_nil, List.all_cons, List.all_nil, List.any_cons, List.any_nil, id_eq, Bool.and_true, Bool.true_and, Bool.or_false, Bool.false_or, Bool.and_self, Bool.false_and, Bool.and_false, Bool.true_or, Bool.or_true, Int.cast_ofNat_Int, beq_self_eq_true, Int.reduceBEq, Int.reduceLT, Int.reduceLE, decide_true, decide_false]
    exact if_pos (decide_eq_true ⟨by omega, by omega, trivial, trivial⟩)
  obtain ⟨e', l1, s1, l2⟩ := sFor_det (di := iRange2 (dC (.int 1)) (dBin oAdd (dUn oLen (dVar 0)) (dC (.int 1)))) (dg := gSet 1) (body := sIf (tVal (dBin oEq (dCall f_ways_by (dCons (dCut (dVar 0) oNoPart (oPart (dVar 1))) dNil)) (dTup dNil))) sStk sNext) (env := [.shr (sD ss), .no, .no])
    (fun i e => ∃ s1, e = [.shr (sD ss), s1, .no]) hi ⟨_, rfl⟩ (fun i x e hx hi => by
      obtain ⟨s1, rfl⟩ := hi
      have hm := List.mem_of_getElem? hx
      unfold rangeD at hm
      obtain ⟨k, hk, rfl⟩ := List.mem_map.mp hm
      have hk : k < ss.length := by
        have := List.mem_range.mp hk
        omega
      have ek : (1 : Int) + (k : Int) = ((k + 1 : Nat) : Int) := by omega
      obtain ⟨d, ds, w1, w2⟩ := H (k + 1) (by omega) (by omega)
      have ct := sD_cut ss (k + 1) (by omega)
      refine ⟨[.shr (sD ss), .shr (.int ((k + 1 : Nat) : Int)), .no], ?_, _, rfl⟩
      rw [ek]
      simp only [dCut, oNoPart, oPart, ct, w1, w2, bind_pure, lift_some, noX_pure, runDef, sNext, sSeq, sExpr, sRet, sRetN, sIf, sAsg, sPar2, sPar3, sAug, sOwn, noObj, sAppend, sFreeze, endOf, dVar, bVar, dC, dUn, dBin, dNil, dCons, dTup, dLst, dCall, asB, tVal, tAndD, tOrD, tNotD, dOfT, dIf, dAndV, dOrV, dNotV, oAdd, oAddI, oSub, oMod, oNeg, oLt, oLe, oGt, oGe, oIsNone, oNotNone, oIsN2, oNotN2, oAll, oAny, oSum, oLen, oTuple, oList, oAbs, oInt, oIx, asBs, asIs, wipeE, itemsOf, iVal, lcLoop, lcTurn, dLc, tYesD, gSet, gAll, gTupD, zipD, Sk.iZip, List.zip_cons_cons, List.zip_nil_right, List.zip_nil_left, List.map_cons, List.map_nil, List.length_cons, List.length_nil, List.replicate_succ, List.replicate_zero, List.cons_append, List.nil_append, List.append_nil, List.getElem?_cons_zero, List.getElem?_cons_succ, List.set_cons_zero, List.set_cons_succ, Option.map_some, Option.bind_some, Nat.reduceAdd, Nat.reduceSub, Nat.reduceLeDiff, ite_true, ite_false, Bool.false_eq_true, Bool.not_true, Bool.not_false, if_true, if_false, reduceIte, reduceCtorEq, List.sum_cons, List.sum_nil, List.all_cons, List.all_nil, List.any_cons, List.any_nil, id_eq, Bool.and_true, Bool.true_and, Bool.or_false, Bool.false_or, Bool.and_self, Bool.false_and, Bool.and_false, Bool.true_or, Bool.or_true, Int.cast_ofNat_Int, beq_self_eq_true, Int.reduceBEq, Int.reduceLT, Int.reduceLE, decide_true, decide_false])
  subst l2
  exact ⟨s1, l1⟩
theorem judge_one {ss : List S2} (hs : SOk (-1) ss) (hne : ss ≠ []) (hl : ss.length ≤ 1000) (H : ∀ i : Nat, 1 ≤ i → i ≤ ss.length → ∃ d ds, f_ways_by [sD (ss.take i)] = M.pure (.tup (d :: ds)) ∧ oEq (.tup (d :: ds)) (.tup []) = M.pure (.bl false))
    {w : W6} (hw : f_ways_by [sD ss] = M.pure (.tup [wD w])) : f_judge_way [sD ss] = M.pure (.obj 0 [tD w.1, tD w.2]) := by
  obtain ⟨s1, lp⟩ := judge_loop H hl
  have ck := f_check_sightings_eq hs hne
  have g1 : sExpr (dCall f_check_sightings (dCons (dVar 0) dNil)) [.shr (sD ss), .no, .no] = M.pure (.next [.shr (sD ss), .no, .no]) := by
    simp only [ck, bind_pure, lift_some, noX_pure, runDef, sNext, sSeq, sExpr, sRet, sRetN, sIf, sAsg, sPar2, sPar3, sAug, sOwn, noObj, sAppend, sFreeze, endOf, dVar, bVar, dC, dUn, dBin, dNil, dCons, dTup, dLst, dCall, asB, tVal, tAndD, tOrD, tNotD, dOfT, dIf, dAndV, dOrV, dNotV, oAdd, oAddI, oSub, oMod, oNeg, oLt, oLe, oGt, oGe, oIsNone, oNotNone, oIsN2, oNotN2, oAll, oAny, oSum, oLen, oTuple, oList, oAbs, oInt, oIx, asBs, asIs, wipeE, itemsOf, iVal, lcLoop, lcTurn, dLc, tYesD, gSet, gAll, gTupD, zipD, Sk.iZip, List.zip_cons_cons, List.zip_nil_right, List.zip_nil_left, List.map_cons, List.map_nil, List.length_cons, List.length_nil, List.replicate_succ, List.replicate_zero, List.cons_append, List.nil_append, List.append_nil, List.getElem?_cons_zero, List.getElem?_cons_succ, List.set_cons_zero, List.set_cons_succ, Option.map_some, Option.bind_some, Nat.reduceAdd, Nat.reduceSub, Nat.reduceLeDiff, ite_true, ite_false, Bool.false_eq_true, Bool.not_true, Bool.not_false, if_true, if_false, reduceIte, reduceCtorEq, List.sum_cons, List.sum_nil, List.all_cons, List.all_nil, List.any_cons, List.any_nil, id_eq, Bool.and_true, Bool.true_and, Bool.or_false, Bool.false_or, Bool.and_self, Bool.false_and, Bool.and_false, Bool.true_or, Bool.or_true, Int.cast_ofNat_Int, beq_self_eq_true, Int.reduceBEq, Int.reduceLT, Int.reduceLE, decide_true, decide_false]
  show M.bind (d_judge_way [.shr (sD ss), .no, .no]) endOf = _
  unfold d_judge_way
  rw [seq_next g1, seq_next lp]
  simp only [hw, oEq_int, oIx_tup0, wD_ix0, wD_ix1, Way_init, bind_pure, lift_some, noX_pure, runDef, sNext, sSeq, sExpr, sRet, sRetN, sIf, sAsg, sPar2, sPar3, sAug, sOwn, noObj, sAppend, sFreeze, endOf, dVar, bVar, dC, dUn, dBin, dNil, dCons, dTup, dLst, dCall, asB, tVal, tAndD, tOrD, tNotD, dOfT, dIf, dAndV, dOrV, dNotV, oAdd, oAddI, oSub, oMod, oNeg, oLt, oLe, oGt, oGe, oIsNone, oNotNone, oIsN2, oNotN2, oAll, oAny, oSum, oLen, oTuple, oList, oAbs, oInt, asBs, asIs, wipeE, itemsOf, iVal, lcLoop, lcTurn, dLc, tYesD, gSet, gAll, gTupD, zipD, Sk.iZip, List.zip_cons_cons, List.zip_nil_right, List.zip_nil_left, List.map_cons, List.map_nil, List.length_cons, List.length_nil, List.replicate_succ, List.replicate_zero, List.cons_append, List.nil_append, List.append_nil, List.getElem?_cons_zero, List.getElem?_cons_succ, List.set_cons_zero, List.set_cons_succ, Option.map_some, Option.bind_some, Nat.reduceAdd, Nat.reduceSub, Nat.reduceLeDiff, ite_true, ite_false, Bool.false_eq_true, Bool.not_true, Bool.not_false, if_true, if_false, reduceIte, reduceCtorEq, List.sum_cons, List.sum_nil, List.all_cons, List.all_nil, List.any_cons, List.any_nil, id_eq, Bool.and_true, Bool.true_and, Bool.or_false, Bool.false_or, Bool.and_self, Bool.false_and, Bool.and_false, Bool.true_or, Bool.or_true, Int.cast_ofNat_Int, beq_self_eq_true, Int.reduceBEq, Int.reduceLT, Int.reduceLE, decide_true, decide_false]
theorem judge_two {ss : List S2} (hs : SOk (-1) ss) (hne : ss ≠ []) (hl : ss.length ≤ 1000) (H : ∀ i : Nat, 1 ≤ i → i ≤ ss.length → ∃ d ds, f_ways_by [sD (ss.take i)] = M.pure (.tup (d :: ds)) ∧ oEq (.tup (d :: ds)) (.tup []) = M.pure (.bl false))
    {w u : W6} (hw : f_ways_by [sD ss] = M.pure (.tup [wD w, wD u])) : f_judge_way [sD ss] = M.pure (.obj 1 [wD w, wD u]) := by
  obtain ⟨s1, lp⟩ := judge_loop H hl
  have ck := f_check_sightings_eq hs hne
  have g1 : sExpr (dCall f_check_sightings (dCons (dVar 0) dNil)) [.shr (sD ss), .no, .no] = M.pure (.next [.shr (sD ss), .no, .no]) := by
    simp only [ck, bind_pure, lift_some, noX_pure, runDef, sNext, sSeq, sExpr, sRet, sRetN, sIf, sAsg, sPar2, sPar3, sAug, sOwn, noObj, sAppend, sFreeze, endOf, dVar, bVar, dC, dUn, dBin, dNil, dCons, dTup, dLst, dCall, asB, tVal, tAndD, tOrD, tNotD, dOfT, dIf, dAndV, dOrV, dNotV, oAdd, oAddI, oSub, oMod, oNeg, oLt, oLe, oGt, oGe, oIsNone, oNotNone, oIsN2, oNotN2, oAll, oAny, oSum, oLen, oTuple, oList, oAbs, oInt, oIx, asBs, asIs, wipeE, itemsOf, iVal, lcLoop, lcTurn, dLc, tYesD, gSet, gAll, gTupD, zipD, Sk.iZip, List.zip_cons_cons, List.zip_nil_right, List.zip_nil_left, List.map_cons, List.map_nil, List.length_cons, List.length_nil, List.replicate_succ, List.replicate_zero, List.cons_append, List.nil_append, List.append_nil, List.getElem?_cons_zero, List.getElem?_cons_succ, List.set_cons_zero, List.set_cons_succ, Option.map_some, Option.bind_some, Nat.reduceAdd, Nat.reduceSub, Nat.reduceLeDiff, ite_true, ite_false, Bool.false_eq_true, Bool.not_true, Bool.not_false, if_true, if_false, reduceIte, reduceCtorEq, List.sum_cons, List.sum_nil, List.all_cons, List.all_nil, List.any_cons, List.any_nil, id_eq, Bool.and_true, Bool.true_and, Bool.or_false, Bool.false_or, Bool.and_self, Bool.false_and, Bool.and_false, Bool.true_or, Bool.or_true, Int.cast_ofNat_Int, beq_self_eq_true, Int.reduceBEq, Int.reduceLT, Int.reduceLE, decide_true, decide_false]
  have ws : f_Ways___init__ [wD w, wD u] = M.pure (.obj 1 [wD w, wD u]) := Ways_init _ _
  show M.bind (d_judge_way [.shr (sD ss), .no, .no]) endOf = _
  unfold d_judge_way
  rw [seq_next g1, seq_next lp]
  have e2 : ((2 : Int) == 1) = false := rfl
  simp only [hw, oEq_int, oIx_tup0, oIx_tup1, ws, e2, bind_pure, lift_some, noX_pure, runDef, sNext, sSeq, sExpr, sRet, sRetN, sIf, sAsg, sPar2, sPar3, sAug, sOwn, noObj, sAppend, sFreeze, endOf, dVar, bVar, dC, dUn, dBin, dNil, dCons, dTup, dLst, dCall, asB, tVal, tAndD, tOrD, tNotD, dOfT, dIf, dAndV, dOrV, dNotV, oAdd, oAddI, oSub, oMod, oNeg, oLt, oLe, oGt, oGe, oIsNone, oNotNone, oIsN2, oNotN2, oAll, oAny, oSum, oLen, oTuple, oList, oAbs, oInt, asBs, asIs, wipeE, itemsOf, iVal, lcLoop, lcTurn, dLc, tYesD, gSet, gAll, gTupD, zipD, Sk.iZip, List.zip_cons_cons, List.zip_nil_right, List.zip_nil_left, List.map_cons, List.map_nil, List.length_cons, List.length_nil, List.replicate_succ, List.replicate_zero, List.cons_append, List.nil_append, List.append_nil, List.getElem?_cons_zero, List.getElem?_cons_succ, List.set_cons_zero, List.set_cons_succ, Option.map_some, Option.bind_some, Nat.reduceAdd, Nat.reduceSub, Nat.reduceLeDiff, ite_true, ite_false, Bool.false_eq_true, Bool.not_true, Bool.not_false, if_true, if_false, reduceIte, reduceCtorEq, List.sum_cons, List.sum_nil, List.all_cons, List.all_nil, List.any_cons, List.any_nil, id_eq, Bool.and_true, Bool.true_and, Bool.or_false, Bool.false_or, Bool.and_self, Bool.false_and, Bool.and_false, Bool.true_or, Bool.or_true, Int.cast_ofNat_Int, beq_self_eq_true, Int.reduceBEq, Int.reduceLT, Int.reduceLE, decide_true, decide_false]
end Lw

set_option Elab.async false
set_option linter.all false
set_option maxRecDepth 100000
set_option maxHeartbeats 4000000
set_option autoImplicit false
namespace Lw
open PySem L2 Sk
theorem cross_leastW_ne {w : W6} (h : cross w.1 w.2 ≠ z3) : cross (leastW w).1 (leastW w).2 ≠ z3 := fun e => by
  have t := timesW_least w
  have t1 : times (gcd6 w) (leastW w).1 = w.1 := congrArg Prod.fst t
  have t2 : times (gcd6 w) (leastW w).2 = w.2 := congrArg Prod.snd t
  apply h
  rw [← t1, ← t2, cross_times, e, times_zero]
/-- a sighting of a way -/
def sg (w : W6) (n : Int) : S2 := (n, least (at_ w n))
def nOk (n : Int) : Prop := 0 ≤ n ∧ n ≤ 99
theorem dirOk_sg {w : W6} (hB : WB 5 w) {n : Int} (hn : nOk n) (h : at_ w n ≠ z3) : dirOk (least (at_ w n)) := ⟨least_ne h, ((B.at_ hB hn.1 hn.2).least h).mono (by omega)⟩
theorem at_z (a : T3) (n : Int) : at_ (a, z3) n = a := by
  simp [at_, times, plus]
theorem wbA {p : S2} (hn : nOk p.1) (hp : dirOk p.2) : f_ways_by [sD [p]] = M.pure (.tup [wD (least p.2, z3), wD (least p.2, least p.2)]) := by
  have bl := hp.2.least hp.1
  refine wb_same (x := sD [p]) (p := p) (q := p) rfl rfl hp hp rfl (f_is_seen_eq (k := 19) (p := p) (q := p) ⟨bl, Bi.zero, Bi.zero, Bi.zero⟩ (by omega) ⟨by have := hn.1; omega, hn.2, hp, trivial⟩ rfl rfl (by simp) (by simp) (by simp) (fun r hr => ?_) (fun r hr => ?_) (.inr ?_))
  · simp only [List.mem_singleton] at hr
    subst hr
    exact ⟨hn.1, hn.2, hp⟩
  · simp only [List.mem_singleton] at hr
    subst hr
    rw [at_z]
    exact ⟨least_ne hp.1, least_least hp.1⟩
  · rw [at_z, dot_self]
    have := sq_pos (least_ne hp.1)
    omega
theorem twoW_ne {p q : S2} {near far : Int} (h : cross p.2 q.2 ≠ z3) (hf : far ≠ 0) : twoW p q near far ≠ zW := fun e => by
  have e2 : plus (times far q.2) (times (-near) p.2) = z3 := congrArg Prod.snd e
  have e3 : cross p.2 (plus (times far q.2) (times (-near) p.2)) = times far (cross p.2 q.2) := by
    simp only [cross, plus, times, Prod.mk.injEq]
    grind
  rw [e2, cross_z] at e3
  exact h (times_eq_z hf e3.symm)
theorem wbB {p q : S2} (h1 : nOk p.1) (h2 : nOk q.1) (hp : dirOk p.2) (hq : dirOk q.2) (e : least p.2 ≠ least q.2) (c : cross p.2 q.2 ≠ z3) : ∃ u v, f_ways_by [sD [p, q]] = M.pure (.tup [wD u, wD v]) := by
  have i1 : Bi 19 1 := by unfold Bi; decide
  have i2 : Bi 19 2 := by unfold Bi; decide
  exact ⟨_, _, wb_two (k := 19) (x := sD [p, q]) (p := p) (q := q) rfl rfl rfl hp hq e c (f_way_of_two_eq hp.2 hq.2 h1.1 h1.2 h2.1 h2.2 i1 i1 (by omega) (twoW_ne c (by omega))) (f_way_of_two_eq hp.2 hq.2 h1.1 h1.2 h2.1 h2.2 i1 i2 (by omega) (twoW_ne c (by omega)))⟩
theorem far_pos {w : W6} (h : cross w.1 w.2 ≠ z3) {n0 n1 n2 : Int} (h1 : n0 < n1) (h2 : n1 < n2) : farN (least (at_ w n0)) (least (at_ w n1)) (least (at_ w n2)) n1 n2 ≠ 0 := by
  have b := btw_at h h1 h2
  unfold between at b
  simp only [Bool.and_eq_true, decide_eq_true_eq] at b
  unfold farN
  have := Int.mul_pos b.1.2 (show 0 < n2 - n1 by omega)
  omega
theorem wbC {w : W6} (hB : WB 5 w) (hc : cross w.1 w.2 ≠ z3) {n0 n1 n2 : Int} (h0 : nOk n0) (h1 : n0 < n1) (h2 : n1 < n2) (h3 : nOk n2) {ss : List S2} (i0 : oIx (sD ss) (.int 0) = M.pure (pD (sg w n0))) (i1 : oIx (sD ss) (.int 1) = M.pure (pD (sg w n1))) (il : oIx (sD ss) (.int (-1)) = M.pure (pD (sg w n2)))
    {L : Int} (hn : oLen (sD ss) = M.pure (.int L)) (hL : L ≠ 2) (hs : SOk (-1) ss) (hne : ss ≠ []) (m0 : sg w n0 ∈ ss) (m2 : sg w n2 ∈ ss) (hm : ∀ r ∈ ss, ∃ n, nOk n ∧ r = sg w n) : f_ways_by [sD ss] = M.pure (.tup [wD (leastW w)]) := by
  have hn1 : nOk n1 := ⟨by have := h0.1; omega, by have := h3.2; omega⟩
  have d0 := dirOk_sg hB h0 (at_ne hc n0)
  have d1 := dirOk_sg hB hn1 (at_ne hc n1)
  have d2 := dirOk_sg hB h3 (at_ne hc n2)
  have c02 := cross_least_ne hc (show n0 ≠ n2 by omega)
  have l02 : least (sg w n0).2 ≠ least (sg w n2).2 := by
    show least (least (at_ w n0)) ≠ least (least (at_ w n2))
    rw [least_least (at_ne hc n0), least_least (at_ne hc n2)]
    exact least_at_ne hc (by omega)
  have tw := twoW_eq hc h1 h2
  have b12 := B.dot (B.cross d1.2 d2.2) (B.cross d0.2 d2.2)
  have b01 := B.dot (B.cross d0.2 d1.2) (B.cross d0.2 d2.2)
  have t1 : Bi 7 (n1 - n0) := by
    have := h0.1
    have := hn1.2
    unfold Bi
    omega
  have t2 : Bi 7 (n2 - n1) := by
    have := hn1.1
    have := h3.2
    unfold Bi
    omega
  have bn : Bi 100 (nearN (least (at_ w n0)) (least (at_ w n1)) (least (at_ w n2)) n0 n1) := (b12.mul t1).mono (by omega)
  have bf : Bi 100 (farN (least (at_ w n0)) (least (at_ w n1)) (least (at_ w n2)) n1 n2) := (b01.mul t2).mono (by omega)
  have u := f_way_of_two_eq (k := 100) (p := sg w n0) (q := sg w n2) (d0.2.mono (by omega)) (d2.2.mono (by omega)) h0.1 h0.2 h3.1 h3.2 bn bf (by omega) (twoW_ne c02 (far_pos hc h1 h2))
  have u2 : f_way_of_two [pD (sg w n0), pD (sg w n2), .int (nearN (least (at_ w n0)) (least (at_ w n1)) (least (at_ w n2)) n0 n1), .int (farN (least (at_ w n0)) (least (at_ w n1)) (least (at_ w n2)) n1 n2)] = M.pure (wD (leastW w)) := by
    rw [← tw]
    exact u
  have wne := w_ne hc
  refine wb_more (x := sD ss) (p := sg w n0) (m := sg w n1) (q := sg w n2) i0 i1 il hn hL d0 d1 d2 l02 c02 (btw_at hc h1 h2) h0.1 h1 h2 h3.2 u2 (f_is_seen_eq (k := 5) (WB_leastW hB wne) (by omega) hs i0 il hne m0 m2 (fun r hr => ?_) (fun r hr => ?_) (.inl ?_))
  · obtain ⟨n, hn, rfl⟩ := hm r hr
    exact ⟨hn.1, hn.2, dirOk_sg hB hn (at_ne hc n)⟩
  · obtain ⟨n, hn, rfl⟩ := hm r hr
    refine ⟨at_leastW_ne wne (at_ne hc n), ?_⟩
    show least (at_ (leastW w) n) = least (least (at_ w n))
    rw [least_at_leastW wne, least_least (at_ne hc n)]
  · show cross (at_ (leastW w) n0) (at_ (leastW w) n2) ≠ z3
    rw [cross_at]
    exact fun e => cross_leastW_ne hc (times_eq_z (by omega) e)
theorem oEq_w1 (w : W6) : oEq (.tup [wD w]) (.tup []) = M.pure (.bl false) := rfl
theorem oEq_w2 (w u : W6) : oEq (.tup [wD w, wD u]) (.tup []) = M.pure (.bl false) := rfl
theorem judge1 {p : S2} (hn : nOk p.1) (hp : dirOk p.2) : f_judge_way [sD [p]] = M.pure (.obj 1 [wD (least p.2, z3), wD (least p.2, least p.2)]) := by
  have w := wbA hn hp
  refine judge_two (ss := [p]) ⟨by have := hn.1; omega, hn.2, hp, trivial⟩ (by simp) (by simp) (fun i h1 h2 => ?_) w
  have : i = 1 := by
    simp at h2
    omega
  subst this
  exact ⟨_, _, w, oEq_w2 _ _⟩
section
variable {w : W6} {n0 n1 n2 n3 : Int}
theorem sg_l (hc : cross w.1 w.2 ≠ z3) (h : n0 ≠ n1) : least (sg w n0).2 ≠ least (sg w n1).2 := by
  show least (least (at_ w n0)) ≠ least (least (at_ w n1))
  rw [least_least (at_ne hc n0), least_least (at_ne hc n1)]
  exact least_at_ne hc h
theorem judge2 (hB : WB 5 w) (hc : cross w.1 w.2 ≠ z3) (h0 : nOk n0) (h1 : n0 < n1) (h2 : nOk n1) : ∃ u v, f_judge_way [sD [sg w n0, sg w n1]] = M.pure (.obj 1 [wD u, wD v]) := by
  have d0 := dirOk_sg hB h0 (at_ne hc n0)
  have d1 := dirOk_sg hB h2 (at_ne hc n1)
  obtain ⟨u, v, e⟩ := wbB (p := sg w n0) (q := sg w n1) h0 h2 d0 d1 (sg_l hc (by omega)) (cross_least_ne hc (by omega))
  refine ⟨u, v, judge_two (ss := [sg w n0, sg w n1]) ⟨by have := h0.1; show -1 + 1 ≤ n0; omega, h0.2, d0, by show n0 + 1 ≤ n1; omega, h2.2, d1, trivial⟩ (by simp) (by simp) (fun i i1 i2 => ?_) e⟩
  have hi : i = 1 ∨ i = 2 := by
    simp at i2
    omega
  rcases hi with rfl | rfl
  · exact ⟨_, _, wbA h0 d0, oEq_w2 _ _⟩
  · exact ⟨_, _, e, oEq_w2 _ _⟩
theorem judge3 (hB : WB 5 w) (hc : cross w.1 w.2 ≠ z3) (h0 : nOk n0) (h1 : n0 < n1) (h2 : n1 < n2) (h3 : nOk n2) : f_judge_way [sD [sg w n0, sg w n1, sg w n2]] = M.pure (.obj 0 [tD (leastW w).1, tD (leastW w).2]) := by
  have k1 : nOk n1 := ⟨by have := h0.1; omega, by have := h3.2; omega⟩
  have d0 := dirOk_sg hB h0 (at_ne hc n0)
  have d1 := dirOk_sg hB k1 (at_ne hc n1)
  have d2 := dirOk_sg hB h3 (at_ne hc n2)
  obtain ⟨u, v, e⟩ := wbB (p := sg w n0) (q := sg w n1) h0 k1 d0 d1 (sg_l hc (by omega)) (cross_least_ne hc (by omega))
  have so : SOk (-1) [sg w n0, sg w n1, sg w n2] := ⟨by have := h0.1; show -1 + 1 ≤ n0; omega, h0.2, d0, by show n0 + 1 ≤ n1; omega, k1.2, d1, by show n1 + 1 ≤ n2; omega, h3.2, d2, trivial⟩
  have f := wbC hB hc h0 h1 h2 h3 (ss := [sg w n0, sg w n1, sg w n2]) rfl rfl rfl (L := 3) rfl (by omega) so (by simp) (by simp) (by simp) (fun r hr => by
    simp only [List.mem_cons, List.not_mem_nil, or_false] at hr
    rcases hr with rfl | rfl | rfl
    · exact ⟨n0, h0, rfl⟩
    · exact ⟨n1, k1, rfl⟩
    · exact ⟨n2, h3, rfl⟩)
  refine judge_one (ss := [sg w n0, sg w n1, sg w n2]) so (by simp) (by simp) (fun i i1 i2 => ?_) f
  have hi : i = 1 ∨ i = 2 ∨ i = 3 := by
    simp at i2
    omega
  rcases hi with rfl | rfl | rfl
  · exact ⟨_, _, wbA h0 d0, oEq_w2 _ _⟩
  · exact ⟨_, _, e, oEq_w2 _ _⟩
  · exact ⟨_, _, f, oEq_w1 _⟩
theorem judge4 (hB : WB 5 w) (hc : cross w.1 w.2 ≠ z3) (h0 : nOk n0) (h1 : n0 < n1) (h2 : n1 < n2) (h3 : n2 < n3) (h4 : nOk n3) : f_judge_way [sD [sg w n0, sg w n1, sg w n2, sg w n3]] = M.pure (.obj 0 [tD (leastW w).1, tD (leastW w).2]) := by
  have k1 : nOk n1 := ⟨by have := h0.1; omega, by have := h4.2; omega⟩
  have k2 : nOk n2 := ⟨by have := h0.1; omega, by have := h4.2; omega⟩
  have d0 := dirOk_sg hB h0 (at_ne hc n0)
  have d1 := dirOk_sg hB k1 (at_ne hc n1)
  have d2 := dirOk_sg hB k2 (at_ne hc n2)
  have d3 := dirOk_sg hB h4 (at_ne hc n3)
  obtain ⟨u, v, e⟩ := wbB (p := sg w n0) (q := sg w n1) h0 k1 d0 d1 (sg_l hc (by omega)) (cross_least_ne hc (by omega))
  have so3 : SOk (-1) [sg w n0, sg w n1, sg w n2] := ⟨by have := h0.1; show -1 + 1 ≤ n0; omega, h0.2, d0, by show n0 + 1 ≤ n1; omega, k1.2, d1, by show n1 + 1 ≤ n2; omega, k2.2, d2, trivial⟩
  have so : SOk (-1) [sg w n0, sg w n1, sg w n2, sg w n3] := ⟨by have := h0.1; show -1 + 1 ≤ n0; omega, h0.2, d0, by show n0 + 1 ≤ n1; omega, k1.2, d1, by show n1 + 1 ≤ n2; omega, k2.2, d2, by show n2 + 1 ≤ n3; omega, h4.2, d3, trivial⟩
  have f3 := wbC hB hc h0 h1 h2 k2 (ss := [sg w n0, sg w n1, sg w n2]) rfl rfl rfl (L := 3) rfl (by omega) so3 (by simp) (by simp) (by simp) (fun r hr => by
    simp only [List.mem_cons, List.not_mem_nil, or_false] at hr
    rcases hr with rfl | rfl | rfl
    · exact ⟨n0, h0, rfl⟩
    · exact ⟨n1, k1, rfl⟩
    · exact ⟨n2, k2, rfl⟩)
  have f := wbC hB hc h0 h1 (show n1 < n3 by omega) h4 (ss := [sg w n0, sg w n1, sg w n2, sg w n3]) rfl rfl rfl (L := 4) rfl (by omega) so (by simp) (by simp) (by simp) (fun r hr => by
    simp only [List.mem_cons, List.not_mem_nil, or_false] at hr
    rcases hr with rfl | rfl | rfl | rfl
    · exact ⟨n0, h0, rfl⟩
    · exact ⟨n1, k1, rfl⟩
    · exact ⟨n2, k2, rfl⟩
    · exact ⟨n3, h4, rfl⟩)
  refine judge_one (ss := [sg w n0, sg w n1, sg w n2, sg w n3]) so (by simp) (by simp) (fun i i1 i2 => ?_) f
  have hi : i = 1 ∨ i = 2 ∨ i = 3 ∨ i = 4 := by
    simp at i2
    omega
  rcases hi with rfl | rfl | rfl | rfl
  · exact ⟨_, _, wbA h0 d0, oEq_w2 _ _⟩
  · exact ⟨_, _, e, oEq_w2 _ _⟩
  · exact ⟨_, _, f3, oEq_w1 _⟩
  · exact ⟨_, _, f, oEq_w1 _⟩
end
end Lw

set_option Elab.async false
set_option linter.all false
set_option maxRecDepth 100000
set_option maxHeartbeats 4000000
set_option autoImplicit false
namespace Lw
open PySem L2 Sk
theorem lc_flat {f : D → M (List D)} (g : D → List D) : ∀ (xs : List D), (∀ x ∈ xs, f x = M.pure (g x)) → lcLoop f xs = M.pure (xs.flatMap g)
  | [], _ => rfl
  | x :: xs, h => by
    show M.bind (f x) _ = _
    rw [h x (.head _), bind_pure, lc_flat g xs fun y hy => h y (.tail _ hy), bind_pure]
    rfl
theorem dLc_det {vs : List Nat} {di : DI} {dg : DG} {dt : DB} {de : DE} {env : Sk.Env} {xs : List D} (g : D → List D) (hi : di env = M.pure xs) (hl : xs.length ≤ 50000) (h : ∀ x ∈ xs, lcTurn (wipeE env vs) dg dt de x = M.pure (g x)) : dLc vs di dg dt de env = M.pure (.lst (xs.flatMap g)) := by
  unfold Sk.dLc
  rw [hi, bind_pure, if_pos hl, lc_flat g xs fun x hx => by rw [h x hx]; rfl]
  rfl
theorem mem_range {x : D} {n : Nat} (h : x ∈ rangeD 0 (n : Int)) : ∃ k : Nat, k < n ∧ x = .int (k : Int) := by
  unfold rangeD at h
  obtain ⟨k, hk, rfl⟩ := List.mem_map.mp h
  have := List.mem_range.mp hk
  exact ⟨k, by omega, by rw [Int.zero_add]⟩
def natsD (l : List Nat) : List D := l.map fun (k : Nat) => D.int (k : Int)
theorem flat_range (n : Nat) (p : Nat → Bool) (g : D → List D) (h : ∀ k : Nat, k < n → g (.int (k : Int)) = if p k = true then [.int (k : Int)] else []) : (rangeD 0 (n : Int)).flatMap g = natsD ((List.range n).filter p) := by
  have e : rangeD 0 (n : Int) = natsD (List.range n) := by
    unfold rangeD natsD
    have : ((n : Int) - 0).toNat = n := by omega
    rw [this]
    exact List.map_congr_left fun k _ => by rw [Int.zero_add]
  rw [e]
  have key : ∀ l : List Nat, (∀ k ∈ l, k < n) → (natsD l).flatMap g = natsD (l.filter p) := by
    intro l
    induction l with
    | nil => intro _; rfl
    | cons k l ih =>
      intro hl
      have ih := ih fun j hj => hl j (.tail _ hj)
      unfold natsD at ih ⊢
      rw [List.map_cons, List.flatMap_cons, h k (hl k (.head _)), ih]
      cases q : p k with
      | true => rw [if_pos rfl, List.filter_cons_of_pos q]; rfl
      | false => rw [if_neg (by simp), List.filter_cons_of_neg (by simp [q])]; rfl
  exact key _ fun k hk => List.mem_range.mp hk
theorem any_ff {g : D → List D} : ∀ (xs : List D), (∀ x ∈ xs, g x = [] ∨ g x = [.bl false]) → oAny (.lst (xs.flatMap g)) = M.pure (.bl false) := by
  intro xs h
  have key : ∀ xs : List D, (∀ x ∈ xs, g x = [] ∨ g x = [.bl false]) → ∃ bs : List Bool, asBs (xs.flatMap g) = some bs ∧ bs.any id = false := by
    intro xs
    induction xs with
    | nil => intro _; exact ⟨[], rfl, rfl⟩
    | cons x xs ih =>
      intro h
      obtain ⟨bs, e1, e2⟩ := ih fun y hy => h y (.tail _ hy)
      rw [List.flatMap_cons]
      rcases h x (.head _) with q | q
      · rw [q]
        exact ⟨bs, e1, e2⟩
      · rw [q]
        refine ⟨false :: bs, ?_, ?_⟩
        · show (asBs (xs.flatMap g)).map (false :: ·) = _
          rw [e1]
          rfl
        · simpa using e2
  obtain ⟨bs, e1, e2⟩ := key xs h
  simp only [oAny, e1, e2, bind_pure, lift_some, noX_pure, runDef, sNext, sSeq, sExpr, sRet, sRetN, sIf, sAsg, sPar2, sPar3, sAug, sOwn, noObj, sAppend, sFreeze, endOf, dVar, bVar, dC, dUn, dBin, dNil, dCons, dTup, dLst, dCall, asB, tVal, tAndD, tOrD, tNotD, dOfT, dIf, dAndV, dOrV, dNotV, oAdd, oAddI, oSub, oMod, oNeg, oLt, oLe, oGt, oGe, oIsNone, oNotNone, oIsN2, oNotN2, oAll, oAny, oSum, oLen, oTuple, oList, oAbs, oInt, oIx, asBs, asIs, wipeE, itemsOf, iVal, lcLoop, lcTurn, dLc, tYesD, gSet, gAll, gTupD, zipD, Sk.iZip, List.zip_cons_cons, List.zip_nil_right, List.zip_nil_left, List.map_cons, List.map_nil, List.length_cons, List.length_nil, List.replicate_succ, List.replicate_zero, List.cons_append, List.nil_append, List.append_nil, List.getElem?_cons_zero, List.getElem?_cons_succ, List.set_cons_zero, List.set_cons_succ, Option.map_some, Option.bind_some, Nat.reduceAdd, Nat.reduceSub, Nat.reduceLeDiff, ite_true, ite_false, Bool.false_eq_true, Bool.not_true, Bool.not_false, if_true, if_false, reduceIte, reduceCtorEq, List.sum_cons, List.sum_nil, List.all_cons, List.all_nil, List.any_cons, List.any_nil, id_eq, Bool.and_true, Bool.true_and, Bool.or_false, Bool.false_or, Bool.and_self, Bool.false_and, Bool.and_false, Bool.true_or, Bool.or_true, Int.cast_ofNat_Int, beq_self_eq_true, Int.reduceBEq, Int.reduceLT, Int.reduceLE, decide_true, decide_false]
/-! ### the law's words -/
theorem tD_ix1 (a : T3) : oIx (tD a) (.int 1) = M.pure (.int a.2.1) := rfl
theorem tD_ix2 (a : T3) : oIx (tD a) (.int 2) = M.pure (.int a.2.2) := rfl
theorem f__law_cross_eq {k m : Nat} {a b : T3} (h : B k a) (g : B m b) (hk : k ≤ 8000) (hm : m ≤ 8000) : f__law_cross [tD a, tD b] = M.pure (tD (cross a b)) := by
  have e1 := oMul_b h.2.1 g.2.2 hk hm
  have e2 := oMul_b h.2.2 g.2.1 hk hm
  have e3 := oMul_b h.2.2 g.1 hk hm
  have e4 := oMul_b h.1 g.2.2 hk hm
  have e5 := oMul_b h.1 g.2.1 hk hm
  have e6 := oMul_b h.2.1 g.1 hk hm
  have r : iRange1 (dC (.int 3)) [.shr (tD a), .shr (tD b), .no] = M.pure [.int 0, .int 1, .int 2] := rfl
  have m3 : decide ((0 : Int) < 3) = true := rfl
  have i1 : ((0 : Int) + 1) % 3 = 1 := rfl
  have i2 : ((0 : Int) + 2) % 3 = 2 := rfl
  have i3 : ((1 : Int) + 1) % 3 = 2 := rfl
  have i4 : ((1 : Int) + 2) % 3 = 0 := rfl
  have i5 : ((2 : Int) + 1) % 3 = 0 := rfl
  have i6 : ((2 : Int) + 2) % 3 = 1 := rfl
  simp only [f__law_cross, d__law_cross, r, m3, i1, i2, i3, i4, i5, i6, tD_ix0, tD_ix1, tD_ix2, e1, e2, e3, e4, e5, e6, bind_pure, lift_some, noX_pure, runDef, sNext, sSeq, sExpr, sRet, sRetN, sIf, sAsg, sPar2, sPar3, sAug, sOwn, noObj, sAppend, sFreeze, endOf, dVar, bVar, dC, dUn, dBin, dNil, dCons, dTup, dLst, dCall, asB, tVal, tAndD, tOrD, tNotD, dOfT, dIf, dAndV, dOrV, dNotV, oAdd, oAddI, oSub, oMod, oNeg, oLt, oLe, oGt, oGe, oIsNone, oNotNone, oIsN2, oNotN2, oAll, oAny, oSum, oLen, oTuple, oList, oAbs, oInt, asBs, asIs, wipeE, itemsOf, iVal, lcLoop, lcTurn, dLc, tYesD, gSet, gAll, gTupD, zipD, Sk.iZip, List.zip_cons_cons, List.zip_nil_right, List.zip_nil_left, List.map_cons, List.map_nil, List.length_cons, List.length_nil, List.replicate_succ, List.replicate_zero, List.cons_append, List.nil_append, List.append_nil, List.getElem?_cons_zero, List.getElem?_cons_succ, List.set_cons_zero, List.set_cons_succ, Option.map_some, Option.bind_some, Nat.reduceAdd, Nat.reduceSub, Nat.reduceLeDiff, ite_true, ite_false, Bool.false_eq_true, Bool.not_true, Bool.not_false, if_true, if_false, reduceIte, reduceCtorEq, List.sum_cons, List.sum_nil, List.all_cons, List.all_nil, List.any_cons, List.any_nil, id_eq, Bool.and_true, Bool.true_and, Bool.or_false, Bool.false_or, Bool.and_self, Bool.false_and, Bool.and_false, Bool.true_or, Bool.or_true, Int.cast_ofNat_Int, beq_self_eq_true, Int.reduceBEq, Int.reduceLT, Int.reduceLE, decide_true, decide_false]
  rfl
theorem f__law_dot_eq {k m : Nat} {a b : T3} (h : B k a) (g : B m b) (hk : k ≤ 8000) (hm : m ≤ 8000) : f__law_dot [tD a, tD b] = M.pure (.int (dot a b)) := by
  have e1 := oMul_b h.1 g.1 hk hm
  have e2 := oMul_b h.2.1 g.2.1 hk hm
  have e3 := oMul_b h.2.2 g.2.2 hk hm
  have e : a.1 * b.1 + a.2.1 * b.2.1 + a.2.2 * b.2.2 = dot a b := by
    unfold dot
    omega
  simp only [f__law_dot, d__law_dot, tD_ix0, tD_ix1, tD_ix2, e1, e2, e3, e, bind_pure, lift_some, noX_pure, runDef, sNext, sSeq, sExpr, sRet, sRetN, sIf, sAsg, sPar2, sPar3, sAug, sOwn, noObj, sAppend, sFreeze, endOf, dVar, bVar, dC, dUn, dBin, dNil, dCons, dTup, dLst, dCall, asB, tVal, tAndD, tOrD, tNotD, dOfT, dIf, dAndV, dOrV, dNotV, oAdd, oAddI, oSub, oMod, oNeg, oLt, oLe, oGt, oGe, oIsNone, oNotNone, oIsN2, oNotN2, oAll, oAny, oSum, oLen, oTuple, oList, oAbs, oInt, asBs, asIs, wipeE, itemsOf, iVal, lcLoop, lcTurn, dLc, tYesD, gSet, gAll, gTupD, zipD, Sk.iZip, List.zip_cons_cons, List.zip_nil_right, List.zip_nil_left, List.map_cons, List.map_nil, List.length_cons, List.length_nil, List.replicate_succ, List.replicate_zero, List.cons_append, List.nil_append, List.append_nil, List.getElem?_cons_zero, List.getElem?_cons_succ, List.set_cons_zero, List.set_cons_succ, Option.map_some, Option.bind_some, Nat.reduceAdd, Nat.reduceSub, Nat.reduceLeDiff, ite_true, ite_false, Bool.false_eq_true, Bool.not_true, Bool.not_false, if_true, if_false, reduceIte, reduceCtorEq, List.sum_cons, List.sum_nil, List.all_cons, List.all_nil, List.any_cons, List.any_nil, id_eq, Bool.and_true, Bool.true_and, Bool.or_false, Bool.false_or, Bool.and_self, Bool.false_and, Bool.and_false, Bool.true_or, Bool.or_true, Int.cast_ofNat_Int, beq_self_eq_true, Int.reduceBEq, Int.reduceLT, Int.reduceLE, decide_true, decide_false]
theorem f__law_at_eq {k : Nat} {w : W6} {n : Int} (h : WB k w) (hk : k ≤ 2000) (hn : nOk n) : f__law_at [wD w, .int n] = M.pure (tD (at_ w n)) := by
  have b : Bi 7 n := by
    have := hn.1
    have := hn.2
    unfold Bi
    omega
  have e1 := oMul_b b h.2.1 (by omega) (by omega)
  have e2 := oMul_b b h.2.2.1 (by omega) (by omega)
  have e3 := oMul_b b h.2.2.2 (by omega) (by omega)
  simp only [f__law_at, d__law_at, wD_ix0, wD_ix1, tD, e1, e2, e3, bind_pure, lift_some, noX_pure, runDef, sNext, sSeq, sExpr, sRet, sRetN, sIf, sAsg, sPar2, sPar3, sAug, sOwn, noObj, sAppend, sFreeze, endOf, dVar, bVar, dC, dUn, dBin, dNil, dCons, dTup, dLst, dCall, asB, tVal, tAndD, tOrD, tNotD, dOfT, dIf, dAndV, dOrV, dNotV, oAdd, oAddI, oSub, oMod, oNeg, oLt, oLe, oGt, oGe, oIsNone, oNotNone, oIsN2, oNotN2, oAll, oAny, oSum, oLen, oTuple, oList, oAbs, oInt, asBs, asIs, wipeE, itemsOf, iVal, lcLoop, lcTurn, dLc, tYesD, gSet, gAll, gTupD, zipD, Sk.iZip, List.zip_cons_cons, List.zip_nil_right, List.zip_nil_left, List.map_cons, List.map_nil, List.length_cons, List.length_nil, List.replicate_succ, List.replicate_zero, List.cons_append, List.nil_append, List.append_nil, List.getElem?_cons_zero, List.getElem?_cons_succ, List.set_cons_zero, List.set_cons_succ, Option.map_some, Option.bind_some, Nat.reduceAdd, Nat.reduceSub, Nat.reduceLeDiff, ite_true, ite_false, Bool.false_eq_true, Bool.not_true, Bool.not_false, if_true, if_false, reduceIte, reduceCtorEq, List.sum_cons, List.sum_nil, List.all_cons, List.all_nil, List.any_cons, List.any_nil, id_eq, Bool.and_true, Bool.true_and, Bool.or_false, Bool.false_or, Bool.and_self, Bool.false_and, Bool.and_false, Bool.true_or, Bool.or_true, Int.cast_ofNat_Int, beq_self_eq_true, Int.reduceBEq, Int.reduceLT, Int.reduceLE, decide_true, decide_false]
  rfl
theorem law_way {ns : List Int} (hns : ns.length ≤ 63) : Ev ns (f__law_way [.cel 0]) fun d => ∃ w : W6, WB 3 w ∧ d = wD w := by
  have one : ∀ (m j : Int) (hm : 0 < m) (hj : 0 ≤ j) (hb : m ≤ 9 ∧ j ≤ 4) (s1 s2 : Slot), m ≤ 2 * j + 1 → Ev ns (dLc [3] (iRange1 (dC (.int 3))) (gSet 3) tYesD (dBin oSub (dCall f__law_take (dCons (dVar 0) (dCons (dC (.int m)) dNil))) (dC (.int j))) [.shr (.cel 0), s1, s2, .no]) fun d => ∃ a : T3, B 3 a ∧ d = .lst [.int a.1, .int a.2.1, .int a.2.2] := by
    intro m j hm hj hb s1 s2 hmj
    refine Ev.mono (Ev.dLc (R := fun _ y => ∃ i, y = .int i ∧ Bi 3 i) (xs := rangeD 0 3) rfl (by decide) fun x hx => ⟨_, rfl, ?_⟩) fun d p => ?_
    · simp only [bind_pure, lift_some, noX_pure, runDef, sNext, sSeq, sExpr, sRet, sRetN, sIf, sAsg, sPar2, sPar3, sAug, sOwn, noObj, sAppend, sFreeze, endOf, dVar, bVar, dC, dUn, dBin, dNil, dCons, dTup, dLst, dCall, asB, tVal, tAndD, tOrD, tNotD, dOfT, dIf, dAndV, dOrV, dNotV, oAdd, oAddI, oSub, oMod, oNeg, oLt, oLe, oGt, oGe, oIsNone, oNotNone, oIsN2, oNotN2, oAll, oAny, oSum, oLen, oTuple, oList, oAbs, oInt, oIx, asBs, asIs, wipeE, itemsOf, iVal, lcLoop, lcTurn, dLc, tYesD, gSet, gAll, gTupD, zipD, Sk.iZip, List.zip_cons_cons, List.zip_nil_right, List.zip_nil_left, List.map_cons, List.map_nil, List.length_cons, List.length_nil, List.replicate_succ, List.replicate_zero, List.cons_append, List.nil_append, List.append_nil, List.getElem?_cons_zero, List.getElem?_cons_succ, List.set_cons_zero, List.set_cons_succ, Option.map_some, Option.bind_some, Nat.reduceAdd, Nat.reduceSub, Nat.reduceLeDiff, ite_true, ite_false, Bool.false_eq_true, Bool.not_true, Bool.not_false, if_true, if_false, reduceIte, reduceCtorEq, List.sum_cons, List.sum_nil, List.all_cons, List.all_nil, List.any_cons, List.any_nil, id_eq, Bool.and_true, Bool.true_and, Bool.or_false, Bool.false_or, Bool.and_self, Bool.false_and, Bool.and_false, Bool.true_or, Bool.or_true, Int.cast_ofNat_Int, beq_self_eq_true, Int.reduceBEq, Int.reduceLT, Int.reduceLE, decide_true, decide_false, bind_assoc]
      refine Ev.bind (f_take hns hm) fun d p => ?_
      obtain ⟨r, rfl, h0, h1⟩ := p
      refine Ev.pure ⟨r - j, rfl, ?_⟩
      unfold Bi
      omega
    · obtain ⟨ys, rfl, al⟩ := p
      rw [show rangeD 0 3 = [.int 0, .int 1, .int 2] from rfl] at al
      cases al with
      | cons h1 al =>
      cases al with
      | cons h2 al =>
      cases al with
      | cons h3 al =>
      cases al
      obtain ⟨a, rfl, b1⟩ := h1
      obtain ⟨b, rfl, b2⟩ := h2
      obtain ⟨c, rfl, b3⟩ := h3
      exact ⟨(a, b, c), ⟨b1, b2, b3⟩, rfl⟩
  show Ev ns (M.bind (d__law_way [.shr (.cel 0), .no, .no, .no]) endOf) _
  unfold d__law_way
  refine Ev.bind (Q := fun fl => ∃ w : W6, WB 3 w ∧ fl = .ret (wD w)) (Ev.seq (Q := fun e => ∃ a, B 3 a ∧ e = [.shr (.cel 0), .shr (tD a), .no, .no]) (Ev.asgB (Q := fun d => ∃ a, B 3 a ∧ d = tD a) ?_ fun d p => ?_) fun e p => ?_) fun fl p => ?_
  · unfold dUn
    refine Ev.bind (one 9 4 (by omega) (by omega) (by omega) _ _ (by omega)) fun d p => ?_
    obtain ⟨a, ha, rfl⟩ := p
    exact Ev.pure ⟨a, ha, rfl⟩
  · obtain ⟨a, ha, rfl⟩ := p
    exact ⟨_, rfl, a, ha, rfl⟩
  · obtain ⟨a, ha, rfl⟩ := p
    refine Ev.seq (Q := fun e => ∃ b, B 3 b ∧ e = [.shr (.cel 0), .shr (tD a), .shr (tD b), .no]) (Ev.asgB (Q := fun d => ∃ a, B 3 a ∧ d = tD a) ?_ fun d p => ?_) fun e p => ?_
    · unfold dUn
      refine Ev.bind (one 5 2 (by omega) (by omega) (by omega) _ _ (by omega)) fun d p => ?_
      obtain ⟨a, ha, rfl⟩ := p
      exact Ev.pure ⟨a, ha, rfl⟩
    · obtain ⟨b, hb, rfl⟩ := p
      exact ⟨_, rfl, b, hb, rfl⟩
    · obtain ⟨b, hb, rfl⟩ := p
      exact Ev.pure ⟨(a, b), ⟨ha, hb⟩, rfl⟩
  · obtain ⟨w, hw, rfl⟩ := p
    exact Ev.pure ⟨w, hw, rfl⟩
/-! ### nights alike -/
def sameB (w o : W6) (n : Int) : Bool := (seenO w n).isSome && decide (seenO w n = seenO o n)
theorem oEq_opt (a : T3) (b : Option T3) : oEq (tD a) (optT b) = M.pure (.bl (decide (some a = b))) := by
  cases b with
  | none => rfl
  | some c =>
    have e : decide (some a = some c) = decide (a = c) := by simp
    rw [e]
    exact oEq_t3 a c
theorem f_nights_alike_eq {k : Nat} {w o : W6} (hw : WB k w) (ho : WB k o) (hk : k ≤ 2000) {m : Nat} (hm : m ≤ 99) : f_nights_alike [wD w, wD o, .int (m : Int)] = M.pure (.tup (natsD ((List.range (m + 1)).filter fun n => sameB w o (n : Int)))) := by
  have ck := f_check_number_eq (i := (m : Int)) (lo := 0) (hi := 99) "most" (by omega) (by omega)
  have rg : ∀ s3 : Slot, iRange1 (dBin oAdd (dVar 2) (dC (.int 1))) [.shr (wD w), .shr (wD o), .shr (.int (m : Int)), s3, .no, .no, .no] = M.pure (rangeD 0 ((m + 1 : Nat) : Int)) := by
    intro s3
    have e : ((m : Int) + 1) = ((m + 1 : Nat) : Int) := by omega
    simp only [iRange1, e, bind_pure, lift_some, noX_pure, runDef, sNext, sSeq, sExpr, sRet, sRetN, sIf, sAsg, sPar2, sPar3, sAug, sOwn, noObj, sAppend, sFreeze, endOf, dVar, bVar, dC, dUn, dBin, dNil, dCons, dTup, dLst, dCall, asB, tVal, tAndD, tOrD, tNotD, dOfT, dIf, dAndV, dOrV, dNotV, oAdd, oAddI, oSub, oMod, oNeg, oLt, oLe, oGt, oGe, oIsNone, oNotNone, oIsN2, oNotN2, oAll, oAny, oSum, oLen, oTuple, oList, oAbs, oInt, oIx, asBs, asIs, wipeE, itemsOf, iVal, lcLoop, lcTurn, dLc, tYesD, gSet, gAll, gTupD, zipD, Sk.iZip, List.zip_cons_cons, List.zip_nil_right, List.zip_nil_left, List.map_cons, List.map_nil, List.length_cons, List.length_nil, List.replicate_succ, List.replicate_zero, List.cons_append, List.nil_append, List.append_nil, List.getElem?_cons_zero, List.getElem?_cons_succ, List.set_cons_zero, List.set_cons_succ, Option.map_some, Option.bind_some, Nat.reduceAdd, Nat.reduceSub, Nat.reduceLeDiff, ite_true, ite_false, Bool.false_eq_true, Bool.not_true, Bool.not_false, if_true, if_false, reduceIte, reduceCtorEq, List.sum_cons, List.sum_nil, List.all_cons, List.all_nil, List.any_cons, List.any_nil, id_eq, Bool.and_true, Bool.true_and, Bool.or_false, Bool.false_or, Bool.and_self, Bool.false_and, Bool.and_false, Bool.true_or, Bool.or_true, Int.cast_ofNat_Int, beq_self_eq_true, Int.reduceBEq, Int.reduceLT, Int.reduceLE, decide_true, decide_false]
    exact if_pos (decide_eq_true (by omega))
  have l1 : dLc [4] (iRange1 (dBin oAdd (dVar 2) (dC (.int 1)))) (gSet 4) tYesD (dTup (dCons (dVar 4) (dCons (dCall f_seen (dCons (dVar 0) (dCons (dVar 4) dNil))) (dCons (dCall f_seen (dCons (dVar 1) (dCons (dVar 4) dNil))) dNil)))) [.shr (wD w), .shr (wD o), .shr (.int (m : Int)), .no, .no, .no, .no] =
      M.pure (.lst ((rangeD 0 ((m + 1 : Nat) : Int)).flatMap fun x => match x with | .int n => [.tup [.int n, optT (seenO w n), optT (seenO o n)]] | _ => [])) := by
    refine dLc_det _ (rg _) (by
      unfold rangeD
      rw [List.length_map, List.length_range]
      omega) fun x hx => ?_
    obtain ⟨n, hn, rfl⟩ := mem_range hx
    have s1 := f_seen_eq (n := (n : Int)) hw hk (by omega) (by omega)
    have s2 := f_seen_eq (n := (n : Int)) ho hk (by omega) (by omega)
    simp only [s1, s2, bind_pure, lift_some, noX_pure, runDef, sNext, sSeq, sExpr, sRet, sRetN, sIf, sAsg, sPar2, sPar3, sAug, sOwn, noObj, sAppend, sFreeze, endOf, dVar, bVar, dC, dUn, dBin, dNil, dCons, dTup, dLst, dCall, asB, tVal, tAndD, tOrD, tNotD, dOfT, dIf, dAndV, dOrV, dNotV, oAdd, oAddI, oSub, oMod, oNeg, oLt, oLe, oGt, oGe, oIsNone, oNotNone, oIsN2, oNotN2, oAll, oAny, oSum, oLen, oTuple, oList, oAbs, oInt, oIx, asBs, asIs, wipeE, itemsOf, iVal, lcLoop, lcTurn, dLc, tYesD, gSet, gAll, gTupD, zipD, Sk.iZip, List.zip_cons_cons, List.zip_nil_right, List.zip_nil_left, List.map_cons, List.map_nil, List.length_cons, List.length_nil, List.replicate_succ, List.replicate_zero, List.cons_append, List.nil_append, List.append_nil, List.getElem?_cons_zero, List.getElem?_cons_succ, List.set_cons_zero, List.set_cons_succ, Option.map_some, Option.bind_some, Nat.reduceAdd, Nat.reduceSub, Nat.reduceLeDiff, ite_true, ite_false, Bool.false_eq_true, Bool.not_true, Bool.not_false, if_true, if_false, reduceIte, reduceCtorEq, List.sum_cons, List.sum_nil, List.all_cons, List.all_nil, List.any_cons, List.any_nil, id_eq, Bool.and_true, Bool.true_and, Bool.or_false, Bool.false_or, Bool.and_self, Bool.false_and, Bool.and_false, Bool.true_or, Bool.or_true, Int.cast_ofNat_Int, beq_self_eq_true, Int.reduceBEq, Int.reduceLT, Int.reduceLE, decide_true, decide_false]
  have l2 : ∀ (xs : List Nat), (∀ n ∈ xs, n ≤ m) → xs.length ≤ 50000 → dLc [4, 5, 6] (iVal (dVar 3)) (gTupD [(gSet 4), (gSet 5), (gSet 6)]) (tAndD (tVal (dBin oNotN2 (dVar 5) (dC .non))) (tVal (dBin oEq (dVar 5) (dVar 6)))) (dVar 4) [.shr (wD w), .shr (wD o), .shr (.int (m : Int)), .shr (.lst (xs.map fun (n : Nat) => .tup [.int (n : Int), optT (seenO w n), optT (seenO o n)])), .no, .no, .no] = M.pure (.lst (natsD (xs.filter fun n => sameB w o (n : Int)))) := by
    intro xs hx hl
    have := dLc_det (vs := [4, 5, 6]) (di := iVal (dVar 3)) (dg := gTupD [(gSet 4), (gSet 5), (gSet 6)]) (dt := tAndD (tVal (dBin oNotN2 (dVar 5) (dC .non))) (tVal (dBin oEq (dVar 5) (dVar 6)))) (de := dVar 4) (env := [.shr (wD w), .shr (wD o), .shr (.int (m : Int)), .shr (.lst (xs.map fun (n : Nat) => .tup [.int (n : Int), optT (seenO w n), optT (seenO o n)])), .no, .no, .no])
      (xs := xs.map fun (n : Nat) => .tup [.int (n : Int), optT (seenO w n), optT (seenO o n)])
      (fun x => match x with | .tup [.int n, _, _] => if sameB w o n = true then [.int n] else [] | _ => []) rfl (by rw [List.length_map]; exact hl) (fun x hx => by
        obtain ⟨n, hn, rfl⟩ := List.mem_map.mp hx
        unfold sameB
        cases q : seenO w (n : Int) with
        | none => simp only [q, optT, Option.isSome_none, bind_pure, lift_some, noX_pure, runDef, sNext, sSeq, sExpr, sRet, sRetN, sIf, sAsg, sPar2, sPar3, sAug, sOwn, noObj, sAppend, sFreeze, endOf, dVar, bVar, dC, dUn, dBin, dNil, dCons, dTup, dLst, dCall, asB, tVal, tAndD, tOrD, tNotD, dOfT, dIf, dAndV, dOrV, dNotV, oAdd, oAddI, oSub, oMod, oNeg, oLt, oLe, oGt, oGe, oIsNone, oNotNone, oIsN2, oNotN2, oAll, oAny, oSum, oLen, oTuple, oList, oAbs, oInt, oIx, asBs, asIs, wipeE, itemsOf, iVal, lcLoop, lcTurn, dLc, tYesD, gSet, gAll, gTupD, zipD, Sk.iZip, List.zip_cons_cons, List.zip_nil_right, List.zip_nil_left, List.map_cons, List.map_nil, List.length_cons, List.length_nil, List.replicate_succ, List.replicate_zero, List.cons_append, List.nil_append, List.append_nil, List.getElem?_cons_zero, List.getElem?_cons_succ, List.set_cons_zero, List.set_cons_succ, Option.map_some, Option.bind_some, Nat.reduceAdd, Nat.reduceSub, Nat.reduceLeDiff, ite_true, ite_false, Bool.false_eq_true, Bool.not_true, Bool.not_false, if_true, if_false, reduceIte, reduceCtorEq, List.sum_cons, List.sum_nil, List.all_cons, List.all_nil, List.any_cons, List.any_nil, id_eq, Bool.and_true, Bool.true_and, Bool.or_false, Bool.false_or, Bool.and_self, Bool.false_and, Bool.and_false, Bool.true_or, Bool.or_true, Int.cast_ofNat_Int, beq_self_eq_true, Int.reduceBEq, Int.reduceLT, Int.reduceLE, decide_true, decide_false]
        | some a =>
          have e := oEq_opt a (seenO o (n : Int))
          cases d : decide (some a = seenO o (n : Int)) with
          | true =>
            rw [d] at e
            simp only [optT, tD, bind_pure, lift_some, noX_pure, runDef, sNext, sSeq, sExpr, sRet, sRetN, sIf, sAsg, sPar2, sPar3, sAug, sOwn, noObj, sAppend, sFreeze, endOf, dVar, bVar, dC, dUn, dBin, dNil, dCons, dTup, dLst, dCall, asB, tVal, tAndD, tOrD, tNotD, dOfT, dIf, dAndV, dOrV, dNotV, oAdd, oAddI, oSub, oMod, oNeg, oLt, oLe, oGt, oGe, oIsNone, oNotNone, oIsN2, oNotN2, oAll, oAny, oSum, oLen, oTuple, oList, oAbs, oInt, oIx, asBs, asIs, wipeE, itemsOf, iVal, lcLoop, lcTurn, dLc, tYesD, gSet, gAll, gTupD, zipD, Sk.iZip, List.zip_cons_cons, List.zip_nil_right, List.zip_nil_left, List.map_cons, List.map_nil, List.length_cons, List.length_nil, List.replicate_succ, List.replicate_zero, List.cons_append, List.nil_append, List.append_nil, List.getElem?_cons_zero, List.getElem?_cons_succ, List.set_cons_zero, List.set_cons_succ, Option.map_some, Option.bind_some, Nat.reduceAdd, Nat.reduceSub, Nat.reduceLeDiff, ite_true, ite_false, Bool.false_eq_true, Bool.not_true, Bool.not_false, if_true, if_false, reduceIte, reduceCtorEq, List.sum_cons, List.sum_nil, List.all_cons, List.all_nil, List.any_cons, List.any_nil, id_eq, Bool.and_true, Bool.true_and, Bool.or_false, Bool.false_or, Bool.and_self, Bool.false_and, Bool.and_false, Bool.true_or, Bool.or_true, Int.cast_ofNat_Int, beq_self_eq_true, Int.reduceBEq, Int.reduceLT, Int.reduceLE, decide_true, decide_false] at e
            simp only [q, d, optT, tD, e, Option.isSome_some, bind_pure, lift_some, noX_pure, runDef, sNext, sSeq, sExpr, sRet, sRetN, sIf, sAsg, sPar2, sPar3, sAug, sOwn, noObj, sAppend, sFreeze, endOf, dVar, bVar, dC, dUn, dBin, dNil, dCons, dTup, dLst, dCall, asB, tVal, tAndD, tOrD, tNotD, dOfT, dIf, dAndV, dOrV, dNotV, oAdd, oAddI, oSub, oMod, oNeg, oLt, oLe, oGt, oGe, oIsNone, oNotNone, oIsN2, oNotN2, oAll, oAny, oSum, oLen, oTuple, oList, oAbs, oInt, oIx, asBs, asIs, wipeE, itemsOf, iVal, lcLoop, lcTurn, dLc, tYesD, gSet, gAll, gTupD, zipD, Sk.iZip, List.zip_cons_cons, List.zip_nil_right, List.zip_nil_left, List.map_cons, List.map_nil, List.length_cons, List.length_nil, List.replicate_succ, List.replicate_zero, List.cons_append, List.nil_append, List.append_nil, List.getElem?_cons_zero, List.getElem?_cons_succ, List.set_cons_zero, List.set_cons_succ, Option.map_some, Option.bind_some, Nat.reduceAdd, Nat.reduceSub, Nat.reduceLeDiff, ite_true, ite_false, Bool.false_eq_true, Bool.not_true, Bool.not_false, if_true, if_false, reduceIte, reduceCtorEq, List.sum_cons, List.sum_nil, List.all_cons, List.all_nil, List.any_cons, List.any_nil, id_eq, Bool.and_true, Bool.true_and, Bool.or_false, Bool.false_or, Bool.and_self, Bool.false_and, Bool.and_false, Bool.true_or, Bool.or_true, Int.cast_ofNat_Int, beq_self_eq_true, Int.reduceBEq, Int.reduceLT, Int.reduceLE, decide_true, decide_false]
          | false =>
            rw [d] at e
            simp only [optT, tD, bind_pure, lift_some, noX_pure, runDef, sNext, sSeq, sExpr, sRet, sRetN, sIf, sAsg, sPar2, sPar3, sAug, sOwn, noObj, sAppend, sFreeze, endOf, dVar, bVar, dC, dUn, dBin, dNil, dCons, dTup, dLst, dCall, asB, tVal, tAndD, tOrD, tNotD, dOfT, dIf, dAndV, dOrV, dNotV, oAdd, oAddI, oSub, oMod, oNeg, oLt, oLe, oGt, oGe, oIsNone, oNotNone, oIsN2, oNotN2, oAll, oAny, oSum, oLen, oTuple, oList, oAbs, oInt, oIx, asBs, asIs, wipeE, itemsOf, iVal, lcLoop, lcTurn, dLc, tYesD, gSet, gAll, gTupD, zipD, Sk.iZip, List.zip_cons_cons, List.zip_nil_right, List.zip_nil_left, List.map_cons, List.map_nil, List.length_cons, List.length_nil, List.replicate_succ, List.replicate_zero, List.cons_append, List.nil_append, List.append_nil, List.getElem?_cons_zero, List.getElem?_cons_succ, List.set_cons_zero, List.set_cons_succ, Option.map_some, Option.bind_some, Nat.reduceAdd, Nat.reduceSub, Nat.reduceLeDiff, ite_true, ite_false, Bool.false_eq_true, Bool.not_true, Bool.not_false, if_true, if_false, reduceIte, reduceCtorEq, List.sum_cons, List.sum_nil, List.all_cons, List.all_nil, List.any_cons, List.any_nil, id_eq, Bool.and_true, Bool.true_and, Bool.or_false, Bool.false_or, Bool.and_self, Bool.false_and, Bool.and_false, Bool.true_or, Bool.or_true, Int.cast_ofNat_Int, beq_self_eq_true, Int.reduceBEq, Int.reduceLT, Int.reduceLE, decide_true, decide_false] at e
            simp only [q, d, optT, tD, e, Option.isSome_some, bind_pure, lift_some, noX_pure, runDef, sNext, sSeq, sExpr, sRet, sRetN, sIf, sAsg, sPar2, sPar3, sAug, sOwn, noObj, sAppend, sFreeze, endOf, dVar, bVar, dC, dUn, dBin, dNil, dCons, dTup, dLst, dCall, asB, tVal, tAndD, tOrD, tNotD, dOfT, dIf, dAndV, dOrV, dNotV, oAdd, oAddI, oSub, oMod, oNeg, oLt, oLe, oGt, oGe, oIsNone, oNotNone, oIsN2, oNotN2, oAll, oAny, oSum, oLen, oTuple, oList, oAbs, oInt, oIx, asBs, asIs, wipeE, itemsOf, iVal, lcLoop, lcTurn, dLc, tYesD, gSet, gAll, gTupD, zipD, Sk.iZip, List.zip_cons_cons, List.zip_nil_right, List.zip_nil_left, List.map_cons, List.map_nil, List.length_cons, List.length_nil, List.replicate_succ, List.replicate_zero, List.cons_append, List.nil_append, List.append_nil, List.getElem?_cons_zero, List.getElem?_cons_succ, List.set_cons_zero, List.set_cons_succ, Option.map_some, Option.bind_some, Nat.reduceAdd, Nat.reduceSub, Nat.reduceLeDiff, ite_true, ite_false, Bool.false_eq_true, Bool.not_true, Bool.not_false, if_true, if_false, reduceIte, reduceCtorEq, List.sum_cons, List.sum_nil, List.all_cons, List.all_nil, List.any_cons, List.any_nil, id_eq, Bool.and_true, Bool.true_and, Bool.or_false, Bool.false_or, Bool.and_self, Bool.false_and, Bool.and_false, Bool.true_or, Bool.or_true, Int.cast_ofNat_Int, beq_self_eq_true, Int.reduceBEq, Int.reduceLT, Int.reduceLE, decide_true, decide_false])
    rw [this]
    congr 2
    clear this hl hx
    induction xs with
    | nil => rfl
    | cons n xs ih =>
      rw [List.map_cons, List.flatMap_cons, ih]
      cases q : sameB w o (n : Int) with
      | true => rw [List.filter_cons_of_pos (by simpa using q)]; simp only [q, natsD, List.map_cons, if_true]; rfl
      | false => rw [List.filter_cons_of_neg (by simp [q])]; simp only [q]; rfl
  have l3 : ((rangeD 0 ((m + 1 : Nat) : Int)).flatMap fun x => match x with | .int n => [D.tup [.int n, optT (seenO w n), optT (seenO o n)]] | _ => []) = (List.range (m + 1)).map fun (n : Nat) => D.tup [.int (n : Int), optT (seenO w n), optT (seenO o n)] := by
    unfold rangeD
    have : (((m + 1 : Nat) : Int) - 0).toNat = m + 1 := by omega
    rw [this]
    generalize List.range (m + 1) = l
    induction l with
    | nil => rfl
    | cons n l ih =>
      rw [List.map_cons, List.flatMap_cons, ih, Int.zero_add]
      rfl
  rw [l3] at l1
  have l4 := l2 (List.range (m + 1)) (fun n hn => by have := List.mem_range.mp hn; omega) (by rw [List.length_range]; omega)
  show M.bind (d_nights_alike [.shr (wD w), .shr (wD o), .shr (.int (m : Int)), .no, .no, .no, .no]) endOf = _
  unfold d_nights_alike
  have g1 : sExpr (dCall f_check_way (dCons (dVar 0) dNil)) [.shr (wD w), .shr (wD o), .shr (.int (m : Int)), .no, .no, .no, .no] = M.pure (.next [.shr (wD w), .shr (wD o), .shr (.int (m : Int)), .no, .no, .no, .no]) := by
    simp only [f_check_way_eq, bind_pure, lift_some, noX_pure, runDef, sNext, sSeq, sExpr, sRet, sRetN, sIf, sAsg, sPar2, sPar3, sAug, sOwn, noObj, sAppend, sFreeze, endOf, dVar, bVar, dC, dUn, dBin, dNil, dCons, dTup, dLst, dCall, asB, tVal, tAndD, tOrD, tNotD, dOfT, dIf, dAndV, dOrV, dNotV, oAdd, oAddI, oSub, oMod, oNeg, oLt, oLe, oGt, oGe, oIsNone, oNotNone, oIsN2, oNotN2, oAll, oAny, oSum, oLen, oTuple, oList, oAbs, oInt, oIx, asBs, asIs, wipeE, itemsOf, iVal, lcLoop, lcTurn, dLc, tYesD, gSet, gAll, gTupD, zipD, Sk.iZip, List.zip_cons_cons, List.zip_nil_right, List.zip_nil_left, List.map_cons, List.map_nil, List.length_cons, List.length_nil, List.replicate_succ, List.replicate_zero, List.cons_append, List.nil_append, List.append_nil, List.getElem?_cons_zero, List.getElem?_cons_succ, List.set_cons_zero, List.set_cons_succ, Option.map_some, Option.bind_some, Nat.reduceAdd, Nat.reduceSub, Nat.reduceLeDiff, ite_true, ite_false, Bool.false_eq_true, Bool.not_true, Bool.not_false, if_true, if_false, reduceIte, reduceCtorEq, List.sum_cons, List.sum_nil, List.all_cons, List.all_nil, List.any_cons, List.any_nil, id_eq, Bool.and_true, Bool.true_and, Bool.or_false, Bool.false_or, Bool.and_self, Bool.false_and, Bool.and_false, Bool.true_or, Bool.or_true, Int.cast_ofNat_Int, beq_self_eq_true, Int.reduceBEq, Int.reduceLT, Int.reduceLE, decide_true, decide_false]
  have g2 : sExpr (dCall f_check_way (dCons (dVar 1) dNil)) [.shr (wD w), .shr (wD o), .shr (.int (m : Int)), .no, .no, .no, .no] = M.pure (.next [.shr (wD w), .shr (wD o), .shr (.int (m : Int)), .no, .no, .no, .no]) := by
    simp only [f_check_way_eq, bind_pure, lift_some, noX_pure, runDef, sNext, sSeq, sExpr, sRet, sRetN, sIf, sAsg, sPar2, sPar3, sAug, sOwn, noObj, sAppend, sFreeze, endOf, dVar, bVar, dC, dUn, dBin, dNil, dCons, dTup, dLst, dCall, asB, tVal, tAndD, tOrD, tNotD, dOfT, dIf, dAndV, dOrV, dNotV, oAdd, oAddI, oSub, oMod, oNeg, oLt, oLe, oGt, oGe, oIsNone, oNotNone, oIsN2, oNotN2, oAll, oAny, oSum, oLen, oTuple, oList, oAbs, oInt, oIx, asBs, asIs, wipeE, itemsOf, iVal, lcLoop, lcTurn, dLc, tYesD, gSet, gAll, gTupD, zipD, Sk.iZip, List.zip_cons_cons, List.zip_nil_right, List.zip_nil_left, List.map_cons, List.map_nil, List.length_cons, List.length_nil, List.replicate_succ, List.replicate_zero, List.cons_append, List.nil_append, List.append_nil, List.getElem?_cons_zero, List.getElem?_cons_succ, List.set_cons_zero, List.set_cons_succ, Option.map_some, Option.bind_some, Nat.reduceAdd, Nat.reduceSub, Nat.reduceLeDiff, ite_true, ite_false, Bool.false_eq_true, Bool.not_true, Bool.not_false, if_true, if_false, reduceIte, reduceCtorEq, List.sum_cons, List.sum_nil, List.all_cons, List.all_nil, List.any_cons, List.any_nil, id_eq, Bool.and_true, Bool.true_and, Bool.or_false, Bool.false_or, Bool.and_self, Bool.false_and, Bool.and_false, Bool.true_or, Bool.or_true, Int.cast_ofNat_Int, beq_self_eq_true, Int.reduceBEq, Int.reduceLT, Int.reduceLE, decide_true, decide_false]
  have g3' : sExpr (dCall f_check_number (dCons (dC (.str "most")) (dCons (dVar 2) (dCons (dC (.int 0)) (dCons (dC (.int 99)) dNil))))) [.shr (wD w), .shr (wD o), .shr (.int (m : Int)), .no, .no, .no, .no] = M.pure (.next [.shr (wD w), .shr (wD o), .shr (.int (m : Int)), .no, .no, .no, .no]) := by
    simp only [ck, bind_pure, lift_some, noX_pure, runDef, sNext, sSeq, sExpr, sRet, sRetN, sIf, sAsg, sPar2, sPar3, sAug, sOwn, noObj, sAppend, sFreeze, endOf, dVar, bVar, dC, dUn, dBin, dNil, dCons, dTup, dLst, dCall, asB, tVal, tAndD, tOrD, tNotD, dOfT, dIf, dAndV, dOrV, dNotV, oAdd, oAddI, oSub, oMod, oNeg, oLt, oLe, oGt, oGe, oIsNone, oNotNone, oIsN2, oNotN2, oAll, oAny, oSum, oLen, oTuple, oList, oAbs, oInt, oIx, asBs, asIs, wipeE, itemsOf, iVal, lcLoop, lcTurn, dLc, tYesD, gSet, gAll, gTupD, zipD, Sk.iZip, List.zip_cons_cons, List.zip_nil_right, List.zip_nil_left, List.map_cons, List.map_nil, List.length_cons, List.length_nil, List.replicate_succ, List.replicate_zero, List.cons_append, List.nil_append, List.append_nil, List.getElem?_cons_zero, List.getElem?_cons_succ, List.set_cons_zero, List.set_cons_succ, Option.map_some, Option.bind_some, Nat.reduceAdd, Nat.reduceSub, Nat.reduceLeDiff, ite_true, ite_false, Bool.false_eq_true, Bool.not_true, Bool.not_false, if_true, if_false, reduceIte, reduceCtorEq, List.sum_cons, List.sum_nil, List.all_cons, List.all_nil, List.any_cons, List.any_nil, id_eq, Bool.and_true, Bool.true_and, Bool.or_false, Bool.false_or, Bool.and_self, Bool.false_and, Bool.and_false, Bool.true_or, Bool.or_true, Int.cast_ofNat_Int, beq_self_eq_true, Int.reduceBEq, Int.reduceLT, Int.reduceLE, decide_true, decide_false]
  rw [seq_next g1, seq_next g2, seq_next g3']
  unfold sAsg
  unfold sSeq
  dsimp only
  rw [l1, bind_pure]
  show M.bind (M.bind (M.bind (dLc _ _ _ _ _ [.shr (wD w), .shr (wD o), .shr (.int (m : Int)), .shr (.lst _), .no, .no, .no]) oTuple) _) endOf = _
  rw [l4]
  rfl
end Lw

set_option Elab.async false
set_option linter.all false
set_option maxRecDepth 100000
set_option maxHeartbeats 4000000
set_option autoImplicit false
namespace Lw
open PySem L2 Sk
theorem par {a b : T3} (h : cross a b = z3) : times (dot a a) b = times (dot a b) a := by
  obtain ⟨a1, a2, a3⟩ := a
  obtain ⟨b1, b2, b3⟩ := b
  simp only [cross, Prod.mk.injEq] at h
  obtain ⟨h1, h2, h3⟩ := h
  simp only [times, dot, Prod.mk.injEq]
  refine ⟨?_, ?_, ?_⟩ <;> grind
theorem cross_self (a : T3) : cross a a = z3 := by
  simp only [cross, Prod.mk.injEq]
  grind
theorem least_eq_iff {a b : T3} (ha : a ≠ z3) (hb : b ≠ z3) : least a = least b ↔ cross a b = z3 ∧ 0 < dot a b := by
  constructor
  · intro e
    have h1 := times_least a
    have h2 := times_least b
    have g1 := gcd3_pos ha
    have g2 := gcd3_pos hb
    have q := sq_pos (least_ne ha)
    constructor
    · rw [← h1, ← h2, ← e, cross_times, cross_self, times_zero]
    · rw [← h1, ← h2, ← e, dot_times2, dot_self]
      exact Int.mul_pos (Int.mul_pos g1 g2) (by omega)
  · rintro ⟨h1, h2⟩
    have p := par h1
    rw [dot_self] at p
    have q := sq_pos ha
    rw [← least_times (show (0 : Int) < (sq a : Int) by omega) b, p, least_times h2]
def alikeB (a b : T3) : Bool := !(decide (a = z3) || decide (b = z3)) && (decide (cross a b = z3) && decide (0 < dot a b))
theorem sameB_eq (w o : W6) (n : Int) : sameB w o n = alikeB (at_ w n) (at_ o n) := by
  unfold sameB seenO alikeB leastO
  by_cases h1 : at_ w n = z3
  · simp [h1]
  · by_cases h2 : at_ o n = z3
    · simp [h1, h2]
    · rw [if_neg h1, if_neg h2, decide_eq_false h1, decide_eq_false h2]
      by_cases c : least (at_ w n) = least (at_ o n)
      · obtain ⟨c1, c2⟩ := (least_eq_iff h1 h2).mp c
        simp [c, c1, c2]
      · have n1 : ¬ (cross (at_ w n) (at_ o n) = z3 ∧ 0 < dot (at_ w n) (at_ o n)) := fun z => c ((least_eq_iff h1 h2).mpr z)
        by_cases c1 : cross (at_ w n) (at_ o n) = z3
        · have c2 : ¬ 0 < dot (at_ w n) (at_ o n) := fun z => n1 ⟨c1, z⟩
          simp only [Option.isSome_some, Bool.true_and, Option.some.injEq, decide_eq_false c, decide_eq_true c1, decide_eq_false c2]
          rfl
        · simp only [Option.isSome_some, Bool.true_and, Option.some.injEq, decide_eq_false c, decide_eq_false c1]
          rfl
theorem sameB_comm (w o : W6) (n : Int) : sameB w o n = sameB o w n := by
  unfold sameB
  cases seenO w n <;> cases seenO o n <;> simp [eq_comm]
theorem dot_at (w : W6) (n : Int) : dot (cross w.1 w.2) (at_ w n) = 0 := by
  simp only [dot, cross, at_, plus, times]
  grind
theorem same_par {w o : W6} {n : Int} (h : sameB w o n = true) : at_ w n ≠ z3 ∧ dot (cross o.1 o.2) (at_ w n) = 0 := by
  rw [sameB_eq] at h
  unfold alikeB at h
  simp only [Bool.and_eq_true, Bool.not_eq_true', Bool.or_eq_false_iff, decide_eq_false_iff_not, decide_eq_true_eq] at h
  obtain ⟨⟨h1, h2⟩, h3, h4⟩ := h
  refine ⟨h1, ?_⟩
  have p := par h3
  have q := sq_pos h1
  have d := dot_at o n
  rw [dot_self] at p
  have e : dot (cross o.1 o.2) (times (sq (at_ w n) : Int) (at_ o n)) = dot (cross o.1 o.2) (times (dot (at_ w n) (at_ o n)) (at_ w n)) := by rw [p]
  rw [dot_times, dot_times, d, Int.mul_zero] at e
  exact (Int.mul_eq_zero.mp e.symm).resolve_left (by omega)
theorem cross_cross (x a b : T3) (h1 : dot a x = 0) (h2 : dot b x = 0) : cross (cross a b) x = z3 := by
  obtain ⟨x1, x2, x3⟩ := x
  obtain ⟨a1, a2, a3⟩ := a
  obtain ⟨b1, b2, b3⟩ := b
  simp only [dot] at h1 h2
  simp only [cross, Prod.mk.injEq]
  refine ⟨?_, ?_, ?_⟩ <;> grind
theorem one_night {w o : W6} (h : cross w.1 w.2 ≠ z3) (hM : cross (cross w.1 w.2) (cross o.1 o.2) ≠ z3) {m n : Int} (h1 : sameB w o m = true) (h2 : sameB w o n = true) : m = n := by
  refine Classical.byContradiction fun ne => ?_
  obtain ⟨x0, x1⟩ := same_par h1
  obtain ⟨y0, y1⟩ := same_par h2
  have cx := par (cross_cross (at_ w m) _ _ (dot_at w m) x1)
  have cy := par (cross_cross (at_ w n) _ _ (dot_at w n) y1)
  have q := sq_pos hM
  rw [dot_self] at cx cy
  have e : cross (times (sq (cross (cross w.1 w.2) (cross o.1 o.2)) : Int) (at_ w m)) (times (sq (cross (cross w.1 w.2) (cross o.1 o.2)) : Int) (at_ w n)) = z3 := by
    rw [cx, cy, cross_times, cross_self, times_zero]
  rw [cross_times, cross_at] at e
  have q2 : (sq (cross (cross w.1 w.2) (cross o.1 o.2)) : Int) * (sq (cross (cross w.1 w.2) (cross o.1 o.2)) : Int) ≠ 0 := by
    have := Int.mul_pos (show (0 : Int) < (sq (cross (cross w.1 w.2) (cross o.1 o.2)) : Int) by omega) (show (0 : Int) < (sq (cross (cross w.1 w.2) (cross o.1 o.2)) : Int) by omega)
    omega
  exact h (times_eq_z (by omega) (times_eq_z q2 e))
theorem few {w o : W6} (h : cross w.1 w.2 ≠ z3) (hM : cross (cross w.1 w.2) (cross o.1 o.2) ≠ z3) (k : Nat) : ((List.range k).filter fun (n : Nat) => sameB w o (n : Int)).length ≤ 2 := by
  have nd : ((List.range k).filter fun (n : Nat) => sameB w o (n : Int)).Nodup := List.nodup_range.filter _
  have al : ∀ n ∈ (List.range k).filter fun (n : Nat) => sameB w o (n : Int), sameB w o (n : Int) = true := fun n hn => (List.mem_filter.mp hn).2
  generalize (List.range k).filter (fun (n : Nat) => sameB w o (n : Int)) = l at *
  match l with
  | [] => simp
  | [_] => simp
  | a :: b :: r =>
    exfalso
    have := one_night h hM (al a (by simp)) (al b (by simp))
    have e : a = b := by omega
    subst e
    simp at nd
theorem cross_leasts {a b : T3} (ha : a ≠ z3) (hb : b ≠ z3) (h : cross (least a) (least b) ≠ z3) : cross a b ≠ z3 := fun e => by
  have h1 := times_least a
  have h2 := times_least b
  rw [← h1, ← h2, cross_times] at e
  have := Int.mul_pos (gcd3_pos ha) (gcd3_pos hb)
  exact h (times_eq_z (by omega) e)
theorem leastO_times {k : Int} (hk : 0 < k) (a : T3) : leastO (times k a) = leastO a := by
  unfold leastO
  by_cases c : a = z3
  · subst c
    rw [times_zero]
  · rw [if_neg c, if_neg (times_ne hk c), least_times hk]
theorem seen_times {k : Int} (hk : 0 < k) (w : W6) (n : Int) : seenO (timesW k w) n = seenO w n := by
  unfold seenO
  rw [at_times, leastO_times hk]
theorem oNe_opt_self (a : Option T3) : oNe (optT a) (optT a) = M.pure (.bl false) := by
  cases a with
  | none => rfl
  | some a =>
    have := oNe_t3 a a
    rw [decide_eq_true rfl] at this
    exact this
theorem eqv_nats : ∀ l : List Nat, PyData.eqvAll (toPyL (natsD l)) (toPyL (natsD l)) = true
  | [] => rfl
  | n :: l => by
    show (((n : Int) == (n : Int)) && PyData.eqvAll (toPyL (natsD l)) (toPyL (natsD l))) = true
    rw [eqv_nats l]
    simp
theorem okD_nats (k : Nat) : ∀ l : List Nat, (natsD l).all (okD (k + 1)) = true
  | [] => rfl
  | n :: l => by
    show (true && (natsD l).all (okD (k + 1))) = true
    rw [okD_nats k l]
    rfl
theorem oNe_nats (l : List Nat) : oNe (.lst (natsD l)) (.lst (natsD l)) = M.pure (.bl false) := by
  have h : okD 8 (.lst (natsD l)) = true := okD_nats 6 l
  have e : PyData.eqv (toPy (.lst (natsD l))) (toPy (.lst (natsD l))) = true := eqv_nats l
  unfold oNe
  rw [h, e]
  rfl
theorem inD_nats (n : Nat) : ∀ l : List Nat, inD (.int (n : Int)) (natsD l) = decide (n ∈ l)
  | [] => rfl
  | k :: l => by
    show (((k : Int) == (n : Int)) || inD (.int (n : Int)) (natsD l)) = decide (n ∈ k :: l)
    rw [inD_nats n l]
    by_cases h : n = k
    · subst h
      simp
    · have : ((k : Int) == (n : Int)) = false := beq_eq_false_iff_ne.mpr (by omega)
      rw [this]
      simp [h]
theorem oIn_nats (n : Nat) (l : List Nat) : oIn (.int (n : Int)) (.lst (natsD l)) = M.pure (.bl (decide (n ∈ l))) := by
  have h : okD 8 (.lst (natsD l)) = true := okD_nats 6 l
  have h2 : okD 8 (.int (n : Int)) = true := rfl
  unfold oIn
  dsimp only
  rw [h, h2, inD_nats]
  rfl
theorem oNotIn_z (a b : T3) : oNotIn (.tup [.int 0, .int 0, .int 0]) (.tup [tD a, tD b]) = M.pure (.bl (!(decide (a = z3) || decide (b = z3)))) := by
  have e : inD (.tup [.int 0, .int 0, .int 0]) [tD a, tD b] = (decide (a = z3) || decide (b = z3)) := by
    have h1 := t3_beq a z3
    have h2 := t3_beq b z3
    show ((a.1 == 0 && (a.2.1 == 0 && (a.2.2 == 0 && true))) || ((b.1 == 0 && (b.2.1 == 0 && (b.2.2 == 0 && true))) || false)) = _
    rw [← h1, ← h2, Bool.or_false]
  show (if (okD 8 (.tup [.int 0, .int 0, .int 0]) && okD 8 (.tup [tD a, tD b])) = true then M.pure (D.bl (!inD (.tup [.int 0, .int 0, .int 0]) [tD a, tD b])) else stk) = _
  rw [e]
  rfl
end Lw

set_option Elab.async false
set_option linter.all false
set_option maxRecDepth 100000
set_option maxHeartbeats 4000000
set_option autoImplicit false
namespace Lw
open PySem L2 Sk
def I49 (ns : List Int) (e : Sk.Env) : Prop := ∃ s2 s3 s4 s5 s6 s7 s8 s9 s10 s11 s12 s13 s14 s15 s16 s17 s18 s19 : Slot, e = [.shr (.scr ns), .shr (.cel 0), s2, s3, s4, s5, s6, s7, s8, s9, s10, s11, s12, s13, s14, s15, s16, s17, s18, s19]
theorem WB.times {k m : Nat} {c : Int} {w : W6} (hc : Bi k c) (h : WB m w) : WB (k + m) (timesW c w) := ⟨B.times hc h.1, B.times hc h.2⟩
theorem WB.mono {k m : Nat} {w : W6} (h : WB k w) (hk : k ≤ m) : WB m w := ⟨h.1.mono hk, h.2.mono hk⟩
theorem side_at {w : W6} {n : Int} (h : at_ w n ≠ z3) : det w.1 w.2 (least (at_ w n)) = 0 := by
  have e : det w.1 w.2 (at_ w n) = 0 := dot_at w n
  have g := gcd3_pos h
  unfold det at e ⊢
  rw [dot_least] at e
  exact (Int.mul_eq_zero.mp e).resolve_left (by omega)
theorem side_n {w : W6} (h : cross w.1 w.2 ≠ z3) : 0 < det w.1 w.2 (least (cross w.1 w.2)) := by
  have q := sq_pos h
  have e := dot_self (cross w.1 w.2)
  unfold det
  rw [dot_least] at e
  exact pos_of_mul (by rw [e]; omega) (gcd3_pos h)
def late (w : W6) : W6 := (plus w.1 w.2, w.2)
theorem at_late (w : W6) (n : Int) : at_ (late w) n = at_ w (n + 1) := by
  simp only [at_, late, plus, times, Prod.mk.injEq]
  grind
theorem cross_late (w : W6) : cross (late w).1 (late w).2 = cross w.1 w.2 := by
  simp only [late, cross, plus, Prod.mk.injEq]
  grind
theorem seen_some {w : W6} (h : cross w.1 w.2 ≠ z3) (n : Int) : seenO w n = some (least (at_ w n)) := leastO_ne (at_ne h n)
theorem oEq_tt (w : W6) : oEq (.tup [tD w.1, tD w.2]) (.tup [tD w.1, tD w.2]) = M.pure (.bl true) := by
  have h1 := t3_beq w.1 w.1
  have h2 := t3_beq w.2 w.2
  show M.pure (D.bl ((w.1.1 == w.1.1 && (w.1.2.1 == w.1.2.1 && (w.1.2.2 == w.1.2.2 && true))) && ((w.2.1 == w.2.1 && (w.2.2.1 == w.2.2.1 && (w.2.2.2 == w.2.2.2 && true))) && true))) = _
  rw [h1, h2]
  simp
theorem fld0 (a b : D) : oFld 3 flds "start" (.obj 0 [a, b]) = M.pure a := rfl
theorem fld1 (a b : D) : oFld 3 flds "step" (.obj 0 [a, b]) = M.pure b := rfl
theorem way_eq (w : W6) : f_Way___eq__ [.obj 0 [tD w.1, tD w.2], .obj 0 [tD w.1, tD w.2]] = M.pure (.bl true) := by
  have i : oIsO 3 0 (.obj 0 [tD w.1, tD w.2]) = M.pure (.bl true) := rfl
  simp only [f_Way___eq__, d_Way___eq__, i, fld0, fld1, oEq_tt, bind_pure, lift_some, noX_pure, runDef, sNext, sSeq, sExpr, sRet, sRetN, sIf, sAsg, sPar2, sPar3, sAug, sOwn, noObj, sAppend, sFreeze, endOf, dVar, bVar, dC, dUn, dBin, dNil, dCons, dTup, dLst, dCall, asB, tVal, tAndD, tOrD, tNotD, dOfT, dIf, dAndV, dOrV, dNotV, oAdd, oAddI, oSub, oMod, oNeg, oLt, oLe, oGt, oGe, oIsNone, oNotNone, oIsN2, oNotN2, oAll, oAny, oSum, oLen, oTuple, oList, oAbs, oInt, oIx, asBs, asIs, wipeE, itemsOf, iVal, lcLoop, lcTurn, dLc, tYesD, gSet, gAll, gTupD, zipD, Sk.iZip, List.zip_cons_cons, List.zip_nil_right, List.zip_nil_left, List.map_cons, List.map_nil, List.length_cons, List.length_nil, List.replicate_succ, List.replicate_zero, List.cons_append, List.nil_append, List.append_nil, List.getElem?_cons_zero, List.getElem?_cons_succ, List.set_cons_zero, List.set_cons_succ, Option.map_some, Option.bind_some, Nat.reduceAdd, Nat.reduceSub, Nat.reduceLeDiff, ite_true, ite_false, Bool.false_eq_true, Bool.not_true, Bool.not_false, if_true, if_false, reduceIte, reduceCtorEq, List.sum_cons, List.sum_nil, List.all_cons, List.all_nil, List.any_cons, List.any_nil, id_eq, Bool.and_true, Bool.true_and, Bool.or_false, Bool.false_or, Bool.and_self, Bool.false_and, Bool.and_false, Bool.true_or, Bool.or_true, Int.cast_ofNat_Int, beq_self_eq_true, Int.reduceBEq, Int.reduceLT, Int.reduceLE, decide_true, decide_false]
theorem eqO_way (w : W6) : oEqO 3 eqs_3 (.obj 0 [tD w.1, tD w.2]) (.obj 0 [tD w.1, tD w.2]) = M.pure (.bl true) := by
  show M.bind (noX (f_Way___eq__ [.obj 0 [tD w.1, tD w.2], .obj 0 [tD w.1, tD w.2]])) _ = _
  rw [way_eq]
  rfl
theorem neO_way (w : W6) : oNeO 3 eqs_3 (.obj 0 [tD w.1, tD w.2]) (.obj 0 [tD w.1, tD w.2]) = M.pure (.bl false) := by
  have e : oNeO 3 eqs_3 (.obj 0 [tD w.1, tD w.2]) (.obj 0 [tD w.1, tD w.2]) = M.bind (noX (f_Way___eq__ [.obj 0 [tD w.1, tD w.2], .obj 0 [tD w.1, tD w.2]])) (fun d => M.bind (asB d) fun b => M.pure (.bl (!b))) := rfl
  rw [e, way_eq]
  rfl
theorem eqO_ways (a b c d : D) : oEqO 3 eqs_3 (.obj 1 [a, b]) (.obj 0 [c, d]) = M.pure (.bl false) := rfl
theorem tru_way (a b : D) : asTru 3 trus (.obj 0 [a, b]) = M.pure true := rfl
theorem rows_eq {w : W6} (hB : WB 5 w) (h : cross w.1 w.2 ≠ z3) {env : Sk.Env} (hw : (wipeE env [6])[7]? = some (.shr (wD w))) (hl : 8 ≤ env.length) : dLc [6] (iVal (dTup (dCons (dC (.int 0)) (dCons (dC (.int 2)) (dCons (dC (.int 5)) (dCons (dC (.int 9)) dNil)))))) (gSet 6) (tVal (dBin oNotN2 (dCall f_seen (dCons (dVar 7) (dCons (dVar 6) dNil))) (dC .non))) (dTup (dCons (dVar 6) (dCons (dCall f_seen (dCons (dVar 7) (dCons (dVar 6) dNil))) dNil))) env = M.pure (sD [sg w 0, sg w 2, sg w 5, sg w 9]) := by
  refine dLc_det (xs := [.int 0, .int 2, .int 5, .int 9]) (fun x => match x with | .int n => [pD (sg w n)] | _ => []) rfl (by simp) fun x hx => ?_
  obtain ⟨n, rfl, hn⟩ : ∃ n : Int, x = .int n ∧ nOk n := by
    simp only [List.mem_cons, List.not_mem_nil, or_false] at hx
    unfold nOk
    rcases hx with rfl | rfl | rfl | rfl <;> exact ⟨_, rfl, by omega, by omega⟩
  have s := f_seen_eq hB (by omega) hn.1 hn.2
  rw [seen_some h n] at s
  have wl : (wipeE env [6]).length = env.length := by simp only [wipeE, List.length_set]
  have v7 : ∀ x : D, dVar 7 ((wipeE env [6]).set 6 (.shr x)) = M.pure (wD w) := fun x => by
    unfold dVar
    rw [List.getElem?_set_ne (by omega), hw]
  have v6 : ∀ x : D, dVar 6 ((wipeE env [6]).set 6 (.shr x)) = M.pure x := fun x => by
    unfold dVar
    rw [List.getElem?_set_self (by omega)]
  have nn : oNotN2 (optT (some (least (at_ w n)))) .non = M.pure (.bl true) := rfl
  simp only [lcTurn, gSet, lift_some, bind_pure, tVal, dBin, dC, dCall, dCons, dNil, v6, v7, s, nn, asB, if_true, dTup, List.length_cons, List.length_nil, Nat.reduceAdd, Nat.reduceLeDiff]
  rfl
theorem Ev.when {ns : List Int} {T : DB} {A : DS} {env : Sk.Env} {P : Sk.Flow → Prop} (b : Bool) (hT : T env = M.pure b) (h1 : b = true → Ev ns (A env) P) (h2 : P (.next env)) : Ev ns (sIf T A sNext env) P := Ev.ite b hT h1 fun _ => Ev.pure h2
theorem law_true (ns : List Int) (hns : ns.length ≤ 63) : ∃ S', f_law [.scr ns] [] = .ok (.bl true) S' := by
  unfold f_law d_law
  refine law_of (k := 18) ?_
  show Ev ns (M.bind (sSeq _ _ [.shr (.scr ns), .shr (.cel 0), .no, .no, .no, .no, .no, .no, .no, .no, .no, .no, .no, .no, .no, .no, .no, .no, .no, .no]) endOf) _
  refine Ev.bind (Q := fun fl => fl = .ret (.bl true)) (Ev.seq (Q := I49 ns) (Ev.for (xs := rangeD 0 10) rfl (fun x hx e he => ?_) ⟨_, _, _, _, _, _, _, _, _, _, _, _, _, _, _, _, _, _, rfl⟩) fun e he => ?_) fun fl p => ?_
  · obtain ⟨s2, s3, s4, s5, s6, s7, s8, s9, s10, s11, s12, s13, s14, s15, s16, s17, s18, s19, rfl⟩ := he
    refine ⟨_, rfl, ?_⟩
    refine Ev.seq (Q := fun e => ∃ (w o : W6) (k : Int), WB 3 w ∧ WB 3 o ∧ 0 < k ∧ k < 6 ∧ e = [.shr (.scr ns), .shr (.cel 0), .shr x, s3, s4, s5, s6, .shr (wD w), .shr (wD o), .shr (.int k), s10, s11, s12, s13, s14, s15, s16, s17, s18, s19]) (Ev.asgB (Q := fun d => ∃ (w o : W6) (k : Int), WB 3 w ∧ WB 3 o ∧ 0 < k ∧ k < 6 ∧ d = .tup [wD w, wD o, .int k]) ?_ fun d p => ?_) fun e p => ?_
    · simp only [bind_pure, lift_some, noX_pure, runDef, sNext, sSeq, sExpr, sRet, sRetN, sIf, sAsg, sPar2, sPar3, sAug, sOwn, noObj, sAppend, sFreeze, endOf, dVar, bVar, dC, dUn, dBin, dNil, dCons, dTup, dLst, dCall, asB, tVal, tAndD, tOrD, tNotD, dOfT, dIf, dAndV, dOrV, dNotV, oAdd, oAddI, oSub, oMod, oNeg, oLt, oLe, oGt, oGe, oIsNone, oNotNone, oIsN2, oNotN2, oAll, oAny, oSum, oLen, oTuple, oList, oAbs, oInt, oIx, asBs, asIs, wipeE, itemsOf, iVal, lcLoop, lcTurn, dLc, tYesD, gSet, gAll, gTupD, zipD, Sk.iZip, List.zip_cons_cons, List.zip_nil_right, List.zip_nil_left, List.map_cons, List.map_nil, List.length_cons, List.length_nil, List.replicate_succ, List.replicate_zero, List.cons_append, List.nil_append, List.append_nil, List.getElem?_cons_zero, List.getElem?_cons_succ, List.set_cons_zero, List.set_cons_succ, Option.map_some, Option.bind_some, Nat.reduceAdd, Nat.reduceSub, Nat.reduceLeDiff, ite_true, ite_false, Bool.false_eq_true, Bool.not_true, Bool.not_false, if_true, if_false, reduceIte, reduceCtorEq, List.sum_cons, List.sum_nil, List.all_cons, List.all_nil, List.any_cons, List.any_nil, id_eq, Bool.and_true, Bool.true_and, Bool.or_false, Bool.false_or, Bool.and_self, Bool.false_and, Bool.and_false, Bool.true_or, Bool.or_true, Int.cast_ofNat_Int, beq_self_eq_true, Int.reduceBEq, Int.reduceLT, Int.reduceLE, decide_true, decide_false, bind_assoc]
      refine Ev.bind (law_way hns) fun d p => ?_
      obtain ⟨w, hw, rfl⟩ := p
      refine Ev.bind (law_way hns) fun d p => ?_
      obtain ⟨o, ho, rfl⟩ := p
      refine Ev.bind (f_take hns (by omega)) fun d p => ?_
      obtain ⟨n, rfl, h0, h1⟩ := p
      exact Ev.pure ⟨w, o, 1 + n, hw, ho, by omega, by omega, rfl⟩
    · obtain ⟨w, o, k, hw, ho, k0, k1, rfl⟩ := p
      exact ⟨_, rfl, w, o, k, hw, ho, k0, k1, rfl⟩
    obtain ⟨w, o, k, hw3, ho3, k0, k1, rfl⟩ := p
    have hw := WB.mono hw3 (show 3 ≤ 5 by omega)
    have ho := WB.mono ho3 (show 3 ≤ 5 by omega)
    have Bk : Bi 3 k := by
      unfold Bi
      omega
    have hv : WB 8 (timesW k w) := WB.times Bk hw
    have a1 := oMul_b Bk hw.1.1 (by omega) (by omega)
    have a2 := oMul_b Bk hw.1.2.1 (by omega) (by omega)
    have a3 := oMul_b Bk hw.1.2.2 (by omega) (by omega)
    have a4 := oMul_b Bk hw.2.1 (by omega) (by omega)
    have a5 := oMul_b Bk hw.2.2.1 (by omega) (by omega)
    have a6 := oMul_b Bk hw.2.2.2 (by omega) (by omega)
    refine Ev.asg (e' := [.shr (.scr ns), .shr (.cel 0), .shr x, .shr (wD (timesW k w)), s4, s5, s6, .shr (wD w), .shr (wD o), .shr (.int k), s10, s11, s12, s13, s14, s15, s16, s17, s18, s19]) ?_ ?_
    · simp only [wD_ix0, wD_ix1, tD, a1, a2, a3, a4, a5, a6, bind_pure, lift_some, noX_pure, runDef, sNext, sSeq, sExpr, sRet, sRetN, sIf, sAsg, sPar2, sPar3, sAug, sOwn, noObj, sAppend, sFreeze, endOf, dVar, bVar, dC, dUn, dBin, dNil, dCons, dTup, dLst, dCall, asB, tVal, tAndD, tOrD, tNotD, dOfT, dIf, dAndV, dOrV, dNotV, oAdd, oAddI, oSub, oMod, oNeg, oLt, oLe, oGt, oGe, oIsNone, oNotNone, oIsN2, oNotN2, oAll, oAny, oSum, oLen, oTuple, oList, oAbs, oInt, asBs, asIs, wipeE, itemsOf, iVal, lcLoop, lcTurn, dLc, tYesD, gSet, gAll, gTupD, zipD, Sk.iZip, List.zip_cons_cons, List.zip_nil_right, List.zip_nil_left, List.map_cons, List.map_nil, List.length_cons, List.length_nil, List.replicate_succ, List.replicate_zero, List.cons_append, List.nil_append, List.append_nil, List.getElem?_cons_zero, List.getElem?_cons_succ, List.set_cons_zero, List.set_cons_succ, Option.map_some, Option.bind_some, Nat.reduceAdd, Nat.reduceSub, Nat.reduceLeDiff, ite_true, ite_false, Bool.false_eq_true, Bool.not_true, Bool.not_false, if_true, if_false, reduceIte, reduceCtorEq, List.sum_cons, List.sum_nil, List.all_cons, List.all_nil, List.any_cons, List.any_nil, id_eq, Bool.and_true, Bool.true_and, Bool.or_false, Bool.false_or, Bool.and_self, Bool.false_and, Bool.and_false, Bool.true_or, Bool.or_true, Int.cast_ofNat_Int, beq_self_eq_true, Int.reduceBEq, Int.reduceLT, Int.reduceLE, decide_true, decide_false]
      rfl
    refine Ev.guard ?_ ?_
    · have l : dLc [6] (iRange1 (dC (.int 12))) (gSet 6) tYesD (dOrV (dBin oNe (dCall f_seen (dCons (dVar 3) (dCons (dVar 6) dNil))) (dCall f_seen (dCons (dVar 7) (dCons (dVar 6) dNil)))) (dBin oNe (dUn oTuple (dCall f_at_night (dCons (dVar 3) (dCons (dVar 6) dNil)))) (dUn oTuple (dLc [17] (iVal (dCall f_at_night (dCons (dVar 7) (dCons (dVar 6) dNil)))) (gSet 17) tYesD (dBin oMul (dVar 9) (dVar 17)))))) [.shr (.scr ns), .shr (.cel 0), .shr x, .shr (wD (timesW k w)), s4, s5, s6, .shr (wD w), .shr (wD o), .shr (.int k), s10, s11, s12, s13, s14, s15, s16, s17, s18, s19] = M.pure (.lst ((rangeD 0 12).flatMap fun _ => [.bl false])) := by
        refine dLc_det _ rfl (by decide) fun y hy => ?_
        obtain ⟨n, hn, rfl⟩ := mem_range (n := 12) hy
        have s1 := f_seen_eq (n := (n : Int)) hv (by omega) (by omega) (by omega)
        have s2 := f_seen_eq (n := (n : Int)) hw (by omega) (by omega) (by omega)
        have t1 := f_at_night_eq (n := (n : Int)) hv (by omega) (by omega) (by omega)
        have t2 := f_at_night_eq (n := (n : Int)) hw (by omega) (by omega) (by omega)
        have bt := B.at_ (n := (n : Int)) hw (by omega) (by omega)
        rw [seen_times k0] at s1
        rw [at_times] at t1
        have m1 := oMul_b Bk bt.1 (by omega) (by omega)
        have m2 := oMul_b Bk bt.2.1 (by omega) (by omega)
        have m3 := oMul_b Bk bt.2.2 (by omega) (by omega)
        have q := oNe_t3 (times k (at_ w (n : Int))) (times k (at_ w (n : Int)))
        rw [decide_eq_true rfl] at q
        have q2 : oNe (.tup [.int (k * (at_ w (n : Int)).1), .int (k * (at_ w (n : Int)).2.1), .int (k * (at_ w (n : Int)).2.2)]) (.tup [.int (k * (at_ w (n : Int)).1), .int (k * (at_ w (n : Int)).2.1), .int (k * (at_ w (n : Int)).2.2)]) = M.pure (.bl (!true)) := q
        have tt : tD (times k (at_ w (n : Int))) = .tup [.int (k * (at_ w (n : Int)).1), .int (k * (at_ w (n : Int)).2.1), .int (k * (at_ w (n : Int)).2.2)] := rfl
        have tu : tD (at_ w (n : Int)) = .tup [.int (at_ w (n : Int)).1, .int (at_ w (n : Int)).2.1, .int (at_ w (n : Int)).2.2] := rfl
        simp only [s1, s2, t1, t2, tt, tu, m1, m2, m3, oNe_opt_self, q2, bind_pure, lift_some, noX_pure, runDef, sNext, sSeq, sExpr, sRet, sRetN, sIf, sAsg, sPar2, sPar3, sAug, sOwn, noObj, sAppend, sFreeze, endOf, dVar, bVar, dC, dUn, dBin, dNil, dCons, dTup, dLst, dCall, asB, tVal, tAndD, tOrD, tNotD, dOfT, dIf, dAndV, dOrV, dNotV, oAdd, oAddI, oSub, oMod, oNeg, oLt, oLe, oGt, oGe, oIsNone, oNotNone, oIsN2, oNotN2, oAll, oAny, oSum, oLen, oTuple, oList, oAbs, oInt, oIx, asBs, asIs, wipeE, itemsOf, iVal, lcLoop, lcTurn, dLc, tYesD, gSet, gAll, gTupD, zipD, Sk.iZip, List.zip_cons_cons, List.zip_nil_right, List.zip_nil_left, List.map_cons, List.map_nil, List.length_cons, List.length_nil, List.replicate_succ, List.replicate_zero, List.cons_append, List.nil_append, List.append_nil, List.getElem?_cons_zero, List.getElem?_cons_succ, List.set_cons_zero, List.set_cons_succ, Option.map_some, Option.bind_some, Nat.reduceAdd, Nat.reduceSub, Nat.reduceLeDiff, ite_true, ite_false, Bool.false_eq_true, Bool.not_true, Bool.not_false, if_true, if_false, reduceIte, reduceCtorEq, List.sum_cons, List.sum_nil, List.all_cons, List.all_nil, List.any_cons, List.any_nil, id_eq, Bool.and_true, Bool.true_and, Bool.or_false, Bool.false_or, Bool.and_self, Bool.false_and, Bool.and_false, Bool.true_or, Bool.or_true, Int.cast_ofNat_Int, beq_self_eq_true, Int.reduceBEq, Int.reduceLT, Int.reduceLE, decide_true, decide_false]
      have an := any_ff (g := fun _ => [.bl false]) (rangeD 0 12) fun _ _ => .inr rfl
      simp only [tVal, dUn, l, an, bind_pure, asB]
    have cb := f_circle_of_eq hw (by omega)
    have cv := f_circle_of_eq hv (by omega)
    have cvw : leastO (cross (timesW k w).1 (timesW k w).2) = leastO (cross w.1 w.2) := by
      show leastO (cross (times k w.1) (times k w.2)) = _
      rw [cross_times, leastO_times (Int.mul_pos k0 k0)]
    rw [cvw] at cv
    refine Ev.asg (e' := [.shr (.scr ns), .shr (.cel 0), .shr x, .shr (wD (timesW k w)), .shr (optT (leastO (cross w.1 w.2))), s5, s6, .shr (wD w), .shr (wD o), .shr (.int k), s10, s11, s12, s13, s14, s15, s16, s17, s18, s19]) ?_ ?_
    · simp only [cb, bind_pure, lift_some, noX_pure, runDef, sNext, sSeq, sExpr, sRet, sRetN, sIf, sAsg, sPar2, sPar3, sAug, sOwn, noObj, sAppend, sFreeze, endOf, dVar, bVar, dC, dUn, dBin, dNil, dCons, dTup, dLst, dCall, asB, tVal, tAndD, tOrD, tNotD, dOfT, dIf, dAndV, dOrV, dNotV, oAdd, oAddI, oSub, oMod, oNeg, oLt, oLe, oGt, oGe, oIsNone, oNotNone, oIsN2, oNotN2, oAll, oAny, oSum, oLen, oTuple, oList, oAbs, oInt, oIx, asBs, asIs, wipeE, itemsOf, iVal, lcLoop, lcTurn, dLc, tYesD, gSet, gAll, gTupD, zipD, Sk.iZip, List.zip_cons_cons, List.zip_nil_right, List.zip_nil_left, List.map_cons, List.map_nil, List.length_cons, List.length_nil, List.replicate_succ, List.replicate_zero, List.cons_append, List.nil_append, List.append_nil, List.getElem?_cons_zero, List.getElem?_cons_succ, List.set_cons_zero, List.set_cons_succ, Option.map_some, Option.bind_some, Nat.reduceAdd, Nat.reduceSub, Nat.reduceLeDiff, ite_true, ite_false, Bool.false_eq_true, Bool.not_true, Bool.not_false, if_true, if_false, reduceIte, reduceCtorEq, List.sum_cons, List.sum_nil, List.all_cons, List.all_nil, List.any_cons, List.any_nil, id_eq, Bool.and_true, Bool.true_and, Bool.or_false, Bool.false_or, Bool.and_self, Bool.false_and, Bool.and_false, Bool.true_or, Bool.or_true, Int.cast_ofNat_Int, beq_self_eq_true, Int.reduceBEq, Int.reduceLT, Int.reduceLE, decide_true, decide_false]
    have lc := f__law_cross_eq hw.1 hw.2 (by omega) (by omega)
    refine Ev.guard ?_ ?_
    · by_cases c : cross w.1 w.2 = z3
      · have e0 : leastO (cross w.1 w.2) = none := by rw [c]; exact leastO_z
        rw [e0] at cv
        have n1 : oNe (.non) (.non) = M.pure (.bl false) := rfl
        simp only [cv, e0, optT, n1, lc, wD_ix0, wD_ix1, oEq_z3, oNe_bl, decide_eq_true c, bind_pure, lift_some, noX_pure, runDef, sNext, sSeq, sExpr, sRet, sRetN, sIf, sAsg, sPar2, sPar3, sAug, sOwn, noObj, sAppend, sFreeze, endOf, dVar, bVar, dC, dUn, dBin, dNil, dCons, dTup, dLst, dCall, asB, tVal, tAndD, tOrD, tNotD, dOfT, dIf, dAndV, dOrV, dNotV, oAdd, oAddI, oSub, oMod, oNeg, oLt, oLe, oGt, oGe, oIsNone, oNotNone, oIsN2, oNotN2, oAll, oAny, oSum, oLen, oTuple, oList, oAbs, oInt, asBs, asIs, wipeE, itemsOf, iVal, lcLoop, lcTurn, dLc, tYesD, gSet, gAll, gTupD, zipD, Sk.iZip, List.zip_cons_cons, List.zip_nil_right, List.zip_nil_left, List.map_cons, List.map_nil, List.length_cons, List.length_nil, List.replicate_succ, List.replicate_zero, List.cons_append, List.nil_append, List.append_nil, List.getElem?_cons_zero, List.getElem?_cons_succ, List.set_cons_zero, List.set_cons_succ, Option.map_some, Option.bind_some, Nat.reduceAdd, Nat.reduceSub, Nat.reduceLeDiff, ite_true, ite_false, Bool.false_eq_true, Bool.not_true, Bool.not_false, if_true, if_false, reduceIte, reduceCtorEq, List.sum_cons, List.sum_nil, List.all_cons, List.all_nil, List.any_cons, List.any_nil, id_eq, Bool.and_true, Bool.true_and, Bool.or_false, Bool.false_or, Bool.and_self, Bool.false_and, Bool.and_false, Bool.true_or, Bool.or_true, Int.cast_ofNat_Int, beq_self_eq_true, Int.reduceBEq, Int.reduceLT, Int.reduceLE, decide_true, decide_false]
      · have e0 := leastO_ne c
        have n1 := oNe_opt_self (some (least (cross w.1 w.2)))
        rw [e0] at cv
        have n2 : oIsN2 (optT (some (least (cross w.1 w.2)))) .non = M.pure (.bl false) := rfl
        simp only [cv, e0, n1, n2, lc, wD_ix0, wD_ix1, oEq_z3, oNe_bl, decide_eq_false c, bind_pure, lift_some, noX_pure, runDef, sNext, sSeq, sExpr, sRet, sRetN, sIf, sAsg, sPar2, sPar3, sAug, sOwn, noObj, sAppend, sFreeze, endOf, dVar, bVar, dC, dUn, dBin, dNil, dCons, dTup, dLst, dCall, asB, tVal, tAndD, tOrD, tNotD, dOfT, dIf, dAndV, dOrV, dNotV, oAdd, oAddI, oSub, oMod, oNeg, oLt, oLe, oGt, oGe, oIsNone, oNotNone, oNotN2, oAll, oAny, oSum, oLen, oTuple, oList, oAbs, oInt, asBs, asIs, wipeE, itemsOf, iVal, lcLoop, lcTurn, dLc, tYesD, gSet, gAll, gTupD, zipD, Sk.iZip, List.zip_cons_cons, List.zip_nil_right, List.zip_nil_left, List.map_cons, List.map_nil, List.length_cons, List.length_nil, List.replicate_succ, List.replicate_zero, List.cons_append, List.nil_append, List.append_nil, List.getElem?_cons_zero, List.getElem?_cons_succ, List.set_cons_zero, List.set_cons_succ, Option.map_some, Option.bind_some, Nat.reduceAdd, Nat.reduceSub, Nat.reduceLeDiff, ite_true, ite_false, Bool.false_eq_true, Bool.not_true, Bool.not_false, if_true, if_false, reduceIte, reduceCtorEq, List.sum_cons, List.sum_nil, List.all_cons, List.all_nil, List.any_cons, List.any_nil, id_eq, Bool.and_true, Bool.true_and, Bool.or_false, Bool.false_or, Bool.and_self, Bool.false_and, Bool.and_false, Bool.true_or, Bool.or_true, Int.cast_ofNat_Int, beq_self_eq_true, Int.reduceBEq, Int.reduceLT, Int.reduceLE, decide_true, decide_false]
    refine Ev.seq (Q := fun e => ∃ r10 r11 : Slot, e = [.shr (.scr ns), .shr (.cel 0), .shr x, .shr (wD (timesW k w)), .shr (optT (leastO (cross w.1 w.2))), s5, s6, .shr (wD w), .shr (wD o), .shr (.int k), r10, r11, s12, s13, s14, s15, s16, s17, s18, s19]) ?_ fun e p => ?_
    · by_cases c : cross w.1 w.2 = z3
      · refine Ev.ite false ?_ (fun h => by cases h) fun _ => Ev.pure ⟨_, rfl, _, _, rfl⟩
        have e0 : leastO (cross w.1 w.2) = none := by rw [c]; exact leastO_z
        simp only [e0, optT, bind_pure, lift_some, noX_pure, runDef, sNext, sSeq, sExpr, sRet, sRetN, sIf, sAsg, sPar2, sPar3, sAug, sOwn, noObj, sAppend, sFreeze, endOf, dVar, bVar, dC, dUn, dBin, dNil, dCons, dTup, dLst, dCall, asB, tVal, tAndD, tOrD, tNotD, dOfT, dIf, dAndV, dOrV, dNotV, oAdd, oAddI, oSub, oMod, oNeg, oLt, oLe, oGt, oGe, oIsNone, oNotNone, oIsN2, oNotN2, oAll, oAny, oSum, oLen, oTuple, oList, oAbs, oInt, oIx, asBs, asIs, wipeE, itemsOf, iVal, lcLoop, lcTurn, dLc, tYesD, gSet, gAll, gTupD, zipD, Sk.iZip, List.zip_cons_cons, List.zip_nil_right, List.zip_nil_left, List.map_cons, List.map_nil, List.length_cons, List.length_nil, List.replicate_succ, List.replicate_zero, List.cons_append, List.nil_append, List.append_nil, List.getElem?_cons_zero, List.getElem?_cons_succ, List.set_cons_zero, List.set_cons_succ, Option.map_some, Option.bind_some, Nat.reduceAdd, Nat.reduceSub, Nat.reduceLeDiff, ite_true, ite_false, Bool.false_eq_true, Bool.not_true, Bool.not_false, if_true, if_false, reduceIte, reduceCtorEq, List.sum_cons, List.sum_nil, List.all_cons, List.all_nil, List.any_cons, List.any_nil, id_eq, Bool.and_true, Bool.true_and, Bool.or_false, Bool.false_or, Bool.and_self, Bool.false_and, Bool.and_false, Bool.true_or, Bool.or_true, Int.cast_ofNat_Int, beq_self_eq_true, Int.reduceBEq, Int.reduceLT, Int.reduceLE, decide_true, decide_false]
      · refine Ev.ite true ?_ (fun _ => ?_) (fun h => by cases h)
        · have n2 : oNotN2 (optT (some (least (cross w.1 w.2)))) .non = M.pure (.bl true) := rfl
          simp only [leastO_ne c, n2, bind_pure, lift_some, noX_pure, runDef, sNext, sSeq, sExpr, sRet, sRetN, sIf, sAsg, sPar2, sPar3, sAug, sOwn, noObj, sAppend, sFreeze, endOf, dVar, bVar, dC, dUn, dBin, dNil, dCons, dTup, dLst, dCall, asB, tVal, tAndD, tOrD, tNotD, dOfT, dIf, dAndV, dOrV, dNotV, oAdd, oAddI, oSub, oMod, oNeg, oLt, oLe, oGt, oGe, oIsNone, oNotNone, oIsN2, oAll, oAny, oSum, oLen, oTuple, oList, oAbs, oInt, oIx, asBs, asIs, wipeE, itemsOf, iVal, lcLoop, lcTurn, dLc, tYesD, gSet, gAll, gTupD, zipD, Sk.iZip, List.zip_cons_cons, List.zip_nil_right, List.zip_nil_left, List.map_cons, List.map_nil, List.length_cons, List.length_nil, List.replicate_succ, List.replicate_zero, List.cons_append, List.nil_append, List.append_nil, List.getElem?_cons_zero, List.getElem?_cons_succ, List.set_cons_zero, List.set_cons_succ, Option.map_some, Option.bind_some, Nat.reduceAdd, Nat.reduceSub, Nat.reduceLeDiff, ite_true, ite_false, Bool.false_eq_true, Bool.not_true, Bool.not_false, if_true, if_false, reduceIte, reduceCtorEq, List.sum_cons, List.sum_nil, List.all_cons, List.all_nil, List.any_cons, List.any_nil, id_eq, Bool.and_true, Bool.true_and, Bool.or_false, Bool.false_or, Bool.and_self, Bool.false_and, Bool.and_false, Bool.true_or, Bool.or_true, Int.cast_ofNat_Int, beq_self_eq_true, Int.reduceBEq, Int.reduceLT, Int.reduceLE, decide_true, decide_false]
        have e0 := leastO_ne c
        have dN : dirOk (least (cross w.1 w.2)) := ⟨least_ne c, ((B.cross hw.1 hw.2).least c).mono (by omega)⟩
        refine Ev.guard ?_ ?_
        · have l : dLc [6] (iRange1 (dC (.int 12))) (gSet 6) (tVal (dBin oNotN2 (dCall f_seen (dCons (dVar 7) (dCons (dVar 6) dNil))) (dC .non))) (dBin oNe (dCall f_side_of (dCons (dVar 7) (dCons (dCall f_seen (dCons (dVar 7) (dCons (dVar 6) dNil))) dNil))) (dC (.int 0))) [.shr (.scr ns), .shr (.cel 0), .shr x, .shr (wD (timesW k w)), .shr (optT (leastO (cross w.1 w.2))), s5, s6, .shr (wD w), .shr (wD o), .shr (.int k), s10, s11, s12, s13, s14, s15, s16, s17, s18, s19] = M.pure (.lst ((rangeD 0 12).flatMap fun _ => [.bl false])) := by
            refine dLc_det _ rfl (by decide) fun y hy => ?_
            obtain ⟨n, hn, rfl⟩ := mem_range (n := 12) hy
            have s2 := f_seen_eq (n := (n : Int)) hw (by omega) (by omega) (by omega)
            rw [seen_some c] at s2
            have dd := dirOk_sg hw (n := (n : Int)) ⟨by omega, by omega⟩ (at_ne c _)
            have sd := f_side_of_eq hw (by omega) dd
            rw [side_at (at_ne c _)] at sd
            have nn : oNotN2 (optT (some (least (at_ w (n : Int))))) .non = M.pure (.bl true) := rfl
            have s0 : sgn 0 = 0 := rfl
            have ot : optT (some (least (at_ w (n : Int)))) = tD (least (at_ w (n : Int))) := rfl
            simp only [s2, nn, bind_pure, lift_some, noX_pure, runDef, sNext, sSeq, sExpr, sRet, sRetN, sIf, sAsg, sPar2, sPar3, sAug, sOwn, noObj, sAppend, sFreeze, endOf, dVar, bVar, dC, dUn, dBin, dNil, dCons, dTup, dLst, dCall, asB, tVal, tAndD, tOrD, tNotD, dOfT, dIf, dAndV, dOrV, dNotV, oAdd, oAddI, oSub, oMod, oNeg, oLt, oLe, oGt, oGe, oIsNone, oNotNone, oIsN2, oAll, oAny, oSum, oLen, oTuple, oList, oAbs, oInt, oIx, asBs, asIs, wipeE, itemsOf, iVal, lcLoop, lcTurn, dLc, tYesD, gSet, gAll, gTupD, zipD, Sk.iZip, List.zip_cons_cons, List.zip_nil_right, List.zip_nil_left, List.map_cons, List.map_nil, List.length_cons, List.length_nil, List.replicate_succ, List.replicate_zero, List.cons_append, List.nil_append, List.append_nil, List.getElem?_cons_zero, List.getElem?_cons_succ, List.set_cons_zero, List.set_cons_succ, Option.map_some, Option.bind_some, Nat.reduceAdd, Nat.reduceSub, Nat.reduceLeDiff, ite_true, ite_false, Bool.false_eq_true, Bool.not_true, Bool.not_false, if_true, if_false, reduceIte, reduceCtorEq, List.sum_cons, List.sum_nil, List.all_cons, List.all_nil, List.any_cons, List.any_nil, id_eq, Bool.and_true, Bool.true_and, Bool.or_false, Bool.false_or, Bool.and_self, Bool.false_and, Bool.and_false, Bool.true_or, Bool.or_true, Int.cast_ofNat_Int, beq_self_eq_true, Int.reduceBEq, Int.reduceLT, Int.reduceLE, decide_true, decide_false]
            simp only [ot, sd, s0, oNe_int, bind_pure, lift_some, noX_pure, runDef, sNext, sSeq, sExpr, sRet, sRetN, sIf, sAsg, sPar2, sPar3, sAug, sOwn, noObj, sAppend, sFreeze, endOf, dVar, bVar, dC, dUn, dBin, dNil, dCons, dTup, dLst, dCall, asB, tVal, tAndD, tOrD, tNotD, dOfT, dIf, dAndV, dOrV, dNotV, oAdd, oAddI, oSub, oMod, oNeg, oLt, oLe, oGt, oGe, oIsNone, oNotNone, oIsN2, oNotN2, oAll, oAny, oSum, oLen, oTuple, oList, oAbs, oInt, oIx, asBs, asIs, wipeE, itemsOf, iVal, lcLoop, lcTurn, dLc, tYesD, gSet, gAll, gTupD, zipD, Sk.iZip, List.zip_cons_cons, List.zip_nil_right, List.zip_nil_left, List.map_cons, List.map_nil, List.length_cons, List.length_nil, List.replicate_succ, List.replicate_zero, List.cons_append, List.nil_append, List.append_nil, List.getElem?_cons_zero, List.getElem?_cons_succ, List.set_cons_zero, List.set_cons_succ, Option.map_some, Option.bind_some, Nat.reduceAdd, Nat.reduceSub, Nat.reduceLeDiff, ite_true, ite_false, Bool.false_eq_true, Bool.not_true, Bool.not_false, if_true, if_false, reduceIte, reduceCtorEq, List.sum_cons, List.sum_nil, List.all_cons, List.all_nil, List.any_cons, List.any_nil, id_eq, Bool.and_true, Bool.true_and, Bool.or_false, Bool.false_or, Bool.and_self, Bool.false_and, Bool.and_false, Bool.true_or, Bool.or_true, Int.cast_ofNat_Int, beq_self_eq_true, Int.reduceBEq, Int.reduceLT, Int.reduceLE, decide_true, decide_false]
          have an := any_ff (g := fun _ => [.bl false]) (rangeD 0 12) fun _ _ => .inr rfl
          have sn := f_side_of_eq hw (by omega) dN
          have pos := side_n c
          have s1 : sgn (det w.1 w.2 (least (cross w.1 w.2))) = 1 := by
            unfold sgn
            rw [if_pos pos]
          have nz : ((0 - (least (cross w.1 w.2)).1, 0 - (least (cross w.1 w.2)).2.1, 0 - (least (cross w.1 w.2)).2.2) : T3) = neg (least (cross w.1 w.2)) := by
            simp [neg]
          have dM : dirOk (neg (least (cross w.1 w.2))) := ⟨neg_ne dN.1, dN.2.neg⟩
          have sm := f_side_of_eq hw (by omega) dM
          have s2 : sgn (det w.1 w.2 (neg (least (cross w.1 w.2)))) = 0 - 1 := by
            have : det w.1 w.2 (neg (least (cross w.1 w.2))) = -det w.1 w.2 (least (cross w.1 w.2)) := dot_neg _ _
            rw [this]
            unfold sgn
            rw [if_neg (by omega), if_neg (by omega)]
            rfl
          rw [s1] at sn
          rw [s2, ← nz] at sm
          have ot : optT (some (least (cross w.1 w.2))) = .tup [.int (least (cross w.1 w.2)).1, .int (least (cross w.1 w.2)).2.1, .int (least (cross w.1 w.2)).2.2] := rfl
          have sn2 : f_side_of [wD w, .tup [.int (least (cross w.1 w.2)).1, .int (least (cross w.1 w.2)).2.1, .int (least (cross w.1 w.2)).2.2]] = M.pure (.int 1) := sn
          have sm2 : f_side_of [wD w, .tup [.int (0 - (least (cross w.1 w.2)).1), .int (0 - (least (cross w.1 w.2)).2.1), .int (0 - (least (cross w.1 w.2)).2.2)]] = M.pure (.int (0 - 1)) := sm
          have t1 : tVal (dUn oAny (dLc [6] (iRange1 (dC (.int 12))) (gSet 6) (tVal (dBin oNotN2 (dCall f_seen (dCons (dVar 7) (dCons (dVar 6) dNil))) (dC .non))) (dBin oNe (dCall f_side_of (dCons (dVar 7) (dCons (dCall f_seen (dCons (dVar 7) (dCons (dVar 6) dNil))) dNil))) (dC (.int 0))))) [.shr (.scr ns), .shr (.cel 0), .shr x, .shr (wD (timesW k w)), .shr (optT (leastO (cross w.1 w.2))), s5, s6, .shr (wD w), .shr (wD o), .shr (.int k), s10, s11, s12, s13, s14, s15, s16, s17, s18, s19] = M.pure false := by
            simp only [tVal, dUn, l, an, bind_pure, asB]
          conv => lhs; unfold tOrD
          rw [t1, bind_pure, if_neg (by decide)]
          simp only [e0, ot, sn2, sm2, oNe_int, bind_pure, lift_some, noX_pure, runDef, sNext, sSeq, sExpr, sRet, sRetN, sIf, sAsg, sPar2, sPar3, sAug, sOwn, noObj, sAppend, sFreeze, endOf, dVar, bVar, dC, dUn, dBin, dNil, dCons, dTup, dLst, dCall, asB, tVal, tAndD, tOrD, tNotD, dOfT, dIf, dAndV, dOrV, dNotV, oAdd, oAddI, oSub, oMod, oNeg, oLt, oLe, oGt, oGe, oIsNone, oNotNone, oIsN2, oNotN2, oAll, oAny, oSum, oLen, oTuple, oList, oAbs, oInt, oIx, asBs, asIs, wipeE, itemsOf, iVal, lcLoop, lcTurn, dLc, tYesD, gSet, gAll, gTupD, zipD, Sk.iZip, List.zip_cons_cons, List.zip_nil_right, List.zip_nil_left, List.map_cons, List.map_nil, List.length_cons, List.length_nil, List.replicate_succ, List.replicate_zero, List.cons_append, List.nil_append, List.append_nil, List.getElem?_cons_zero, List.getElem?_cons_succ, List.set_cons_zero, List.set_cons_succ, Option.map_some, Option.bind_some, Nat.reduceAdd, Nat.reduceSub, Nat.reduceLeDiff, ite_true, ite_false, Bool.false_eq_true, Bool.not_true, Bool.not_false, if_true, if_false, reduceIte, reduceCtorEq, List.sum_cons, List.sum_nil, List.all_cons, List.all_nil, List.any_cons, List.any_nil, id_eq, Bool.and_true, Bool.true_and, Bool.or_false, Bool.false_or, Bool.and_self, Bool.false_and, Bool.and_false, Bool.true_or, Bool.or_true, Int.cast_ofNat_Int, beq_self_eq_true, Int.reduceBEq, Int.reduceLT, Int.reduceLE, decide_true, decide_false]
        refine Ev.asg (e' := [.shr (.scr ns), .shr (.cel 0), .shr x, .shr (wD (timesW k w)), .shr (optT (leastO (cross w.1 w.2))), s5, s6, .shr (wD w), .shr (wD o), .shr (.int k), .shr (sD [sg w 0, sg w 2, sg w 5, sg w 9]), s11, s12, s13, s14, s15, s16, s17, s18, s19]) ?_ ?_
        · unfold sAsg
          rw [rows_eq hw c rfl (by simp)]
          rfl
        have j4 := judge4 hw c (n0 := 0) (n1 := 2) (n2 := 5) (n3 := 9) ⟨by omega, by omega⟩ (by omega) (by omega) (by omega) ⟨by omega, by omega⟩
        have j3 := judge3 hw c (n0 := 0) (n1 := 5) (n2 := 9) ⟨by omega, by omega⟩ (by omega) (by omega) ⟨by omega, by omega⟩
        have len : oLen (sD [sg w 0, sg w 2, sg w 5, sg w 9]) = M.pure (.int 4) := rfl
        have nk : ∀ n : Int, nOk n → dirOk (least (at_ w n)) := fun n hn => dirOk_sg hw hn (at_ne c n)
        have mem : ∀ r ∈ [sg w 0, sg w 2, sg w 5, sg w 9], ∃ n, nOk n ∧ r = sg w n := fun r hr => by
          simp only [List.mem_cons, List.not_mem_nil, or_false] at hr
          rcases hr with rfl | rfl | rfl | rfl
          · exact ⟨0, ⟨by omega, by omega⟩, rfl⟩
          · exact ⟨2, ⟨by omega, by omega⟩, rfl⟩
          · exact ⟨5, ⟨by omega, by omega⟩, rfl⟩
          · exact ⟨9, ⟨by omega, by omega⟩, rfl⟩
        refine Ev.guard ?_ ?_
        · have is : f_is_seen [wD (timesW k w), sD [sg w 0, sg w 2, sg w 5, sg w 9]] = M.pure (.bl true) := by
            refine f_is_seen_eq (p := sg w 0) (q := sg w 9) hv (by omega) ⟨by show (-1 : Int) + 1 ≤ 0; omega, by show (0 : Int) ≤ 99; omega, nk 0 ⟨by omega, by omega⟩, by show (0 : Int) + 1 ≤ 2; omega, by show (2 : Int) ≤ 99; omega, nk 2 ⟨by omega, by omega⟩, by show (2 : Int) + 1 ≤ 5; omega, by show (5 : Int) ≤ 99; omega, nk 5 ⟨by omega, by omega⟩, by show (5 : Int) + 1 ≤ 9; omega, by show (9 : Int) ≤ 99; omega, nk 9 ⟨by omega, by omega⟩, trivial⟩ rfl rfl (by simp) (by simp) (by simp) (fun r hr => ?_) (fun r hr => ?_) (.inl ?_)
            · obtain ⟨n, hn, rfl⟩ := mem r hr
              exact ⟨hn.1, hn.2, nk n hn⟩
            · obtain ⟨n, hn, rfl⟩ := mem r hr
              show at_ (timesW k w) n ≠ z3 ∧ least (at_ (timesW k w) n) = least (least (at_ w n))
              rw [at_times, least_times k0, least_least (at_ne c n)]
              exact ⟨times_ne k0 (at_ne c n), rfl⟩
            · show cross (at_ (timesW k w) 0) (at_ (timesW k w) 9) ≠ z3
              rw [at_times, at_times, cross_times, cross_at]
              have := Int.mul_pos k0 k0
              exact fun e => c (times_eq_z (by omega) (times_eq_z (by omega) e))
          have sh : f_Way_shows [.obj 0 [tD (leastW w).1, tD (leastW w).2], sD [sg w 0, sg w 2, sg w 5, sg w 9]] = M.pure (.bl true) := by
            simp only [f_Way_shows, d_Way_shows, j4, eqO_way, bind_pure, lift_some, noX_pure, runDef, sNext, sSeq, sExpr, sRet, sRetN, sIf, sAsg, sPar2, sPar3, sAug, sOwn, noObj, sAppend, sFreeze, endOf, dVar, bVar, dC, dUn, dBin, dNil, dCons, dTup, dLst, dCall, asB, tVal, tAndD, tOrD, tNotD, dOfT, dIf, dAndV, dOrV, dNotV, oAdd, oAddI, oSub, oMod, oNeg, oLt, oLe, oGt, oGe, oIsNone, oNotNone, oIsN2, oNotN2, oAll, oAny, oSum, oLen, oTuple, oList, oAbs, oInt, oIx, asBs, asIs, wipeE, itemsOf, iVal, lcLoop, lcTurn, dLc, tYesD, gSet, gAll, gTupD, zipD, Sk.iZip, List.zip_cons_cons, List.zip_nil_right, List.zip_nil_left, List.map_cons, List.map_nil, List.length_cons, List.length_nil, List.replicate_succ, List.replicate_zero, List.cons_append, List.nil_append, List.append_nil, List.getElem?_cons_zero, List.getElem?_cons_succ, List.set_cons_zero, List.set_cons_succ, Option.map_some, Option.bind_some, Nat.reduceAdd, Nat.reduceSub, Nat.reduceLeDiff, ite_true, ite_false, Bool.false_eq_true, Bool.not_true, Bool.not_false, if_true, if_false, reduceIte, reduceCtorEq, List.sum_cons, List.sum_nil, List.all_cons, List.all_nil, List.any_cons, List.any_nil, id_eq, Bool.and_true, Bool.true_and, Bool.or_false, Bool.false_or, Bool.and_self, Bool.false_and, Bool.and_false, Bool.true_or, Bool.or_true, Int.cast_ofNat_Int, beq_self_eq_true, Int.reduceBEq, Int.reduceLT, Int.reduceLE, decide_true, decide_false]
          have ib : oIsBl (.bl true) (.bl false) = M.pure (.bl false) := rfl
          have d0 : decide ((0 : Nat) = 0) = true := rfl
          simp only [len, oEq_int, tTruD, dMeth, j4, tru_way, is, sh, ib, d0, bind_pure, lift_some, noX_pure, runDef, sNext, sSeq, sExpr, sRet, sRetN, sIf, sAsg, sPar2, sPar3, sAug, sOwn, noObj, sAppend, sFreeze, endOf, dVar, bVar, dC, dUn, dBin, dNil, dCons, dTup, dLst, dCall, asB, tVal, tAndD, tOrD, tNotD, dOfT, dIf, dAndV, dOrV, dNotV, oAdd, oAddI, oSub, oMod, oNeg, oLt, oLe, oGt, oGe, oIsNone, oNotNone, oIsN2, oNotN2, oAll, oAny, oSum, oTuple, oList, oAbs, oInt, oIx, asBs, asIs, wipeE, itemsOf, iVal, lcLoop, lcTurn, dLc, tYesD, gSet, gAll, gTupD, zipD, Sk.iZip, List.zip_cons_cons, List.zip_nil_right, List.zip_nil_left, List.map_cons, List.map_nil, List.length_cons, List.length_nil, List.replicate_succ, List.replicate_zero, List.cons_append, List.nil_append, List.append_nil, List.getElem?_cons_zero, List.getElem?_cons_succ, List.set_cons_zero, List.set_cons_succ, Option.map_some, Option.bind_some, Nat.reduceAdd, Nat.reduceSub, Nat.reduceLeDiff, ite_true, ite_false, Bool.false_eq_true, Bool.not_true, Bool.not_false, if_true, if_false, reduceIte, reduceCtorEq, List.sum_cons, List.sum_nil, List.all_cons, List.all_nil, List.any_cons, List.any_nil, id_eq, Bool.and_true, Bool.true_and, Bool.or_false, Bool.false_or, Bool.and_self, Bool.false_and, Bool.and_false, Bool.true_or, Bool.or_true, Int.cast_ofNat_Int, beq_self_eq_true, Int.reduceBEq, Int.reduceLT, Int.reduceLE, decide_true, decide_false]
        refine Ev.guard ?_ ?_
        · have c1 : oCut (sD [sg w 0, sg w 2, sg w 5, sg w 9]) none (some 1) = M.pure (sD [sg w 0]) := rfl
          have c2 : oCut (sD [sg w 0, sg w 2, sg w 5, sg w 9]) (some 2) none = M.pure (sD [sg w 5, sg w 9]) := rfl
          have ad : oAdd (sD [sg w 0]) (sD [sg w 5, sg w 9]) = M.pure (sD [sg w 0, sg w 5, sg w 9]) := rfl
          simp only [len, oEq_int, dCut, oNoPart, oPart, c1, c2, ad, j4, j3, neO_way, bind_pure, lift_some, noX_pure, runDef, sNext, sSeq, sExpr, sRet, sRetN, sIf, sAsg, sPar2, sPar3, sAug, sOwn, noObj, sAppend, sFreeze, endOf, dVar, bVar, dC, dUn, dBin, dNil, dCons, dTup, dLst, dCall, asB, tVal, tAndD, tOrD, tNotD, dOfT, dIf, dAndV, dOrV, dNotV, oAddI, oSub, oMod, oNeg, oLt, oLe, oGt, oGe, oIsNone, oNotNone, oIsN2, oNotN2, oAll, oAny, oSum, oTuple, oList, oAbs, oInt, oIx, asBs, asIs, wipeE, itemsOf, iVal, lcLoop, lcTurn, dLc, tYesD, gSet, gAll, gTupD, zipD, Sk.iZip, List.zip_cons_cons, List.zip_nil_right, List.zip_nil_left, List.map_cons, List.map_nil, List.length_cons, List.length_nil, List.replicate_succ, List.replicate_zero, List.cons_append, List.nil_append, List.append_nil, List.getElem?_cons_zero, List.getElem?_cons_succ, List.set_cons_zero, List.set_cons_succ, Option.map_some, Option.bind_some, Nat.reduceAdd, Nat.reduceSub, Nat.reduceLeDiff, ite_true, ite_false, Bool.false_eq_true, Bool.not_true, Bool.not_false, if_true, if_false, reduceIte, reduceCtorEq, List.sum_cons, List.sum_nil, List.all_cons, List.all_nil, List.any_cons, List.any_nil, id_eq, Bool.and_true, Bool.true_and, Bool.or_false, Bool.false_or, Bool.and_self, Bool.false_and, Bool.and_false, Bool.true_or, Bool.or_true, Int.cast_ofNat_Int, beq_self_eq_true, Int.reduceBEq, Int.reduceLT, Int.reduceLE, decide_true, decide_false]
        have hl4 : WB 5 (late w) := ⟨(B.plus hw3.1 hw3.2).mono (by omega), hw.2⟩
        refine Ev.asg (e' := [.shr (.scr ns), .shr (.cel 0), .shr x, .shr (wD (timesW k w)), .shr (optT (leastO (cross w.1 w.2))), s5, s6, .shr (wD w), .shr (wD o), .shr (.int k), .shr (sD [sg w 0, sg w 2, sg w 5, sg w 9]), .shr (wD (late w)), s12, s13, s14, s15, s16, s17, s18, s19]) ?_ ?_
        · simp only [wD_ix0, wD_ix1, tD, bind_pure, lift_some, noX_pure, runDef, sNext, sSeq, sExpr, sRet, sRetN, sIf, sAsg, sPar2, sPar3, sAug, sOwn, noObj, sAppend, sFreeze, endOf, dVar, bVar, dC, dUn, dBin, dNil, dCons, dTup, dLst, dCall, asB, tVal, tAndD, tOrD, tNotD, dOfT, dIf, dAndV, dOrV, dNotV, oAdd, oAddI, oSub, oMod, oNeg, oLt, oLe, oGt, oGe, oIsNone, oNotNone, oIsN2, oNotN2, oAll, oAny, oSum, oLen, oTuple, oList, oAbs, oInt, asBs, asIs, wipeE, itemsOf, iVal, lcLoop, lcTurn, dLc, tYesD, gSet, gAll, gTupD, zipD, Sk.iZip, List.zip_cons_cons, List.zip_nil_right, List.zip_nil_left, List.map_cons, List.map_nil, List.length_cons, List.length_nil, List.replicate_succ, List.replicate_zero, List.cons_append, List.nil_append, List.append_nil, List.getElem?_cons_zero, List.getElem?_cons_succ, List.set_cons_zero, List.set_cons_succ, Option.map_some, Option.bind_some, Nat.reduceAdd, Nat.reduceSub, Nat.reduceLeDiff, ite_true, ite_false, Bool.false_eq_true, Bool.not_true, Bool.not_false, if_true, if_false, reduceIte, reduceCtorEq, List.sum_cons, List.sum_nil, List.all_cons, List.all_nil, List.any_cons, List.any_nil, id_eq, Bool.and_true, Bool.true_and, Bool.or_false, Bool.false_or, Bool.and_self, Bool.false_and, Bool.and_false, Bool.true_or, Bool.or_true, Int.cast_ofNat_Int, beq_self_eq_true, Int.reduceBEq, Int.reduceLT, Int.reduceLE, decide_true, decide_false]
          rfl
        refine Ev.guardE ?_ ⟨_, rfl, _, _, rfl⟩
        have cl : cross (late w).1 (late w).2 ≠ z3 := by rw [cross_late]; exact c
        have q1 : dLc [6] (iVal (dTup (dCons (dC (.int 0)) (dCons (dC (.int 1)) (dCons (dC (.int 4)) (dCons (dC (.int 8)) dNil)))))) (gSet 6) tYesD (dTup (dCons (dVar 6) (dCons (dCall f_seen (dCons (dVar 11) (dCons (dVar 6) dNil))) dNil))) [.shr (.scr ns), .shr (.cel 0), .shr x, .shr (wD (timesW k w)), .shr (optT (leastO (cross w.1 w.2))), s5, s6, .shr (wD w), .shr (wD o), .shr (.int k), .shr (sD [sg w 0, sg w 2, sg w 5, sg w 9]), .shr (wD (late w)), s12, s13, s14, s15, s16, s17, s18, s19] = M.pure (sD [sg (late w) 0, sg (late w) 1, sg (late w) 4, sg (late w) 8]) := by
          refine dLc_det (xs := [.int 0, .int 1, .int 4, .int 8]) (fun x => match x with | .int n => [pD (sg (late w) n)] | _ => []) rfl (by simp) fun x hx => ?_
          obtain ⟨n, rfl, hn⟩ : ∃ n : Int, x = .int n ∧ nOk n := by
            simp only [List.mem_cons, List.not_mem_nil, or_false] at hx
            unfold nOk
            rcases hx with rfl | rfl | rfl | rfl <;> exact ⟨_, rfl, by omega, by omega⟩
          have s := f_seen_eq hl4 (by omega) hn.1 hn.2
          rw [seen_some cl n] at s
          simp only [s, bind_pure, lift_some, noX_pure, runDef, sNext, sSeq, sExpr, sRet, sRetN, sIf, sAsg, sPar2, sPar3, sAug, sOwn, noObj, sAppend, sFreeze, endOf, dVar, bVar, dC, dUn, dBin, dNil, dCons, dTup, dLst, dCall, asB, tVal, tAndD, tOrD, tNotD, dOfT, dIf, dAndV, dOrV, dNotV, oAdd, oAddI, oSub, oMod, oNeg, oLt, oLe, oGt, oGe, oIsNone, oNotNone, oIsN2, oNotN2, oAll, oAny, oSum, oLen, oTuple, oList, oAbs, oInt, oIx, asBs, asIs, wipeE, itemsOf, iVal, lcLoop, lcTurn, dLc, tYesD, gSet, gAll, gTupD, zipD, Sk.iZip, List.zip_cons_cons, List.zip_nil_right, List.zip_nil_left, List.map_cons, List.map_nil, List.length_cons, List.length_nil, List.replicate_succ, List.replicate_zero, List.cons_append, List.nil_append, List.append_nil, List.getElem?_cons_zero, List.getElem?_cons_succ, List.set_cons_zero, List.set_cons_succ, Option.map_some, Option.bind_some, Nat.reduceAdd, Nat.reduceSub, Nat.reduceLeDiff, ite_true, ite_false, Bool.false_eq_true, Bool.not_true, Bool.not_false, if_true, if_false, reduceIte, reduceCtorEq, List.sum_cons, List.sum_nil, List.all_cons, List.all_nil, List.any_cons, List.any_nil, id_eq, Bool.and_true, Bool.true_and, Bool.or_false, Bool.false_or, Bool.and_self, Bool.false_and, Bool.and_false, Bool.true_or, Bool.or_true, Int.cast_ofNat_Int, beq_self_eq_true, Int.reduceBEq, Int.reduceLT, Int.reduceLE, decide_true, decide_false]
          rfl
        have q2 : dLc [6] (iVal (dTup (dCons (dC (.int 1)) (dCons (dC (.int 2)) (dCons (dC (.int 5)) (dCons (dC (.int 9)) dNil)))))) (gSet 6) tYesD (dTup (dCons (dBin oSub (dVar 6) (dC (.int 1))) (dCons (dCall f_seen (dCons (dVar 7) (dCons (dVar 6) dNil))) dNil))) [.shr (.scr ns), .shr (.cel 0), .shr x, .shr (wD (timesW k w)), .shr (optT (leastO (cross w.1 w.2))), s5, s6, .shr (wD w), .shr (wD o), .shr (.int k), .shr (sD [sg w 0, sg w 2, sg w 5, sg w 9]), .shr (wD (late w)), s12, s13, s14, s15, s16, s17, s18, s19] = M.pure (sD [sg (late w) 0, sg (late w) 1, sg (late w) 4, sg (late w) 8]) := by
          refine dLc_det (xs := [.int 1, .int 2, .int 5, .int 9]) (fun x => match x with | .int n => [pD (sg (late w) (n - 1))] | _ => []) rfl (by simp) fun x hx => ?_
          obtain ⟨n, rfl, hn⟩ : ∃ n : Int, x = .int n ∧ nOk n := by
            simp only [List.mem_cons, List.not_mem_nil, or_false] at hx
            unfold nOk
            rcases hx with rfl | rfl | rfl | rfl <;> exact ⟨_, rfl, by omega, by omega⟩
          have s := f_seen_eq hw (by omega) hn.1 hn.2
          rw [seen_some c n] at s
          have e : pD (sg (late w) (n - 1)) = .tup [.int (n - 1), optT (some (least (at_ w n)))] := by
            unfold sg pD optT
            rw [at_late, Int.sub_add_cancel]
          simp only [s, e, bind_pure, lift_some, noX_pure, runDef, sNext, sSeq, sExpr, sRet, sRetN, sIf, sAsg, sPar2, sPar3, sAug, sOwn, noObj, sAppend, sFreeze, endOf, dVar, bVar, dC, dUn, dBin, dNil, dCons, dTup, dLst, dCall, asB, tVal, tAndD, tOrD, tNotD, dOfT, dIf, dAndV, dOrV, dNotV, oAdd, oAddI, oSub, oMod, oNeg, oLt, oLe, oGt, oGe, oIsNone, oNotNone, oIsN2, oNotN2, oAll, oAny, oSum, oLen, oTuple, oList, oAbs, oInt, oIx, asBs, asIs, wipeE, itemsOf, iVal, lcLoop, lcTurn, dLc, tYesD, gSet, gAll, gTupD, zipD, Sk.iZip, List.zip_cons_cons, List.zip_nil_right, List.zip_nil_left, List.map_cons, List.map_nil, List.length_cons, List.length_nil, List.replicate_succ, List.replicate_zero, List.cons_append, List.nil_append, List.append_nil, List.getElem?_cons_zero, List.getElem?_cons_succ, List.set_cons_zero, List.set_cons_succ, Option.map_some, Option.bind_some, Nat.reduceAdd, Nat.reduceSub, Nat.reduceLeDiff, ite_true, ite_false, Bool.false_eq_true, Bool.not_true, Bool.not_false, if_true, if_false, reduceIte, reduceCtorEq, List.sum_cons, List.sum_nil, List.all_cons, List.all_nil, List.any_cons, List.any_nil, id_eq, Bool.and_true, Bool.true_and, Bool.or_false, Bool.false_or, Bool.and_self, Bool.false_and, Bool.and_false, Bool.true_or, Bool.or_true, Int.cast_ofNat_Int, beq_self_eq_true, Int.reduceBEq, Int.reduceLT, Int.reduceLE, decide_true, decide_false]
        have jl := judge4 hl4 cl (n0 := 0) (n1 := 1) (n2 := 4) (n3 := 8) ⟨by omega, by omega⟩ (by omega) (by omega) (by omega) ⟨by omega, by omega⟩
        have t1 : tVal (dBin (oNeO 3 eqs_3) (dCall f_judge_way (dCons (dLc [6] (iVal (dTup (dCons (dC (.int 0)) (dCons (dC (.int 1)) (dCons (dC (.int 4)) (dCons (dC (.int 8)) dNil)))))) (gSet 6) tYesD (dTup (dCons (dVar 6) (dCons (dCall f_seen (dCons (dVar 11) (dCons (dVar 6) dNil))) dNil)))) dNil)) (dCall f_judge_way (dCons (dLc [6] (iVal (dTup (dCons (dC (.int 1)) (dCons (dC (.int 2)) (dCons (dC (.int 5)) (dCons (dC (.int 9)) dNil)))))) (gSet 6) tYesD (dTup (dCons (dBin oSub (dVar 6) (dC (.int 1))) (dCons (dCall f_seen (dCons (dVar 7) (dCons (dVar 6) dNil))) dNil)))) dNil))) [.shr (.scr ns), .shr (.cel 0), .shr x, .shr (wD (timesW k w)), .shr (optT (leastO (cross w.1 w.2))), s5, s6, .shr (wD w), .shr (wD o), .shr (.int k), .shr (sD [sg w 0, sg w 2, sg w 5, sg w 9]), .shr (wD (late w)), s12, s13, s14, s15, s16, s17, s18, s19] = M.pure false := by
          simp only [tVal, dBin, dCall, dCons, dNil, q1, q2, bind_pure, jl, neO_way, asB]
        have t0 : tVal (dBin oEq (dUn oLen (dVar 10)) (dC (.int 4))) [.shr (.scr ns), .shr (.cel 0), .shr x, .shr (wD (timesW k w)), .shr (optT (leastO (cross w.1 w.2))), s5, s6, .shr (wD w), .shr (wD o), .shr (.int k), .shr (sD [sg w 0, sg w 2, sg w 5, sg w 9]), .shr (wD (late w)), s12, s13, s14, s15, s16, s17, s18, s19] = M.pure true := by
          simp only [len, oEq_int, bind_pure, lift_some, noX_pure, runDef, sNext, sSeq, sExpr, sRet, sRetN, sIf, sAsg, sPar2, sPar3, sAug, sOwn, noObj, sAppend, sFreeze, endOf, dVar, bVar, dC, dUn, dBin, dNil, dCons, dTup, dLst, dCall, asB, tVal, tAndD, tOrD, tNotD, dOfT, dIf, dAndV, dOrV, dNotV, oAdd, oAddI, oSub, oMod, oNeg, oLt, oLe, oGt, oGe, oIsNone, oNotNone, oIsN2, oNotN2, oAll, oAny, oSum, oTuple, oList, oAbs, oInt, oIx, asBs, asIs, wipeE, itemsOf, iVal, lcLoop, lcTurn, dLc, tYesD, gSet, gAll, gTupD, zipD, Sk.iZip, List.zip_cons_cons, List.zip_nil_right, List.zip_nil_left, List.map_cons, List.map_nil, List.length_cons, List.length_nil, List.replicate_succ, List.replicate_zero, List.cons_append, List.nil_append, List.append_nil, List.getElem?_cons_zero, List.getElem?_cons_succ, List.set_cons_zero, List.set_cons_succ, Option.map_some, Option.bind_some, Nat.reduceAdd, Nat.reduceSub, Nat.reduceLeDiff, ite_true, ite_false, Bool.false_eq_true, Bool.not_true, Bool.not_false, if_true, if_false, reduceIte, reduceCtorEq, List.sum_cons, List.sum_nil, List.all_cons, List.all_nil, List.any_cons, List.any_nil, id_eq, Bool.and_true, Bool.true_and, Bool.or_false, Bool.false_or, Bool.and_self, Bool.false_and, Bool.and_false, Bool.true_or, Bool.or_true, Int.cast_ofNat_Int, beq_self_eq_true, Int.reduceBEq, Int.reduceLT, Int.reduceLE, decide_true, decide_false]
        unfold tAndD
        rw [t0, bind_pure, if_pos rfl, t1]
    obtain ⟨r10, r11, rfl⟩ := p
    have na := f_nights_alike_eq hw ho (by omega) (m := 40) (by omega)
    have nb := f_nights_alike_eq ho hw (by omega) (m := 40) (by omega)
    have nv := f_nights_alike_eq (WB.mono hw (show 5 ≤ 8 by omega)) hv (by omega) (m := 20) (by omega)
    have cm : ((List.range (40 + 1)).filter fun (n : Nat) => sameB o w (n : Int)) = (List.range (40 + 1)).filter fun (n : Nat) => sameB w o (n : Int) := by
      congr 1
      funext n
      exact sameB_comm o w _
    rw [cm] at nb
    generalize hF : ((List.range (40 + 1)).filter fun (n : Nat) => sameB w o (n : Int)) = F at na nb
    refine Ev.asg (e' := [.shr (.scr ns), .shr (.cel 0), .shr x, .shr (wD (timesW k w)), .shr (optT (leastO (cross w.1 w.2))), .shr (.lst (natsD F)), s6, .shr (wD w), .shr (wD o), .shr (.int k), r10, r11, s12, s13, s14, s15, s16, s17, s18, s19]) ?_ ?_
    · have na2 : f_nights_alike [wD w, wD o, .int 40] = M.pure (.tup (natsD F)) := na
      simp only [na2, bind_pure, lift_some, noX_pure, runDef, sNext, sSeq, sExpr, sRet, sRetN, sIf, sAsg, sPar2, sPar3, sAug, sOwn, noObj, sAppend, sFreeze, endOf, dVar, bVar, dC, dUn, dBin, dNil, dCons, dTup, dLst, dCall, asB, tVal, tAndD, tOrD, tNotD, dOfT, dIf, dAndV, dOrV, dNotV, oAdd, oAddI, oSub, oMod, oNeg, oLt, oLe, oGt, oGe, oIsNone, oNotNone, oIsN2, oNotN2, oAll, oAny, oSum, oLen, oTuple, oList, oAbs, oInt, oIx, asBs, asIs, wipeE, itemsOf, iVal, lcLoop, lcTurn, dLc, tYesD, gSet, gAll, gTupD, zipD, Sk.iZip, List.zip_cons_cons, List.zip_nil_right, List.zip_nil_left, List.map_cons, List.map_nil, List.length_cons, List.length_nil, List.replicate_succ, List.replicate_zero, List.cons_append, List.nil_append, List.append_nil, List.getElem?_cons_zero, List.getElem?_cons_succ, List.set_cons_zero, List.set_cons_succ, Option.map_some, Option.bind_some, Nat.reduceAdd, Nat.reduceSub, Nat.reduceLeDiff, ite_true, ite_false, Bool.false_eq_true, Bool.not_true, Bool.not_false, if_true, if_false, reduceIte, reduceCtorEq, List.sum_cons, List.sum_nil, List.all_cons, List.all_nil, List.any_cons, List.any_nil, id_eq, Bool.and_true, Bool.true_and, Bool.or_false, Bool.false_or, Bool.and_self, Bool.false_and, Bool.and_false, Bool.true_or, Bool.or_true, Int.cast_ofNat_Int, beq_self_eq_true, Int.reduceBEq, Int.reduceLT, Int.reduceLE, decide_true, decide_false]
    refine Ev.seq (Q := fun e => ∃ r6 r12 r15 r16 : Slot, e = [.shr (.scr ns), .shr (.cel 0), .shr x, .shr (wD (timesW k w)), .shr (optT (leastO (cross w.1 w.2))), .shr (.lst (natsD F)), r6, .shr (wD w), .shr (wD o), .shr (.int k), r10, r11, r12, s13, s14, r15, r16, s17, s18, s19]) (Ev.for (xs := rangeD 0 41) rfl (fun y hy e he => ?_) ⟨_, _, _, _, rfl⟩) fun e he => ?_
    · obtain ⟨r6, r12, r15, r16, rfl⟩ := he
      obtain ⟨n, hn, rfl⟩ := mem_range (n := 41) hy
      refine ⟨[.shr (.scr ns), .shr (.cel 0), .shr x, .shr (wD (timesW k w)), .shr (optT (leastO (cross w.1 w.2))), .shr (.lst (natsD F)), .shr (.int (n : Int)), .shr (wD w), .shr (wD o), .shr (.int k), r10, r11, r12, s13, s14, r15, r16, s17, s18, s19], rfl, ?_⟩
      have nk : nOk (n : Int) := ⟨by omega, by omega⟩
      have l1 := f__law_at_eq hw (by omega) nk
      have l2 := f__law_at_eq ho (by omega) nk
      have b1 := B.at_ hw nk.1 nk.2
      have b2 := B.at_ ho nk.1 nk.2
      have lx := f__law_cross_eq b1 b2 (by omega) (by omega)
      have ld := f__law_dot_eq b1 b2 (by omega) (by omega)
      refine Ev.asg (e' := [.shr (.scr ns), .shr (.cel 0), .shr x, .shr (wD (timesW k w)), .shr (optT (leastO (cross w.1 w.2))), .shr (.lst (natsD F)), .shr (.int (n : Int)), .shr (wD w), .shr (wD o), .shr (.int k), r10, r11, r12, s13, s14, .shr (tD (at_ w (n : Int))), .shr (tD (at_ o (n : Int))), s17, s18, s19]) ?_ ?_
      · simp only [l1, l2, bind_pure, lift_some, noX_pure, runDef, sNext, sSeq, sExpr, sRet, sRetN, sIf, sAsg, sPar2, sPar3, sAug, sOwn, noObj, sAppend, sFreeze, endOf, dVar, bVar, dC, dUn, dBin, dNil, dCons, dTup, dLst, dCall, asB, tVal, tAndD, tOrD, tNotD, dOfT, dIf, dAndV, dOrV, dNotV, oAdd, oAddI, oSub, oMod, oNeg, oLt, oLe, oGt, oGe, oIsNone, oNotNone, oIsN2, oNotN2, oAll, oAny, oSum, oLen, oTuple, oList, oAbs, oInt, oIx, asBs, asIs, wipeE, itemsOf, iVal, lcLoop, lcTurn, dLc, tYesD, gSet, gAll, gTupD, zipD, Sk.iZip, List.zip_cons_cons, List.zip_nil_right, List.zip_nil_left, List.map_cons, List.map_nil, List.length_cons, List.length_nil, List.replicate_succ, List.replicate_zero, List.cons_append, List.nil_append, List.append_nil, List.getElem?_cons_zero, List.getElem?_cons_succ, List.set_cons_zero, List.set_cons_succ, Option.map_some, Option.bind_some, Nat.reduceAdd, Nat.reduceSub, Nat.reduceLeDiff, ite_true, ite_false, Bool.false_eq_true, Bool.not_true, Bool.not_false, if_true, if_false, reduceIte, reduceCtorEq, List.sum_cons, List.sum_nil, List.all_cons, List.all_nil, List.any_cons, List.any_nil, id_eq, Bool.and_true, Bool.true_and, Bool.or_false, Bool.false_or, Bool.and_self, Bool.false_and, Bool.and_false, Bool.true_or, Bool.or_true, Int.cast_ofNat_Int, beq_self_eq_true, Int.reduceBEq, Int.reduceLT, Int.reduceLE, decide_true, decide_false]
      refine Ev.asg (e' := [.shr (.scr ns), .shr (.cel 0), .shr x, .shr (wD (timesW k w)), .shr (optT (leastO (cross w.1 w.2))), .shr (.lst (natsD F)), .shr (.int (n : Int)), .shr (wD w), .shr (wD o), .shr (.int k), r10, r11, .shr (.bl (alikeB (at_ w (n : Int)) (at_ o (n : Int)))), s13, s14, .shr (tD (at_ w (n : Int))), .shr (tD (at_ o (n : Int))), s17, s18, s19]) ?_ ?_
      · unfold alikeB
        have oz := oNotIn_z (at_ w (n : Int)) (at_ o (n : Int))
        cases c1 : decide (at_ w (n : Int) = z3) <;> cases c2 : decide (at_ o (n : Int) = z3) <;> cases c3 : decide (cross (at_ w (n : Int)) (at_ o (n : Int)) = z3) <;> cases c4 : decide (0 < dot (at_ w (n : Int)) (at_ o (n : Int))) <;> (rw [c1, c2] at oz; simp only [oz, lx, ld, oEq_z3, c3, c4, bind_pure, lift_some, noX_pure, runDef, sNext, sSeq, sExpr, sRet, sRetN, sIf, sAsg, sPar2, sPar3, sAug, sOwn, noObj, sAppend, sFreeze, endOf, dVar, bVar, dC, dUn, dBin, dNil, dCons, dTup, dLst, dCall, asB, tVal, tAndD, tOrD, tNotD, dOfT, dIf, dAndV, dOrV, dNotV, oAdd, oAddI, oSub, oMod, oNeg, oLt, oLe, oGt, oGe, oIsNone, oNotNone, oIsN2, oNotN2, oAll, oAny, oSum, oLen, oTuple, oList, oAbs, oInt, oIx, asBs, asIs, wipeE, itemsOf, iVal, lcLoop, lcTurn, dLc, tYesD, gSet, gAll, gTupD, zipD, Sk.iZip, List.zip_cons_cons, List.zip_nil_right, List.zip_nil_left, List.map_cons, List.map_nil, List.length_cons, List.length_nil, List.replicate_succ, List.replicate_zero, List.cons_append, List.nil_append, List.append_nil, List.getElem?_cons_zero, List.getElem?_cons_succ, List.set_cons_zero, List.set_cons_succ, Option.map_some, Option.bind_some, Nat.reduceAdd, Nat.reduceSub, Nat.reduceLeDiff, ite_true, ite_false, Bool.false_eq_true, Bool.not_true, Bool.not_false, if_true, if_false, reduceIte, reduceCtorEq, List.sum_cons, List.sum_nil, List.all_cons, List.all_nil, List.any_cons, List.any_nil, id_eq, Bool.and_true, Bool.true_and, Bool.or_false, Bool.false_or, Bool.and_self, Bool.false_and, Bool.and_false, Bool.true_or, Bool.or_true, Int.cast_ofNat_Int, beq_self_eq_true, Int.reduceBEq, Int.reduceLT, Int.reduceLE, decide_true, decide_false])
      refine Ev.guardE ?_ ⟨_, rfl, _, _, _, _, rfl⟩
      have oi := oIn_nats n F
      have mm : decide (n ∈ F) = alikeB (at_ w (n : Int)) (at_ o (n : Int)) := by
        rw [← sameB_eq, ← hF]
        have : n ∈ List.range (40 + 1) := List.mem_range.mpr (by omega)
        cases q : sameB w o (n : Int) with
        | true => exact decide_eq_true (List.mem_filter.mpr ⟨this, q⟩)
        | false =>
          refine decide_eq_false fun z => ?_
          have := (List.mem_filter.mp z).2
          rw [q] at this
          cases this
      rw [mm] at oi
      simp only [oi, oNe_bl, bind_pure, lift_some, noX_pure, runDef, sNext, sSeq, sExpr, sRet, sRetN, sIf, sAsg, sPar2, sPar3, sAug, sOwn, noObj, sAppend, sFreeze, endOf, dVar, bVar, dC, dUn, dBin, dNil, dCons, dTup, dLst, dCall, asB, tVal, tAndD, tOrD, tNotD, dOfT, dIf, dAndV, dOrV, dNotV, oAdd, oAddI, oSub, oMod, oNeg, oLt, oLe, oGt, oGe, oIsNone, oNotNone, oIsN2, oNotN2, oAll, oAny, oSum, oLen, oTuple, oList, oAbs, oInt, oIx, asBs, asIs, wipeE, itemsOf, iVal, lcLoop, lcTurn, dLc, tYesD, gSet, gAll, gTupD, zipD, Sk.iZip, List.zip_cons_cons, List.zip_nil_right, List.zip_nil_left, List.map_cons, List.map_nil, List.length_cons, List.length_nil, List.replicate_succ, List.replicate_zero, List.cons_append, List.nil_append, List.append_nil, List.getElem?_cons_zero, List.getElem?_cons_succ, List.set_cons_zero, List.set_cons_succ, Option.map_some, Option.bind_some, Nat.reduceAdd, Nat.reduceSub, Nat.reduceLeDiff, ite_true, ite_false, Bool.false_eq_true, Bool.not_true, Bool.not_false, if_true, if_false, reduceIte, reduceCtorEq, List.sum_cons, List.sum_nil, List.all_cons, List.all_nil, List.any_cons, List.any_nil, id_eq, Bool.and_true, Bool.true_and, Bool.or_false, Bool.false_or, Bool.and_self, Bool.false_and, Bool.and_false, Bool.true_or, Bool.or_true, Int.cast_ofNat_Int, beq_self_eq_true, Int.reduceBEq, Int.reduceLT, Int.reduceLE, decide_true, decide_false]
    · obtain ⟨r6, r12, r15, r16, rfl⟩ := he
      refine Ev.guard ?_ ?_
      · have fv : ((List.range (20 + 1)).filter fun (n : Nat) => sameB w (timesW k w) (n : Int)) = (List.range (20 + 1)).filter fun (n : Nat) => (seenO w (n : Int)).isSome := by
          congr 1
          funext n
          unfold sameB
          rw [seen_times k0, decide_eq_true rfl, Bool.and_true]
        rw [fv] at nv
        have nv2 : f_nights_alike [wD w, wD (timesW k w), .int 20] = M.pure (.tup (natsD ((List.range (20 + 1)).filter fun (n : Nat) => (seenO w (n : Int)).isSome))) := nv
        have nb2 : f_nights_alike [wD o, wD w, .int 40] = M.pure (.tup (natsD F)) := nb
        have l : dLc [6] (iRange1 (dC (.int 21))) (gSet 6) (tVal (dBin oNotN2 (dCall f_seen (dCons (dVar 7) (dCons (dVar 6) dNil))) (dC .non))) (dVar 6) [.shr (.scr ns), .shr (.cel 0), .shr x, .shr (wD (timesW k w)), .shr (optT (leastO (cross w.1 w.2))), .shr (.lst (natsD F)), r6, .shr (wD w), .shr (wD o), .shr (.int k), r10, r11, r12, s13, s14, r15, r16, s17, s18, s19] = M.pure (.lst ((rangeD 0 ((21 : Nat) : Int)).flatMap fun y => match y with | .int n => if (seenO w n).isSome = true then [.int n] else [] | _ => [])) := by
          refine dLc_det _ rfl (by decide) fun y hy => ?_
          obtain ⟨n, hn, rfl⟩ := mem_range (n := 21) hy
          have s2 := f_seen_eq (n := (n : Int)) hw (by omega) (by omega) (by omega)
          cases q : seenO w (n : Int) with
          | none =>
            rw [q] at s2
            simp only [s2, q, optT, Option.isSome_none, bind_pure, lift_some, noX_pure, runDef, sNext, sSeq, sExpr, sRet, sRetN, sIf, sAsg, sPar2, sPar3, sAug, sOwn, noObj, sAppend, sFreeze, endOf, dVar, bVar, dC, dUn, dBin, dNil, dCons, dTup, dLst, dCall, asB, tVal, tAndD, tOrD, tNotD, dOfT, dIf, dAndV, dOrV, dNotV, oAdd, oAddI, oSub, oMod, oNeg, oLt, oLe, oGt, oGe, oIsNone, oNotNone, oIsN2, oNotN2, oAll, oAny, oSum, oLen, oTuple, oList, oAbs, oInt, oIx, asBs, asIs, wipeE, itemsOf, iVal, lcLoop, lcTurn, dLc, tYesD, gSet, gAll, gTupD, zipD, Sk.iZip, List.zip_cons_cons, List.zip_nil_right, List.zip_nil_left, List.map_cons, List.map_nil, List.length_cons, List.length_nil, List.replicate_succ, List.replicate_zero, List.cons_append, List.nil_append, List.append_nil, List.getElem?_cons_zero, List.getElem?_cons_succ, List.set_cons_zero, List.set_cons_succ, Option.map_some, Option.bind_some, Nat.reduceAdd, Nat.reduceSub, Nat.reduceLeDiff, ite_true, ite_false, Bool.false_eq_true, Bool.not_true, Bool.not_false, if_true, if_false, reduceIte, reduceCtorEq, List.sum_cons, List.sum_nil, List.all_cons, List.all_nil, List.any_cons, List.any_nil, id_eq, Bool.and_true, Bool.true_and, Bool.or_false, Bool.false_or, Bool.and_self, Bool.false_and, Bool.and_false, Bool.true_or, Bool.or_true, Int.cast_ofNat_Int, beq_self_eq_true, Int.reduceBEq, Int.reduceLT, Int.reduceLE, decide_true, decide_false]
          | some a =>
            rw [q] at s2
            have nn : oNotN2 (optT (some a)) .non = M.pure (.bl true) := rfl
            simp only [s2, q, nn, Option.isSome_some, bind_pure, lift_some, noX_pure, runDef, sNext, sSeq, sExpr, sRet, sRetN, sIf, sAsg, sPar2, sPar3, sAug, sOwn, noObj, sAppend, sFreeze, endOf, dVar, bVar, dC, dUn, dBin, dNil, dCons, dTup, dLst, dCall, asB, tVal, tAndD, tOrD, tNotD, dOfT, dIf, dAndV, dOrV, dNotV, oAdd, oAddI, oSub, oMod, oNeg, oLt, oLe, oGt, oGe, oIsNone, oNotNone, oIsN2, oAll, oAny, oSum, oLen, oTuple, oList, oAbs, oInt, oIx, asBs, asIs, wipeE, itemsOf, iVal, lcLoop, lcTurn, dLc, tYesD, gSet, gAll, gTupD, zipD, Sk.iZip, List.zip_cons_cons, List.zip_nil_right, List.zip_nil_left, List.map_cons, List.map_nil, List.length_cons, List.length_nil, List.replicate_succ, List.replicate_zero, List.cons_append, List.nil_append, List.append_nil, List.getElem?_cons_zero, List.getElem?_cons_succ, List.set_cons_zero, List.set_cons_succ, Option.map_some, Option.bind_some, Nat.reduceAdd, Nat.reduceSub, Nat.reduceLeDiff, ite_true, ite_false, Bool.false_eq_true, Bool.not_true, Bool.not_false, if_true, if_false, reduceIte, reduceCtorEq, List.sum_cons, List.sum_nil, List.all_cons, List.all_nil, List.any_cons, List.any_nil, id_eq, Bool.and_true, Bool.true_and, Bool.or_false, Bool.false_or, Bool.and_self, Bool.false_and, Bool.and_false, Bool.true_or, Bool.or_true, Int.cast_ofNat_Int, beq_self_eq_true, Int.reduceBEq, Int.reduceLT, Int.reduceLE, decide_true, decide_false]
        rw [flat_range 21 (fun n => (seenO w (n : Int)).isSome) _ fun _ _ => rfl] at l
        have n1 := oNe_nats ((List.range (20 + 1)).filter fun (n : Nat) => (seenO w (n : Int)).isSome)
        have n2 := oNe_nats F
        have t1 : tVal (dBin oNe (dUn oList (dCall f_nights_alike (dCons (dVar 7) (dCons (dVar 3) (dCons (dC (.int 20)) dNil))))) (dLc [6] (iRange1 (dC (.int 21))) (gSet 6) (tVal (dBin oNotN2 (dCall f_seen (dCons (dVar 7) (dCons (dVar 6) dNil))) (dC .non))) (dVar 6))) [.shr (.scr ns), .shr (.cel 0), .shr x, .shr (wD (timesW k w)), .shr (optT (leastO (cross w.1 w.2))), .shr (.lst (natsD F)), r6, .shr (wD w), .shr (wD o), .shr (.int k), r10, r11, r12, s13, s14, r15, r16, s17, s18, s19] = M.pure false := by
          unfold tVal dBin
          have z : dUn oList (dCall f_nights_alike (dCons (dVar 7) (dCons (dVar 3) (dCons (dC (.int 20)) dNil)))) [.shr (.scr ns), .shr (.cel 0), .shr x, .shr (wD (timesW k w)), .shr (optT (leastO (cross w.1 w.2))), .shr (.lst (natsD F)), r6, .shr (wD w), .shr (wD o), .shr (.int k), r10, r11, r12, s13, s14, r15, r16, s17, s18, s19] = M.pure (.lst (natsD ((List.range (20 + 1)).filter fun (n : Nat) => (seenO w (n : Int)).isSome))) := by
            simp only [nv2, bind_pure, lift_some, noX_pure, runDef, sNext, sSeq, sExpr, sRet, sRetN, sIf, sAsg, sPar2, sPar3, sAug, sOwn, noObj, sAppend, sFreeze, endOf, dVar, bVar, dC, dUn, dBin, dNil, dCons, dTup, dLst, dCall, asB, tVal, tAndD, tOrD, tNotD, dOfT, dIf, dAndV, dOrV, dNotV, oAdd, oAddI, oSub, oMod, oNeg, oLt, oLe, oGt, oGe, oIsNone, oNotNone, oIsN2, oNotN2, oAll, oAny, oSum, oLen, oTuple, oList, oAbs, oInt, oIx, asBs, asIs, wipeE, itemsOf, iVal, lcLoop, lcTurn, dLc, tYesD, gSet, gAll, gTupD, zipD, Sk.iZip, List.zip_cons_cons, List.zip_nil_right, List.zip_nil_left, List.map_cons, List.map_nil, List.length_cons, List.length_nil, List.replicate_succ, List.replicate_zero, List.cons_append, List.nil_append, List.append_nil, List.getElem?_cons_zero, List.getElem?_cons_succ, List.set_cons_zero, List.set_cons_succ, Option.map_some, Option.bind_some, Nat.reduceAdd, Nat.reduceSub, Nat.reduceLeDiff, ite_true, ite_false, Bool.false_eq_true, Bool.not_true, Bool.not_false, if_true, if_false, reduceIte, reduceCtorEq, List.sum_cons, List.sum_nil, List.all_cons, List.all_nil, List.any_cons, List.any_nil, id_eq, Bool.and_true, Bool.true_and, Bool.or_false, Bool.false_or, Bool.and_self, Bool.false_and, Bool.and_false, Bool.true_or, Bool.or_true, Int.cast_ofNat_Int, beq_self_eq_true, Int.reduceBEq, Int.reduceLT, Int.reduceLE, decide_true, decide_false]
          rw [z, bind_pure]
          unfold tVal dBin at l
          rw [l, bind_pure]
          show M.bind (oNe (.lst (natsD ((List.range (20 + 1)).filter fun (n : Nat) => (seenO w (n : Int)).isSome))) (.lst (natsD ((List.range (20 + 1)).filter fun (n : Nat) => (seenO w (n : Int)).isSome)))) asB = _
          rw [n1]
          rfl
        unfold tOrD
        rw [t1, bind_pure, if_neg (by decide)]
        simp only [nb2, n2, bind_pure, lift_some, noX_pure, runDef, sNext, sSeq, sExpr, sRet, sRetN, sIf, sAsg, sPar2, sPar3, sAug, sOwn, noObj, sAppend, sFreeze, endOf, dVar, bVar, dC, dUn, dBin, dNil, dCons, dTup, dLst, dCall, asB, tVal, tAndD, tOrD, tNotD, dOfT, dIf, dAndV, dOrV, dNotV, oAdd, oAddI, oSub, oMod, oNeg, oLt, oLe, oGt, oGe, oIsNone, oNotNone, oIsN2, oNotN2, oAll, oAny, oSum, oLen, oTuple, oList, oAbs, oInt, oIx, asBs, asIs, wipeE, itemsOf, iVal, lcLoop, lcTurn, dLc, tYesD, gSet, gAll, gTupD, zipD, Sk.iZip, List.zip_cons_cons, List.zip_nil_right, List.zip_nil_left, List.map_cons, List.map_nil, List.length_cons, List.length_nil, List.replicate_succ, List.replicate_zero, List.cons_append, List.nil_append, List.append_nil, List.getElem?_cons_zero, List.getElem?_cons_succ, List.set_cons_zero, List.set_cons_succ, Option.map_some, Option.bind_some, Nat.reduceAdd, Nat.reduceSub, Nat.reduceLeDiff, ite_true, ite_false, Bool.false_eq_true, Bool.not_true, Bool.not_false, if_true, if_false, reduceIte, reduceCtorEq, List.sum_cons, List.sum_nil, List.all_cons, List.all_nil, List.any_cons, List.any_nil, id_eq, Bool.and_true, Bool.true_and, Bool.or_false, Bool.false_or, Bool.and_self, Bool.false_and, Bool.and_false, Bool.true_or, Bool.or_true, Int.cast_ofNat_Int, beq_self_eq_true, Int.reduceBEq, Int.reduceLT, Int.reduceLE, decide_true, decide_false]
      have cb2 := f_circle_of_eq ho (by omega)
      refine Ev.asg (e' := [.shr (.scr ns), .shr (.cel 0), .shr x, .shr (wD (timesW k w)), .shr (optT (leastO (cross w.1 w.2))), .shr (.lst (natsD F)), r6, .shr (wD w), .shr (wD o), .shr (.int k), r10, r11, r12, .shr (optT (leastO (cross w.1 w.2))), .shr (optT (leastO (cross o.1 o.2))), r15, r16, s17, s18, s19]) ?_ ?_
      · simp only [cb, cb2, bind_pure, lift_some, noX_pure, runDef, sNext, sSeq, sExpr, sRet, sRetN, sIf, sAsg, sPar2, sPar3, sAug, sOwn, noObj, sAppend, sFreeze, endOf, dVar, bVar, dC, dUn, dBin, dNil, dCons, dTup, dLst, dCall, asB, tVal, tAndD, tOrD, tNotD, dOfT, dIf, dAndV, dOrV, dNotV, oAdd, oAddI, oSub, oMod, oNeg, oLt, oLe, oGt, oGe, oIsNone, oNotNone, oIsN2, oNotN2, oAll, oAny, oSum, oLen, oTuple, oList, oAbs, oInt, oIx, asBs, asIs, wipeE, itemsOf, iVal, lcLoop, lcTurn, dLc, tYesD, gSet, gAll, gTupD, zipD, Sk.iZip, List.zip_cons_cons, List.zip_nil_right, List.zip_nil_left, List.map_cons, List.map_nil, List.length_cons, List.length_nil, List.replicate_succ, List.replicate_zero, List.cons_append, List.nil_append, List.append_nil, List.getElem?_cons_zero, List.getElem?_cons_succ, List.set_cons_zero, List.set_cons_succ, Option.map_some, Option.bind_some, Nat.reduceAdd, Nat.reduceSub, Nat.reduceLeDiff, ite_true, ite_false, Bool.false_eq_true, Bool.not_true, Bool.not_false, if_true, if_false, reduceIte, reduceCtorEq, List.sum_cons, List.sum_nil, List.all_cons, List.all_nil, List.any_cons, List.any_nil, id_eq, Bool.and_true, Bool.true_and, Bool.or_false, Bool.false_or, Bool.and_self, Bool.false_and, Bool.and_false, Bool.true_or, Bool.or_true, Int.cast_ofNat_Int, beq_self_eq_true, Int.reduceBEq, Int.reduceLT, Int.reduceLE, decide_true, decide_false]
      refine Ev.guard ?_ ?_
      · by_cases c : cross w.1 w.2 = z3
        · have e0 : leastO (cross w.1 w.2) = none := by rw [c]; exact leastO_z
          simp only [e0, optT, bind_pure, lift_some, noX_pure, runDef, sNext, sSeq, sExpr, sRet, sRetN, sIf, sAsg, sPar2, sPar3, sAug, sOwn, noObj, sAppend, sFreeze, endOf, dVar, bVar, dC, dUn, dBin, dNil, dCons, dTup, dLst, dCall, asB, tVal, tAndD, tOrD, tNotD, dOfT, dIf, dAndV, dOrV, dNotV, oAdd, oAddI, oSub, oMod, oNeg, oLt, oLe, oGt, oGe, oIsNone, oNotNone, oIsN2, oNotN2, oAll, oAny, oSum, oLen, oTuple, oList, oAbs, oInt, oIx, asBs, asIs, wipeE, itemsOf, iVal, lcLoop, lcTurn, dLc, tYesD, gSet, gAll, gTupD, zipD, Sk.iZip, List.zip_cons_cons, List.zip_nil_right, List.zip_nil_left, List.map_cons, List.map_nil, List.length_cons, List.length_nil, List.replicate_succ, List.replicate_zero, List.cons_append, List.nil_append, List.append_nil, List.getElem?_cons_zero, List.getElem?_cons_succ, List.set_cons_zero, List.set_cons_succ, Option.map_some, Option.bind_some, Nat.reduceAdd, Nat.reduceSub, Nat.reduceLeDiff, ite_true, ite_false, Bool.false_eq_true, Bool.not_true, Bool.not_false, if_true, if_false, reduceIte, reduceCtorEq, List.sum_cons, List.sum_nil, List.all_cons, List.all_nil, List.any_cons, List.any_nil, id_eq, Bool.and_true, Bool.true_and, Bool.or_false, Bool.false_or, Bool.and_self, Bool.false_and, Bool.and_false, Bool.true_or, Bool.or_true, Int.cast_ofNat_Int, beq_self_eq_true, Int.reduceBEq, Int.reduceLT, Int.reduceLE, decide_true, decide_false]
        · by_cases c2 : cross o.1 o.2 = z3
          · have e0 : leastO (cross o.1 o.2) = none := by rw [c2]; exact leastO_z
            have n2 : oNotN2 (optT (some (least (cross w.1 w.2)))) .non = M.pure (.bl true) := rfl
            have n3 : oNotN2 (optT none) .non = M.pure (.bl false) := rfl
            simp only [e0, leastO_ne c, n2, n3, bind_pure, lift_some, noX_pure, runDef, sNext, sSeq, sExpr, sRet, sRetN, sIf, sAsg, sPar2, sPar3, sAug, sOwn, noObj, sAppend, sFreeze, endOf, dVar, bVar, dC, dUn, dBin, dNil, dCons, dTup, dLst, dCall, asB, tVal, tAndD, tOrD, tNotD, dOfT, dIf, dAndV, dOrV, dNotV, oAdd, oAddI, oSub, oMod, oNeg, oLt, oLe, oGt, oGe, oIsNone, oNotNone, oIsN2, oAll, oAny, oSum, oLen, oTuple, oList, oAbs, oInt, oIx, asBs, asIs, wipeE, itemsOf, iVal, lcLoop, lcTurn, dLc, tYesD, gSet, gAll, gTupD, zipD, Sk.iZip, List.zip_cons_cons, List.zip_nil_right, List.zip_nil_left, List.map_cons, List.map_nil, List.length_cons, List.length_nil, List.replicate_succ, List.replicate_zero, List.cons_append, List.nil_append, List.append_nil, List.getElem?_cons_zero, List.getElem?_cons_succ, List.set_cons_zero, List.set_cons_succ, Option.map_some, Option.bind_some, Nat.reduceAdd, Nat.reduceSub, Nat.reduceLeDiff, ite_true, ite_false, Bool.false_eq_true, Bool.not_true, Bool.not_false, if_true, if_false, reduceIte, reduceCtorEq, List.sum_cons, List.sum_nil, List.all_cons, List.all_nil, List.any_cons, List.any_nil, id_eq, Bool.and_true, Bool.true_and, Bool.or_false, Bool.false_or, Bool.and_self, Bool.false_and, Bool.and_false, Bool.true_or, Bool.or_true, Int.cast_ofNat_Int, beq_self_eq_true, Int.reduceBEq, Int.reduceLT, Int.reduceLE, decide_true, decide_false]
          · have n2 : oNotN2 (optT (some (least (cross w.1 w.2)))) .non = M.pure (.bl true) := rfl
            have n3 : oNotN2 (optT (some (least (cross o.1 o.2)))) .non = M.pure (.bl true) := rfl
            have d1 := (B.cross hw.1 hw.2).least c
            have d2 := (B.cross ho.1 ho.2).least c2
            have lx := f__law_cross_eq d1 d2 (by omega) (by omega)
            have lx2 : f__law_cross [optT (some (least (cross w.1 w.2))), optT (some (least (cross o.1 o.2)))] = M.pure (tD (cross (least (cross w.1 w.2)) (least (cross o.1 o.2)))) := lx
            by_cases c3 : cross (least (cross w.1 w.2)) (least (cross o.1 o.2)) = z3
            · simp only [leastO_ne c, leastO_ne c2, n2, n3, lx2, oNe_z3, decide_eq_true c3, bind_pure, lift_some, noX_pure, runDef, sNext, sSeq, sExpr, sRet, sRetN, sIf, sAsg, sPar2, sPar3, sAug, sOwn, noObj, sAppend, sFreeze, endOf, dVar, bVar, dC, dUn, dBin, dNil, dCons, dTup, dLst, dCall, asB, tVal, tAndD, tOrD, tNotD, dOfT, dIf, dAndV, dOrV, dNotV, oAdd, oAddI, oSub, oMod, oNeg, oLt, oLe, oGt, oGe, oIsNone, oNotNone, oIsN2, oAll, oAny, oSum, oLen, oTuple, oList, oAbs, oInt, oIx, asBs, asIs, wipeE, itemsOf, iVal, lcLoop, lcTurn, dLc, tYesD, gSet, gAll, gTupD, zipD, Sk.iZip, List.zip_cons_cons, List.zip_nil_right, List.zip_nil_left, List.map_cons, List.map_nil, List.length_cons, List.length_nil, List.replicate_succ, List.replicate_zero, List.cons_append, List.nil_append, List.append_nil, List.getElem?_cons_zero, List.getElem?_cons_succ, List.set_cons_zero, List.set_cons_succ, Option.map_some, Option.bind_some, Nat.reduceAdd, Nat.reduceSub, Nat.reduceLeDiff, ite_true, ite_false, Bool.false_eq_true, Bool.not_true, Bool.not_false, if_true, if_false, reduceIte, reduceCtorEq, List.sum_cons, List.sum_nil, List.all_cons, List.all_nil, List.any_cons, List.any_nil, id_eq, Bool.and_true, Bool.true_and, Bool.or_false, Bool.false_or, Bool.and_self, Bool.false_and, Bool.and_false, Bool.true_or, Bool.or_true, Int.cast_ofNat_Int, beq_self_eq_true, Int.reduceBEq, Int.reduceLT, Int.reduceLE, decide_true, decide_false]
            · have fw := few c (cross_leasts c c2 c3) (40 + 1)
              rw [hF] at fw
              have ln : oLen (.lst (natsD F)) = M.pure (.int (F.length : Nat)) := by
                show M.pure (D.int ((natsD F).length : Nat)) = _
                unfold natsD
                rw [List.length_map]
              have g : decide ((2 : Int) < (F.length : Nat)) = false := decide_eq_false (by omega)
              simp only [leastO_ne c, leastO_ne c2, n2, n3, lx2, oNe_z3, decide_eq_false c3, ln, g, bind_pure, lift_some, noX_pure, runDef, sNext, sSeq, sExpr, sRet, sRetN, sIf, sAsg, sPar2, sPar3, sAug, sOwn, noObj, sAppend, sFreeze, endOf, dVar, bVar, dC, dUn, dBin, dNil, dCons, dTup, dLst, dCall, asB, tVal, tAndD, tOrD, tNotD, dOfT, dIf, dAndV, dOrV, dNotV, oAdd, oAddI, oSub, oMod, oNeg, oLt, oLe, oGt, oGe, oIsNone, oNotNone, oIsN2, oAll, oAny, oSum, oTuple, oList, oAbs, oInt, oIx, asBs, asIs, wipeE, itemsOf, iVal, lcLoop, lcTurn, dLc, tYesD, gSet, gAll, gTupD, zipD, Sk.iZip, List.zip_cons_cons, List.zip_nil_right, List.zip_nil_left, List.map_cons, List.map_nil, List.length_cons, List.length_nil, List.replicate_succ, List.replicate_zero, List.cons_append, List.nil_append, List.append_nil, List.getElem?_cons_zero, List.getElem?_cons_succ, List.set_cons_zero, List.set_cons_succ, Option.map_some, Option.bind_some, Nat.reduceAdd, Nat.reduceSub, Nat.reduceLeDiff, ite_true, ite_false, Bool.false_eq_true, Bool.not_true, Bool.not_false, if_true, if_false, reduceIte, reduceCtorEq, List.sum_cons, List.sum_nil, List.all_cons, List.all_nil, List.any_cons, List.any_nil, id_eq, Bool.and_true, Bool.true_and, Bool.or_false, Bool.false_or, Bool.and_self, Bool.false_and, Bool.and_false, Bool.true_or, Bool.or_true, Int.cast_ofNat_Int, beq_self_eq_true, Int.reduceBEq, Int.reduceLT, Int.reduceLE, decide_true, decide_false]
      refine Ev.guardE ?_ ⟨_, rfl, _, _, _, _, _, _, _, _, _, _, _, _, _, _, _, _, _, _, rfl⟩
      by_cases c : cross w.1 w.2 = z3
      · have e0 : leastO (cross w.1 w.2) = none := by rw [c]; exact leastO_z
        simp only [e0, optT, bind_pure, lift_some, noX_pure, runDef, sNext, sSeq, sExpr, sRet, sRetN, sIf, sAsg, sPar2, sPar3, sAug, sOwn, noObj, sAppend, sFreeze, endOf, dVar, bVar, dC, dUn, dBin, dNil, dCons, dTup, dLst, dCall, asB, tVal, tAndD, tOrD, tNotD, dOfT, dIf, dAndV, dOrV, dNotV, oAdd, oAddI, oSub, oMod, oNeg, oLt, oLe, oGt, oGe, oIsNone, oNotNone, oIsN2, oNotN2, oAll, oAny, oSum, oLen, oTuple, oList, oAbs, oInt, oIx, asBs, asIs, wipeE, itemsOf, iVal, lcLoop, lcTurn, dLc, tYesD, gSet, gAll, gTupD, zipD, Sk.iZip, List.zip_cons_cons, List.zip_nil_right, List.zip_nil_left, List.map_cons, List.map_nil, List.length_cons, List.length_nil, List.replicate_succ, List.replicate_zero, List.cons_append, List.nil_append, List.append_nil, List.getElem?_cons_zero, List.getElem?_cons_succ, List.set_cons_zero, List.set_cons_succ, Option.map_some, Option.bind_some, Nat.reduceAdd, Nat.reduceSub, Nat.reduceLeDiff, ite_true, ite_false, Bool.false_eq_true, Bool.not_true, Bool.not_false, if_true, if_false, reduceIte, reduceCtorEq, List.sum_cons, List.sum_nil, List.all_cons, List.all_nil, List.any_cons, List.any_nil, id_eq, Bool.and_true, Bool.true_and, Bool.or_false, Bool.false_or, Bool.and_self, Bool.false_and, Bool.and_false, Bool.true_or, Bool.or_true, Int.cast_ofNat_Int, beq_self_eq_true, Int.reduceBEq, Int.reduceLT, Int.reduceLE, decide_true, decide_false]
      · have n2 : oNotN2 (optT (some (least (cross w.1 w.2)))) .non = M.pure (.bl true) := rfl
        have s0 := f_seen_eq (n := 0) hw (by omega) (by omega) (by omega)
        have s1 := f_seen_eq (n := 1) hw (by omega) (by omega) (by omega)
        rw [seen_some c] at s0 s1
        have n3 : oNotN2 (optT (some (least (at_ w 0)))) .non = M.pure (.bl true) := rfl
        have n4 : oNotN2 (optT (some (least (at_ w 1)))) .non = M.pure (.bl true) := rfl
        obtain ⟨u, v, j2⟩ := judge2 hw c (n0 := 0) (n1 := 1) ⟨by omega, by omega⟩ (by omega) ⟨by omega, by omega⟩
        have j3 : f_judge_way [.lst [.tup [.int 0, optT (some (least (at_ w 0)))], .tup [.int 1, optT (some (least (at_ w 1)))]]] = M.pure (.obj 1 [wD u, wD v]) := j2
        simp only [leastO_ne c, n2, s0, s1, n3, n4, j3, wD_ix0, wD_ix1, Way_init, eqO_ways, bind_pure, lift_some, noX_pure, runDef, sNext, sSeq, sExpr, sRet, sRetN, sIf, sAsg, sPar2, sPar3, sAug, sOwn, noObj, sAppend, sFreeze, endOf, dVar, bVar, dC, dUn, dBin, dNil, dCons, dTup, dLst, dCall, asB, tVal, tAndD, tOrD, tNotD, dOfT, dIf, dAndV, dOrV, dNotV, oAdd, oAddI, oSub, oMod, oNeg, oLt, oLe, oGt, oGe, oIsNone, oNotNone, oIsN2, oAll, oAny, oSum, oLen, oTuple, oList, oAbs, oInt, asBs, asIs, wipeE, itemsOf, iVal, lcLoop, lcTurn, dLc, tYesD, gSet, gAll, gTupD, zipD, Sk.iZip, List.zip_cons_cons, List.zip_nil_right, List.zip_nil_left, List.map_cons, List.map_nil, List.length_cons, List.length_nil, List.replicate_succ, List.replicate_zero, List.cons_append, List.nil_append, List.append_nil, List.getElem?_cons_zero, List.getElem?_cons_succ, List.set_cons_zero, List.set_cons_succ, Option.map_some, Option.bind_some, Nat.reduceAdd, Nat.reduceSub, Nat.reduceLeDiff, ite_true, ite_false, Bool.false_eq_true, Bool.not_true, Bool.not_false, if_true, if_false, reduceIte, reduceCtorEq, List.sum_cons, List.sum_nil, List.all_cons, List.all_nil, List.any_cons, List.any_nil, id_eq, Bool.and_true, Bool.true_and, Bool.or_false, Bool.false_or, Bool.and_self, Bool.false_and, Bool.and_false, Bool.true_or, Bool.or_true, Int.cast_ofNat_Int, beq_self_eq_true, Int.reduceBEq, Int.reduceLT, Int.reduceLE, decide_true, decide_false]
  · obtain ⟨s2, s3, s4, s5, s6, s7, s8, s9, s10, s11, s12, s13, s14, s15, s16, s17, s18, s19, rfl⟩ := he
    exact Ev.pure rfl
  · subst p
    exact Ev.pure rfl
end Lw

open PySem PySem.W PySem.Calls PyProof.Rows Sk
set_option maxRecDepth 100000 in
set_option maxHeartbeats 8000000 in
theorem PySem.Challenge.cw_skyplaced_k49_ways_multiplied_holds : PySem.Challenge.rw_skyplaced_k49_ways_multiplied.Holds := by
  w_on; o_law
  refine HandSHeadRun.head_any (r := OpenLaw.row PySem.Challenge.rw_skyplaced_k49_ways_multiplied) (q := view (OpenLaw.row PySem.Challenge.rw_skyplaced_k49_ways_multiplied).prog [47]) (H := Lw.hk) (ob := Lw.ob) (M := 8000) (loose := Lw.looseL) (d := HandSHeadRun.topDef (OpenLaw.row PySem.Challenge.rw_skyplaced_k49_ways_multiplied).prog 47) (kwd := []) Lw.ob_eq
    (by kernel_rfl) (fun s => by kernel_rfl) Lw.run (by kernel_rfl) (by kernel_rfl) (by kernel_rfl) (by rfl) (by first | assumption | decide +kernel) (by decide +kernel) ⟨rfl, rfl, rfl, rfl, rfl, by decide +kernel⟩ ?hw ?hc
  case hw => w_witness2
  case hc =>
    refine Sk.walk_M (l := PySem.Challenge.rw_skyplaced_k49_ways_multiplied) (k := 10) rfl (by kernel_rfl) ⟨rfl, by decide, by decide⟩ Lw.f_law ?F Lw.law_true
    intro w mg fa h Y G hmg0
    obtain ⟨K, KX, c⟩ := Y
    have hmg : mg ("law" : PySem.Str) = some (.ref fa) := by
      have e : (HandSHeadRun.topDef (OpenLaw.row PySem.Challenge.rw_skyplaced_k49_ways_multiplied).prog 47).name = ("law" : PySem.Str) := by kernel_rfl
      rw [← e]
      exact hmg0
    obtain ⟨fd, hb, hF⟩ := Lw.facts (P := (PySem.Challenge.rw_skyplaced_k49_ways_multiplied).prog) (w := w) KX G hmg c
    exact ⟨K, _, fd, KX, hb, hF⟩
