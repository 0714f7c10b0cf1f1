import PyProof.Rows.All
import Wide.All
import OpenK.AllK
import Wide.FinOn
import HandS.ForMost
import HandS.Wide
import HandS.IsInst
import HandS.Walk
import HandS.Zip
import HandS.NoneIn
import HandS.Style
import HandS.ForExc
import HandS.Defaults
import HandS.HeadEnd
import HandS.Head0
import HandS.Head1
import HandS.Head2
import HandS.HeadHook1
import HandS.HeadHook2
import PySem.Challenge.RW_skyplaced_k48_numbers_of_triples
set_option Elab.async false
set_option linter.all false
set_option maxRecDepth 100000
set_option maxHeartbeats 2000000
set_option autoImplicit false
/-! SkP: values as plain data, plain readings of Python's pieces (no heap in sight). -/
namespace Sk
open PySem L2

/-- a value, as data: what is frozen, and names of things with an identity (cel) -/
inductive D where
  | non | bl (b : Bool) | int (i : Int) | str (x : Str)
  | tup (xs : List D) | lst (xs : List D)
  | dk (ks : List Key) (xs : List D) | dt (ks : List (List Key)) (xs : List D)
  | obj (c : Nat) (fs : List D)
  | cel (n : Nat)
  | clo (n : Nat) (xs : List D)
  /-- the script -/
  | scr (ns : List Int)

abbrev Store := List D
inductive Out (α : Type) where
  | ok (a : α) (S : Store)
  | exc (c : Nat) (fs : List D) (S : Store)
  | stuck
def M (α : Type) : Type := Store → Out α
@[inline] def M.pure {α : Type} (a : α) : M α := fun S => .ok a S
@[inline] def M.bind {α β : Type} (m : M α) (f : α → M β) : M β := fun S => match m S with
  | .ok a S' => f a S'
  | .exc c fs S' => .exc c fs S'
  | .stuck => .stuck
instance : Monad M where
  pure := M.pure
  bind := M.bind
def stk {α : Type} : M α := fun _ => .stuck
def lift {α : Type} : Option α → M α
  | some a => M.pure a
  | none => stk
def getS : M Store := fun S => .ok S S
def setS (S : Store) : M Unit := fun _ => .ok () S

inductive Slot where
  | no | shr (d : D) | own (d : D)
abbrev Env := List Slot
inductive Flow where
  | next (e : Env) | ret (d : D) | brk (e : Env) | cont (e : Env)
abbrev DE := Env → M D
abbrev DA := Env → M (List D)
abbrev DB := Env → M Bool
abbrev DS := Env → M Flow

/-! ### expressions -/
def dVar (i : Nat) : DE := fun env => match env[i]? with
  | some (.shr d) => M.pure d
  | _ => stk
/-- a name that is read at once (it may hold a thing of this frame's own) -/
def bVar (i : Nat) : DE := fun env => match env[i]? with
  | some (.shr d) => M.pure d
  | some (.own d) => M.pure d
  | _ => stk
def dC (d : D) : DE := fun _ => M.pure d
def dUn (f : D → M D) (a : DE) : DE := fun env => M.bind (a env) f
def dBin (f : D → D → M D) (a b : DE) : DE := fun env => M.bind (a env) fun x => M.bind (b env) fun y => f x y
def dNil : DA := fun _ => M.pure []
def dCons (a : DE) (r : DA) : DA := fun env => M.bind (a env) fun x => M.bind (r env) fun xs => M.pure (x :: xs)
def dTup (a : DA) : DE := fun env => M.bind (a env) fun xs => if xs.length ≤ 50000 then M.pure (.tup xs) else stk
def dLst (a : DA) : DE := fun env => M.bind (a env) fun xs => if xs.length ≤ 50000 then M.pure (.lst xs) else stk
def dCall (f : List D → M D) (a : DA) : DE := fun env => M.bind (a env) f

def asB : D → M Bool
  | .bl b => M.pure b
  | _ => stk
def tVal (a : DE) : DB := fun env => M.bind (a env) asB
def tAndD (a b : DB) : DB := fun env => M.bind (a env) fun c => if c = true then b env else M.pure false
def tOrD (a b : DB) : DB := fun env => M.bind (a env) fun c => if c = true then M.pure true else b env
def tNotD (a : DB) : DB := fun env => M.bind (a env) fun c => M.pure (!c)
def dOfT (a : DB) : DE := fun env => M.bind (a env) fun c => M.pure (.bl c)
def dIf (t : DB) (a b : DE) : DE := fun env => M.bind (t env) fun c => if c = true then a env else b env

/-! ### operations on values -/
def mulOk (i j : Int) : Bool := decide (i.natAbs < 2 ^ 64) || decide (j.natAbs < 2 ^ 64) || (decide (i.natAbs < 2 ^ 8000) && decide (j.natAbs < 2 ^ 8000))
def divOk (j : Int) : Bool := (decide (0 < j) && decide (j.natAbs < 2 ^ 8000))
def oAdd : D → D → M D
  | .int i, .int j => M.pure (.int (i + j))
  | .lst xs, .lst ys => if xs.length + ys.length ≤ 50000 then M.pure (.lst (xs ++ ys)) else stk
  | _, _ => stk
def oAddI : D → D → M D
  | .int i, .int j => M.pure (.int (i + j))
  | _, _ => stk
def oSub : D → D → M D
  | .int i, .int j => M.pure (.int (i - j))
  | _, _ => stk
def oMul : D → D → M D
  | .int i, .int j => if mulOk i j = true then M.pure (.int (i * j)) else stk
  | _, _ => stk
def oDiv : D → D → M D
  | .int i, .int j => if divOk j = true then M.pure (.int (i / j)) else stk
  | _, _ => stk
def oMod : D → D → M D
  | .int i, .int j => if decide (0 < j) = true then M.pure (.int (i % j)) else stk
  | _, _ => stk
def oPow : D → D → M D
  | .int i, .int j => if decide (0 ≤ j ∧ j ≤ 1000 ∧ i.natAbs < 2 ^ 64) = true then M.pure (.int (i ^ j.toNat)) else stk
  | _, _ => stk
def oNeg : D → M D
  | .int i => M.pure (.int (-i))
  | _ => stk
def oLt : D → D → M D
  | .int i, .int j => M.pure (.bl (decide (i < j)))
  | _, _ => stk
def oLe : D → D → M D
  | .int i, .int j => M.pure (.bl (decide (i ≤ j)))
  | _, _ => stk
def oGt : D → D → M D
  | .int i, .int j => M.pure (.bl (decide (j < i)))
  | _, _ => stk
def oGe : D → D → M D
  | .int i, .int j => M.pure (.bl (decide (j ≤ i)))
  | _, _ => stk

/-! ### equality of data -/
mutual
def toPy : D → PyData
  | .non => .none
  | .bl b => .bool b
  | .int i => .int i
  | .str x => .str x
  | .tup xs => .tuple (toPyL xs)
  | .lst xs => .list (toPyL xs)
  | .scr ns => .list (ns.map PyData.int)
  | _ => .none
def toPyL : List D → List PyData
  | [] => []
  | d :: ds => toPy d :: toPyL ds
end
/-- data of depth at most n -/
def okD : Nat → D → Bool
  | 0, _ => false
  | n + 1, .non => true
  | n + 1, .bl _ => true
  | n + 1, .int _ => true
  | n + 1, .str x => PyData.strOk x
  | n + 1, .tup xs => xs.all (okD n)
  | n + 1, .lst xs => xs.all (okD n)
  | n + 2, .scr _ => true
  | _, _ => false
def oEq : D → D → M D := fun x y => if (okD 8 x && okD 8 y) = true then M.pure (.bl (PyData.eqv (toPy x) (toPy y))) else stk
def oNe : D → D → M D := fun x y => if (okD 8 x && okD 8 y) = true then M.pure (.bl (!PyData.eqv (toPy x) (toPy y))) else stk

/-! ### kinds, lengths, items -/
/-- the built-in type of a value -/
def tyN : D → Option String
  | .non => some "NoneType"
  | .bl _ => some "bool"
  | .int _ => some "int"
  | .str _ => some "str"
  | .tup _ => some "tuple"
  | .lst _ => some "list"
  | .scr _ => some "list"
  | .dk _ _ => some "dict"
  | _ => none
def oIsB (T : String) : D → M D := fun d => M.bind (lift (tyN d)) fun t => M.bind (lift (kitB t T)) fun b => M.pure (.bl b)
def oIsNone : D → M D
  | .non => M.pure (.bl true)
  | _ => M.pure (.bl false)
def oNotNone : D → M D
  | .non => M.pure (.bl false)
  | _ => M.pure (.bl true)
def asBs : List D → Option (List Bool)
  | [] => some []
  | .bl b :: r => (asBs r).map (b :: ·)
  | _ :: _ => none
def asIs : List D → Option (List Int)
  | [] => some []
  | .int b :: r => (asIs r).map (b :: ·)
  | _ :: _ => none
def oAll : D → M D
  | .lst xs => M.bind (lift (asBs xs)) fun bs => M.pure (.bl (bs.all id))
  | _ => stk
def oAny : D → M D
  | .lst xs => M.bind (lift (asBs xs)) fun bs => M.pure (.bl (bs.any id))
  | _ => stk
def oSum : D → M D
  | .lst xs => M.bind (lift (asIs xs)) fun bs => M.pure (.int bs.sum)
  | _ => stk
def oLen : D → M D
  | .lst xs => M.pure (.int (xs.length : Nat))
  | .tup xs => M.pure (.int (xs.length : Nat))
  | .scr xs => M.pure (.int (xs.length : Nat))
  | .str x => if x.length ≤ 50000 then M.pure (.int (x.length : Nat)) else stk
  | .dk ks _ => M.pure (.int (ks.length : Nat))
  | _ => stk
def oTuple : D → M D
  | .lst xs => M.pure (.tup xs)
  | .tup xs => M.pure (.tup xs)
  | _ => stk
def oList : D → M D
  | .lst xs => M.pure (.lst xs)
  | .tup xs => M.pure (.lst xs)
  | _ => stk
def oAbs : D → M D
  | .int i => M.pure (.int (if i < 0 then -i else i))
  | _ => stk
def oInt : D → M D
  | .int i => M.pure (.int i)
  | _ => stk
def oIxCel (n : Nat) (i : Int) : M D := fun S => match S[n]? with
  | some (.lst xs) => lift (atI xs i) S
  | _ => .stuck
/-- an item by its place -/
def oIx : D → D → M D
  | .tup xs, .int i => lift (atI xs i)
  | .lst xs, .int i => lift (atI xs i)
  | .scr xs, .int i => lift ((atI xs i).map D.int)
  | .cel n, .int i => oIxCel n i
  | _, _ => stk

def oIsN2 : D → D → M D := fun x y => match y with
  | .non => oIsNone x
  | _ => stk
def oNotN2 : D → D → M D := fun x y => match y with
  | .non => oNotNone x
  | _ => stk
def dAndV (a b : DE) : DE := fun env => M.bind (a env) fun x => M.bind (asB x) fun c => if c = true then b env else M.pure (.bl false)
def dOrV (a b : DE) : DE := fun env => M.bind (a env) fun x => M.bind (asB x) fun c => if c = true then M.pure (.bl true) else b env
def dNotV (a : DE) : DE := fun env => M.bind (a env) fun x => M.bind (asB x) fun c => M.pure (.bl (!c))
/-! ### comprehensions -/
def wipeE (env : Env) : List Nat → Env
  | [] => env
  | v :: vs => (wipeE env vs).set v .no
abbrev DI := Env → M (List D)
abbrev DG := D → Env → Option Env
/-- what raises is not told of -/
def noX {α : Type} (m : M α) : M α := fun S => match m S with
  | .ok a S' => .ok a S'
  | _ => .stuck
/-- what a for walks: the items of a list or a tuple, the keys of a dict -/
def itemsOf : D → M (List D)
  | .lst xs => M.pure xs
  | .tup xs => M.pure xs
  | _ => stk
def iVal (a : DE) : DI := fun env => M.bind (a env) itemsOf
def lcLoop (f : D → M (List D)) : List D → M (List D)
  | [] => M.pure []
  | x :: xs => M.bind (f x) fun ys => M.bind (lcLoop f xs) fun zs => M.pure (ys ++ zs)
def lcTurn (env : Env) (dg : DG) (dt : DB) (de : DE) (x : D) : M (List D) :=
  M.bind (lift (dg x env)) fun env' => M.bind (dt env') fun b => if b = true then M.bind (de env') fun y => M.pure [y] else M.pure []
def dLc (vs : List Nat) (di : DI) (dg : DG) (dt : DB) (de : DE) : DE := fun env => M.bind (di env) fun xs =>
  if xs.length ≤ 50000 then M.bind (lcLoop (fun x => noX (lcTurn (wipeE env vs) dg dt de x)) xs) fun ys => M.pure (.lst ys) else stk
def tYesD : DB := fun _ => M.pure true
/-- targets -/
def gSet (i : Nat) : DG := fun d env => some (env.set i (.shr d))
def gAll : List DG → List D → Env → Option Env
  | [], [], env => some env
  | g :: gs, x :: xs, env => (g x env).bind fun env' => gAll gs xs env'
  | _, _, _ => none
def gTupD (gs : List DG) : DG := fun d env => match d with
  | .tup xs => gAll gs xs env
  | .lst xs => gAll gs xs env
  | _ => none
/-- range(n), range(a, b) -/
def rangeD (lo n : Int) : List D := (List.range (n - lo).toNat).map fun (k : Nat) => D.int (lo + (k : Int))
def iRange1 (a : DE) : DI := fun env => M.bind (a env) fun x => match x with
  | .int n => if decide (-50000 ≤ n ∧ n ≤ 50000) = true then M.pure (rangeD 0 n) else stk
  | _ => stk
def iRange2 (a b : DE) : DI := fun env => M.bind (a env) fun x => M.bind (b env) fun y => match x, y with
  | .int lo, .int n => if decide (-50000 ≤ n ∧ n ≤ 50000 ∧ -50000 ≤ lo ∧ lo ≤ 50000) = true then M.pure (rangeD lo n) else stk
  | _, _ => stk
def zipD : D → D → M (List D)
  | .lst xs, .lst ys => M.pure ((xs.zip ys).map fun p => .tup [p.1, p.2])
  | .tup xs, .tup ys => M.pure ((xs.zip ys).map fun p => .tup [p.1, p.2])
  | _, _ => stk
def iZip (a b : DE) : DI := fun env => M.bind (a env) fun x => M.bind (b env) fun y => zipD x y

/-! ### statements -/
def sNext : DS := fun env => M.pure (.next env)
def sSeq (a b : DS) : DS := fun env => M.bind (a env) fun fl => match fl with
  | .next env' => b env'
  | .ret d => M.pure (.ret d)
  | .brk e => M.pure (.brk e)
  | .cont e => M.pure (.cont e)
def sStk : DS := fun _ => stk
def sExpr (a : DE) : DS := fun env => M.bind (a env) fun _ => M.pure (.next env)
def sRet (a : DE) : DS := fun env => M.bind (a env) fun d => M.pure (.ret d)
def sRetN : DS := fun _ => M.pure (.ret .non)
def sBreak : DS := fun env => M.pure (.brk env)
def sCont : DS := fun env => M.pure (.cont env)
def sIf (t : DB) (a b : DS) : DS := fun env => M.bind (t env) fun c => if c = true then a env else b env
def sAsg (a : DE) (dg : DG) : DS := fun env => M.bind (a env) fun d => M.bind (lift (dg d env)) fun env' => M.pure (.next env')
/-- a name is given a new thing that this frame changes -/
def sOwn (i : Nat) (a : DE) : DS := fun env => M.bind (a env) fun d => M.pure (.next (env.set i (.own d)))
def sPar2 (i j : Nat) (a b : DE) : DS := fun env => M.bind (a env) fun x => M.bind (b env) fun y => M.pure (.next ((env.set i (.shr x)).set j (.shr y)))
def sPar3 (i j l : Nat) (a b c : DE) : DS := fun env => M.bind (a env) fun x => M.bind (b env) fun y => M.bind (c env) fun z => M.pure (.next (((env.set i (.shr x)).set j (.shr y)).set l (.shr z)))
def sAug (i : Nat) (f : D → D → M D) (a : DE) : DS := fun env => M.bind (dVar i env) fun x => M.bind (a env) fun y => M.bind (f x y) fun z => M.pure (.next (env.set i (.shr z)))
def forLoop (f : D → Env → M Flow) : List D → Env → M Flow
  | [], env => M.pure (.next env)
  | x :: xs, env => M.bind (f x env) fun fl => match fl with
    | .next e => forLoop f xs e
    | .cont e => forLoop f xs e
    | .brk e => M.pure (.next e)
    | .ret d => M.pure (.ret d)
def sFor (di : DI) (dg : DG) (body : DS) : DS := fun env => M.bind (di env) fun xs => forLoop (fun x e => M.bind (lift (dg x e)) body) xs env
def whileLoop (t : DB) (body : DS) : Nat → Env → M Flow
  | 0, _ => stk
  | n + 1, env => M.bind (t env) fun c => if c = true then M.bind (body env) fun fl => (match fl with
      | .next e => whileLoop t body n e
      | .cont e => whileLoop t body n e
      | .brk e => M.pure (.next e)
      | .ret d => M.pure (.ret d)) else M.pure (.next env)
def sWhile (t : DB) (body : DS) : DS := whileLoop t body 100000
/-- a thing of one's own is frozen -/
def sFreeze (i : Nat) : DS := fun env => match env[i]? with
  | some (.own (.lst xs)) => M.pure (.next (env.set i (.shr (.lst xs))))
  | _ => stk
/-- xs.append(e), xs this frame's own -/
def sAppend (i : Nat) (a : DE) : DS := fun env => match env[i]? with
  | some (.own (.lst xs)) => M.bind (a env) fun d => if xs.length < 50000 then M.pure (.next (env.set i (.own (.lst (xs ++ [d]))))) else stk
  | _ => stk
/-- c[k] += e, c a thing with an identity, a list -/
def celPut (n : Nat) (k : Int) (z : D) (env : Env) : M Flow := fun S => match S[n]? with
  | some (.lst xs) => (match ixN xs.length k with
    | some j => .ok (.next env) (S.set n (.lst (xs.set j z)))
    | none => .stuck)
  | _ => .stuck
def celN : D → M Nat
  | .cel n => M.pure n
  | _ => stk
def sCelAug (a : DE) (k : Int) (f : D → D → M D) (b : DE) : DS := fun env => M.bind (a env) fun o => M.bind (celN o) fun n => M.bind (oIxCel n k) fun x => M.bind (b env) fun y => M.bind (f x y) fun z => celPut n k z env
/-- a new thing with an identity -/
def celNew (i : Nat) (env : Env) : D → M Flow
  | .lst xs => fun S => .ok (.next (env.set i (.shr (.cel S.length)))) (S ++ [.lst xs])
  | _ => stk
def sNewCel (i : Nat) (a : DE) : DS := fun env => M.bind (a env) fun d => celNew i env d
def endOf (fl : Flow) : M D := match fl with
  | .next _ => M.pure .non
  | .ret d => M.pure d
  | _ => stk
/-- a def: n slots, its body, the values of its parameters -/
def runDef (n : Nat) (body : DS) (ds : List D) : M D := M.bind (body (ds.map Slot.shr ++ List.replicate (n - ds.length) .no)) endOf
end Sk

set_option Elab.async false
set_option linter.all false
set_option maxRecDepth 100000
set_option maxHeartbeats 2000000
set_option autoImplicit false
/-! SkS: how plain data lies in the heap; frames; what an expression's plain reading is worth. -/
namespace Sk
open PySem PySem.Spec PyProof.Rows L2

structure Wd where
  G : Hp
  ca : List Addr
structure Ly where
  cls : Nat → Addr
  fld : Nat → List Str

mutual
def Rp (K : PySem.W.Frag) (L : Ly) (W : Wd) : D → V → Prop
  | .non, v => v = .non
  | .bl b, v => v = .bl b
  | .int i, v => v = .int i
  | .str x, v => v = .str x
  | .tup xs, v => ∃ a vs, v = .ref a ∧ SqT K W.G a vs ∧ RpL K L W xs vs
  | .lst xs, v => ∃ a vs, v = .ref a ∧ W.G a = some (.lst vs) ∧ RpL K L W xs vs
  | .dk ks xs, v => ∃ a od vs, v = .ref a ∧ W.G a = some (.frz od (.dK (ks.zip vs))) ∧ ks.length = xs.length ∧ RpL K L W xs vs
  | .dt ks xs, v => ∃ a od vs, v = .ref a ∧ W.G a = some (.frz od (.dT (ks.zip vs))) ∧ ks.length = xs.length ∧ RpL K L W xs vs
  | .obj c fs, v => ∃ a dx vs, v = .ref a ∧ W.G a = some (.ins (L.cls c) dx ((L.fld c).zip vs)) ∧ RpL K L W fs vs
  | .cel n, v => ∃ a, v = .ref a ∧ W.ca[n]? = some a
  | .clo _ _, _ => False
  | .scr ns, v => ∃ a, v = .ref a ∧ SqL K W.G a (ns.map V.int)
def RpL (K : PySem.W.Frag) (L : Ly) (W : Wd) : List D → List V → Prop
  | [], vs => vs = []
  | d :: ds, vs => ∃ v r, vs = v :: r ∧ Rp K L W d v ∧ RpL K L W ds r
end

/-- the frozen part grows -/
structure Le (W W' : Wd) : Prop where
  ge : ∀ a o, W.G a = some o → W'.G a = some o
  ca : ∃ more, W'.ca = W.ca ++ more
theorem Le.refl (W : Wd) : Le W W := ⟨fun _ _ h => h, [], (List.append_nil _).symm⟩
theorem Le.trans {A B C : Wd} (x : Le A B) (y : Le B C) : Le A C := ⟨fun a o h => y.ge a o (x.ge a o h), by
  obtain ⟨m, e⟩ := x.ca
  obtain ⟨n, f⟩ := y.ca
  exact ⟨m ++ n, by rw [f, e, List.append_assoc]⟩⟩
theorem Le.cel {W W' : Wd} (x : Le W W') {n : Nat} {a : Addr} (h : W.ca[n]? = some a) : W'.ca[n]? = some a := by
  obtain ⟨m, e⟩ := x.ca
  rw [e]
  have hl := (List.getElem?_eq_some_iff.mp h).1
  rw [List.getElem?_append_left hl]
  exact h
theorem Le.rd {W W' : Wd} (x : Le W W') {a : Addr} {u : HO} (h : Rd W.G a u) : Rd W'.G a u := by
  rcases h with h | ⟨o, h⟩
  · exact .inl (x.ge _ _ h)
  · exact .inr ⟨o, x.ge _ _ h⟩
section
variable {K : PySem.W.Frag} {L : Ly}
theorem Le.sqT {W W' : Wd} (x : Le W W') {a : Addr} {vs : List V} (h : SqT K W.G a vs) : SqT K W'.G a vs := by
  rcases h with h | h
  · exact .inl (x.rd h)
  · exact .inr h
theorem Le.sqL {W W' : Wd} (x : Le W W') {a : Addr} {vs : List V} (h : SqL K W.G a vs) : SqL K W'.G a vs := by
  rcases h with h | h
  · exact .inl (x.rd h)
  · exact .inr h
mutual
theorem Rp.mono {W W' : Wd} (x : Le W W') : ∀ (d : D) (v : V), Rp K L W d v → Rp K L W' d v
  | .non, v, h => h
  | .bl b, v, h => h
  | .int i, v, h => h
  | .str z, v, h => h
  | .tup xs, v, h => by
    obtain ⟨a, vs, e, q, r⟩ := h
    exact ⟨a, vs, e, x.sqT q, RpL.mono x xs vs r⟩
  | .lst xs, v, h => by
    obtain ⟨a, vs, e, q, r⟩ := h
    exact ⟨a, vs, e, x.ge _ _ q, RpL.mono x xs vs r⟩
  | .dk ks xs, v, h => by
    obtain ⟨a, od, vs, e, q, l, r⟩ := h
    exact ⟨a, od, vs, e, x.ge _ _ q, l, RpL.mono x xs vs r⟩
  | .dt ks xs, v, h => by
    obtain ⟨a, od, vs, e, q, l, r⟩ := h
    exact ⟨a, od, vs, e, x.ge _ _ q, l, RpL.mono x xs vs r⟩
  | .obj c fs, v, h => by
    obtain ⟨a, dx, vs, e, q, r⟩ := h
    exact ⟨a, dx, vs, e, x.ge _ _ q, RpL.mono x fs vs r⟩
  | .cel n, v, h => by
    obtain ⟨a, e, q⟩ := h
    exact ⟨a, e, x.cel q⟩
  | .clo _ _, _, h => h
  | .scr ns, v, h => by
    obtain ⟨a, e, q⟩ := h
    exact ⟨a, e, x.sqL q⟩
theorem RpL.mono {W W' : Wd} (x : Le W W') : ∀ (ds : List D) (vs : List V), RpL K L W ds vs → RpL K L W' ds vs
  | [], vs, h => h
  | d :: ds, vs, h => by
    obtain ⟨v, r, e, q, t⟩ := h
    exact ⟨v, r, e, Rp.mono x d v q, RpL.mono x ds r t⟩
end
theorem RpL.length {W : Wd} : ∀ {ds : List D} {vs : List V}, RpL K L W ds vs → vs.length = ds.length
  | [], vs, h => by
    have h : vs = [] := h
    subst h
    rfl
  | d :: ds, vs, h => by
    obtain ⟨v, r, e, q, t⟩ := h
    subst e
    rw [List.length_cons, List.length_cons, RpL.length t]
theorem RpL.get {W : Wd} : ∀ {ds : List D} {vs : List V} {i : Nat} {d : D}, RpL K L W ds vs → ds[i]? = some d → ∃ v, vs[i]? = some v ∧ Rp K L W d v
  | [], vs, i, d, h, e => by simp at e
  | x :: ds, vs, 0, d, h, e => by
    obtain ⟨v, r, e', q, t⟩ := h
    subst e'
    have e : x = d := Option.some.inj e
    subst e
    exact ⟨v, rfl, q⟩
  | x :: ds, vs, i + 1, d, h, e => by
    obtain ⟨v, r, e', q, t⟩ := h
    subst e'
    exact RpL.get (i := i) t e
theorem RpL.get' {W : Wd} : ∀ {ds : List D} {vs : List V} {i : Nat} {v : V}, RpL K L W ds vs → vs[i]? = some v → ∃ d, ds[i]? = some d ∧ Rp K L W d v
  | [], vs, i, v, h, e => by
    have h : vs = [] := h
    subst h
    simp at e
  | x :: ds, vs, 0, v, h, e => by
    obtain ⟨v', r, e', q, t⟩ := h
    subst e'
    have e : v' = v := Option.some.inj e
    subst e
    exact ⟨x, rfl, q⟩
  | x :: ds, vs, i + 1, v, h, e => by
    obtain ⟨v', r, e', q, t⟩ := h
    subst e'
    exact RpL.get' (i := i) t e
theorem RpL.append {W : Wd} : ∀ {ds es : List D} {vs ws : List V}, RpL K L W ds vs → RpL K L W es ws → RpL K L W (ds ++ es) (vs ++ ws)
  | [], es, vs, ws, h, g => by
    have h : vs = [] := h
    subst h
    exact g
  | x :: ds, es, vs, ws, h, g => by
    obtain ⟨v, r, e, q, t⟩ := h
    subst e
    exact ⟨v, r ++ ws, rfl, q, RpL.append t g⟩
theorem RpL.one {W : Wd} {d : D} {v : V} (h : Rp K L W d v) : RpL K L W [d] [v] := ⟨v, [], rfl, h, rfl⟩
theorem RpL.drop {W : Wd} : ∀ (n : Nat) {ds : List D} {vs : List V}, RpL K L W ds vs → RpL K L W (ds.drop n) (vs.drop n)
  | 0, ds, vs, h => h
  | n + 1, [], vs, h => by
    have h : vs = [] := h
    subst h
    exact rfl
  | n + 1, d :: ds, vs, h => by
    obtain ⟨v, r, e, q, t⟩ := h
    subst e
    exact RpL.drop n t
theorem RpL.take {W : Wd} : ∀ (n : Nat) {ds : List D} {vs : List V}, RpL K L W ds vs → RpL K L W (ds.take n) (vs.take n)
  | 0, ds, vs, h => by
    show vs.take 0 = []
    rfl
  | n + 1, [], vs, h => by
    have h : vs = [] := h
    subst h
    exact rfl
  | n + 1, d :: ds, vs, h => by
    obtain ⟨v, r, e, q, t⟩ := h
    subst e
    exact ⟨v, r.take n, rfl, q, RpL.take n t⟩
theorem RpL.set {W : Wd} {d : D} {v : V} (hd : Rp K L W d v) : ∀ (n : Nat) {ds : List D} {vs : List V}, RpL K L W ds vs → RpL K L W (ds.set n d) (vs.set n v)
  | n, [], vs, h => by
    have h : vs = [] := h
    subst h
    exact rfl
  | 0, x :: ds, vs, h => by
    obtain ⟨w, r, e, q, t⟩ := h
    subst e
    exact ⟨v, r, rfl, hd, t⟩
  | n + 1, x :: ds, vs, h => by
    obtain ⟨w, r, e, q, t⟩ := h
    subst e
    exact ⟨w, r.set n v, rfl, q, RpL.set hd n t⟩
theorem RpL.ints {W : Wd} : ∀ (ns : List Int), RpL K L W (ns.map D.int) (ns.map V.int)
  | [] => rfl
  | n :: ns => ⟨.int n, ns.map V.int, rfl, rfl, RpL.ints ns⟩
end

section
variable (K : PySem.W.Frag) (L : Ly)
/-- a thing that may change, as it is now -/
def CellAt (W : Wd) (H : Hp) (a : Addr) : D → Prop
  | .lst xs => ∃ vs, H a = some (.lst vs) ∧ RpL K L W xs vs
  | .obj c fs => ∃ dx vs, H a = some (.ins (L.cls c) dx ((L.fld c).zip vs)) ∧ RpL K L W fs vs
  | .dk ks xs => ∃ vs, H a = some (.dK (ks.zip vs)) ∧ ks.length = xs.length ∧ RpL K L W xs vs
  | .dt ks xs => ∃ vs, H a = some (.dT (ks.zip vs)) ∧ ks.length = xs.length ∧ RpL K L W xs vs
  | _ => False
structure Gd (W : Wd) (H : Hp) (S : Store) : Prop where
  fz : ∀ a o, W.G a = some o → H a = some o
  cn : ∀ a, a ∈ W.ca → W.G a = none
  nd : W.ca.Nodup
  ln : W.ca.length = S.length
  ce : ∀ (n : Nat) (c : D) (a : Addr), S[n]? = some c → W.ca[n]? = some a → CellAt K L W H a c
end
structure Stp (ex : Addr → Prop) (W : Wd) (H : Hp) (W' : Wd) (H' : Hp) : Prop where
  le : Le W W'
  keep : ∀ a o, H a = some o → a ∉ W.ca → ¬ ex a → H' a = some o
  dom : ∀ a, H a ≠ none → H' a ≠ none
  new : ∀ a, W'.G a ≠ none → W.G a ≠ none ∨ H a = none
  newc : ∀ a, a ∈ W'.ca → a ∈ W.ca ∨ H a = none
abbrev noEx : Addr → Prop := fun _ => False
section
variable {K : PySem.W.Frag} {L : Ly}
theorem CellAt.ne {W : Wd} {H : Hp} {a : Addr} : ∀ {c : D}, CellAt K L W H a c → H a ≠ none
  | .lst xs, h => by
    obtain ⟨vs, e, _⟩ := h
    rw [e]
    exact fun z => nomatch z
  | .obj c fs, h => by
    obtain ⟨dx, vs, e, _⟩ := h
    rw [e]
    exact fun z => nomatch z
  | .dk ks xs, h => by
    obtain ⟨vs, e, _⟩ := h
    rw [e]
    exact fun z => nomatch z
  | .dt ks xs, h => by
    obtain ⟨vs, e, _⟩ := h
    rw [e]
    exact fun z => nomatch z
  | .non, h => h.elim
  | .bl _, h => h.elim
  | .int _, h => h.elim
  | .str _, h => h.elim
  | .tup _, h => h.elim
  | .cel _, h => h.elim
  | .clo _ _, h => h.elim
  | .scr _, h => h.elim
theorem CellAt.to {W W' : Wd} {H H' : Hp} {a : Addr} (le : Le W W') (e : ∀ o, H a = some o → H' a = some o) : ∀ {c : D}, CellAt K L W H a c → CellAt K L W' H' a c
  | .lst xs, h => by
    obtain ⟨vs, q, r⟩ := h
    exact ⟨vs, e _ q, r.mono le⟩
  | .obj c fs, h => by
    obtain ⟨dx, vs, q, r⟩ := h
    exact ⟨dx, vs, e _ q, r.mono le⟩
  | .dk ks xs, h => by
    obtain ⟨vs, q, l, r⟩ := h
    exact ⟨vs, e _ q, l, r.mono le⟩
  | .dt ks xs, h => by
    obtain ⟨vs, q, l, r⟩ := h
    exact ⟨vs, e _ q, l, r.mono le⟩
  | .non, h => h.elim
  | .bl _, h => h.elim
  | .int _, h => h.elim
  | .str _, h => h.elim
  | .tup _, h => h.elim
  | .cel _, h => h.elim
  | .clo _ _, h => h.elim
  | .scr _, h => h.elim
theorem Gd.cell {W : Wd} {H : Hp} {S : Store} (g : Gd K L W H S) {a : Addr} (h : a ∈ W.ca) : H a ≠ none := by
  obtain ⟨n, hn, e⟩ := List.getElem_of_mem h
  have h2 : n < S.length := g.ln ▸ hn
  exact (g.ce n _ a (List.getElem?_eq_getElem h2) (by rw [List.getElem?_eq_getElem hn, e])).ne
theorem Gd.freeG {W : Wd} {H : Hp} {S : Store} (g : Gd K L W H S) {p : Addr} (h : H p = none) : W.G p = none := by
  cases q : W.G p with
  | none => rfl
  | some o =>
    have z := g.fz p o q
    rw [h] at z
    cases z
theorem Gd.freeC {W : Wd} {H : Hp} {S : Store} (g : Gd K L W H S) {p : Addr} (h : H p = none) : p ∉ W.ca := fun m => g.cell m h
theorem Stp.refl {ex : Addr → Prop} {W : Wd} {H : Hp} : Stp ex W H W H := ⟨Le.refl W, fun _ _ h _ _ => h, fun _ h => h, fun _ h => .inl h, fun _ h => .inl h⟩
theorem Stp.trans {ex : Addr → Prop} {A B C : Wd} {H H1 H2 : Hp} (x : Stp ex A H B H1) (y : Stp ex B H1 C H2) : Stp ex A H C H2 where
  le := x.le.trans y.le
  keep := fun a o h n e => y.keep a o (x.keep a o h n e) (fun m => (x.newc a m).elim n fun z => by rw [h] at z; cases z) e
  dom := fun a h => y.dom a (x.dom a h)
  new := fun a h => by
    rcases y.new a h with z | z
    · exact x.new a z
    · right
      cases q : H a with
      | none => rfl
      | some o => exact absurd z (x.dom a (by rw [q]; exact fun z => nomatch z))
  newc := fun a h => by
    rcases y.newc a h with z | z
    · exact x.newc a z
    · right
      cases q : H a with
      | none => rfl
      | some o => exact absurd z (x.dom a (by rw [q]; exact fun z => nomatch z))
theorem Stp.weak {ex : Addr → Prop} {A B : Wd} {H H1 : Hp} (x : Stp noEx A H B H1) : Stp ex A H B H1 := ⟨x.le, fun a o h n _ => x.keep a o h n fun z => z, x.dom, x.new, x.newc⟩
def Wd.add (W : Wd) (p : Addr) (o : HO) : Wd := ⟨upd W.G p o, W.ca⟩
theorem Wd.add_at {W : Wd} {p : Addr} {o : HO} : (W.add p o).G p = some o := upd_same
theorem Wd.le_add {W : Wd} {p : Addr} {o : HO} (h : W.G p = none) : Le W (W.add p o) := ⟨fun a u e => by
  show upd W.G p o a = some u
  rw [upd_ne (ne_of_none e h)]
  exact e, [], (List.append_nil _).symm⟩
theorem upd_dom {H : Hp} {p a : Addr} {o : HO} (h : H a ≠ none) : upd H p o a ≠ none := by
  by_cases e : a = p
  · subst e
    rw [upd_same]
    exact fun z => nomatch z
  · rw [upd_ne e]
    exact h
/-- a new object, frozen -/
theorem Stp.alloc {ex : Addr → Prop} {W : Wd} {H : Hp} {S : Store} {p : Addr} {o : HO} (g : Gd K L W H S) (h : H p = none) : Stp ex W H (W.add p o) (upd H p o) where
  le := Wd.le_add (g.freeG h)
  keep := fun a u e _ _ => by
    rw [upd_ne (ne_of_none e h)]
    exact e
  dom := fun a z => upd_dom z
  new := fun a z => by
    by_cases e : a = p
    · subst e
      exact .inr h
    · left
      have z : upd W.G p o a ≠ none := z
      rw [upd_ne e] at z
      exact z
  newc := fun a z => .inl z
theorem Gd.alloc {W : Wd} {H : Hp} {S : Store} {p : Addr} {o : HO} (g : Gd K L W H S) (h : H p = none) : Gd K L (W.add p o) (upd H p o) S where
  fz := fun a u e => by
    by_cases q : a = p
    · subst q
      rw [Wd.add_at] at e
      cases e
      exact upd_same
    · have e : upd W.G p o a = some u := e
      rw [upd_ne q] at e
      rw [upd_ne q]
      exact g.fz a u e
  cn := fun a m => by
    show upd W.G p o a = none
    rw [upd_ne (show a ≠ p from fun e => g.freeC h (by rw [← e]; exact m))]
    exact g.cn a m
  nd := g.nd
  ln := g.ln
  ce := fun n c a e1 e2 => (g.ce n c a e1 e2).to (Wd.le_add (g.freeG h)) fun u e => by
    rw [upd_ne (ne_of_none e h)]
    exact e
/-- a new object, this frame's own -/
theorem Stp.own {ex : Addr → Prop} {W : Wd} {H : Hp} {p : Addr} {o : HO} (h : H p = none) : Stp ex W H W (upd H p o) :=
  ⟨Le.refl W, fun a u e _ _ => by rw [upd_ne (ne_of_none e h)]; exact e, fun a z => upd_dom z, fun a z => .inl z, fun a z => .inl z⟩
theorem Gd.own {W : Wd} {H : Hp} {S : Store} {p : Addr} {o : HO} (g : Gd K L W H S) (h1 : W.G p = none) (h2 : p ∉ W.ca) : Gd K L W (upd H p o) S where
  fz := fun a u e => by
    rw [upd_ne (ne_of_none e h1)]
    exact g.fz a u e
  cn := g.cn
  nd := g.nd
  ln := g.ln
  ce := fun n c a e1 e2 => (g.ce n c a e1 e2).to (Le.refl W) fun u e => by
    rw [upd_ne (show a ≠ p from fun z => h2 (by rw [← z]; exact List.mem_of_getElem? e2))]
    exact e
end

/-! ### frames -/
/-- where a body began: what it may change, the frozen part, the heap -/
structure FD where
  ex : Addr → Prop
  W0 : Wd
  H0 : Hp
section
variable (K : PySem.W.Frag) (L : Ly)
def SlotAt (F : FD) (W : Wd) (H : Hp) (ov : Option (Option V)) : Slot → Prop
  | .no => True
  | .shr d => ∃ v, ov = some (some v) ∧ Rp K L W d v
  | .own d => ∃ p, ov = some (some (.ref p)) ∧ W.G p = none ∧ p ∉ W.ca ∧ (F.H0 p = none ∨ F.ex p) ∧ CellAt K L W H p d
structure Frm (F : FD) (W : Wd) (H : Hp) (S : Store) (env : Env) (σ : L2.St) : Prop where
  good : Gd K L W H S
  step : Stp F.ex F.W0 F.H0 W H
  len : σ.length = env.length
  sl : ∀ (i : Nat) (s : Slot), env[i]? = some s → SlotAt K L F W H σ[i]? s
  sep : ∀ (i j : Nat) (d e : D) (p : Addr), i ≠ j → env[i]? = some (.own d) → env[j]? = some (.own e) → σ[i]? = some (some (.ref p)) → σ[j]? ≠ some (some (.ref p))
end
section
variable {K : PySem.W.Frag} {L : Ly} {F : FD} {W W' : Wd} {H H' : Hp} {S S' : Store} {env : Env} {σ : L2.St}
theorem Frm.next (fr : Frm K L F W H S env σ) (st : Stp noEx W H W' H') (g : Gd K L W' H' S') : Frm K L F W' H' S' env σ where
  good := g
  step := fr.step.trans st.weak
  len := fr.len
  sl := fun i s e => by
    have q := fr.sl i s e
    cases s with
    | no => trivial
    | shr d =>
      obtain ⟨v, e1, r⟩ := q
      exact ⟨v, e1, r.mono st.le⟩
    | own d =>
      obtain ⟨p, e1, n1, n2, n3, c⟩ := q
      have hp : H p ≠ none := c.ne
      refine ⟨p, e1, ?_, fun m => (st.newc p m).elim n2 hp, n3, c.to st.le fun o e => st.keep p o e n2 fun z => z⟩
      cases z : W'.G p with
      | none => rfl
      | some o => exact ((st.new p (by rw [z]; exact fun z => nomatch z)).elim (fun y => absurd n1 y) fun y => absurd y hp)
  sep := fr.sep
end

/-! ### what an outcome is worth -/
def wpO {α : Type} (o : Out α) (P : α → Store → Prop) (R : Nat → List D → Store → Prop) : Prop := match o with
  | .ok a S => P a S
  | .exc c fs S => R c fs S
  | .stuck => False
theorem wpO_imp {α : Type} {o : Out α} {P P' : α → Store → Prop} {R : Nat → List D → Store → Prop} (h : wpO o P R) (f : ∀ a S, P a S → P' a S) : wpO o P' R := by
  cases o with
  | ok a S => exact f a S h
  | exc c fs S => exact h
  | stuck => exact h
theorem wpO_bind {α β : Type} {m : M α} {f : α → M β} {S : Store} {P : β → Store → Prop} {R : Nat → List D → Store → Prop} (h : wpO (M.bind m f S) P R) : wpO (m S) (fun a S' => wpO (f a S') P R) R := by
  unfold M.bind at h
  cases q : m S with
  | ok a S' =>
    rw [q] at h
    exact h
  | exc c fs S' =>
    rw [q] at h
    exact h
  | stuck =>
    rw [q] at h
    exact h
theorem wpO_stk {α : Type} {S : Store} {P : α → Store → Prop} {R : Nat → List D → Store → Prop} {A : Prop} (h : wpO ((stk : M α) S) P R) : A := False.elim h
theorem wpO_ite {α : Type} {c : Prop} [Decidable c] {a : M α} {S : Store} {P : α → Store → Prop} {R : Nat → List D → Store → Prop} (h : wpO ((if c then a else stk) S) P R) : c ∧ wpO (a S) P R := by
  by_cases hc : c
  · rw [if_pos hc] at h
    exact ⟨hc, h⟩
  · rw [if_neg hc] at h
    exact h.elim
section
variable (K : PySem.W.Frag) (L : Ly)
/-- a value is wanted -/
def PV (W : Wd) (H : Hp) (Q : VK) : D → Store → Prop := fun d S' => ∀ W' H' v, Stp noEx W H W' H' → Gd K L W' H' S' → Rp K L W' d v → Q v H'
/-- .. to be read at once -/
def Tp (W : Wd) (H : Hp) (d : D) (v : V) : Prop := Rp K L W d v ∨ ∃ p, v = .ref p ∧ W.G p = none ∧ p ∉ W.ca ∧ CellAt K L W H p d
def PB (W : Wd) (H : Hp) (Q : VK) : D → Store → Prop := fun d S' => ∀ W' H' v, Stp noEx W H W' H' → Gd K L W' H' S' → Tp K L W' H' d v → Q v H'
def PVs (W : Wd) (H : Hp) (Q : List V → Hp → Prop) : List D → Store → Prop := fun ds S' => ∀ W' H' vs, Stp noEx W H W' H' → Gd K L W' H' S' → RpL K L W' ds vs → Q vs H'
def PBl (W : Wd) (H : Hp) (Q : Bool → Hp → Prop) : Bool → Store → Prop := fun b S' => ∀ W' H', Stp noEx W H W' H' → Gd K L W' H' S' → Q b H'
/-- an exception in flight: its class, its own dict -/
def XP (F : FD) (E : XK) : Nat → List D → Store → Prop := fun c fs S' => ∀ W' H' d vs, Stp F.ex F.W0 F.H0 W' H' → Gd K L W' H' S' → H' d = some (.xd ((L.fld c).zip vs)) → RpL K L W' fs vs → E (.ref (L.cls c)) (some d) H'
end
section
variable {K : PySem.W.Frag} {L : Ly} {W W' : Wd} {H H' : Hp} {S S' : Store}
theorem PV.mono {Q : VK} (st : Stp noEx W H W' H') {d : D} {S : Store} (h : PV K L W H Q d S) : PV K L W' H' Q d S := fun W2 H2 v s g r => h W2 H2 v (st.trans s) g r
theorem PB.mono {Q : VK} (st : Stp noEx W H W' H') {d : D} {S : Store} (h : PB K L W H Q d S) : PB K L W' H' Q d S := fun W2 H2 v s g r => h W2 H2 v (st.trans s) g r
theorem PVs.mono {Q : List V → Hp → Prop} (st : Stp noEx W H W' H') {d : List D} {S : Store} (h : PVs K L W H Q d S) : PVs K L W' H' Q d S := fun W2 H2 v s g r => h W2 H2 v (st.trans s) g r
theorem PBl.mono {Q : Bool → Hp → Prop} (st : Stp noEx W H W' H') {d : Bool} {S : Store} (h : PBl K L W H Q d S) : PBl K L W' H' Q d S := fun W2 H2 s g => h W2 H2 (st.trans s) g
theorem PV.now {Q : VK} {d : D} {v : V} (h : PV K L W H Q d S) (g : Gd K L W H S) (r : Rp K L W d v) : Q v H := h W H v Stp.refl g r
theorem Tp.mono {d : D} {v : V} (t : Tp K L W H d v) (st : Stp noEx W H W' H') : Tp K L W' H' d v := by
  rcases t with t | ⟨p, e, n1, n2, c⟩
  · exact .inl (t.mono st.le)
  · right
    have hp : H p ≠ none := c.ne
    refine ⟨p, e, ?_, fun m => (st.newc p m).elim n2 hp, c.to st.le fun o e => st.keep p o e n2 fun z => z⟩
    cases z : W'.G p with
    | none => rfl
    | some o => exact ((st.new p (by rw [z]; exact fun z => nomatch z)).elim (fun y => absurd n1 y) fun y => absurd y hp)
/-- a frozen list or tuple is read -/
theorem Gd.rd (g : Gd K L W H S) {a : Addr} {u : HO} (h : Rd W.G a u) : Rd H a u := by
  rcases h with h | ⟨o, h⟩
  · exact .inl (g.fz _ _ h)
  · exact .inr ⟨o, g.fz _ _ h⟩
theorem Gd.sqT (g : Gd K L W H S) {a : Addr} {vs : List V} (h : SqT K W.G a vs) : SqT K H a vs := by
  rcases h with h | h
  · exact .inl (g.rd h)
  · exact .inr h
theorem Gd.sqL (g : Gd K L W H S) {a : Addr} {vs : List V} (h : SqL K W.G a vs) : SqL K H a vs := by
  rcases h with h | h
  · exact .inl (g.rd h)
  · exact .inr h
theorem Tp.lst (g : Gd K L W H S) {xs : List D} {v : V} (t : Tp K L W H (.lst xs) v) : ∃ a vs, v = .ref a ∧ H a = some (.lst vs) ∧ RpL K L W xs vs := by
  rcases t with ⟨a, vs, e, q, r⟩ | ⟨p, e, n1, n2, vs, q, r⟩
  · exact ⟨a, vs, e, g.fz _ _ q, r⟩
  · exact ⟨p, vs, e, q, r⟩
theorem Tp.scr (g : Gd K L W H S) {ns : List Int} {v : V} (t : Tp K L W H (.scr ns) v) : ∃ a, v = .ref a ∧ SqL K H a (ns.map V.int) := by
  rcases t with ⟨a, e, q⟩ | ⟨p, e, n1, n2, c⟩
  · exact ⟨a, e, g.sqL q⟩
  · exact c.elim
theorem Tp.tup (g : Gd K L W H S) {xs : List D} {v : V} (t : Tp K L W H (.tup xs) v) : ∃ a vs, v = .ref a ∧ SqT K H a vs ∧ RpL K L W xs vs := by
  rcases t with ⟨a, vs, e, q, r⟩ | ⟨p, e, n1, n2, c⟩
  · exact ⟨a, vs, e, g.sqT q, r⟩
  · exact c.elim
end

/-! ### the judgements -/
section
variable (K : PySem.W.Frag) (L : Ly) (E : XK)
def Sem (de : DE) (t : TE) : Prop := ∀ (F : FD) W H S env σ Q, Frm K L F W H S env σ → wpO (de env S) (PV K L W H Q) (XP K L F E) → t σ H Q
def SemB (de : DE) (t : TE) : Prop := ∀ (F : FD) W H S env σ Q, Frm K L F W H S env σ → wpO (de env S) (PB K L W H Q) (XP K L F E) → t σ H Q
def SemA (da : DA) (t : TA) : Prop := ∀ (F : FD) W H S env σ Q, Frm K L F W H S env σ → wpO (da env S) (PVs K L W H Q) (XP K L F E) → t σ H Q
def SemT (db : DB) (t : TT) : Prop := ∀ (F : FD) W H S env σ Q, Frm K L F W H S env σ → wpO (db env S) (PBl K L W H Q) (XP K L F E) → t σ H Q
end
section
variable (X : Cx) (K : PySem.W.Frag) (L : Ly) (E : XK)
/-- an expression and its plain reading -/
structure SE (e : Expr) (t : TE) (de : DE) : Prop where
  hK : X.K = K
  p : PE X e t
  s : Sem K L E de t
structure SB (e : Expr) (t : TE) (de : DE) : Prop where
  hK : X.K = K
  p : PE X e t
  s : SemB K L E de t
structure SA (es : List Expr) (t : TA) (da : DA) : Prop where
  hK : X.K = K
  p : PA X es t
  s : SemA K L E da t
structure ST (e : Expr) (t : TT) (db : DB) : Prop where
  hK : X.K = K
  p : PT X e t
  s : SemT K L E db t
structure SW (e : Expr) (t : TT) (db : DB) : Prop where
  hK : X.K = K
  p : PW X e t
  s : SemT K L E db t
end
end Sk

set_option Elab.async false
set_option linter.all false
set_option maxRecDepth 100000
set_option maxHeartbeats 2000000
set_option autoImplicit false
/-! SkR: rules for expressions. -/
namespace Sk
open PySem PySem.Spec PyProof.Rows L2

section
variable {X : Cx} {K : PySem.W.Frag} {L : Ly} {E : XK} {a b c e : Expr} {es : List Expr} {ta tb tc : TE} {da db dc : DE} {pos : Pos}

theorem se_sb (h : SE X K L E e ta da) : SB X K L E e ta da :=
  ⟨h.hK, h.p, fun F W H S env σ Q fr w => h.s F W H S env σ Q fr (wpO_imp w fun d S' q W' H' v st g r => q W' H' v st g (.inl r))⟩
theorem se_var (i : Nat) {x : Str} (hN : X.N[i]? = some x := by rfl) (hv : Vis X.env.scope x := by first | exact Or.inl rfl | exact Or.inr (Or.inl rfl) | exact Or.inr (Or.inr rfl)) (hd : (x == ("__debug__" : Str)) = false := by decide)
    (hcd : (x == ("__classdict__" : Str)) = false := by decide) (hK : X.K = K := by rfl) : SE X K L E (.Name x pos) (tVar i) (dVar i) := by
  refine ⟨hK, pe_var hN hv hd hcd, fun F W H S env σ Q fr w => ?_⟩
  unfold dVar at w
  cases q : env[i]? with
  | none =>
    rw [q] at w
    exact w.elim
  | some s =>
    rw [q] at w
    have hs := fr.sl i s q
    cases s with
    | no => exact w.elim
    | own d => exact w.elim
    | shr d =>
      obtain ⟨v, e1, r⟩ := hs
      exact ⟨v, e1, PV.now w fr.good r⟩
theorem sb_var (i : Nat) {x : Str} (hN : X.N[i]? = some x := by rfl) (hv : Vis X.env.scope x := by first | exact Or.inl rfl | exact Or.inr (Or.inl rfl) | exact Or.inr (Or.inr rfl)) (hd : (x == ("__debug__" : Str)) = false := by decide)
    (hcd : (x == ("__classdict__" : Str)) = false := by decide) (hK : X.K = K := by rfl) : SB X K L E (.Name x pos) (tVar i) (bVar i) := by
  refine ⟨hK, pe_var hN hv hd hcd, fun F W H S env σ Q fr w => ?_⟩
  unfold bVar at w
  cases q : env[i]? with
  | none =>
    rw [q] at w
    exact w.elim
  | some s =>
    rw [q] at w
    have hs := fr.sl i s q
    cases s with
    | no => exact w.elim
    | own d =>
      obtain ⟨p, e1, n1, n2, n3, c⟩ := hs
      exact ⟨.ref p, e1, w W H _ Stp.refl fr.good (.inr ⟨p, rfl, n1, n2, c⟩)⟩
    | shr d =>
      obtain ⟨v, e1, r⟩ := hs
      exact ⟨v, e1, w W H _ Stp.refl fr.good (.inl r)⟩
theorem se_cst {v : V} {d : D} (p : PE X e (tC v)) (r : ∀ W, Rp K L W d v) (hK : X.K = K := by rfl) : SE X K L E e (tC v) (dC d) :=
  ⟨hK, p, fun F W H S env σ Q fr w => PV.now w fr.good (r W)⟩
theorem se_int {i : Int} {j : Nat} (hK : X.K = K := by rfl) : SE X K L E (.Constant (.int i) j pos) (tC (.int i)) (dC (.int i)) := se_cst pe_int (fun _ => rfl) hK
theorem se_bl {i : Bool} {j : Nat} (hK : X.K = K := by rfl) : SE X K L E (.Constant (.bool i) j pos) (tC (.bl i)) (dC (.bl i)) := se_cst pe_bl (fun _ => rfl) hK
theorem se_non {j : Nat} (hK : X.K = K := by rfl) : SE X K L E (.Constant .none j pos) (tC .non) (dC .non) := se_cst pe_non (fun _ => rfl) hK
theorem se_str {x : Str} {j : Nat} (hK : X.K = K := by rfl) : SE X K L E (.Constant (.str x) j pos) (tC (.str x)) (dC (.str x)) := se_cst pe_str (fun _ => rfl) hK
/-- a constant of the module -/
theorem se_glob {x : Str} {v : V} {u : Value} {d : D} (hg : Gl X x) (hm : X.mg x = some u) (r : RelV v u) (rp : ∀ W, Rp K L W d v) (hd : (x == ("__debug__" : Str)) = false := by decide) (hK : X.K = K := by rfl) :
    SE X K L E (.Name x pos) (tC v) (dC d) := se_cst (pe_glob hg hm r hd) rp hK

/-- an operation on values -/
def OpS (K : PySem.W.Frag) (L : Ly) (r : R2) (f : D → D → M D) : Prop :=
  ∀ (W : Wd) (H : Hp) (S : Store) (x y : D) (v w : V) (Q : VK) (R : Nat → List D → Store → Prop), Gd K L W H S → Tp K L W H x v → Tp K L W H y w → wpO (f x y S) (PV K L W H Q) R → r v w H Q
def UnS (K : PySem.W.Frag) (L : Ly) (r : V → Hp → VK → Prop) (f : D → M D) : Prop :=
  ∀ (W : Wd) (H : Hp) (S : Store) (x : D) (v : V) (Q : VK) (R : Nat → List D → Store → Prop), Gd K L W H S → Tp K L W H x v → wpO (f x S) (PV K L W H Q) R → r v H Q
theorem sem_bin {r : R2} {f : D → D → M D} (hs : OpS K L r f) (ha : SemB K L E da ta) (hb : SemB K L E db tb) : Sem K L E (dBin f da db) (tOp r ta tb) := by
  intro F W H S env σ Q fr w
  refine ha F W H S env σ _ fr (wpO_imp (wpO_bind w) fun x S1 w1 W1 H1 v1 st1 g1 r1 => ?_)
  refine hb F W1 H1 S1 env σ _ (fr.next st1 g1) (wpO_imp (wpO_bind w1) fun y S2 w2 W2 H2 v2 st2 g2 r2 => ?_)
  exact hs W2 H2 S2 x y v1 v2 Q _ g2 (r1.mono st2) r2 (wpO_imp w2 fun d S' q => q.mono (st1.trans st2))
theorem sem_un {r : V → Hp → VK → Prop} {f : D → M D} (hs : UnS K L r f) (ha : SemB K L E da ta) : Sem K L E (dUn f da) (tUn r ta) := by
  intro F W H S env σ Q fr w
  refine ha F W H S env σ _ fr (wpO_imp (wpO_bind w) fun x S1 w1 W1 H1 v1 st1 g1 r1 => ?_)
  exact hs W1 H1 S1 x v1 Q _ g1 r1 (wpO_imp w1 fun d S' q => q.mono st1)
theorem se_bin {op : Operator} {r : R2} {f : D → D → M D} (ho : OpR X (binaryOp op) r) (hs : OpS K L r f) (ha : SB X K L E a ta da) (hb : SB X K L E b tb db) : SE X K L E (.BinOp a op b pos) (tOp r ta tb) (dBin f da db) :=
  ⟨ha.hK, pe_op ho ha.p hb.p, sem_bin hs ha.s hb.s⟩
theorem se_cmp {op : CmpOp} {r : R2} {f : D → D → M D} (ho : OpR X (compareOp op) r) (hs : OpS K L r f) (ha : SB X K L E a ta da) (hb : SB X K L E b tb db) (hm : behindInMarks op b = false) : SE X K L E (.Compare a [op] [b] pos) (tOp r ta tb) (dBin f da db) :=
  ⟨ha.hK, pe_cmpR ho ha.p hb.p hm, sem_bin hs ha.s hb.s⟩
theorem se_un {op : UnaryOp} {r : V → Hp → VK → Prop} {f : D → M D} (ho : UnR X (unaryOp op) r) (hs : UnS K L r f) (ha : SB X K L E a ta da) : SE X K L E (.UnaryOp op a pos) (tUn r ta) (dUn f da) :=
  ⟨ha.hK, pe_un ho ha.p, sem_un hs ha.s⟩

/-! ### ints -/
theorem Tp.int {W : Wd} {H : Hp} {i : Int} {v : V} (t : Tp K L W H (.int i) v) : v = .int i := by
  rcases t with t | ⟨_, _, _, _, c⟩
  · exact t
  · exact c.elim
theorem Tp.bl {W : Wd} {H : Hp} {i : Bool} {v : V} (t : Tp K L W H (.bl i) v) : v = .bl i := by
  rcases t with t | ⟨_, _, _, _, c⟩
  · exact t
  · exact c.elim
theorem Tp.str {W : Wd} {H : Hp} {i : Str} {v : V} (t : Tp K L W H (.str i) v) : v = .str i := by
  rcases t with t | ⟨_, _, _, _, c⟩
  · exact t
  · exact c.elim
theorem Tp.non {W : Wd} {H : Hp} {v : V} (t : Tp K L W H .non v) : v = .non := by
  rcases t with t | ⟨_, _, _, _, c⟩
  · exact t
  · exact c.elim
theorem ops_int {r : R2} {f : D → D → M D} (C : Int → Int → Prop) (g : Int → Int → D) (gV : Int → Int → V) (hg : ∀ i j W, Rp K L W (g i j) (gV i j)) (hf : ∀ x y S (P : D → Store → Prop) R, wpO (f x y S) P R → ∃ i j, x = .int i ∧ y = .int j ∧ C i j ∧ P (g i j) S)
    (hr : ∀ i j H Q, C i j → Q (gV i j) H → r (.int i) (.int j) H Q) : OpS K L r f := by
  intro W H S x y v w Q R gd t1 t2 h
  obtain ⟨i, j, rfl, rfl, c, p⟩ := hf x y S _ _ h
  rw [t1.int, t2.int]
  exact hr i j H Q c (PV.now p gd (hg i j W))
theorem ops_addI : OpS K L (rI0 fun i j => .int (i + j)) oAddI := by
  refine ops_int (fun _ _ => True) (fun i j => .int (i + j)) (fun i j => .int (i + j)) (fun _ _ _ => rfl) (fun x y S P R h => ?_) (fun i j H Q _ q => ⟨i, j, rfl, rfl, q⟩)
  unfold oAddI at h
  split at h
  · exact ⟨_, _, rfl, rfl, trivial, h⟩
  · exact h.elim
theorem ops_sub : OpS K L (rI0 fun i j => .int (i - j)) oSub := by
  refine ops_int (fun _ _ => True) (fun i j => .int (i - j)) (fun i j => .int (i - j)) (fun _ _ _ => rfl) (fun x y S P R h => ?_) (fun i j H Q _ q => ⟨i, j, rfl, rfl, q⟩)
  unfold oSub at h
  split at h
  · exact ⟨_, _, rfl, rfl, trivial, h⟩
  · exact h.elim
theorem mulOk_c {i j : Int} (h : mulOk i j = true) : CMul i j ∨ CMulW i j := by
  unfold mulOk at h
  rw [Bool.or_eq_true, Bool.or_eq_true] at h
  rcases h with (h | h) | h
  · have h := of_decide_eq_true h
    left; left
    omega
  · have h := of_decide_eq_true h
    left; right
    omega
  · rw [Bool.and_eq_true] at h
    have h1 := of_decide_eq_true h.1
    have h2 := of_decide_eq_true h.2
    right
    exact wide_mul h1 h2 (by decide) (by decide) (by decide)
def rMulB : R2 := fun x y H Q => rI CMul (fun i j => .int (i * j)) x y H Q ∨ rI CMulW (fun i j => .int (i * j)) x y H Q
theorem op_mulB {X : Cx} : OpR X (binaryOp .Mult) rMulB := op_mul.or op_mulW
theorem ops_mul : OpS K L rMulB oMul := by
  refine ops_int (fun i j => mulOk i j = true) (fun i j => .int (i * j)) (fun i j => .int (i * j)) (fun _ _ _ => rfl) (fun x y S P R h => ?_) (fun i j H Q c q => ?_)
  · unfold oMul at h
    split at h
    · obtain ⟨c, h⟩ := wpO_ite h
      exact ⟨_, _, rfl, rfl, c, h⟩
    · exact h.elim
  · rcases mulOk_c c with c | c
    · exact .inl ⟨i, j, rfl, rfl, c, q⟩
    · exact .inr ⟨i, j, rfl, rfl, c, q⟩
theorem divOk_c {j : Int} (h : divOk j = true) (i : Int) : CDivW i j := by
  unfold divOk at h
  rw [Bool.and_eq_true] at h
  exact wide_div (of_decide_eq_true h.1) (of_decide_eq_true h.2) (by decide) (by decide)
theorem ops_div : OpS K L (rI CDivW fun i j => .int (i / j)) oDiv := by
  refine ops_int (fun i j => divOk j = true) (fun i j => .int (i / j)) (fun i j => .int (i / j)) (fun _ _ _ => rfl) (fun x y S P R h => ?_) (fun i j H Q c q => ⟨i, j, rfl, rfl, divOk_c c i, q⟩)
  unfold oDiv at h
  split at h
  · obtain ⟨c, h⟩ := wpO_ite h
    exact ⟨_, _, rfl, rfl, c, h⟩
  · exact h.elim
theorem ops_mod : OpS K L (rI (fun _ j => 0 < j) fun i j => .int (i % j)) oMod := by
  refine ops_int (fun i j => 0 < j) (fun i j => .int (i % j)) (fun i j => .int (i % j)) (fun _ _ _ => rfl) (fun x y S P R h => ?_) (fun i j H Q c q => ⟨i, j, rfl, rfl, c, q⟩)
  unfold oMod at h
  split at h
  · obtain ⟨c, h⟩ := wpO_ite h
    exact ⟨_, _, rfl, rfl, of_decide_eq_true c, h⟩
  · exact h.elim
theorem ops_pow : OpS K L (rI CPow fun i j => .int (i ^ j.toNat)) oPow := by
  refine ops_int (fun i j => 0 ≤ j ∧ j ≤ 1000 ∧ i.natAbs < 2 ^ 64) (fun i j => .int (i ^ j.toNat)) (fun i j => .int (i ^ j.toNat)) (fun _ _ _ => rfl) (fun x y S P R h => ?_) (fun i j H Q c q => ⟨i, j, rfl, rfl, ⟨c.1, by have := c.2.1; omega, c.2.2⟩, q⟩)
  unfold oPow at h
  split at h
  · obtain ⟨c, h⟩ := wpO_ite h
    exact ⟨_, _, rfl, rfl, of_decide_eq_true c, h⟩
  · exact h.elim
def rAddB : R2 := fun x y H Q => rI0 (fun i j => .int (i + j)) x y H Q ∨ rCat x y H Q
theorem iop_mulW {X : Cx} : OpR X (inplaceOp .Mult) (rI CMulW fun i j => .int (i * j)) := opI fun _ _ _ _ _ _ _ hc q => imul_int q hc.ok
theorem iop_mulB {X : Cx} : OpR X (inplaceOp .Mult) rMulB := iop_mul.or iop_mulW
theorem op_addB {X : Cx} : OpR X (binaryOp .Add) rAddB := op_add.or op_cat
theorem lim {n : Nat} (h : n ≤ 50000) : n ≤ sizeLine := Nat.le_trans h (by decide)
theorem limLt {n : Nat} (h : n < 50000) : n < sizeLine := Nat.lt_of_lt_of_le h (by decide)
/-- a new list, a new tuple are frozen at once -/
theorem PV.lst {W : Wd} {H : Hp} {S : Store} {Q : VK} {xs : List D} {vs : List V} (h : PV K L W H Q (.lst xs) S) (g : Gd K L W H S) (r : RpL K L W xs vs) : ∀ p, H p = none → Q (.ref p) (upd H p (.lst vs)) := fun p hp =>
  h _ _ _ (Stp.alloc g hp) (g.alloc hp) ⟨p, vs, rfl, Wd.add_at, r.mono (Wd.le_add (g.freeG hp))⟩
theorem PV.tup {W : Wd} {H : Hp} {S : Store} {Q : VK} {xs : List D} {vs : List V} (h : PV K L W H Q (.tup xs) S) (g : Gd K L W H S) (r : RpL K L W xs vs) : ∀ p, H p = none → Q (.ref p) (upd H p (.tup vs)) := fun p hp =>
  h _ _ _ (Stp.alloc g hp) (g.alloc hp) ⟨p, vs, rfl, SqT.of Wd.add_at, r.mono (Wd.le_add (g.freeG hp))⟩
theorem ops_add : OpS K L rAddB oAdd := by
  intro W H S x y v w Q R gd t1 t2 h
  unfold oAdd at h
  split at h
  · rw [t1.int, t2.int]
    exact .inl ⟨_, _, rfl, rfl, PV.now h gd rfl⟩
  · obtain ⟨c, h⟩ := wpO_ite h
    obtain ⟨a1, vs, rfl, h1, r1⟩ := t1.lst gd
    obtain ⟨a2, ws, rfl, h2, r2⟩ := t2.lst gd
    exact .inr ⟨a1, a2, vs, ws, rfl, rfl, h1, h2, lim (by rw [r1.length, r2.length]; exact c), PV.lst h gd (r1.append r2)⟩
  · exact h.elim
theorem uns_neg : UnS K L (rU fun i => .int (-i)) oNeg := by
  intro W H S x v Q R gd t h
  unfold oNeg at h
  split at h
  · rw [t.int]
    exact ⟨_, rfl, PV.now h gd rfl⟩
  · exact h.elim
theorem ops_lt : OpS K L (rI0 fun i j => .bl (decide (i < j))) oLt := by
  refine ops_int (fun _ _ => True) (fun i j => .bl (decide (i < j))) (fun i j => .bl (decide (i < j))) (fun _ _ _ => rfl) (fun x y S P R h => ?_) (fun i j H Q _ q => ⟨i, j, rfl, rfl, q⟩)
  unfold oLt at h
  split at h
  · exact ⟨_, _, rfl, rfl, trivial, h⟩
  · exact h.elim
theorem ops_le : OpS K L (rI0 fun i j => .bl (decide (i ≤ j))) oLe := by
  refine ops_int (fun _ _ => True) (fun i j => .bl (decide (i ≤ j))) (fun i j => .bl (decide (i ≤ j))) (fun _ _ _ => rfl) (fun x y S P R h => ?_) (fun i j H Q _ q => ⟨i, j, rfl, rfl, q⟩)
  unfold oLe at h
  split at h
  · exact ⟨_, _, rfl, rfl, trivial, h⟩
  · exact h.elim
theorem ops_gt : OpS K L (rI0 fun i j => .bl (decide (j < i))) oGt := by
  refine ops_int (fun _ _ => True) (fun i j => .bl (decide (j < i))) (fun i j => .bl (decide (j < i))) (fun _ _ _ => rfl) (fun x y S P R h => ?_) (fun i j H Q _ q => ⟨i, j, rfl, rfl, q⟩)
  unfold oGt at h
  split at h
  · exact ⟨_, _, rfl, rfl, trivial, h⟩
  · exact h.elim
theorem ops_ge : OpS K L (rI0 fun i j => .bl (decide (j ≤ i))) oGe := by
  refine ops_int (fun _ _ => True) (fun i j => .bl (decide (j ≤ i))) (fun i j => .bl (decide (j ≤ i))) (fun _ _ _ => rfl) (fun x y S P R h => ?_) (fun i j H Q _ q => ⟨i, j, rfl, rfl, q⟩)
  unfold oGe at h
  split at h
  · exact ⟨_, _, rfl, rfl, trivial, h⟩
  · exact h.elim
abbrev qSub : R2 := rI0 fun i j => .int (i - j)
abbrev qDiv : R2 := rI CDivW fun i j => .int (i / j)
abbrev qMod : R2 := rI (fun _ j => 0 < j) fun i j => .int (i % j)
abbrev qPow : R2 := rI CPow fun i j => .int (i ^ j.toNat)
abbrev qNeg : V → Hp → VK → Prop := rU fun i => .int (-i)
abbrev qLt : R2 := rI0 fun i j => .bl (decide (i < j))
abbrev qLe : R2 := rI0 fun i j => .bl (decide (i ≤ j))
abbrev qGt : R2 := rI0 fun i j => .bl (decide (j < i))
abbrev qGe : R2 := rI0 fun i j => .bl (decide (j ≤ i))
theorem se_add (ha : SB X K L E a ta da) (hb : SB X K L E b tb db) : SE X K L E (.BinOp a .Add b pos) (tOp rAddB ta tb) (dBin oAdd da db) := se_bin op_addB ops_add ha hb
theorem se_sub (ha : SB X K L E a ta da) (hb : SB X K L E b tb db) : SE X K L E (.BinOp a .Sub b pos) (tOp qSub ta tb) (dBin oSub da db) := se_bin op_sub ops_sub ha hb
theorem se_mul (ha : SB X K L E a ta da) (hb : SB X K L E b tb db) : SE X K L E (.BinOp a .Mult b pos) (tOp rMulB ta tb) (dBin oMul da db) := se_bin op_mulB ops_mul ha hb
theorem se_div (ha : SB X K L E a ta da) (hb : SB X K L E b tb db) : SE X K L E (.BinOp a .FloorDiv b pos) (tOp qDiv ta tb) (dBin oDiv da db) := se_bin op_fdivW ops_div ha hb
theorem se_mod (ha : SB X K L E a ta da) (hb : SB X K L E b tb db) : SE X K L E (.BinOp a .Mod b pos) (tOp qMod ta tb) (dBin oMod da db) := se_bin op_mod ops_mod ha hb
theorem se_pow (ha : SB X K L E a ta da) (hb : SB X K L E b tb db) : SE X K L E (.BinOp a .Pow b pos) (tOp qPow ta tb) (dBin oPow da db) := se_bin op_pow ops_pow ha hb
theorem se_neg (ha : SB X K L E a ta da) : SE X K L E (.UnaryOp .USub a pos) (tUn qNeg ta) (dUn oNeg da) := se_un un_neg uns_neg ha
theorem se_lt (ha : SB X K L E a ta da) (hb : SB X K L E b tb db) : SE X K L E (.Compare a [.Lt] [b] pos) (tOp qLt ta tb) (dBin oLt da db) := se_cmp op_lt ops_lt ha hb (nomark _)
theorem se_le (ha : SB X K L E a ta da) (hb : SB X K L E b tb db) : SE X K L E (.Compare a [.LtE] [b] pos) (tOp qLe ta tb) (dBin oLe da db) := se_cmp op_le ops_le ha hb (nomark _)
theorem se_gt (ha : SB X K L E a ta da) (hb : SB X K L E b tb db) : SE X K L E (.Compare a [.Gt] [b] pos) (tOp qGt ta tb) (dBin oGt da db) := se_cmp op_gt ops_gt ha hb (nomark _)
theorem se_ge (ha : SB X K L E a ta da) (hb : SB X K L E b tb db) : SE X K L E (.Compare a [.GtE] [b] pos) (tOp qGe ta tb) (dBin oGe da db) := se_cmp op_ge ops_ge ha hb (nomark _)
end

/-! ### == of data -/
section
variable {K : PySem.W.Frag} {L : Ly}
mutual
theorem py_dp {W : Wd} {H : Hp} {S : Store} (g : Gd K L W H S) : ∀ (n : Nat) (d : D) (v : V), okD n d = true → Rp K L W d v → Dp K H v (toPy d)
  | 0, d, v, h, r => by cases h
  | n + 1, .non, v, h, r => by
    cases (show v = .non from r)
    exact .non
  | n + 1, .bl b, v, h, r => by
    cases (show v = .bl b from r)
    exact .bl b
  | n + 1, .int b, v, h, r => by
    cases (show v = .int b from r)
    exact .int b
  | n + 1, .str b, v, h, r => by
    cases (show v = .str b from r)
    exact .str b
  | n + 1, .tup xs, v, h, r => by
    obtain ⟨a, vs, rfl, q, r⟩ := r
    exact .tup (g.sqT q) (py_dpL g n xs vs h r)
  | n + 1, .lst xs, v, h, r => by
    obtain ⟨a, vs, rfl, q, r⟩ := r
    exact .lst (SqL.of (g.fz _ _ q)) (py_dpL g n xs vs h r)
  | n + 1, .scr ns, v, h, r => by
    obtain ⟨a, rfl, q⟩ := r
    refine .lst (g.sqL q) ?_
    clear q h
    induction ns with
    | nil => exact .nil
    | cons x r ih => exact .cons (.int x) ih
  | n + 1, .dk _ _, _, h, _ => by cases n <;> cases h
  | n + 1, .dt _ _, _, h, _ => by cases n <;> cases h
  | n + 1, .obj _ _, _, h, _ => by cases n <;> cases h
  | n + 1, .cel _, _, h, _ => by cases n <;> cases h
  | n + 1, .clo _ _, _, h, _ => by cases n <;> cases h
theorem py_dpL {W : Wd} {H : Hp} {S : Store} (g : Gd K L W H S) : ∀ (n : Nat) (ds : List D) (vs : List V), ds.all (okD n) = true → RpL K L W ds vs → DpAll K H vs (toPyL ds)
  | n, [], vs, h, r => by
    have r : vs = [] := r
    subst r
    exact .nil
  | n, d :: ds, vs, h, r => by
    obtain ⟨v, q, rfl, r1, r2⟩ := r
    rw [List.all_cons, Bool.and_eq_true] at h
    exact .cons (py_dp g n d v h.1 r1) (py_dpL g n ds q h.2 r2)
end
end
end Sk

set_option Elab.async false
set_option linter.all false
set_option maxRecDepth 100000
set_option maxHeartbeats 2000000
set_option autoImplicit false
/-! SkR2: ==, tests, kinds, displays, built-in calls, items. -/
namespace Sk
open PySem PySem.Spec PyProof.Rows L2
section
variable {K : PySem.W.Frag} {L : Ly}
mutual
theorem okD_lay : ∀ (n : Nat) (d : D), okD n d = true → (toPy d).canLay0 = true ∧ (toPy d).depth ≤ n
  | 0, d, h => by cases h
  | n + 1, .non, h => ⟨rfl, Nat.zero_le _⟩
  | n + 1, .bl b, h => ⟨rfl, Nat.zero_le _⟩
  | n + 1, .int b, h => ⟨rfl, Nat.zero_le _⟩
  | n + 1, .str b, h => ⟨h, Nat.zero_le _⟩
  | n + 1, .tup xs, h => by
    obtain ⟨h1, h2⟩ := okD_layL n xs h
    exact ⟨h1, Nat.succ_le_succ h2⟩
  | n + 1, .lst xs, h => by
    obtain ⟨h1, h2⟩ := okD_layL n xs h
    exact ⟨h1, Nat.succ_le_succ h2⟩
  | 0 + 1, .scr ns, h => by cases h
  | n + 2, .scr ns, h => by
    have e : PyData.canLayAll0 (ns.map PyData.int) = true ∧ PyData.depthAll (ns.map PyData.int) = 0 := by
      clear h
      induction ns with
      | nil => exact ⟨rfl, rfl⟩
      | cons x r ih =>
        refine ⟨ih.1, ?_⟩
        show max 0 (PyData.depthAll (r.map PyData.int)) = 0
        rw [ih.2]
        rfl
    refine ⟨e.1, ?_⟩
    show PyData.depthAll (ns.map PyData.int) + 1 ≤ n + 2
    rw [e.2]
    omega
  | n + 1, .dk _ _, h => by cases n <;> cases h
  | n + 1, .dt _ _, h => by cases n <;> cases h
  | n + 1, .obj _ _, h => by cases n <;> cases h
  | n + 1, .cel _, h => by cases n <;> cases h
  | n + 1, .clo _ _, h => by cases n <;> cases h
theorem okD_layL : ∀ (n : Nat) (ds : List D), ds.all (okD n) = true → PyData.canLayAll0 (toPyL ds) = true ∧ PyData.depthAll (toPyL ds) ≤ n
  | n, [], h => ⟨rfl, Nat.zero_le _⟩
  | n, d :: ds, h => by
    rw [List.all_cons, Bool.and_eq_true] at h
    obtain ⟨h1, h2⟩ := okD_lay n d h.1
    obtain ⟨h3, h4⟩ := okD_layL n ds h.2
    refine ⟨?_, ?_⟩
    · show (PyData.canLay0 (toPy d) && PyData.canLayAll0 (toPyL ds)) = true
      rw [h1, h3]
      rfl
    · show max (PyData.depth (toPy d)) (PyData.depthAll (toPyL ds)) ≤ n
      omega
end
theorem okD_shaped {d : D} (h : okD 8 d = true) : SeqAt.shaped (toPy d) = true := by
  obtain ⟨h1, h2⟩ := okD_lay 8 d h
  unfold SeqAt.shaped
  rw [h1, decide_eq_true (by omega)]
  rfl
/-- a thing read at once is data, too -/
theorem tp_dp {W : Wd} {H : Hp} {S : Store} (g : Gd K L W H S) {n : Nat} {d : D} {v : V} (h : okD n d = true) (t : Tp K L W H d v) : Dp K H v (toPy d) := by
  rcases t with r | ⟨p, rfl, n1, n2, c⟩
  · exact py_dp g n d v h r
  · cases n with
    | zero => cases h
    | succ n =>
      cases d with
      | lst xs =>
        obtain ⟨vs, e, r⟩ := c
        exact .lst (SqL.of e) (py_dpL g n xs vs h r)
      | obj _ _ => cases n <;> cases h
      | dk _ _ => cases n <;> cases h
      | dt _ _ => cases n <;> cases h
      | _ => exact c.elim
theorem ops_eq : OpS K L (rEqD K) oEq := by
  intro W H S x y v w Q R g t1 t2 h
  obtain ⟨c, h⟩ := wpO_ite h
  rw [Bool.and_eq_true] at c
  exact ⟨toPy x, toPy y, tp_dp g c.1 t1, tp_dp g c.2 t2, okD_shaped c.1, okD_shaped c.2, PV.now h g rfl⟩
theorem ops_ne : OpS K L (rNeD K) oNe := by
  intro W H S x y v w Q R g t1 t2 h
  obtain ⟨c, h⟩ := wpO_ite h
  rw [Bool.and_eq_true] at c
  exact ⟨toPy x, toPy y, tp_dp g c.1 t1, tp_dp g c.2 t2, okD_shaped c.1, okD_shaped c.2, PV.now h g rfl⟩
end

section
variable {X : Cx} {K : PySem.W.Frag} {L : Ly} {E : XK} {a b c e : Expr} {es : List Expr} {ta tb tc : TE} {da db dc : DE} {pos : Pos}
theorem se_eq (hu : X.A.units + 64 < cLine) (ha : SB X K L E a ta da) (hb : SB X K L E b tb db) : SE X K L E (.Compare a [.Eq] [b] pos) (tOp (rEqD K) ta tb) (dBin oEq da db) := by
  obtain ⟨rfl, pa, sa⟩ := ha
  exact se_cmp (op_eqD hu) ops_eq ⟨rfl, pa, sa⟩ hb (nomark _)
theorem se_ne (hu : X.A.units + 64 < cLine) (ha : SB X K L E a ta da) (hb : SB X K L E b tb db) : SE X K L E (.Compare a [.NotEq] [b] pos) (tOp (rNeD K) ta tb) (dBin oNe da db) := by
  obtain ⟨rfl, pa, sa⟩ := ha
  exact se_cmp (op_neD hu) ops_ne ⟨rfl, pa, sa⟩ hb (nomark _)
/-- is None -/
abbrev qIsN : R2 := fun x y H Q => y = .non ∧ Q (.bl (decide (x = .non))) H
abbrev qNotN : R2 := fun x y H Q => y = .non ∧ Q (.bl (!decide (x = .non))) H
theorem tp_non {W : Wd} {H : Hp} {d : D} {v : V} (t : Tp K L W H d v) (h : v = .non) : d = .non := by
  subst h
  rcases t with r | ⟨p, e, _⟩
  · cases d with
    | non => rfl
    | bl _ => cases r
    | int _ => cases r
    | str _ => cases r
    | tup _ => obtain ⟨a, vs, e, _⟩ := r; cases e
    | lst _ => obtain ⟨a, vs, e, _⟩ := r; cases e
    | dk _ _ => obtain ⟨a, od, vs, e, _⟩ := r; cases e
    | dt _ _ => obtain ⟨a, od, vs, e, _⟩ := r; cases e
    | obj _ _ => obtain ⟨a, dx, vs, e, _⟩ := r; cases e
    | cel _ => obtain ⟨a, e, _⟩ := r; cases e
    | clo _ _ => exact r.elim
    | scr _ => obtain ⟨a, e, _⟩ := r; cases e
  · cases e
theorem ops_isN : OpS K L qIsN oIsN2 := by
  intro W H S x y v w Q R g t1 t2 h
  unfold oIsN2 at h
  cases y with
  | non =>
    refine ⟨t2.non, ?_⟩
    by_cases hv : v = .non
    · have e := tp_non t1 hv
      subst e
      rw [decide_eq_true hv]
      exact PV.now h g rfl
    · rw [decide_eq_false hv]
      have e : oIsNone x = M.pure (.bl false) := by
        unfold oIsNone
        split
        · exact absurd t1.non hv
        · rfl
      have h : wpO (oIsNone x S) (PV K L W H Q) R := h
      rw [e] at h
      exact PV.now h g rfl
  | _ => exact h.elim
theorem ops_notN : OpS K L qNotN oNotN2 := by
  intro W H S x y v w Q R g t1 t2 h
  unfold oNotN2 at h
  cases y with
  | non =>
    refine ⟨t2.non, ?_⟩
    by_cases hv : v = .non
    · have e := tp_non t1 hv
      subst e
      rw [decide_eq_true hv]
      exact PV.now h g rfl
    · rw [decide_eq_false hv]
      have e : oNotNone x = M.pure (.bl true) := by
        unfold oNotNone
        split
        · exact absurd t1.non hv
        · rfl
      have h : wpO (oNotNone x S) (PV K L W H Q) R := h
      rw [e] at h
      exact PV.now h g rfl
  | _ => exact h.elim
theorem se_isN (ha : SB X K L E a ta da) (hb : SB X K L E b tb db) : SE X K L E (.Compare a [.Is] [b] pos) (tOp qIsN ta tb) (dBin oIsN2 da db) := se_cmp op_isN ops_isN ha hb (nomark _)
theorem se_notN (ha : SB X K L E a ta da) (hb : SB X K L E b tb db) : SE X K L E (.Compare a [.IsNot] [b] pos) (tOp qNotN ta tb) (dBin oNotN2 da db) := se_cmp op_notN ops_notN ha hb (nomark _)

/-! ### tests -/
theorem wpO_asB {d : D} {S : Store} {P : Bool → Store → Prop} {R : Nat → List D → Store → Prop} (h : wpO (asB d S) P R) : ∃ b, d = .bl b ∧ P b S := by
  unfold asB at h
  split at h
  · exact ⟨_, rfl, h⟩
  · exact h.elim
theorem st_val (ha : SE X K L E a ta da) (he : ∀ whole, isTrue a X.env whole = (do let v ← whole; standAt a.pos; holding [v] (truthy v)) := by intro _; rfl) : ST X K L E a (tB ta) (tVal da) := by
  refine ⟨ha.hK, pt_val ha.p he, fun F W H S env σ Q fr w => ?_⟩
  refine ha.s F W H S env σ _ fr (wpO_imp (wpO_bind w) fun x S1 w1 W1 H1 v1 st1 g1 r1 => ?_)
  obtain ⟨k, rfl, p⟩ := wpO_asB w1
  exact ⟨k, r1, p W1 H1 st1 g1⟩
/-- a comparison as a test -/
theorem sem_test {t : TE} {d : DE} (h : Sem K L E d t) : SemT K L E (tVal d) (tTest t) := by
  intro F W H S env σ Q fr w
  refine h F W H S env σ _ fr (wpO_imp (wpO_bind w) fun x S1 w1 W1 H1 v1 st1 g1 r1 => ?_)
  obtain ⟨k, rfl, p⟩ := wpO_asB w1
  exact ⟨k, r1, p W1 H1 st1 g1⟩
theorem st_cmp {op : CmpOp} {r : R2} {f : D → D → M D} (ho : OpR X (compareOp op) r) (hs : OpS K L r f) (ha : SB X K L E a ta da) (hb : SB X K L E b tb db) (hm : behindInMarks op b = false) : ST X K L E (.Compare a [op] [b] pos) (tTest (tOp r ta tb)) (tVal (dBin f da db)) :=
  ⟨ha.hK, pt_cmpR ho ha.p hb.p hm, sem_test (sem_bin hs ha.s hb.s)⟩
theorem st_lt (ha : SB X K L E a ta da) (hb : SB X K L E b tb db) : ST X K L E (.Compare a [.Lt] [b] pos) (tTest (tOp qLt ta tb)) (tVal (dBin oLt da db)) := st_cmp op_lt ops_lt ha hb (nomark _)
theorem st_le (ha : SB X K L E a ta da) (hb : SB X K L E b tb db) : ST X K L E (.Compare a [.LtE] [b] pos) (tTest (tOp qLe ta tb)) (tVal (dBin oLe da db)) := st_cmp op_le ops_le ha hb (nomark _)
theorem st_gt (ha : SB X K L E a ta da) (hb : SB X K L E b tb db) : ST X K L E (.Compare a [.Gt] [b] pos) (tTest (tOp qGt ta tb)) (tVal (dBin oGt da db)) := st_cmp op_gt ops_gt ha hb (nomark _)
theorem st_ge (ha : SB X K L E a ta da) (hb : SB X K L E b tb db) : ST X K L E (.Compare a [.GtE] [b] pos) (tTest (tOp qGe ta tb)) (tVal (dBin oGe da db)) := st_cmp op_ge ops_ge ha hb (nomark _)
theorem st_eq (hu : X.A.units + 64 < cLine) (ha : SB X K L E a ta da) (hb : SB X K L E b tb db) : ST X K L E (.Compare a [.Eq] [b] pos) (tTest (tOp (rEqD K) ta tb)) (tVal (dBin oEq da db)) := by
  obtain ⟨rfl, pa, sa⟩ := ha
  exact st_cmp (op_eqD hu) ops_eq ⟨rfl, pa, sa⟩ hb (nomark _)
theorem st_ne (hu : X.A.units + 64 < cLine) (ha : SB X K L E a ta da) (hb : SB X K L E b tb db) : ST X K L E (.Compare a [.NotEq] [b] pos) (tTest (tOp (rNeD K) ta tb)) (tVal (dBin oNe da db)) := by
  obtain ⟨rfl, pa, sa⟩ := ha
  exact st_cmp (op_neD hu) ops_ne ⟨rfl, pa, sa⟩ hb (nomark _)
theorem st_isN (ha : SB X K L E a ta da) (hb : SB X K L E b tb db) : ST X K L E (.Compare a [.Is] [b] pos) (tTest (tOp qIsN ta tb)) (tVal (dBin oIsN2 da db)) := st_cmp op_isN ops_isN ha hb (nomark _)
theorem st_notN (ha : SB X K L E a ta da) (hb : SB X K L E b tb db) : ST X K L E (.Compare a [.IsNot] [b] pos) (tTest (tOp qNotN ta tb)) (tVal (dBin oNotN2 da db)) := st_cmp op_notN ops_notN ha hb (nomark _)
variable {t u : TT} {p q : DB} {rest : List Expr}
theorem st_not (h : ST X K L E a t p) : ST X K L E (.UnaryOp .Not a pos) (tNot t) (tNotD p) := by
  refine ⟨h.hK, pt_not h.p, fun F W H S env σ Q fr w => ?_⟩
  refine h.s F W H S env σ _ fr (wpO_imp (wpO_bind w) fun x S1 w1 W1 H1 st1 g1 => ?_)
  exact w1 W1 H1 st1 g1
theorem sem_and (h1 : SemT K L E p t) (h2 : SemT K L E q u) : SemT K L E (tAndD p q) (tAnd t u) := by
  intro F W H S env σ Q fr w
  refine h1 F W H S env σ _ fr (wpO_imp (wpO_bind w) fun x S1 w1 W1 H1 st1 g1 => ?_)
  cases x with
  | true => exact h2 F W1 H1 S1 env σ Q (fr.next st1 g1) (wpO_imp w1 fun d S' q => q.mono st1)
  | false => exact (PBl.mono st1 w1) W1 H1 Stp.refl g1
theorem sem_or (h1 : SemT K L E p t) (h2 : SemT K L E q u) : SemT K L E (tOrD p q) (tOr t u) := by
  intro F W H S env σ Q fr w
  refine h1 F W H S env σ _ fr (wpO_imp (wpO_bind w) fun x S1 w1 W1 H1 st1 g1 => ?_)
  cases x with
  | false => exact h2 F W1 H1 S1 env σ Q (fr.next st1 g1) (wpO_imp w1 fun d S' q => q.mono st1)
  | true => exact (PBl.mono st1 w1) W1 H1 Stp.refl g1
theorem sw_and1 (h : ST X K L E a t p) : SW X K L E (.BoolOp .And [a] pos) t p := ⟨h.hK, pw_and1 h.p, h.s⟩
theorem sw_or1 (h : ST X K L E a t p) : SW X K L E (.BoolOp .Or [a] pos) t p := ⟨h.hK, pw_or1 h.p, h.s⟩
theorem sw_and (h1 : ST X K L E a t p) (h2 : SW X K L E (.BoolOp .And (b :: rest) pos) u q) : SW X K L E (.BoolOp .And (a :: b :: rest) pos) (tAnd t u) (tAndD p q) := ⟨h1.hK, pw_and h1.p h2.p, sem_and h1.s h2.s⟩
theorem sw_or (h1 : ST X K L E a t p) (h2 : SW X K L E (.BoolOp .Or (b :: rest) pos) u q) : SW X K L E (.BoolOp .Or (a :: b :: rest) pos) (tOr t u) (tOrD p q) := ⟨h1.hK, pw_or h1.p h2.p, sem_or h1.s h2.s⟩
theorem st_w (h : SW X K L E a t p) : ST X K L E a t p := ⟨h.hK, h.p.pt, h.s⟩
/-- x and y, x or y as values: the first ones True or False -/
theorem se_one {op : BoolOp} (h : SE X K L E a ta da) : SE X K L E (.BoolOp op [a] pos) ta da := ⟨h.hK, pe_one h.p, h.s⟩
theorem se_and (ha : SE X K L E a ta da) (hb : SE X K L E (.BoolOp .And (b :: rest) pos) tb db) : SE X K L E (.BoolOp .And (a :: b :: rest) pos) (tAndV ta tb) (dAndV da db) := by
  refine ⟨ha.hK, pe_and ha.p hb.p, fun F W H S env σ Q fr w => ?_⟩
  refine ha.s F W H S env σ _ fr (wpO_imp (wpO_bind w) fun x S1 w1 W1 H1 v1 st1 g1 r1 => ?_)
  obtain ⟨k, rfl, w2⟩ := wpO_asB (wpO_bind w1)
  refine ⟨k, r1, ?_⟩
  cases k with
  | true => exact hb.s F W1 H1 S1 env σ Q (fr.next st1 g1) (wpO_imp w2 fun d S' q => q.mono st1)
  | false => exact PV.now (PV.mono st1 w2) g1 rfl
theorem se_or (ha : SE X K L E a ta da) (hb : SE X K L E (.BoolOp .Or (b :: rest) pos) tb db) : SE X K L E (.BoolOp .Or (a :: b :: rest) pos) (tOrV ta tb) (dOrV da db) := by
  refine ⟨ha.hK, pe_or ha.p hb.p, fun F W H S env σ Q fr w => ?_⟩
  refine ha.s F W H S env σ _ fr (wpO_imp (wpO_bind w) fun x S1 w1 W1 H1 v1 st1 g1 r1 => ?_)
  obtain ⟨k, rfl, w2⟩ := wpO_asB (wpO_bind w1)
  refine ⟨k, r1, ?_⟩
  cases k with
  | false => exact hb.s F W1 H1 S1 env σ Q (fr.next st1 g1) (wpO_imp w2 fun d S' q => q.mono st1)
  | true => exact PV.now (PV.mono st1 w2) g1 rfl
theorem wpO_asB' {d : D} {S : Store} {P : D → Store → Prop} {R : Nat → List D → Store → Prop} (h : wpO (M.bind (asB d) (fun c => M.pure (.bl (!c))) S) P R) : ∃ b, d = .bl b ∧ P (.bl (!b)) S := by
  obtain ⟨b, e, p⟩ := wpO_asB (wpO_bind h)
  exact ⟨b, e, p⟩
theorem se_not (ha : SE X K L E a ta da) : SE X K L E (.UnaryOp .Not a pos) (tNotV ta) (dNotV da) := by
  refine ⟨ha.hK, pe_not ha.p, fun F W H S env σ Q fr w => ?_⟩
  refine ha.s F W H S env σ _ fr (wpO_imp (wpO_bind w) fun x S1 w1 W1 H1 v1 st1 g1 r1 => ?_)
  obtain ⟨k, rfl, w2⟩ := wpO_asB' w1
  exact ⟨k, r1, PV.now (PV.mono st1 w2) g1 rfl⟩
theorem se_if {cc : Expr} (hc : ST X K L E cc t p) (ha : SE X K L E a ta da) (hb : SE X K L E b tb db) : SE X K L E (.IfExp cc a b pos) (tIf t ta tb) (dIf p da db) := by
  refine ⟨ha.hK, pe_ifExp hc.p ha.p hb.p, fun F W H S env σ Q fr w => ?_⟩
  refine hc.s F W H S env σ _ fr (wpO_imp (wpO_bind w) fun x S1 w1 W1 H1 st1 g1 => ?_)
  cases x with
  | true => exact ha.s F W1 H1 S1 env σ Q (fr.next st1 g1) (wpO_imp w1 fun d S' q => q.mono st1)
  | false => exact hb.s F W1 H1 S1 env σ Q (fr.next st1 g1) (wpO_imp w1 fun d S' q => q.mono st1)

/-! ### arguments, displays -/
variable {tr : TA} {dr : DA}
theorem sa_nil (hK : X.K = K := by rfl) : SA X K L E [] tNil dNil := ⟨hK, pa_nil, fun F W H S env σ Q fr w => w W H [] Stp.refl fr.good rfl⟩
theorem sa_cons (ha : SE X K L E a ta da) (hr : SA X K L E es tr dr) (hs : starEach (a :: es) X.env = (false, eval a X.env) :: starEach es X.env := by rfl) : SA X K L E (a :: es) (tCons ta tr) (dCons da dr) := by
  refine ⟨ha.hK, pa_cons ha.p hr.p hs, fun F W H S env σ Q fr w => ?_⟩
  refine ha.s F W H S env σ _ fr (wpO_imp (wpO_bind w) fun x S1 w1 W1 H1 v1 st1 g1 r1 => ?_)
  refine hr.s F W1 H1 S1 env σ _ (fr.next st1 g1) (wpO_imp (wpO_bind w1) fun ys S2 w2 W2 H2 vs st2 g2 r2 => ?_)
  exact w2 W2 H2 (v1 :: vs) (st1.trans st2) g2 ⟨v1, vs, rfl, r1.mono st2.le, r2⟩
theorem se_tup {x1 : Nat} (h : SA X K L E es tr dr) : SE X K L E (.Tuple es x1 pos) (tTup tr) (dTup dr) := by
  refine ⟨h.hK, pe_tup h.p, fun F W H S env σ Q fr w => ?_⟩
  refine h.s F W H S env σ _ fr (wpO_imp (wpO_bind w) fun x S1 w1 W1 H1 vs st1 g1 r1 => ?_)
  obtain ⟨c, w1⟩ := wpO_ite w1
  exact ⟨lim (by rw [r1.length]; exact c), PV.tup (PV.mono st1 w1) g1 r1⟩
theorem se_lst (h : SA X K L E es tr dr) : SE X K L E (.List es pos) (tLst tr) (dLst dr) := by
  refine ⟨h.hK, pe_lst h.p, fun F W H S env σ Q fr w => ?_⟩
  refine h.s F W H S env σ _ fr (wpO_imp (wpO_bind w) fun x S1 w1 W1 H1 vs st1 g1 r1 => ?_)
  obtain ⟨c, w1⟩ := wpO_ite w1
  exact ⟨lim (by rw [r1.length]; exact c), PV.lst (PV.mono st1 w1) g1 r1⟩
end
end Sk

set_option Elab.async false
set_option linter.all false
set_option maxRecDepth 100000
set_option maxHeartbeats 2000000
set_option autoImplicit false
/-! SkC: built-in calls, items, walks, comprehensions. -/
namespace Sk
open PySem PySem.Spec PyProof.Rows L2
section
variable {X : Cx} {K : PySem.W.Frag} {L : Ly} {E : XK} {a b c e : Expr} {es : List Expr} {ta tb tc : TE} {da db dc : DE} {pos p : Pos}
theorem wpO_lift {α : Type} {o : Option α} {S : Store} {P : α → Store → Prop} {R : Nat → List D → Store → Prop} (h : wpO (lift o S) P R) : ∃ a, o = some a ∧ P a S := by
  cases o with
  | none => exact h.elim
  | some a => exact ⟨a, rfl, h⟩
/-- f(e), f a built-in of one value -/
def CalS (K : PySem.W.Frag) (L : Ly) (r : List V → Hp → VK → Prop) (f : D → M D) : Prop :=
  ∀ (W : Wd) (H : Hp) (S : Store) (x : D) (v : V) (Q : VK) (R : Nat → List D → Store → Prop), Gd K L W H S → Tp K L W H x v → wpO (f x S) (PV K L W H Q) R → r [v] H Q
theorem sem_call1 {r : List V → Hp → VK → Prop} {f : D → M D} (hs : CalS K L r f) (ha : SemB K L E da ta) : Sem K L E (dUn f da) (tCB r (tCons ta tNil)) := by
  intro F W H S env σ Q fr w
  refine ha F W H S env σ _ fr (wpO_imp (wpO_bind w) fun x S1 w1 W1 H1 v1 st1 g1 r1 => ?_)
  exact hs W1 H1 S1 x v1 Q _ g1 r1 (wpO_imp w1 fun d S' q => q.mono st1)
theorem se_callB {x : Str} {id : String} {r : List V → Hp → VK → Prop} {f : D → M D} (hc : CallR X (.builtin id) r) (hs : CalS K L r f) (ha : SB X K L E a ta da) (hg : Gl X x) (hm : X.mg x = none) (hv : bootBuiltins x = some (.builtin id))
    (hst : starEach [a] X.env = [(false, eval a X.env)] := by rfl) (hn : x ≠ "__name__" := by decide) (hdb : (x == ("__debug__" : Str)) = false := by decide) :
    SE X K L E (.Call (.Name x p) [a] [] pos) (tCB r (tCons ta tNil)) (dUn f da) :=
  ⟨ha.hK, pe_callB hc hg hm hv (pa_cons ha.p pa_nil hst) hn hdb (he := hst), sem_call1 hs ha.s⟩
theorem se_callTy {x : Str} {T : String} {r : List V → Hp → VK → Prop} {f : D → M D} (hc : CallR X (.type T) r) (hs : CalS K L r f) (ha : SB X K L E a ta da) (hg : Gl X x) (hm : X.mg x = none) (hv : bootBuiltins x = some (.type T))
    (hst : starEach [a] X.env = [(false, eval a X.env)] := by rfl) (hn : x ≠ "__name__" := by decide) (hdb : (x == ("__debug__" : Str)) = false := by decide) :
    SE X K L E (.Call (.Name x p) [a] [] pos) (tCB r (tCons ta tNil)) (dUn f da) :=
  ⟨ha.hK, pe_callTy hc hg hm hv (pa_cons ha.p pa_nil hst) hn hdb (he := hst), sem_call1 hs ha.s⟩
def rLenA (K : PySem.W.Frag) : List V → Hp → VK → Prop := fun xs H Q => (∃ p ys, xs = [.ref p] ∧ (SqL K H p ys ∨ SqT K H p ys) ∧ Q (.int ys.length) H) ∨ (∃ z, xs = [.str z] ∧ z.length ≤ sizeLine ∧ Q (.int z.length) H) ∨
  ∃ a kvs, xs = [V.ref a] ∧ Rd H a (.dK kvs) ∧ Q (.int kvs.length) H
theorem call_lenDR : CallR X (.builtin "len") (fun xs H Q => ∃ a kvs, xs = [V.ref a] ∧ Rd H a (.dK kvs) ∧ Q (.int kvs.length) H) := by
  intro pins s σ H xs us Q I r h
  obtain ⟨a, kvs, rfl, ha, q⟩ := h
  obtain ⟨u, rfl, ru⟩ := vals1 r
  cases ru
  exact d_len I ha fun t s' I' => ⟨.int kvs.length, H, I', ⟨t, rfl⟩, q⟩
theorem call_lenA : CallR X (.builtin "len") (rLenA X.K) := call_len_seq.or (call_len_str.or call_lenDR)
theorem cals_len : CalS K L (rLenA K) oLen := by
  intro W H S x v Q R g t h
  unfold oLen at h
  split at h
  · obtain ⟨a, vs, rfl, q, r⟩ := t.lst g
    refine .inl ⟨a, vs, rfl, .inl (SqL.of q), ?_⟩
    rw [r.length]
    exact PV.now h g rfl
  · obtain ⟨a, vs, rfl, q, r⟩ := t.tup g
    refine .inl ⟨a, vs, rfl, .inr q, ?_⟩
    rw [r.length]
    exact PV.now h g rfl
  · obtain ⟨a, rfl, q⟩ := t.scr g
    refine .inl ⟨a, _, rfl, .inl q, ?_⟩
    rw [List.length_map]
    exact PV.now h g rfl
  · obtain ⟨c, h⟩ := wpO_ite h
    rw [t.str]
    exact .inr (.inl ⟨_, rfl, lim c, PV.now h g rfl⟩)
  · rename_i ks xs
    have z : ∃ a vs, v = .ref a ∧ Rd H a (.dK (ks.zip vs)) ∧ (ks.zip vs).length = ks.length := by
      rcases t with ⟨a, od, vs, e, q, l, r⟩ | ⟨p, e, n1, n2, vs, q, l, r⟩
      · exact ⟨a, vs, e, .inr ⟨od, g.fz _ _ q⟩, by rw [List.length_zip, r.length, l, Nat.min_self]⟩
      · exact ⟨p, vs, e, .inl q, by rw [List.length_zip, r.length, l, Nat.min_self]⟩
    obtain ⟨a, vs, rfl, q, l⟩ := z
    refine .inr (.inr ⟨a, _, rfl, q, ?_⟩)
    rw [l]
    exact PV.now h g rfl
  · exact h.elim
theorem se_len (ha : SB X K L E a ta da) (hg : Gl X "len") (hm : X.mg "len" = none) (hst : starEach [a] X.env = [(false, eval a X.env)] := by rfl) : SE X K L E (.Call (.Name "len" p) [a] [] pos) (tCB (rLenA K) (tCons ta tNil)) (dUn oLen da) := by
  obtain ⟨rfl, pa, sa⟩ := ha
  exact se_callB call_lenA cals_len ⟨rfl, pa, sa⟩ hg hm PySem.boot_len hst
abbrev rAbs : List V → Hp → VK → Prop := fun xs H Q => ∃ i, xs = [.int i] ∧ Q (.int (if i < 0 then -i else i)) H
theorem cals_abs : CalS K L rAbs oAbs := by
  intro W H S x v Q R g t h
  unfold oAbs at h
  split at h
  · rw [t.int]
    exact ⟨_, rfl, PV.now h g rfl⟩
  · exact h.elim
theorem se_abs (ha : SB X K L E a ta da) (hg : Gl X "abs") (hm : X.mg "abs" = none) (hst : starEach [a] X.env = [(false, eval a X.env)] := by rfl) : SE X K L E (.Call (.Name "abs" p) [a] [] pos) (tCB rAbs (tCons ta tNil)) (dUn oAbs da) :=
  se_callB call_abs cals_abs ha hg hm (by decide +kernel) hst
abbrev rInt1 : List V → Hp → VK → Prop := fun xs H Q => (∃ i, xs = [.int i] ∧ Q (.int i) H) ∨ ∃ k, xs = [.bl k] ∧ Q (.int (if k then 1 else 0)) H
theorem cals_int : CalS K L rInt1 oInt := by
  intro W H S x v Q R g t h
  unfold oInt at h
  split at h
  · rw [t.int]
    exact .inl ⟨_, rfl, PV.now h g rfl⟩
  · exact h.elim
theorem se_intc (ha : SB X K L E a ta da) (hg : Gl X "int") (hm : X.mg "int" = none) (hst : starEach [a] X.env = [(false, eval a X.env)] := by rfl) : SE X K L E (.Call (.Name "int" p) [a] [] pos) (tCB rInt1 (tCons ta tNil)) (dUn oInt da) :=
  se_callTy call_int1 cals_int ha hg hm (by decide +kernel) hst
theorem asBs_vs {W : Wd} : ∀ {ds : List D} {vs : List V} {bs : List Bool}, RpL K L W ds vs → asBs ds = some bs → vs = bs.map V.bl
  | [], vs, bs, r, h => by
    cases h
    exact r
  | d :: ds, vs, bs, r, h => by
    obtain ⟨v, q, rfl, r1, r2⟩ := r
    cases d with
    | bl z =>
      have h : (asBs ds).map (z :: ·) = some bs := h
      cases e : asBs ds with
      | none =>
        rw [e] at h
        cases h
      | some cs =>
        rw [e] at h
        cases h
        cases (show v = .bl z from r1)
        rw [asBs_vs r2 e]
        rfl
    | _ => cases h
theorem asIs_vs {W : Wd} : ∀ {ds : List D} {vs : List V} {bs : List Int}, RpL K L W ds vs → asIs ds = some bs → vs = bs.map V.int
  | [], vs, bs, r, h => by
    cases h
    exact r
  | d :: ds, vs, bs, r, h => by
    obtain ⟨v, q, rfl, r1, r2⟩ := r
    cases d with
    | int z =>
      have h : (asIs ds).map (z :: ·) = some bs := h
      cases e : asIs ds with
      | none =>
        rw [e] at h
        cases h
      | some cs =>
        rw [e] at h
        cases h
        cases (show v = .int z from r1)
        rw [asIs_vs r2 e]
        rfl
    | _ => cases h
theorem cals_all : CalS K L (rAll K) oAll := by
  intro W H S x v Q R g t h
  unfold oAll at h
  split at h
  · obtain ⟨a, vs, rfl, q, r⟩ := t.lst g
    obtain ⟨bs, e, h⟩ := wpO_lift (wpO_bind h)
    rw [asBs_vs r e] at q
    exact ⟨a, bs, rfl, SqL.of q, PV.now h g rfl⟩
  · exact h.elim
theorem cals_any : CalS K L (rAny K) oAny := by
  intro W H S x v Q R g t h
  unfold oAny at h
  split at h
  · obtain ⟨a, vs, rfl, q, r⟩ := t.lst g
    obtain ⟨bs, e, h⟩ := wpO_lift (wpO_bind h)
    rw [asBs_vs r e] at q
    exact ⟨a, bs, rfl, SqL.of q, PV.now h g rfl⟩
  · exact h.elim
theorem cals_sum : CalS K L (rSum K) oSum := by
  intro W H S x v Q R g t h
  unfold oSum at h
  split at h
  · obtain ⟨a, vs, rfl, q, r⟩ := t.lst g
    obtain ⟨bs, e, h⟩ := wpO_lift (wpO_bind h)
    rw [asIs_vs r e] at q
    exact ⟨a, bs, rfl, SqL.of q, PV.now h g rfl⟩
  · exact h.elim
theorem se_all (hc : X.calm = true) (ha : SB X K L E a ta da) (hg : Gl X "all") (hm : X.mg "all" = none) (hst : starEach [a] X.env = [(false, eval a X.env)] := by rfl) : SE X K L E (.Call (.Name "all" p) [a] [] pos) (tCB (rAll K) (tCons ta tNil)) (dUn oAll da) := by
  obtain ⟨rfl, pa, sa⟩ := ha
  exact se_callB (cr_all hc) cals_all ⟨rfl, pa, sa⟩ hg hm (by decide +kernel) hst
theorem se_any (hc : X.calm = true) (ha : SB X K L E a ta da) (hg : Gl X "any") (hm : X.mg "any" = none) (hst : starEach [a] X.env = [(false, eval a X.env)] := by rfl) : SE X K L E (.Call (.Name "any" p) [a] [] pos) (tCB (rAny K) (tCons ta tNil)) (dUn oAny da) := by
  obtain ⟨rfl, pa, sa⟩ := ha
  exact se_callB (cr_any hc) cals_any ⟨rfl, pa, sa⟩ hg hm (by decide +kernel) hst
theorem se_sum (hc : X.calm = true) (ha : SB X K L E a ta da) (hg : Gl X "sum") (hm : X.mg "sum" = none) (hst : starEach [a] X.env = [(false, eval a X.env)] := by rfl) : SE X K L E (.Call (.Name "sum" p) [a] [] pos) (tCB (rSum K) (tCons ta tNil)) (dUn oSum da) := by
  obtain ⟨rfl, pa, sa⟩ := ha
  exact se_callB (cr_sum hc) cals_sum ⟨rfl, pa, sa⟩ hg hm (by decide +kernel) hst
def rTupC (K : PySem.W.Frag) : List V → Hp → VK → Prop := fun xs H Q => ∃ p ys, xs = [.ref p] ∧ ((SqL K H p ys ∧ ∀ l, H l = none → Q (.ref l) (upd H l (.tup ys))) ∨ (SqT K H p ys ∧ Q (.ref p) H))
theorem cals_tuple : CalS K L (rTupC K) oTuple := by
  intro W H S x v Q R g t h
  unfold oTuple at h
  split at h
  · obtain ⟨a, vs, rfl, q, r⟩ := t.lst g
    exact ⟨a, vs, rfl, .inl ⟨SqL.of q, PV.tup h g r⟩⟩
  · rename_i xs
    rcases t with t | ⟨p, e, n1, n2, c⟩
    · obtain ⟨a, vs, rfl, q, r⟩ := id t
      exact ⟨a, vs, rfl, .inr ⟨g.sqT q, PV.now h g t⟩⟩
    · exact c.elim
  · exact h.elim
theorem se_tuple (ha : SB X K L E a ta da) (hg : Gl X "tuple") (hm : X.mg "tuple" = none) (hst : starEach [a] X.env = [(false, eval a X.env)] := by rfl) : SE X K L E (.Call (.Name "tuple" p) [a] [] pos) (tCB (rTupC K) (tCons ta tNil)) (dUn oTuple da) := by
  obtain ⟨rfl, pa, sa⟩ := ha
  exact se_callTy call_tuple_of cals_tuple ⟨rfl, pa, sa⟩ hg hm (by decide +kernel) hst
def rListC (K : PySem.W.Frag) : List V → Hp → VK → Prop := fun xs H Q => ∃ p ys, xs = [.ref p] ∧ (SqL K H p ys ∨ SqT K H p ys) ∧ ∀ l, H l = none → Q (.ref l) (upd H l (.lst ys))
theorem cals_list : CalS K L (rListC K) oList := by
  intro W H S x v Q R g t h
  unfold oList at h
  split at h
  · obtain ⟨a, vs, rfl, q, r⟩ := t.lst g
    exact ⟨a, vs, rfl, .inl (SqL.of q), PV.lst h g r⟩
  · obtain ⟨a, vs, rfl, q, r⟩ := t.tup g
    exact ⟨a, vs, rfl, .inr q, PV.lst h g r⟩
  · exact h.elim
theorem se_list (ha : SB X K L E a ta da) (hg : Gl X "list") (hm : X.mg "list" = none) (hst : starEach [a] X.env = [(false, eval a X.env)] := by rfl) : SE X K L E (.Call (.Name "list" p) [a] [] pos) (tCB (rListC K) (tCons ta tNil)) (dUn oList da) := by
  obtain ⟨rfl, pa, sa⟩ := ha
  exact se_callTy call_list_of cals_list ⟨rfl, pa, sa⟩ hg hm (by decide +kernel) hst

/-! ### isinstance of built-in types -/
theorem tyx_of {W : Wd} {H : Hp} {S : Store} (g : Gd K L W H S) {d : D} {v : V} {T : String} (t : Tp K L W H d v) (h : tyN d = some T) : TyX K H v (.type T) := by
  cases d with
  | non => cases h; rw [t.non]; exact .base .non
  | bl b => cases h; rw [t.bl]; exact .base (.bl b)
  | int b => cases h; rw [t.int]; exact .base (.int b)
  | str b => cases h; rw [t.str]; exact .base (.str b)
  | tup xs =>
    cases h
    obtain ⟨a, vs, rfl, q, r⟩ := t.tup g
    rcases q with (q | ⟨o, q⟩) | ⟨o, its, n, hk, hc, _⟩
    · exact .base (.tup q)
    · exact .fTuple q
    · exact .kTuple hk hc
  | lst xs =>
    cases h
    obtain ⟨a, vs, rfl, q, r⟩ := t.lst g
    exact .base (.lst q)
  | scr ns =>
    cases h
    obtain ⟨a, rfl, q⟩ := t.scr g
    rcases q with (q | ⟨o, q⟩) | ⟨o, its, n, hk, hc, _⟩
    · exact .base (.lst q)
    · exact .base (.frz q)
    · exact .kList hk hc
  | dk ks xs =>
    cases h
    rcases t with ⟨a, od, vs, rfl, q, l, r⟩ | ⟨p, rfl, n1, n2, vs, q, l, r⟩
    · exact .fDict (g.fz _ _ q)
    · exact .base (.dK q)
  | dt _ _ => cases h
  | obj _ _ => cases h
  | cel _ => cases h
  | clo _ _ => cases h
theorem sem_isB {T : String} (ha : SemB K L E da ta) : Sem K L E (dUn (oIsB T) da) (tCB (rIsi K) (tCons ta (tCons (tC (.ty T)) tNil))) := by
  intro F W H S env σ Q fr w
  refine ha F W H S env σ _ fr (wpO_imp (wpO_bind w) fun x S1 w1 W1 H1 v1 st1 g1 r1 => ?_)
  unfold oIsB at w1
  obtain ⟨t, et, w1⟩ := wpO_lift (wpO_bind w1)
  obtain ⟨b, eb, w1⟩ := wpO_lift (wpO_bind w1)
  exact ⟨v1, .ty T, .type t, .type T, b, rfl, .ty T, tyx_of g1 r1 et, kit_ty eb, PV.now (PV.mono st1 w1) g1 rfl⟩
theorem se_isB {T : String} (ha : SB X K L E a ta da) (pc : PE X c (tC (.ty T))) (hg : Gl X "isinstance") (hm : X.mg "isinstance" = none)
    (hst : starEach [a, c] X.env = (false, eval a X.env) :: starEach [c] X.env := by rfl) (hst2 : starEach [c] X.env = [(false, eval c X.env)] := by rfl) (hpl : (backTo pos (starEach [c] X.env)).any (·.1) = false := by rfl) :
    SE X K L E (.Call (.Name "isinstance" p) [a, c] [] pos) (tCB (rIsi K) (tCons ta (tCons (tC (.ty T)) tNil))) (dUn (oIsB T) da) := by
  obtain ⟨rfl, pa, sa⟩ := ha
  exact ⟨rfl, pe_callB call_isi hg hm (by decide +kernel) (pa_cons pa (pa_cons pc pa_nil hst2) hst) (he := hst) (hpl := hpl), sem_isB sa⟩

/-! ### items -/
theorem atI_map {α β : Type} (f : α → β) (xs : List α) (i : Int) : atI (xs.map f) i = (atI xs i).map f := by
  unfold atI
  rw [List.length_map]
  cases ixN xs.length i with
  | none => rfl
  | some j => simp
theorem RpL.atI {W : Wd} {ds : List D} {vs : List V} {i : Int} {d : D} (r : RpL K L W ds vs) (h : L2.atI ds i = some d) : ∃ v, L2.atI vs i = some v ∧ Rp K L W d v := by
  unfold L2.atI at h ⊢
  rw [r.length]
  cases e : ixN ds.length i with
  | none =>
    rw [e] at h
    cases h
  | some j =>
    rw [e] at h
    obtain ⟨v, h1, h2⟩ := r.get (i := j) h
    exact ⟨v, h1, h2⟩
theorem ops_ix : OpS K L (rIx K) oIx := by
  intro W H S x y v w Q R g t1 t2 h
  unfold oIx at h
  split at h
  · obtain ⟨d, e, h⟩ := wpO_lift h
    obtain ⟨a, vs, rfl, q, r⟩ := t1.tup g
    obtain ⟨z, ez, rz⟩ := r.atI e
    rw [t2.int]
    exact .inr (.inl ⟨a, vs, _, z, rfl, rfl, q, ez, PV.now h g rz⟩)
  · obtain ⟨d, e, h⟩ := wpO_lift h
    obtain ⟨a, vs, rfl, q, r⟩ := t1.lst g
    obtain ⟨z, ez, rz⟩ := r.atI e
    rw [t2.int]
    exact .inl ⟨a, vs, _, z, rfl, rfl, SqL.of q, ez, PV.now h g rz⟩
  · obtain ⟨d, e, h⟩ := wpO_lift h
    obtain ⟨a, rfl, q⟩ := t1.scr g
    rw [t2.int]
    cases e2 : atI _ _ with
    | none =>
      rw [e2] at e
      cases e
    | some n =>
      rw [e2] at e
      cases e
      exact .inl ⟨a, _, _, .int n, rfl, rfl, q, by rw [atI_map, e2]; rfl, PV.now h g rfl⟩
  · rename_i n i
    unfold oIxCel at h
    split at h
    · rename_i xs e
      obtain ⟨d, e2, h⟩ := wpO_lift h
      rcases t1 with ⟨a, rfl, q⟩ | ⟨p, e, n1, n2, c⟩
      · obtain ⟨vs, e3, r⟩ := g.ce n _ a e q
        obtain ⟨z, ez, rz⟩ := r.atI e2
        rw [t2.int]
        exact .inl ⟨a, vs, _, z, rfl, rfl, SqL.of e3, ez, PV.now h g rz⟩
      · exact c.elim
    · exact h.elim
  · exact h.elim
theorem se_ix (ha : SB X K L E a ta da) (hb : SE X K L E b tb db) (hs : PlainIx b) : SE X K L E (.Subscript a b pos) (tOp (rIx K) ta tb) (dBin oIx da db) := by
  obtain ⟨rfl, pa, sa⟩ := ha
  exact ⟨rfl, pe_ix ix_seq pa hb.p hs, sem_bin ops_ix sa (se_sb hb).s⟩
end

/-! ### what is walked -/
section
variable (K : PySem.W.Frag) (L : Ly)
/-- J walks the data ds, of a frozen source -/
def WK (W : Wd) (ds : List D) (J : It) : Prop := ∃ G Y, Walk J ds.length G Y ∧ (∀ W2 H2 S2, Le W W2 → Gd K L W2 H2 S2 → G H2) ∧
  ∀ i W2 H2 S2 x H3, Le W W2 → Gd K L W2 H2 S2 → i < ds.length → Y i H2 x H3 → ∃ W3 d, Stp noEx W2 H2 W3 H3 ∧ Gd K L W3 H3 S2 ∧ ds[i]? = some d ∧ Rp K L W3 d x
def PJ (W : Wd) (H : Hp) (R : It → Hp → Prop) : List D → Store → Prop := fun ds S' => ∀ W' H' J, Stp noEx W H W' H' → Gd K L W' H' S' → WK K L W' ds J → R J H'
def SemI (E : XK) (di : DI) (wi : TI) : Prop := ∀ (F : FD) W H S env σ R, Frm K L F W H S env σ → wpO (di env S) (PJ K L W H R) (XP K L F E) → wi σ H R
structure SI (X : Cx) (E : XK) (tg iter : Expr) (wi : TI) (di : DI) : Prop where
  hK : X.K = K
  p : PI X tg iter wi
  s : SemI K L E di wi
end
section
variable {X : Cx} {K : PySem.W.Frag} {L : Ly} {E : XK} {a b c e tg : Expr} {es : List Expr} {ta tb tc : TE} {da db dc : DE} {pos p : Pos}
theorem wk_list {W : Wd} {ds : List D} {vs : List V} {a : Addr} (q : W.G a = some (.lst vs)) (r : RpL K L W ds vs) : WK K L W ds (Itl K a) := by
  refine ⟨fun H => SqL K H a vs, YAt vs, ?_, fun W2 H2 S2 le g => SqL.of (g.fz _ _ (le.ge _ _ q)), fun i W2 H2 S2 x H3 le g hi y => ?_⟩
  · rw [← r.length]
    exact walk_list
  · obtain ⟨rfl, y⟩ := y
    obtain ⟨d, e, rd⟩ := r.get' y
    exact ⟨W2, d, Stp.refl, g, e, rd.mono le⟩
theorem wk_tup {W : Wd} {ds : List D} {vs : List V} {a : Addr} (q : SqT K W.G a vs) (r : RpL K L W ds vs) : WK K L W ds (Itt K a) := by
  refine ⟨fun H => SqT K H a vs, YAt vs, ?_, fun W2 H2 S2 le g => g.sqT (le.sqT q), fun i W2 H2 S2 x H3 le g hi y => ?_⟩
  · rw [← r.length]
    exact walk_tup
  · obtain ⟨rfl, y⟩ := y
    obtain ⟨d, e, rd⟩ := r.get' y
    exact ⟨W2, d, Stp.refl, g, e, rd.mono le⟩
theorem wk_range {W : Wd} {lo n : Int} : WK K L W (rangeD lo n) (Itr lo (n - lo).toNat) := by
  have hl : (rangeD lo n).length = (n - lo).toNat := by
    unfold rangeD
    rw [List.length_map, List.length_range]
  refine ⟨fun _ => True, YFn fun i => .int (lo + i), ?_, fun W2 H2 S2 le g => True.intro, fun i W2 H2 S2 x H3 le g hi y => ?_⟩
  · rw [hl]
    exact walk_range
  · obtain ⟨rfl, rfl⟩ := y
    refine ⟨W2, .int (lo + i), Stp.refl, g, ?_, rfl⟩
    unfold rangeD
    rw [hl] at hi
    rw [List.getElem?_map, List.getElem?_range hi]
    rfl
theorem zip_get {α β γ : Type} (f : α × β → γ) {xs : List α} {ys : List β} {i : Nat} {x : α} {y : β} (h1 : xs[i]? = some x) (h2 : ys[i]? = some y) : ((xs.zip ys).map f)[i]? = some (f (x, y)) := by
  rw [List.getElem?_map, (List.getElem?_zip_eq_some (z := (x, y))).mpr ⟨h1, h2⟩]
  rfl
theorem pair_new {W : Wd} {H : Hp} {S : Store} {T : Addr} {d e : D} {x y : V} (g : Gd K L W H S) (h : H T = none) (r1 : Rp K L W d x) (r2 : Rp K L W e y) :
    Stp noEx W H (W.add T (.tup [x, y])) (upd H T (.tup [x, y])) ∧ Gd K L (W.add T (.tup [x, y])) (upd H T (.tup [x, y])) S ∧ Rp K L (W.add T (.tup [x, y])) (.tup [d, e]) (.ref T) := by
  have le := Wd.le_add (o := .tup [x, y]) (g.freeG h)
  exact ⟨Stp.alloc g h, g.alloc h, T, [x, y], rfl, SqT.of Wd.add_at, x, [y], rfl, r1.mono le, y, [], rfl, r2.mono le, rfl⟩
theorem wk_zipL {W : Wd} {ds es : List D} {vs ws : List V} {a b : Addr} (q : W.G a = some (.lst vs)) (r : RpL K L W ds vs) (q2 : W.G b = some (.lst ws)) (r2 : RpL K L W es ws) :
    WK K L W ((ds.zip es).map fun p => .tup [p.1, p.2]) (Itz K a b) := by
  refine ⟨fun H => SqL K H a vs ∧ SqL K H b ws, YPair (fun i => vs[i]?) (fun i => ws[i]?), ?_, fun W2 H2 S2 le g => ⟨SqL.of (g.fz _ _ (le.ge _ _ q)), SqL.of (g.fz _ _ (le.ge _ _ q2))⟩, fun i W2 H2 S2 x H3 le g hi y => ?_⟩
  · rw [List.length_map, List.length_zip]
    exact walk_zip (by rw [r.length, r2.length])
  · obtain ⟨T, x1, x2, rfl, hT, rfl, e1, e2⟩ := y
    obtain ⟨d1, f1, g1⟩ := r.get' e1
    obtain ⟨d2, f2, g2⟩ := r2.get' e2
    obtain ⟨s1, s2, s3⟩ := pair_new g hT (g1.mono le) (g2.mono le)
    exact ⟨_, _, s1, s2, zip_get _ f1 f2, s3⟩
theorem walk_zipT {a b : Addr} {xs ys : List V} {n : Nat} (hn : n = min xs.length ys.length) : Walk (RZ.ItzT K a b) n (fun H => SqT K H a xs ∧ SqT K H b ys) (YPair (fun i => xs[i]?) (fun i => ys[i]?)) := by
  subst hn
  refine ⟨fun i _ hi q => ?_, fun _ q => ⟨xs, ys, q.1, q.2, by omega⟩, fun i H v H' _ q y => ?_⟩
  · have h1 : i < xs.length := by omega
    have h2 : i < ys.length := by omega
    exact ⟨xs, ys, xs[i], ys[i], q.1, q.2, by simp [h1], by simp [h2]⟩
  · obtain ⟨T, x, z, h1, h2, h3, h4, h5⟩ := y
    exact ⟨T, x, z, h1, h2, h3, h4 xs q.1, h5 ys q.2⟩
theorem wk_zipT {W : Wd} {ds es : List D} {vs ws : List V} {a b : Addr} (q : SqT K W.G a vs) (r : RpL K L W ds vs) (q2 : SqT K W.G b ws) (r2 : RpL K L W es ws) :
    WK K L W ((ds.zip es).map fun p => .tup [p.1, p.2]) (RZ.ItzT K a b) := by
  refine ⟨fun H => SqT K H a vs ∧ SqT K H b ws, YPair (fun i => vs[i]?) (fun i => ws[i]?), ?_, fun W2 H2 S2 le g => ⟨g.sqT (le.sqT q), g.sqT (le.sqT q2)⟩, fun i W2 H2 S2 x H3 le g hi y => ?_⟩
  · rw [List.length_map, List.length_zip]
    exact walk_zipT (by rw [r.length, r2.length])
  · obtain ⟨T, x1, x2, rfl, hT, rfl, e1, e2⟩ := y
    obtain ⟨d1, f1, g1⟩ := r.get' e1
    obtain ⟨d2, f2, g2⟩ := r2.get' e2
    obtain ⟨s1, s2, s3⟩ := pair_new g hT (g1.mono le) (g2.mono le)
    exact ⟨_, _, s1, s2, zip_get _ f1 f2, s3⟩
/-- a list or a tuple -/
def iSeq (K : PySem.W.Frag) (t : TE) : TI := fun σ H R => iList K t σ H R ∨ iTup K t σ H R
theorem pi_or {tg iter : Expr} {w1 w2 : TI} (h1 : PI X tg iter w1) (h2 : PI X tg iter w2) : PI X tg iter (fun σ H R => w1 σ H R ∨ w2 σ H R) :=
  ⟨fun pins s σ H R I h => h.elim (fun h => h1.run pins s σ H R I h) fun h => h2.run pins s σ H R I h⟩
theorem out_cases {α β : Type} {m : M α} {f : α → M β} {S : Store} {P : β → Store → Prop} {R : Nat → List D → Store → Prop} (h : wpO (M.bind m f S) P R) : (∃ a S1, m S = .ok a S1 ∧ wpO (f a S1) P R) ∨ ∃ c fs S1, m S = .exc c fs S1 ∧ R c fs S1 := by
  unfold M.bind at h
  cases q : m S with
  | ok a S' =>
    rw [q] at h
    exact .inl ⟨a, S', rfl, h⟩
  | exc c fs S' =>
    rw [q] at h
    exact .inr ⟨c, fs, S', rfl, h⟩
  | stuck =>
    rw [q] at h
    exact h.elim
theorem si_val (ha : SE X K L E a ta da) : SI K L X E tg a (iSeq K ta) (iVal da) := by
  obtain ⟨rfl, pa, sa⟩ := ha
  refine ⟨rfl, pi_or (pi_list pa) (pi_tup pa), fun F W H S env σ R fr w => ?_⟩
  rcases out_cases w with ⟨d, S1, e, w1⟩ | ⟨c, fs, S1, e, w1⟩
  · cases d with
    | lst xs =>
      refine .inl (sa F W H S env σ _ fr ?_)
      rw [e]
      intro W1 H1 v1 st1 g1 r1
      obtain ⟨a, vs, rfl, q, r⟩ := r1
      exact ⟨a, rfl, ⟨vs, SqL.of (g1.fz _ _ q)⟩, w1 W1 H1 _ st1 g1 (wk_list q r)⟩
    | tup xs =>
      refine .inr (sa F W H S env σ _ fr ?_)
      rw [e]
      intro W1 H1 v1 st1 g1 r1
      obtain ⟨a, vs, rfl, q, r⟩ := r1
      exact ⟨a, rfl, ⟨vs, g1.sqT q⟩, w1 W1 H1 _ st1 g1 (wk_tup q r)⟩
    | _ => exact w1.elim
  · refine .inl (sa F W H S env σ _ fr ?_)
    rw [e]
    exact w1
theorem si_range1 (ha : SE X K L E a ta da) (hg : Gl X "range") (hm : X.mg "range" = none) (hs : starEach [a] X.env = [(false, eval a X.env)] := by rfl) : SI K L X E tg (.Call (.Name "range" p) [a] [] pos) (iRng1 (tCons ta tNil)) (iRange1 da) := by
  refine ⟨ha.hK, pi_range1 hg hm (pa_cons ha.p pa_nil hs) hs, fun F W H S env σ R fr w => ?_⟩
  refine ha.s F W H S env σ _ fr (wpO_imp (wpO_bind w) fun x S1 w1 W1 H1 v1 st1 g1 r1 => ?_)
  cases x with
  | int n =>
    obtain ⟨c, w1⟩ := wpO_ite w1
    have c := of_decide_eq_true c
    cases (show v1 = .int n from r1)
    refine ⟨n, rfl, by omega, by omega, ?_⟩
    have q : R (Itr 0 (n - 0).toNat) H1 := w1 W1 H1 _ st1 g1 wk_range
    rw [Int.sub_zero] at q
    exact q
  | _ => exact w1.elim
theorem si_range2 (ha : SE X K L E a ta da) (hb : SE X K L E b tb db) (hg : Gl X "range") (hm : X.mg "range" = none) (hs : starEach [a, b] X.env = [(false, eval a X.env), (false, eval b X.env)] := by rfl) (hs2 : starEach [b] X.env = [(false, eval b X.env)] := by rfl) :
    SI K L X E tg (.Call (.Name "range" p) [a, b] [] pos) (iRng2 (tCons ta (tCons tb tNil))) (iRange2 da db) := by
  refine ⟨ha.hK, pi_range2 hg hm (pa_cons ha.p (pa_cons hb.p pa_nil hs2) (by rw [hs, hs2])) hs hs2, fun F W H S env σ R fr w => ?_⟩
  refine ha.s F W H S env σ _ fr (wpO_imp (wpO_bind w) fun x S1 w1 W1 H1 v1 st1 g1 r1 => ?_)
  refine hb.s F W1 H1 S1 env σ _ (fr.next st1 g1) (wpO_imp (wpO_bind w1) fun y S2 w2 W2 H2 v2 st2 g2 r2 => ?_)
  cases x with
  | int lo =>
    cases y with
    | int n =>
      obtain ⟨c, w2⟩ := wpO_ite w2
      have c := of_decide_eq_true c
      cases (show v1 = .int lo from r1)
      cases (show v2 = .int n from r2)
      exact ⟨lo, n, rfl, by omega, w2 W2 H2 _ (st1.trans st2) g2 wk_range⟩
    | _ => exact w2.elim
  | _ => exact w2.elim
theorem si_zip {elts : List Expr} {kk : Nat} {tpos : Pos} (ha : SE X K L E a ta da) (hb : SE X K L E b tb db) (hg : Gl X "zip") (hm : X.mg "zip" = none)
    (hs : starEach [a, b] X.env = (false, eval a X.env) :: starEach [b] X.env := by rfl) (hs2 : starEach [b] X.env = [(false, eval b X.env)] := by rfl) (hpl : (backTo pos (starEach [b] X.env)).any (·.1) = false := by rfl) :
    SI K L X E (.Tuple elts kk tpos) (.Call (.Name "zip" p) [a, b] [] pos) (RZ.iZipA K (tCons ta (tCons tb tNil))) (iZip da db) := by
  obtain ⟨rfl, pa, sa⟩ := ha
  refine ⟨rfl, RZ.pi_zipA hg hm (pa_cons pa (pa_cons hb.p pa_nil hs2) hs) hs hpl, fun F W H S env σ R fr w => ?_⟩
  refine sa F W H S env σ _ fr (wpO_imp (wpO_bind w) fun x S1 w1 W1 H1 v1 st1 g1 r1 => ?_)
  refine hb.s F W1 H1 S1 env σ _ (fr.next st1 g1) (wpO_imp (wpO_bind w1) fun y S2 w2 W2 H2 v2 st2 g2 r2 => ?_)
  have r1 := r1.mono st2.le
  unfold zipD at w2
  split at w2
  · obtain ⟨a1, vs, rfl, q, r⟩ := r1
    obtain ⟨a2, ws, rfl, q2, r2⟩ := r2
    exact ⟨a1, a2, vs, ws, rfl, .inl ⟨SqL.of (g2.fz _ _ q), SqL.of (g2.fz _ _ q2), w2 W2 H2 _ (st1.trans st2) g2 (wk_zipL q r q2 r2)⟩⟩
  · obtain ⟨a1, vs, rfl, q, r⟩ := r1
    obtain ⟨a2, ws, rfl, q2, r2⟩ := r2
    exact ⟨a1, a2, vs, ws, rfl, .inr ⟨g2.sqT q, g2.sqT q2, w2 W2 H2 _ (st1.trans st2) g2 (wk_zipT q r q2 r2)⟩⟩
  · exact w2.elim
end
end Sk

set_option Elab.async false
set_option linter.all false
set_option maxRecDepth 100000
set_option maxHeartbeats 2000000
set_option autoImplicit false
/-! SkD: targets, list comprehensions. -/
namespace Sk
open PySem PySem.Spec PyProof.Rows L2
theorem M.assoc {α β γ : Type} (m : M α) (f : α → M β) (k : β → M γ) : M.bind (M.bind m f) k = M.bind m fun a => M.bind (f a) k := by
  funext S
  unfold M.bind
  cases m S <;> rfl
theorem wpO_noX {α : Type} {m : M α} {S : Store} {P : α → Store → Prop} {R R' : Nat → List D → Store → Prop} (h : wpO (noX m S) P R) : wpO (m S) P R' := by
  unfold noX at h
  cases q : m S with
  | ok a S' =>
    rw [q] at h
    exact h
  | exc c fs S' =>
    rw [q] at h
    exact h.elim
  | stuck =>
    rw [q] at h
    exact h.elim
/-! ### slots -/
/-- only the slots is have changed -/
def Chg (is : List Nat) (σ σ' : L2.St) : Prop := ∀ vs : List Nat, (∀ i, i ∈ is → i ∈ vs) → wipe σ' vs = wipe σ vs
theorem Chg.refl {is : List Nat} {σ : L2.St} : Chg is σ σ := fun _ _ => rfl
theorem Chg.trans {is js : List Nat} {σ1 σ2 σ3 : L2.St} (a : Chg is σ1 σ2) (b : Chg js σ2 σ3) : Chg (is ++ js) σ1 σ3 := fun vs h => by
  rw [b vs fun i hi => h i (List.mem_append_right _ hi), a vs fun i hi => h i (List.mem_append_left _ hi)]
theorem wipe_get (σ : L2.St) (i : Nat) : ∀ vs : List Nat, (wipe σ vs)[i]? = if i ∈ vs then (if i < σ.length then some none else none) else σ[i]?
  | [] => rfl
  | v :: vs => by
    show ((wipe σ vs).set v none)[i]? = _
    by_cases h : v = i
    · subst h
      rw [if_pos (List.mem_cons_self ..)]
      by_cases hl : v < σ.length
      · rw [if_pos hl, List.getElem?_set_self (by rw [wipe_length]; exact hl)]
      · rw [if_neg hl, List.getElem?_eq_none (by rw [List.length_set, wipe_length]; omega)]
    · rw [List.getElem?_set_ne h, wipe_get σ i vs]
      by_cases hm : i ∈ vs
      · rw [if_pos hm, if_pos (List.mem_cons_of_mem _ hm)]
      · rw [if_neg hm, if_neg (fun q => (List.mem_cons.mp q).elim (fun e => h e.symm) hm)]
theorem Chg.set {σ : L2.St} {i : Nat} {v : Option V} : Chg [i] σ (σ.set i v) := fun vs h => by
  refine List.ext_getElem? fun j => ?_
  rw [wipe_get, wipe_get, List.length_set]
  by_cases hm : j ∈ vs
  · rw [if_pos hm, if_pos hm]
  · rw [if_neg hm, if_neg hm, List.getElem?_set_ne]
    exact fun e => hm (e ▸ h i (List.mem_singleton.mpr rfl))
theorem wipeE_length (env : Env) : ∀ vs : List Nat, (wipeE env vs).length = env.length
  | [] => rfl
  | v :: vs => by
    unfold wipeE
    rw [List.length_set, wipeE_length env vs]
theorem wipeE_get (env : Env) (i : Nat) : ∀ vs : List Nat, (wipeE env vs)[i]? = if i ∈ vs then (if i < env.length then some .no else none) else env[i]?
  | [] => rfl
  | v :: vs => by
    show ((wipeE env vs).set v .no)[i]? = _
    by_cases h : v = i
    · subst h
      rw [if_pos (List.mem_cons_self ..)]
      by_cases hl : v < env.length
      · rw [if_pos hl, List.getElem?_set_self (by rw [wipeE_length]; exact hl)]
      · rw [if_neg hl, List.getElem?_eq_none (by rw [List.length_set, wipeE_length]; omega)]
    · rw [List.getElem?_set_ne h, wipeE_get env i vs]
      by_cases hm : i ∈ vs
      · rw [if_pos hm, if_pos (List.mem_cons_of_mem _ hm)]
      · rw [if_neg hm, if_neg (fun q => (List.mem_cons.mp q).elim (fun e => h e.symm) hm)]
section
variable {K : PySem.W.Frag} {L : Ly} {F : FD} {W W' : Wd} {H H' : Hp} {S S' : Store} {env : Env} {σ : L2.St}
theorem Frm.wipe (fr : Frm K L F W H S env σ) (vs : List Nat) : Frm K L F W H S (wipeE env vs) (L2.wipe σ vs) where
  good := fr.good
  step := fr.step
  len := by rw [wipe_length, wipeE_length, fr.len]
  sl := fun i s e => by
    rw [wipeE_get] at e
    by_cases hm : i ∈ vs
    · rw [if_pos hm] at e
      split at e
      · cases e
        trivial
      · cases e
    · rw [if_neg hm] at e
      rw [wipe_get, if_neg hm]
      exact fr.sl i s e
  sep := fun i j d e p h e1 e2 e3 => by
    rw [wipeE_get] at e1 e2
    rw [wipe_get] at e3 ⊢
    by_cases hi : i ∈ vs
    · rw [if_pos hi] at e1
      split at e1 <;> cases e1
    · rw [if_neg hi] at e1 e3
      by_cases hj : j ∈ vs
      · rw [if_pos hj] at e2
        split at e2 <;> cases e2
      · rw [if_neg hj] at e2 ⊢
        exact fr.sep i j d e p h e1 e2 e3
theorem Frm.set (fr : Frm K L F W H S env σ) {i : Nat} {d : D} {v : V} (r : Rp K L W d v) : Frm K L F W H S (env.set i (.shr d)) (σ.set i (some v)) where
  good := fr.good
  step := fr.step
  len := by rw [List.length_set, List.length_set, fr.len]
  sl := fun j s e => by
    by_cases h : i = j
    · subst h
      by_cases hl : i < env.length
      · rw [List.getElem?_set_self hl] at e
        cases e
        exact ⟨v, List.getElem?_set_self (by rw [fr.len]; exact hl), r⟩
      · rw [List.getElem?_eq_none (by rw [List.length_set]; omega)] at e
        cases e
    · rw [List.getElem?_set_ne h] at e ⊢
      exact fr.sl j s e
  sep := fun a b d e p h e1 e2 e3 => by
    have ne : ∀ c x, (env.set i (.shr d))[c]? = some (.own x) → i ≠ c := fun c x q z => by
      subst z
      by_cases hl : i < env.length
      · rw [List.getElem?_set_self hl] at q
        cases q
      · rw [List.getElem?_eq_none (by rw [List.length_set]; omega)] at q
        cases q
    have ne' : ∀ c x (d' : D), (env.set i (.shr d'))[c]? = some (.own x) → i ≠ c := fun c x d' q z => by
      subst z
      by_cases hl : i < env.length
      · rw [List.getElem?_set_self hl] at q
        cases q
      · rw [List.getElem?_eq_none (by rw [List.length_set]; omega)] at q
        cases q
    have ha := ne' a _ _ e1
    have hb := ne' b _ _ e2
    rw [List.getElem?_set_ne ha] at e1 e3
    rw [List.getElem?_set_ne hb] at e2 ⊢
    exact fr.sep a b _ _ p h e1 e2 e3
/-- a thing made since is changed -/
theorem Stp.mut {ex : Addr → Prop} {A B : Wd} {H H1 : Hp} {p : Addr} {o : HO} (x : Stp ex A H B H1) (h : H p = none ∨ ex p) : Stp ex A H B (upd H1 p o) where
  le := x.le
  keep := fun a u e n ne => by
    have q : a ≠ p := fun z => by
      subst z
      rcases h with h | h
      · rw [h] at e
        cases e
      · exact ne h
    rw [upd_ne q]
    exact x.keep a u e n ne
  dom := fun a z => upd_dom (x.dom a z)
  new := x.new
  newc := x.newc
/-- a thing of this frame's own is frozen -/
theorem Gd.freeze {p : Addr} {o : HO} (g : Gd K L W H S) (e : H p = some o) (h1 : W.G p = none) (h2 : p ∉ W.ca) : Gd K L (W.add p o) H S where
  fz := fun a u q => by
    by_cases z : a = p
    · subst z
      rw [Wd.add_at] at q
      cases q
      exact e
    · have q : upd W.G p o a = some u := q
      rw [upd_ne z] at q
      exact g.fz a u q
  cn := fun a m => by
    show upd W.G p o a = none
    rw [upd_ne (show a ≠ p from fun z => h2 (by rw [← z]; exact m))]
    exact g.cn a m
  nd := g.nd
  ln := g.ln
  ce := fun n c a e1 e2 => (g.ce n c a e1 e2).to (Wd.le_add h1) fun _ q => q
theorem Stp.freeze {ex : Addr → Prop} {A B : Wd} {H H1 : Hp} {p : Addr} {o : HO} (x : Stp ex A H B H1) (h : H p = none) (h1 : B.G p = none) : Stp ex A H (B.add p o) H1 where
  le := x.le.trans (Wd.le_add h1)
  keep := x.keep
  dom := x.dom
  new := fun a z => by
    by_cases e : a = p
    · subst e
      exact .inr h
    · have z : upd B.G p o a ≠ none := z
      rw [upd_ne e] at z
      exact x.new a z
  newc := x.newc
/-- what is not known ahead is not frozen, not a cell, behind -/
theorem Stp.stayG {p : Addr} (x : Stp noEx W H W' H') (h : H p ≠ none) (h1 : W.G p = none) : W'.G p = none := by
  cases z : W'.G p with
  | none => rfl
  | some o => exact ((x.new p (by rw [z]; exact fun z => nomatch z)).elim (fun y => absurd h1 y) fun y => absurd y h)
theorem Stp.stayC {p : Addr} (x : Stp noEx W H W' H') (h : H p ≠ none) (h1 : p ∉ W.ca) : p ∉ W'.ca := fun m => (x.newc p m).elim h1 h
theorem Stp.was {ex : Addr → Prop} {p : Addr} (x : Stp ex W H W' H') (h : H' p = none) : H p = none := by
  cases z : H p with
  | none => rfl
  | some o => exact absurd h (x.dom p (by rw [z]; exact fun z => nomatch z))
end

/-! ### targets -/
section
variable (K : PySem.W.Frag) (L : Ly)
def SemG (is : List Nat) (dg : DG) (g : TG) : Prop := ∀ (F : FD) W H S env σ d v Q env', Frm K L F W H S env σ → Rp K L W d v → dg d env = some env' → (∀ σ', Frm K L F W H S env' σ' → Chg is σ σ' → Q σ' H) → g v σ H Q
def SemGs (is : List Nat) (dgs : List DG) (g : TGs) : Prop := ∀ (F : FD) W H S env σ ds vs Q env', Frm K L F W H S env σ → RpL K L W ds vs → gAll dgs ds env = some env' → (∀ σ', Frm K L F W H S env' σ' → Chg is σ σ' → Q σ' H) → g vs σ H Q
structure SG (X : Cx) (is : List Nat) (tg : Expr) (g : TG) (dg : DG) : Prop where
  p : PG X tg g
  s : SemG K L is dg g
structure SGs (X : Cx) (is : List Nat) (tgs : List Expr) (n : Nat) (g : TGs) (dgs : List DG) : Prop where
  n : dgs.length = n
  p : PGs X tgs g
  s : SemGs K L is dgs g
end
section
variable {X : Cx} {K : PySem.W.Frag} {L : Ly} {E : XK} {pos : Pos}
theorem sg_name (i : Nat) {x : Str} (hN : X.N.Nodup) (hi : X.N[i]? = some x := by rfl) (hx : Loc X.env.scope x := by first | exact Or.inl rfl | exact Or.inr rfl) (hf : X.fn x = true ∨ X.env.scope.names.lookup x = some .local := by first | exact .inl rfl | exact .inr rfl | assumption) :
    SG K L X [i] (.Name x pos) (gName i) (gSet i) :=
  ⟨pg_name hN hi hx hf, fun F W H S env σ d v Q env' fr r e h => by
    cases e
    exact h _ (fr.set r) Chg.set⟩
theorem sgs_nil : SGs K L X [] [] 0 gNil [] := ⟨rfl, pgs_nil, fun F W H S env σ ds vs Q env' fr r e h => by
  cases ds with
  | nil =>
    cases e
    exact ⟨r, h _ fr Chg.refl⟩
  | cons d ds => cases e⟩
theorem sgs_cons {is js : List Nat} {e : Expr} {es : List Expr} {n : Nat} {g : TG} {gs : TGs} {dg : DG} {dgs : List DG} (h1 : SG K L X is e g dg) (h2 : SGs K L X js es n gs dgs) (hs : (assignEach (e :: es) X.env).map (·.2) = assign e X.env :: (assignEach es X.env).map (·.2) := by rfl) : SGs K L X (is ++ js) (e :: es) (n + 1) (gCons g gs) (dg :: dgs) :=
  ⟨by rw [List.length_cons, h2.n], pgs_cons h1.p h2.p hs, fun F W H S env σ ds vs Q env' fr r e h => by
    cases ds with
    | nil => cases e
    | cons d ds =>
      obtain ⟨v, q, rfl, r1, r2⟩ := r
      have e : (dg d env).bind (fun env' => gAll dgs ds env') = some env' := e
      cases e1 : dg d env with
      | none =>
        rw [e1] at e
        cases e
      | some env1 =>
        rw [e1] at e
        exact ⟨v, q, rfl, h1.s F W H S env σ d v _ env1 fr r1 e1 fun σ1 fr1 c1 => h2.s F W H S env1 σ1 ds q _ env' fr1 r2 e fun σ2 fr2 c2 => h σ2 fr2 (c1.trans c2)⟩⟩
def gAny (K : PySem.W.Frag) (n : Nat) (t : TGs) : TG := fun v σ H Q => gTup K n t v σ H Q ∨ gUnl K n t v σ H Q
theorem pg_or {target : Expr} {t u : TG} (h1 : PG X target t) (h2 : PG X target u) : PG X target (fun v σ H Q => t v σ H Q ∨ u v σ H Q) :=
  ⟨fun pins s σ H v u Q I r h => h.elim (fun h => h1.run pins s σ H v u Q I r h) fun h => h2.run pins s σ H v u Q I r h⟩
theorem gAll_len : ∀ {dgs : List DG} {ds : List D} {env env' : Env}, gAll dgs ds env = some env' → ds.length = dgs.length
  | [], [], _, _, _ => rfl
  | [], _ :: _, _, _, h => by cases h
  | _ :: _, [], _, _, h => by cases h
  | g :: dgs, d :: ds, env, env', h => by
    have h : (g d env).bind (fun env' => gAll dgs ds env') = some env' := h
    cases e1 : g d env with
    | none =>
      rw [e1] at h
      cases h
    | some env1 =>
      rw [e1] at h
      rw [List.length_cons, List.length_cons, gAll_len h]
theorem sg_tup {is : List Nat} {es : List Expr} {k n : Nat} {g : TGs} {dgs : List DG} (hc : X.calm = true) (h : SGs K L X is es n g dgs) (hn : (assignEach es X.env).length = n := by rfl) (hst : (assignEach es X.env).findIdx? (·.1) = none := by rfl) (hK : X.K = K := by rfl) : SG K L X is (.Tuple es k pos) (gAny K n g) (gTupD dgs) := by
  subst hK
  refine ⟨pg_or (pg_tup hc h.p hn hst) (pg_unl hc h.p hn hst), fun F W H S env σ d v Q env' fr r e q => ?_⟩
  unfold gTupD at e
  split at e
  · obtain ⟨a, vs, rfl, q1, r1⟩ := r
    exact .inl ⟨a, vs, rfl, fr.good.sqT q1, by rw [r1.length, gAll_len e, h.n], h.s F W H S env σ _ vs Q env' fr r1 e q⟩
  · obtain ⟨a, vs, rfl, q1, r1⟩ := r
    exact .inr ⟨a, vs, rfl, SqL.of (fr.good.fz _ _ q1), by rw [r1.length, gAll_len e, h.n], h.s F W H S env σ _ vs Q env' fr r1 e q⟩
  · cases e
end

/-! ### list comprehensions -/
section
variable (X : Cx) (K : PySem.W.Frag) (L : Ly) (E : XK)
structure STs (ifs : List Expr) (t : TT) (db : DB) : Prop where
  hK : X.K = K
  p : PTs X ifs t
  s : SemT K L E db t
/-- a new thing, this frame's own -/
def PF (W : Wd) (H : Hp) (Q : VK) : D → Store → Prop := fun d S' => ∀ W' H' p, Stp noEx W H W' H' → Gd K L W' H' S' → H p = none → W'.G p = none → p ∉ W'.ca → CellAt K L W' H' p d → Q (.ref p) H'
def SemF (de : DE) (t : TE) : Prop := ∀ (F : FD) W H S env σ Q, Frm K L F W H S env σ → wpO (de env S) (PF K L W H Q) (XP K L F E) → t σ H Q
structure SF (e : Expr) (t : TE) (de : DE) : Prop where
  hK : X.K = K
  p : PE X e t
  s : SemF K L E de t
/-- it gives lists -/
def Lsts (de : DE) : Prop := ∀ env S d S', de env S = .ok d S' → ∃ xs, d = .lst xs
end
section
variable {X : Cx} {K : PySem.W.Frag} {L : Ly} {E : XK} {e : Expr} {t : TE} {de : DE}
theorem wpO_ok {α : Type} {o : Out α} {P P' : α → Store → Prop} {R : Nat → List D → Store → Prop} (h : wpO o P R) (f : ∀ a S, o = .ok a S → P a S → P' a S) : wpO o P' R := by
  cases o with
  | ok a S => exact f a S rfl h
  | exc c fs S => exact h
  | stuck => exact h
theorem se_sf (h : SF X K L E e t de) (hl : Lsts de) : SE X K L E e t de := by
  refine ⟨h.hK, h.p, fun F W H S env σ Q fr w => h.s F W H S env σ Q fr (wpO_ok w fun d S' eq q W' H' p st g hp n1 n2 c => ?_)⟩
  obtain ⟨xs, rfl⟩ := hl _ _ _ _ eq
  obtain ⟨vs, e1, r⟩ := c
  exact q (W'.add p (.lst vs)) H' (.ref p) (st.freeze hp n1) (g.freeze e1 n1 n2) ⟨p, vs, rfl, Wd.add_at, r.mono (Wd.le_add n1)⟩
theorem sts_nil (hK : X.K = K := by rfl) : STs X K L E [] tYes tYesD := ⟨hK, pts_nil, fun F W H S env σ Q fr w => w W H Stp.refl fr.good⟩
theorem sts_one {c : Expr} {t : TT} {q : DB} (h : ST X K L E c t q) : STs X K L E [c] t q := ⟨h.hK, pts_one h.p, h.s⟩
theorem lc_step {f : D → M (List D)} {x : D} {r : List D} {k : List D → M D} {S : Store} {P : D → Store → Prop} {R : Nat → List D → Store → Prop} (h : wpO (M.bind (lcLoop f (x :: r)) k S) P R) :
    wpO (f x S) (fun ys S' => wpO (M.bind (lcLoop f r) (fun zs => k (ys ++ zs)) S') P R) R := by
  have e : M.bind (lcLoop f (x :: r)) k = M.bind (f x) fun ys => M.bind (lcLoop f r) fun zs => k (ys ++ zs) := by
    show M.bind (M.bind (f x) fun ys => M.bind (lcLoop f r) fun zs => M.pure (ys ++ zs)) k = _
    rw [M.assoc]
    congr 1
    funext ys
    rw [M.assoc]
    rfl
  rw [e] at h
  exact wpO_bind h
theorem sf_lc {elt tg iter : Expr} {ifs : List Expr} {scope : Scope} {own : List (Str × Nat)} {is : List Nat} {pos : Pos} {wi : TI} {g : TG} {tt : TT} {te : TE} {di : DI} {dg : DG} {dt : DB} {dx : DE} (hc : X.calm = true) (hN : X.N.Nodup) (hi : SI K L X E tg iter wi di)
    (ok : BlkOk X.N X.env.scope scope own)
    (hg : ∀ (s : Shared) (H : Hp) (C : Addr) (cl : List (Str × Addr)) (fp : List Addr), SG K L (X.blk s H scope (compEnvC scope cl C X.env) fp) is tg g dg)
    (ht : ∀ (s : Shared) (H : Hp) (C : Addr) (cl : List (Str × Addr)) (fp : List Addr), STs (X.blk s H scope (compEnvC scope cl C X.env) fp) K L E0 ifs tt dt)
    (he : ∀ (s : Shared) (H : Hp) (C : Addr) (cl : List (Str × Addr)) (fp : List Addr), SE (X.blk s H scope (compEnvC scope cl C X.env) fp) K L E0 elt te dx)
    (hsub : ∀ i, i ∈ is → i ∈ own.map (·.2) := by decide) (hs : ∀ x, foldedSetIterable iter X.env x = pure x := by intro _; rfl) :
    SF X K L E (.ListComp elt [⟨tg, iter, ifs, 0⟩] scope pos) (tLc wi g tt te (own.map (·.2))) (dLc (own.map (·.2)) di dg dt dx) := by
  refine ⟨hi.hK, pe_lc hc hN hi.p ok (fun s H C cl fp => (hg s H C cl fp).p) (fun s H C cl fp => (ht s H C cl fp).p) (fun s H C cl fp => (he s H C cl fp).p) hs, fun F W H S env σ Q fr w => ?_⟩
  have hg' := (hg X.s_0 X.H_0 0 [] []).s
  have ht' := (ht X.s_0 X.H_0 0 [] []).s
  have he' := (he X.s_0 X.H_0 0 [] []).s
  generalize own.map (·.2) = vs at *
  refine hi.s F W H S env σ _ fr (wpO_imp (wpO_bind w) fun xs S1 w1 W1 H1 J st1 g1 wk => ?_)
  obtain ⟨c, w1⟩ := wpO_ite w1
  obtain ⟨G, Y, walk, hG, hY⟩ := wk
  intro Da hDa
  have fr1 := fr.next st1 g1
  have nG := g1.freeG hDa
  have nC := g1.freeC hDa
  have w1' : wpO (M.bind (lcLoop (fun x => noX (lcTurn (wipeE env vs) dg dt dx x)) (xs.drop 0)) (fun ys => M.pure (.lst ([] ++ ys))) S1) (PF K L W H Q) (XP K L F E) := w1
  refine lc_it walk (fun i H' => ∃ W2 S2 acc vacc, Stp noEx W1 H1 W2 H' ∧ Gd K L W2 H' S2 ∧ W2.G Da = none ∧ Da ∉ W2.ca ∧ H' Da = some (.lst vacc) ∧ RpL K L W2 acc vacc ∧ acc.length ≤ i ∧
    wpO (M.bind (lcLoop (fun x => noX (lcTurn (wipeE env vs) dg dt dx x)) (xs.drop i)) (fun ys => M.pure (.lst (acc ++ ys))) S2) (PF K L W H Q) (XP K L F E))
    ⟨W1, S1, [], [], Stp.own hDa, g1.own nG nC, nG, nC, upd_same, rfl, Nat.le_refl _, w1'⟩ (fun i H' hi ⟨W2, S2, acc, vacc, s2, g2, _⟩ => hG W2 H' S2 s2.le g2) ?_ ?_
  · rintro i x H2 H3 hi ⟨W2, S2, acc, vacc, s2, g2, n1, n2, eD, ra, la, w2⟩ hy
    obtain ⟨W3, d, s3, g3, ed, rd⟩ := hY i W2 H2 S2 x H3 s2.le g2 hi hy
    have hd : xs.drop i = d :: xs.drop (i + 1) := by
      rw [List.drop_eq_getElem_cons hi]
      have := (List.getElem?_eq_some_iff.mp ed).2
      rw [this]
    rw [hd] at w2
    have w3 := wpO_noX (R' := XP K L F E0) (lc_step w2)
    obtain ⟨env2, e2, w3⟩ := wpO_lift (wpO_bind w3)
    have fr3 := ((fr1.next s2 g2).next s3 g3).wipe vs
    refine hg' F W3 H3 S2 _ _ d x _ env2 fr3 rd e2 fun σ2 fr4 ch => ⟨?_, ?_⟩
    · rw [ch vs hsub]
      refine List.ext_getElem? fun j => ?_
      rw [wipe_get, wipe_get, wipe_length]
      by_cases hm : j ∈ vs
      · rw [if_pos hm, if_pos hm]
      · rw [if_neg hm, if_neg hm]
    · refine ht' F W3 H3 S2 env2 σ2 _ fr4 (wpO_imp (wpO_bind w3) fun b S3 w4 W4 H4 s4 g4 => ?_)
      have hp2 : H2 Da ≠ none := by rw [eD]; exact fun z => nomatch z
      have e3 : H3 Da = some (.lst vacc) := s3.keep _ _ eD n2 fun z => z
      have hp3 : H3 Da ≠ none := by rw [e3]; exact fun z => nomatch z
      have m3 := s3.stayG hp2 n1
      have m3c := s3.stayC hp2 n2
      have e4 : H4 Da = some (.lst vacc) := s4.keep _ _ e3 m3c fun z => z
      have hp4 : H4 Da ≠ none := by rw [e4]; exact fun z => nomatch z
      have m4 := s4.stayG hp3 m3
      have m4c := s4.stayC hp3 m3c
      have s14 := (s2.trans s3).trans s4
      cases b with
      | true =>
        have w4 : wpO (M.bind (dx env2) (fun y => M.pure [y]) S3) _ _ := w4
        refine he' F W4 H4 S3 env2 σ2 _ (fr4.next s4 g4) (wpO_imp (wpO_bind w4) fun y S4 w5 W5 H5 v5 s5 g5 r5 => ?_)
        have e5 : H5 Da = some (.lst vacc) := s5.keep _ _ e4 m4c fun z => z
        have m5 := s5.stayG hp4 m4
        have m5c := s5.stayC hp4 m4c
        have le5 := (s3.trans (s4.trans s5)).le
        refine ⟨vacc, e5, limLt (by rw [ra.length]; omega), W5, S4, acc ++ [y], vacc ++ [v5], (s14.trans s5).mut (.inl hDa), g5.own m5 m5c, m5, m5c, upd_same, (ra.mono le5).append (RpL.one r5), by rw [List.length_append, List.length_singleton]; omega, ?_⟩
        have w5 : wpO (M.bind (lcLoop (fun x => noX (lcTurn (wipeE env vs) dg dt dx x)) (xs.drop (i + 1))) (fun zs => M.pure (.lst (acc ++ ([y] ++ zs)))) S4) (PF K L W H Q) (XP K L F E) := w5
        have ef : (fun zs => (M.pure (D.lst (acc ++ ([y] ++ zs))) : M D)) = fun zs => M.pure (.lst ((acc ++ [y]) ++ zs)) := by
          funext zs
          rw [List.append_assoc]
        rw [ef] at w5
        exact w5
      | false =>
        have w4 : wpO (M.bind (lcLoop (fun x => noX (lcTurn (wipeE env vs) dg dt dx x)) (xs.drop (i + 1))) (fun zs => M.pure (.lst (acc ++ zs))) S3) (PF K L W H Q) (XP K L F E) := w4
        exact ⟨W4, S3, acc, vacc, s14, g4, m4, m4c, e4, ra.mono (s3.trans s4).le, by omega, w4⟩
  · rintro H2 ⟨W2, S2, acc, vacc, s2, g2, n1, n2, eD, ra, la, w2⟩
    rw [List.drop_length] at w2
    have w2 : PF K L W H Q (.lst (acc ++ [])) S2 := w2
    rw [List.append_nil] at w2
    exact w2 W2 H2 Da (st1.trans s2) g2 (st1.was hDa) n1 n2 ⟨vacc, eD, ra⟩
theorem lsts_lc {vs : List Nat} {di : DI} {dg : DG} {dt : DB} {dx : DE} : Lsts (dLc vs di dg dt dx) := by
  intro env S d S' h
  unfold dLc M.bind at h
  cases q : di env S with
  | ok xs S1 =>
    rw [q] at h
    have h : (if xs.length ≤ 50000 then M.bind (lcLoop (fun x => noX (lcTurn (wipeE env vs) dg dt dx x)) xs) (fun ys => M.pure (.lst ys)) else stk) S1 = .ok d S' := h
    split at h
    · unfold M.bind at h
      cases q2 : lcLoop (fun x => noX (lcTurn (wipeE env vs) dg dt dx x)) xs S1 with
      | ok ys S2 =>
        rw [q2] at h
        cases h
        exact ⟨ys, rfl⟩
      | exc c fs S2 =>
        rw [q2] at h
        cases h
      | stuck =>
        rw [q2] at h
        cases h
    · cases h
  | exc c fs S2 =>
    rw [q] at h
    cases h
  | stuck =>
    rw [q] at h
    cases h
end
end Sk

set_option Elab.async false
set_option linter.all false
set_option maxRecDepth 100000
set_option maxHeartbeats 2000000
set_option autoImplicit false
/-! SkT: statements, defs, calls. -/
namespace Sk
open PySem PySem.Spec PyProof.Rows L2
section
variable (K : PySem.W.Frag) (L : Ly) (E : XK)
/-- what is wanted behind a statement -/
def PFl (F : FD) (W : Wd) (D : Ends) : Flow → Store → Prop := fun fl S' => match fl with
  | .next env => ∀ W' H' σ', Le W W' → Frm K L F W' H' S' env σ' → D.nx σ' H'
  | .ret d => ∀ W' H' v, Stp F.ex F.W0 F.H0 W' H' → Gd K L W' H' S' → Rp K L W' d v → D.rt v H'
  | .brk env => ∀ W' H' σ', Le W W' → Frm K L F W' H' S' env σ' → D.bk σ' H'
  | .cont env => ∀ W' H' σ', Le W W' → Frm K L F W' H' S' env σ' → D.ct σ' H'
def SemS (ds : DS) (t : TS) : Prop := ∀ (F : FD) W H S env σ D, Frm K L F W H S env σ → wpO (ds env S) (PFl K L F W D) (XP K L F E) → t D σ H
structure S1 (X : Cx) (st : Stmt) (t : TS) (ds : DS) : Prop where
  p : PS X st t
  s : SemS K L E ds t
structure SS (X : Cx) (sts : List Stmt) (t : TS) (ds : DS) : Prop where
  p : PSs X sts t
  s : SemS K L E ds t
end
section
variable {X : Cx} {K : PySem.W.Frag} {L : Ly} {E : XK} {a b c e : Expr} {es : List Expr} {ta tb tc : TE} {da db dc : DE} {pos p : Pos} {st : Stmt} {rest : List Stmt} {t u : TS} {d1 d2 : DS} {F : FD} {tt : TT} {dt : DB}
theorem PFl.mono {D : Ends} {W W1 : Wd} (le : Le W W1) {fl : Flow} {S : Store} (h : PFl K L F W D fl S) : PFl K L F W1 D fl S := by
  cases fl with
  | next env => exact fun W' H' σ' l => h W' H' σ' (le.trans l)
  | ret d => exact h
  | brk env => exact fun W' H' σ' l => h W' H' σ' (le.trans l)
  | cont env => exact fun W' H' σ' l => h W' H' σ' (le.trans l)
theorem ss_nil : SS K L E X [] tNext sNext := ⟨pss_nil, fun F W H S env σ D fr w => w W H σ (Le.refl W) fr⟩
theorem ss_one (h : S1 K L E X st t d1) : SS K L E X [st] t d1 := ⟨pss_one h.p, h.s⟩
theorem ss_cons (h1 : S1 K L E X st t d1) (h2 : SS K L E X rest u d2) : SS K L E X (st :: rest) (tSeq t u) (sSeq d1 d2) := by
  refine ⟨pss_cons h1.p h2.p, fun F W H S env σ D fr w => ?_⟩
  refine h1.s F W H S env σ _ fr (wpO_imp (wpO_bind w) fun fl S1 w1 => ?_)
  cases fl with
  | next env' => exact fun W' H' σ' le fr' => h2.s F W' H' S1 env' σ' D fr' (wpO_imp w1 fun fl S q => q.mono le)
  | ret d => exact w1
  | brk e => exact w1
  | cont e => exact w1
theorem s1_pass : S1 K L E X (.Pass pos) tNext sNext := ⟨ps_pass, fun F W H S env σ D fr w => w W H σ (Le.refl W) fr⟩
theorem s1_break : S1 K L E X (.Break pos) tBreak sBreak := ⟨ps_break, fun F W H S env σ D fr w => w W H σ (Le.refl W) fr⟩
theorem s1_cont : S1 K L E X (.Continue pos) tCont sCont := ⟨ps_continue, fun F W H S env σ D fr w => w W H σ (Le.refl W) fr⟩
theorem s1_never : S1 K L E X st tNever sStk := ⟨ps_never, fun F W H S env σ D fr w => w⟩
theorem s1_expr (ha : SE X K L E a ta da) (hs : swapsWith a none pos.line X.env = pure false := by rfl) : S1 K L E X (.Expr a pos) (tDrop ta) (sExpr da) := by
  refine ⟨ps_expr ha.p hs, fun F W H S env σ D fr w => ?_⟩
  exact ha.s F W H S env σ _ fr (wpO_imp (wpO_bind w) fun x S1 w1 W1 H1 v1 st1 g1 r1 => w1 W1 H1 σ st1.le (fr.next st1 g1))
theorem s1_ret (ha : SE X K L E a ta da) : S1 K L E X (.Return (some a) pos) (tRet ta) (sRet da) := by
  refine ⟨ps_ret ha.p, fun F W H S env σ D fr w => ?_⟩
  exact ha.s F W H S env σ _ fr (wpO_imp (wpO_bind w) fun x S1 w1 W1 H1 v1 st1 g1 r1 => w1 W1 H1 v1 (fr.step.trans st1.weak) g1 r1)
theorem s1_retN : S1 K L E X (.Return none pos) tRetN sRetN := ⟨ps_retN, fun F W H S env σ D fr w => w W H .non fr.step fr.good rfl⟩
theorem s1_if {sa sb : List Stmt} (hc : ST X K L E c tt dt) (ha : SS K L E X sa t d1) (hb : SS K L E X sb u d2) : S1 K L E X (.If c sa sb pos) (tIfS tt t u) (sIf dt d1 d2) := by
  refine ⟨ps_if hc.p ha.p hb.p, fun F W H S env σ D fr w => ?_⟩
  refine hc.s F W H S env σ _ fr (wpO_imp (wpO_bind w) fun x S1 w1 W1 H1 st1 g1 => ?_)
  cases x with
  | true => exact ha.s F W1 H1 S1 env σ D (fr.next st1 g1) (wpO_imp w1 fun fl S q => q.mono st1.le)
  | false => exact hb.s F W1 H1 S1 env σ D (fr.next st1 g1) (wpO_imp w1 fun fl S q => q.mono st1.le)
theorem sem_asg {is : List Nat} {g : TG} {dg : DG} (ha : Sem K L E da ta) (hg : SemG K L is dg g) : SemS K L E (sAsg da dg) (tAsg ta g) := by
  intro F W H S env σ D fr w
  refine ha F W H S env σ _ fr (wpO_imp (wpO_bind w) fun x S1 w1 W1 H1 v1 st1 g1 r1 => ?_)
  obtain ⟨env', e, w1⟩ := wpO_lift (wpO_bind w1)
  exact hg F W1 H1 S1 env σ x v1 _ env' (fr.next st1 g1) r1 e fun σ' fr' _ => w1 W1 H1 σ' st1.le fr'
theorem s1_asg {tg : Expr} {is : List Nat} {g : TG} {dg : DG} (ha : SE X K L E a ta da) (hg : SG K L X is tg g dg) (hs : swapsWithSole [tg] a pos.line X.env = pure false := by rfl) (hw : swappedStores [tg] a X.env = pure none := by rfl)
    (h1 : (assignEach [tg] X.env).map (·.2) = [assign tg X.env] := by rfl) : S1 K L E X (.Assign [tg] a pos) (tAsg ta g) (sAsg da dg) := ⟨ps_asg ha.p hg.p hs hw h1, sem_asg ha.s hg.s⟩
theorem semG_name {i : Nat} : SemG K L [i] (gSet i) (gName i) := fun F W H S env σ d v Q env' fr r e h => by
  cases e
  exact h _ (fr.set r) Chg.set
theorem s1_set (i : Nat) {x : Str} {pos' : Pos} (hN : X.N.Nodup) (ha : SE X K L E a ta da) (hi : X.N[i]? = some x := by rfl) (hx : Loc X.env.scope x := by first | exact Or.inl rfl | exact Or.inr rfl)
    (hs : swapsWith a (some (.Name x pos')) pos.line X.env = pure false := by rfl) (hf : X.fn x = true ∨ X.env.scope.names.lookup x = some .local := by first | exact .inl rfl | exact .inr rfl | assumption) :
    S1 K L E X (.Assign [.Name x pos'] a pos) (tAsg ta (gName i)) (sAsg da (gSet i)) := ⟨ps_set hN hi hx ha.p hs hf, sem_asg ha.s semG_name⟩
/-- the name of a list comprehension on one line -/
theorem s1_setLc (i : Nat) {y : Str} {py spos : Pos} {elt tg iter : Expr} {ifs : List Expr} {scope : Scope} {own : List (Str × Nat)} {is : List Nat} {wi : TI} {g : TG} {tq : TT} {te : TE} {di : DI} {dg : DG} {dq : DB} {dx : DE} (hc : X.calm = true) (hN : X.N.Nodup) (hi : SI K L X E tg iter wi di)
    (ok : BlkOk X.N X.env.scope scope own)
    (hg : ∀ (s : Shared) (H : Hp) (C : Addr) (cl : List (Str × Addr)) (fp : List Addr), SG K L (X.blk s H scope (compEnvC scope cl C X.env) fp) is tg g dg)
    (ht : ∀ (s : Shared) (H : Hp) (C : Addr) (cl : List (Str × Addr)) (fp : List Addr), STs (X.blk s H scope (compEnvC scope cl C X.env) fp) K L E0 ifs tq dq)
    (he : ∀ (s : Shared) (H : Hp) (C : Addr) (cl : List (Str × Addr)) (fp : List Addr), SE (X.blk s H scope (compEnvC scope cl C X.env) fp) K L E0 elt te dx)
    (hy : X.N[i]? = some y := by rfl) (hyl : X.env.scope.names.lookup y = some .local := by rfl)
    (hsw : swapsWith (.ListComp elt [⟨tg, iter, ifs, 0⟩] scope pos) (some (.Name y py)) spos.line X.env = pure true := by exact sw_true rfl rfl rfl (by decide +kernel))
    (hsub : ∀ i, i ∈ is → i ∈ own.map (·.2) := by decide) (hs : ∀ x, foldedSetIterable iter X.env x = pure x := by intro _; rfl) :
    S1 K L E X (.Assign [.Name y py] (.ListComp elt [⟨tg, iter, ifs, 0⟩] scope pos) spos) (tAsg (tLc wi g tq te (own.map (·.2))) (gName i)) (sAsg (dLc (own.map (·.2)) di dg dq dx) (gSet i)) :=
  ⟨ps_setLc hc hN hy hyl hsw hi.p ok (fun s H C cl fp => (hg s H C cl fp).p) (fun s H C cl fp => (ht s H C cl fp).p) (fun s H C cl fp => (he s H C cl fp).p) hs,
    sem_asg (se_sf (sf_lc (pos := pos) hc hN hi ok hg ht he hsub hs) lsts_lc).s semG_name⟩
theorem s1_par2 (i j : Nat) {x y : Str} {px py pt : Pos} {kt k2 : Nat} {pt2 : Pos} (hc : X.calm = true) (hN : X.N.Nodup) (ha : SE X K L E a ta da) (hb : SE X K L E b tb db) (hi : X.N[i]? = some x := by rfl) (hj : X.N[j]? = some y := by rfl) (hij : i ≠ j := by decide)
    (hx : X.env.scope.names.lookup x = some .local := by rfl) (hy : X.env.scope.names.lookup y = some .local := by rfl)
    (hst : starEach [a, b] X.env = (false, eval a X.env) :: starEach [b] X.env := by rfl) (hst2 : starEach [b] X.env = (false, eval b X.env) :: starEach [] X.env := by rfl)
    (hw : swappedStores [.Tuple [.Name x px, .Name y py] kt pt] (.Tuple [a, b] k2 pt2) X.env = pure (some [x, y]) := by rfl)
    (hs : swapsWithSole [.Tuple [.Name x px, .Name y py] kt pt] (.Tuple [a, b] k2 pt2) pos.line X.env = pure false := by rfl) :
    S1 K L E X (.Assign [.Tuple [.Name x px, .Name y py] kt pt] (.Tuple [a, b] k2 pt2) pos) (tPar i j (tCons ta (tCons tb tNil))) (sPar2 i j da db) := by
  refine ⟨ps_par hc hN hi hj hij hx hy (pa_cons ha.p (pa_cons hb.p pa_nil hst2) hst) hw hs, fun F W H S env σ D fr w => ?_⟩
  refine ha.s F W H S env σ _ fr (wpO_imp (wpO_bind w) fun x S1 w1 W1 H1 v1 st1 g1 r1 => ?_)
  refine hb.s F W1 H1 S1 env σ _ (fr.next st1 g1) (wpO_imp (wpO_bind w1) fun y S2 w2 W2 H2 v2 st2 g2 r2 => ?_)
  exact ⟨v1, v2, rfl, w2 W2 H2 _ (st1.trans st2).le ((((fr.next st1 g1).next st2 g2).set (r1.mono st2.le)).set r2)⟩
theorem s1_par3 (i j l : Nat) {x y z : Str} {px py pz pt : Pos} {kt k2 : Nat} {pt2 : Pos} (hc : X.calm = true) (hN : X.N.Nodup) (ha : SE X K L E a ta da) (hb : SE X K L E b tb db) (hcc : SE X K L E c tc dc) (hi : X.N[i]? = some x := by rfl) (hj : X.N[j]? = some y := by rfl) (hl : X.N[l]? = some z := by rfl) (hij : i ≠ j := by decide) (hil : i ≠ l := by decide) (hjl : j ≠ l := by decide)
    (hx : X.env.scope.names.lookup x = some .local := by rfl) (hy : X.env.scope.names.lookup y = some .local := by rfl) (hz : X.env.scope.names.lookup z = some .local := by rfl)
    (hst : starEach [a, b, c] X.env = (false, eval a X.env) :: starEach [b, c] X.env := by rfl) (hst2 : starEach [b, c] X.env = (false, eval b X.env) :: starEach [c] X.env := by rfl) (hst3 : starEach [c] X.env = (false, eval c X.env) :: starEach [] X.env := by rfl)
    (hw : swappedStores [.Tuple [.Name x px, .Name y py, .Name z pz] kt pt] (.Tuple [a, b, c] k2 pt2) X.env = pure (some [x, y, z]) := by rfl)
    (hs : swapsWithSole [.Tuple [.Name x px, .Name y py, .Name z pz] kt pt] (.Tuple [a, b, c] k2 pt2) pos.line X.env = pure false := by rfl) :
    S1 K L E X (.Assign [.Tuple [.Name x px, .Name y py, .Name z pz] kt pt] (.Tuple [a, b, c] k2 pt2) pos) (tPar3 i j l (tCons ta (tCons tb (tCons tc tNil)))) (sPar3 i j l da db dc) := by
  refine ⟨ps_par3 hc hN hi hj hl hij hil hjl hx hy hz (pa_cons ha.p (pa_cons hb.p (pa_cons hcc.p pa_nil hst3) hst2) hst) hw hs, fun F W H S env σ D fr w => ?_⟩
  refine ha.s F W H S env σ _ fr (wpO_imp (wpO_bind w) fun x S1 w1 W1 H1 v1 st1 g1 r1 => ?_)
  refine hb.s F W1 H1 S1 env σ _ (fr.next st1 g1) (wpO_imp (wpO_bind w1) fun y S2 w2 W2 H2 v2 st2 g2 r2 => ?_)
  refine hcc.s F W2 H2 S2 env σ _ ((fr.next st1 g1).next st2 g2) (wpO_imp (wpO_bind w2) fun z S3 w3 W3 H3 v3 st3 g3 r3 => ?_)
  exact ⟨v1, v2, v3, rfl, w3 W3 H3 _ (st1.trans (st2.trans st3)).le ((((((fr.next st1 g1).next st2 g2).next st3 g3).set (r1.mono (st2.trans st3).le)).set (r2.mono st3.le)).set r3)⟩
theorem s1_aug (i : Nat) {x : Str} {op : Operator} {r : R2} {f : D → D → M D} {pos' : Pos} (ho : OpR X (inplaceOp op) r) (hf : OpS K L r f) (hN : X.N.Nodup) (ha : SE X K L E a ta da) (hi : X.N[i]? = some x := by rfl) (hx : Loc X.env.scope x := by first | exact Or.inl rfl | exact Or.inr rfl)
    (hfn : X.fn x = true ∨ X.env.scope.names.lookup x = some .local := by first | exact .inl rfl | exact .inr rfl | assumption) : S1 K L E X (.AugAssign (.Name x pos') op a pos) (tAug i ta r) (sAug i f da) := by
  refine ⟨ps_aug hN hi hx ha.p (fun pins s σ H x y v u Q I rx ry h => ho pins s σ H x y v u Q I rx ry h) hfn, fun F W H S env σ D fr w => ?_⟩
  have w := wpO_bind w
  unfold dVar at w
  cases q : env[i]? with
  | none =>
    rw [q] at w
    exact w.elim
  | some s =>
    rw [q] at w
    have hs := fr.sl i s q
    cases s with
    | no => exact w.elim
    | own d => exact w.elim
    | shr d =>
      obtain ⟨v, e1, r0⟩ := hs
      refine ⟨v, e1, ?_⟩
      have w : wpO (M.bind (da env) (fun y => M.bind (f d y) fun z => M.pure (.next (env.set i (.shr z)))) S) (PFl K L F W D) (XP K L F E) := w
      refine ha.s F W H S env σ _ fr (wpO_imp (wpO_bind w) fun y S1 w1 W1 H1 v1 st1 g1 r1 => ?_)
      exact hf W1 H1 S1 d y v v1 _ _ g1 (.inl (r0.mono st1.le)) (.inl r1) (wpO_imp (wpO_bind w1) fun z S2 w2 W2 H2 v2 st2 g2 r2 => w2 W2 H2 _ (st1.trans st2).le (((fr.next st1 g1).next st2 g2).set r2))

/-! ### loops -/
theorem s1_for {tg iter : Expr} {body : List Stmt} {is : List Nat} {wi : TI} {g : TG} {di : DI} {dg : DG} (hp : PassesOwn (model X.prog X.w) X.A X.env X.xe) (hc : X.calm = true) (hi : SI K L X E tg iter wi di) (hg : SG K L X is tg g dg) (hb : SS K L E X body t d1)
    (hs : ∀ x, foldedSetIterable iter X.env x = pure x := by intro _; rfl) : S1 K L E X (.For tg iter body [] pos) (tFor wi g t) (sFor di dg d1) := by
  refine ⟨ps_for hp hc hi.p hg.p hb.p hs, fun F W H S env σ D fr w => ?_⟩
  refine hi.s F W H S env σ _ fr (wpO_imp (wpO_bind w) fun xs S1 w1 W1 H1 J st1 g1 wk => ?_)
  obtain ⟨G, Y, walk, hG, hY⟩ := wk
  refine for_it walk (fun i σ' H' => ∃ W2 S2 env2, Le W1 W2 ∧ Frm K L F W2 H' S2 env2 σ' ∧ wpO (forLoop (fun x e => M.bind (lift (dg x e)) d1) (xs.drop i) env2 S2) (PFl K L F W2 D) (XP K L F E))
    ⟨W1, S1, env, Le.refl _, fr.next st1 g1, wpO_imp w1 fun fl S q => q.mono st1.le⟩ (fun i σ' H' hi ⟨W2, S2, env2, le, fr2, _⟩ => hG W2 H' S2 le fr2.good) ?_ ?_
  · rintro i x σ2 H2 H3 hi ⟨W2, S2, env2, le, fr2, w2⟩ hy
    obtain ⟨W3, d, s3, g3, ed, rd⟩ := hY i W2 H2 S2 x H3 le fr2.good hi hy
    have hd : xs.drop i = d :: xs.drop (i + 1) := by
      rw [List.drop_eq_getElem_cons hi]
      have := (List.getElem?_eq_some_iff.mp ed).2
      rw [this]
    rw [hd] at w2
    have w3 := wpO_bind (wpO_bind w2)
    obtain ⟨env3, e3, w3⟩ := wpO_lift w3
    refine hg.s F W3 H3 S2 env2 σ2 d x _ env3 (fr2.next s3 g3) rd e3 fun σ3 fr3 _ => ?_
    refine hb.s F W3 H3 S2 env3 σ3 _ fr3 (wpO_imp w3 fun fl S4 w4 => ?_)
    have le3 := le.trans s3.le
    cases fl with
    | next e4 => exact fun W4 H4 σ4 l4 fr4 => ⟨W4, S4, e4, le3.trans l4, fr4, wpO_imp w4 fun fl S q => q.mono (s3.le.trans l4)⟩
    | cont e4 => exact fun W4 H4 σ4 l4 fr4 => ⟨W4, S4, e4, le3.trans l4, fr4, wpO_imp w4 fun fl S q => q.mono (s3.le.trans l4)⟩
    | brk e4 => exact fun W4 H4 σ4 l4 fr4 => w4 W4 H4 σ4 (s3.le.trans l4) fr4
    | ret d4 => exact w4
  · rintro σ2 H2 ⟨W2, S2, env2, le, fr2, w2⟩
    rw [List.drop_length] at w2
    exact w2 W2 H2 σ2 (Le.refl _) fr2
theorem s1_while {cc : Expr} {body : List Stmt} (hp : PassesOwn (model X.prog X.w) X.A X.env X.xe) (hc : ST X K L E cc tt dt) (hb : SS K L E X body t d1) : S1 K L E X (.While cc body [] pos) (tWhile tt t) (sWhile dt d1) := by
  refine ⟨ps_while hp hc.p hb.p, fun F W H S env σ D fr w => ?_⟩
  refine ⟨fun m σ' H' => ∃ W2 S2 env2, Frm K L F W2 H' S2 env2 σ' ∧ wpO (whileLoop dt d1 m env2 S2) (PFl K L F W2 D) (XP K L F E), ⟨100000, W, S, env, fr, w⟩, ?_⟩
  rintro m σ1 H1 ⟨W1, S1, env1, fr1, w1⟩
  cases m with
  | zero => exact w1.elim
  | succ m =>
    refine hc.s F W1 H1 S1 env1 σ1 _ fr1 (wpO_imp (wpO_bind w1) fun b S2 w2 W2 H2 st2 g2 => ?_)
    cases b with
    | false => exact w2 W2 H2 σ1 st2.le (fr1.next st2 g2)
    | true =>
      have w2 : wpO (M.bind (d1 env1) (fun fl => (match fl with
        | .next e => whileLoop dt d1 m e
        | .cont e => whileLoop dt d1 m e
        | .brk e => M.pure (.next e)
        | .ret d => M.pure (.ret d))) S2) (PFl K L F W1 D) (XP K L F E) := w2
      refine ⟨fun σ' H' => ∃ W2 S2 env2, Frm K L F W2 H' S2 env2 σ' ∧ wpO (whileLoop dt d1 m env2 S2) (PFl K L F W2 D) (XP K L F E), fun σ' H' h => ⟨m, Nat.lt_succ_self m, h⟩, ?_⟩
      refine hb.s F W2 H2 S2 env1 σ1 _ (fr1.next st2 g2) (wpO_imp (wpO_bind w2) fun fl S4 w4 => ?_)
      cases fl with
      | next e4 => exact fun W4 H4 σ4 l4 fr4 => ⟨W4, S4, e4, fr4, wpO_imp w4 fun fl S q => q.mono (st2.le.trans l4)⟩
      | cont e4 => exact fun W4 H4 σ4 l4 fr4 => ⟨W4, S4, e4, fr4, wpO_imp w4 fun fl S q => q.mono (st2.le.trans l4)⟩
      | brk e4 => exact fun W4 H4 σ4 l4 fr4 => w4 W4 H4 σ4 (st2.le.trans l4) fr4
      | ret d4 => exact w4
end
end Sk

set_option Elab.async false
set_option linter.all false
set_option maxRecDepth 100000
set_option maxHeartbeats 2000000
set_option autoImplicit false
/-! SkU: things that change, defs and calls. -/
namespace Sk
open PySem PySem.Spec PyProof.Rows L2
section
variable {K : PySem.W.Frag} {L : Ly} {F : FD} {W W' : Wd} {H H' : Hp} {S S' : Store} {env : Env} {σ : L2.St}
theorem Frm.setOwn (fr : Frm K L F W H S env σ) {i : Nat} {d : D} {p : Addr} (n1 : W.G p = none) (n2 : p ∉ W.ca) (n3 : F.H0 p = none ∨ F.ex p) (c : CellAt K L W H p d)
    (hx : ∀ j e, env[j]? = some (.own e) → j ≠ i → σ[j]? ≠ some (some (.ref p))) : Frm K L F W H S (env.set i (.own d)) (σ.set i (some (.ref p))) where
  good := fr.good
  step := fr.step
  len := by rw [List.length_set, List.length_set, fr.len]
  sl := fun j s e => by
    by_cases h : i = j
    · subst h
      by_cases hl : i < env.length
      · rw [List.getElem?_set_self hl] at e
        cases e
        exact ⟨p, List.getElem?_set_self (by rw [fr.len]; exact hl), n1, n2, n3, c⟩
      · rw [List.getElem?_eq_none (by rw [List.length_set]; omega)] at e
        cases e
    · rw [List.getElem?_set_ne h] at e ⊢
      exact fr.sl j s e
  sep := fun a b d1 e1 q h h1 h2 h3 => by
    have lenE : ∀ c, c < env.length → c < σ.length := fun c z => by rw [fr.len]; exact z
    by_cases ha : i = a
    · subst ha
      have hb : i ≠ b := h
      have hl : i < env.length := by
        rcases Nat.lt_or_ge i env.length with z | z
        · exact z
        · rw [List.getElem?_eq_none (by rw [List.length_set]; exact z)] at h1
          cases h1
      rw [List.getElem?_set_self (lenE _ hl)] at h3
      cases h3
      rw [List.getElem?_set_ne hb] at h2 ⊢
      exact hx b _ h2 (Ne.symm hb)
    · rw [List.getElem?_set_ne ha] at h1 h3
      by_cases hb : i = b
      · subst hb
        have hl : i < env.length := by
          rcases Nat.lt_or_ge i env.length with z | z
          · exact z
          · rw [List.getElem?_eq_none (by rw [List.length_set]; exact z)] at h2
            cases h2
        rw [List.getElem?_set_self (lenE _ hl)]
        intro z
        cases z
        exact hx a _ h1 (Ne.symm ha) h3
      · rw [List.getElem?_set_ne hb] at h2 ⊢
        exact fr.sep a b _ _ q h h1 h2 h3
/-- a thing of this frame's own has changed -/
theorem Frm.mutOwn (fr : Frm K L F W H S env σ) {i : Nat} {d d' : D} {p : Addr} {o : HO} (he : env[i]? = some (.own d)) (hs : σ[i]? = some (some (.ref p))) (n1 : W.G p = none) (n2 : p ∉ W.ca) (n3 : F.H0 p = none ∨ F.ex p) (c : CellAt K L W (upd H p o) p d') :
    Frm K L F W (upd H p o) S (env.set i (.own d')) σ where
  good := fr.good.own n1 n2
  step := fr.step.mut n3
  len := by rw [List.length_set, fr.len]
  sl := fun j s e => by
    by_cases h : i = j
    · subst h
      rw [List.getElem?_set_self (List.getElem?_eq_some_iff.mp he).1] at e
      cases e
      exact ⟨p, hs, n1, n2, n3, c⟩
    · rw [List.getElem?_set_ne h] at e
      have q := fr.sl j s e
      cases s with
      | no => trivial
      | shr d => exact q
      | own x =>
        obtain ⟨p2, e1, m1, m2, m3, c2⟩ := q
        refine ⟨p2, e1, m1, m2, m3, c2.to (Le.refl W) fun u eu => ?_⟩
        rw [upd_ne (fun z => ?_)]
        · exact eu
        · subst z
          exact fr.sep i j _ _ p2 h he e hs e1
  sep := fun a b d1 e1 q h h1 h2 h3 => by
    have get : ∀ (c : Nat) (x : D), (env.set i (.own d'))[c]? = some (.own x) → ∃ y : D, env[c]? = some (.own y) := fun c x z => by
      by_cases hc : i = c
      · subst hc
        exact ⟨_, he⟩
      · rw [List.getElem?_set_ne hc] at z
        exact ⟨_, z⟩
    obtain ⟨y1, z1⟩ := get a _ h1
    obtain ⟨y2, z2⟩ := get b _ h2
    exact fr.sep a b _ _ q h z1 z2 h3
/-- a thing of one's own that nobody has seen is no other slot's -/
theorem Frm.alone (fr : Frm K L F W H S env σ) {p : Addr} (h : H p = none) : ∀ (j : Nat) (e : D), env[j]? = some (.own e) → σ[j]? ≠ some (some (.ref p)) := fun j e he z => by
  obtain ⟨q, e1, _, _, _, c⟩ := fr.sl j _ he
  rw [e1] at z
  cases z
  exact c.ne h
/-- a thing with an identity has changed -/
theorem Gd.setCel (g : Gd K L W H S) {n : Nat} {a : Addr} {c : D} {o : HO} (e : W.ca[n]? = some a) (hc : CellAt K L W (upd H a o) a c) : Gd K L W (upd H a o) (S.set n c) where
  fz := fun b u q => by
    rw [upd_ne (ne_of_none q (g.cn a (List.mem_of_getElem? e)))]
    exact g.fz b u q
  cn := g.cn
  nd := g.nd
  ln := by rw [List.length_set, g.ln]
  ce := fun m d b e1 e2 => by
    by_cases h : n = m
    · subst h
      rw [e] at e2
      cases e2
      have hl : n < S.length := by rw [← g.ln]; exact (List.getElem?_eq_some_iff.mp e).1
      rw [List.getElem?_set_self hl] at e1
      cases e1
      exact hc
    · rw [List.getElem?_set_ne h] at e1
      refine (g.ce m d b e1 e2).to (Le.refl W) fun u eu => ?_
      rw [upd_ne (fun z => ?_)]
      · exact eu
      · subst z
        exact h (nd_ix g.nd e e2)
theorem Stp.setCel {a : Addr} {o : HO} (h : a ∈ W.ca) : Stp noEx W H W (upd H a o) :=
  ⟨Le.refl W, fun b u e n _ => by
    rw [upd_ne (fun z => n (by rw [z]; exact h))]
    exact e, fun b z => upd_dom z, fun b z => .inl z, fun b z => .inl z⟩
def Wd.cel (W : Wd) (p : Addr) : Wd := ⟨W.G, W.ca ++ [p]⟩
theorem Le.cel' {p : Addr} : Le W (W.cel p) := ⟨fun _ _ h => h, [p], rfl⟩
theorem Stp.newCel {p : Addr} {o : HO} (h : H p = none) : Stp noEx W H (W.cel p) (upd H p o) :=
  ⟨Le.cel', fun b u e _ _ => by
    rw [upd_ne (ne_of_none e h)]
    exact e, fun b z => upd_dom z, fun b z => .inl z, fun b z => by
    rcases List.mem_append.mp z with z | z
    · exact .inl z
    · rw [List.mem_singleton.mp z]
      exact .inr h⟩
theorem Gd.newCel (g : Gd K L W H S) {p : Addr} {c : D} {o : HO} (h : H p = none) (hc : CellAt K L (W.cel p) (upd H p o) p c) : Gd K L (W.cel p) (upd H p o) (S ++ [c]) where
  fz := fun b u q => by
    rw [upd_ne (ne_of_none q (g.freeG h))]
    exact g.fz b u q
  cn := fun a m => by
    rcases List.mem_append.mp m with m | m
    · exact g.cn a m
    · rw [List.mem_singleton.mp m]
      exact g.freeG h
  nd := by
    show (W.ca ++ [p]).Nodup
    refine List.nodup_append.mpr ⟨g.nd, by simp, fun a ha b hb => ?_⟩
    rw [List.mem_singleton.mp hb]
    exact fun z => g.freeC h (by rw [← z]; exact ha)
  ln := by
    show (W.ca ++ [p]).length = (S ++ [c]).length
    rw [List.length_append, List.length_append, g.ln]
    rfl
  ce := fun m d b e1 e2 => by
    have e2 : (W.ca ++ [p])[m]? = some b := e2
    rcases Nat.lt_or_ge m S.length with hl | hl
    · rw [List.getElem?_append_left hl] at e1
      rw [List.getElem?_append_left (by rw [g.ln]; exact hl)] at e2
      refine (g.ce m d b e1 e2).to Le.cel' fun u eu => ?_
      rw [upd_ne (ne_of_none eu h)]
      exact eu
    · have hm : m = S.length := by
        have := (List.getElem?_eq_some_iff.mp e1).1
        rw [List.length_append, List.length_singleton] at this
        omega
      subst hm
      rw [List.getElem?_append_right (Nat.le_refl _), Nat.sub_self] at e1
      rw [List.getElem?_append_right (by rw [g.ln]; exact Nat.le_refl _), g.ln, Nat.sub_self] at e2
      cases e1
      cases e2
      exact hc
end
section
variable {X : Cx} {K : PySem.W.Frag} {L : Ly} {E : XK} {a b c e : Expr} {es : List Expr} {ta tb tc : TE} {da db dc : DE} {tr : TA} {dr : DA} {pos p : Pos} {st : Stmt} {rest : List Stmt} {t u : TS} {d1 d2 : DS} {F : FD} {tt : TT} {dt : DB}
theorem s1_own (i : Nat) {x : Str} {pos' : Pos} (hN : X.N.Nodup) (ha : SF X K L E a ta da) (hi : X.N[i]? = some x := by rfl) (hx : Loc X.env.scope x := by first | exact Or.inl rfl | exact Or.inr rfl)
    (hs : swapsWith a (some (.Name x pos')) pos.line X.env = pure false := by rfl) (hf : X.fn x = true ∨ X.env.scope.names.lookup x = some .local := by first | exact .inl rfl | exact .inr rfl | assumption) :
    S1 K L E X (.Assign [.Name x pos'] a pos) (tAsg ta (gName i)) (sOwn i da) := by
  refine ⟨ps_set hN hi hx ha.p hs hf, fun F W H S env σ D fr w => ?_⟩
  refine ha.s F W H S env σ _ fr (wpO_imp (wpO_bind w) fun d S1 w1 W1 H1 p st1 g1 hp n1 n2 c => ?_)
  have fr1 := fr.next st1 g1
  refine w1 W1 H1 _ st1.le (fr1.setOwn n1 n2 (.inl (fr.step.was hp)) c fun j e he hj z => ?_)
  exact fr.alone hp j e he z
theorem sf_lst (h : SA X K L E es tr dr) : SF X K L E (.List es pos) (tLst tr) (dLst dr) := by
  refine ⟨h.hK, pe_lst h.p, fun F W H S env σ Q fr w => ?_⟩
  refine h.s F W H S env σ _ fr (wpO_imp (wpO_bind w) fun x S1 w1 W1 H1 vs st1 g1 r1 => ?_)
  obtain ⟨c, w1⟩ := wpO_ite w1
  refine ⟨lim (by rw [r1.length]; exact c), fun p hp => ?_⟩
  exact w1 W1 (upd H1 p (.lst vs)) p (st1.trans (Stp.own hp)) (g1.own (g1.freeG hp) (g1.freeC hp)) (st1.was hp) (g1.freeG hp) (g1.freeC hp) ⟨vs, upd_same, r1⟩
/-- xs.append(e) -/
theorem s1_append (i : Nat) {x : Str} {px apos cpos : Pos} (ha : SE X K L E a ta da) (hN : X.N[i]? = some x := by rfl) (hv : Vis X.env.scope x := by first | exact Or.inl rfl | exact Or.inr (Or.inl rfl) | exact Or.inr (Or.inr rfl)) (hd : (x == ("__debug__" : Str)) = false := by decide)
    (hcd : (x == ("__classdict__" : Str)) = false := by decide)
    (hs1 : starEach [a] X.env = (false, eval a X.env) :: starEach [] X.env := by rfl)
    (hbase : attributeBase (.Name x px) "append" X.env (eval (.Name x px) X.env) = eval (.Name x px) X.env := by rfl)
    (hfew : ((backTo cpos (starEach [a] X.env)).all (fun x => !x.1) && (backToKw cpos (keywordEach [] X.env)).all (fun x => x.1.isSome)
      && decide ([a].length + ([] : List Keyword).length + (if ([] : List Keyword).isEmpty then 0 else 1) < 30)) = true := by rfl)
    (hline : (apos.endLine == cpos.line) = true := by rfl) (hplain : (backTo cpos (starEach [] X.env)).any (·.1) = false := by rfl)
    (hs : swapsWith (.Call (.Attribute (.Name x px) "append" apos) [a] [] cpos) none pos.line X.env = pure false := by rfl) :
    S1 K L E X (.Expr (.Call (.Attribute (.Name x px) "append" apos) [a] [] cpos) pos) (tDrop (tBM K "list" rAppend (tVar i) (tCons ta tNil))) (sAppend i da) := by
  obtain ⟨rfl, pa, sa⟩ := ha
  refine ⟨ps_expr (pe_bm PySem.F.plainAttrs_list PySem.F.slot_list_append PySem.F.type_list_append mt_append (pe_var hN hv hd hcd) (pa_cons pa pa_nil hs1) hbase hfew hline hs1 hplain) hs, fun F W H S env σ D fr w => ?_⟩
  unfold sAppend at w
  cases q : env[i]? with
  | none =>
    rw [q] at w
    exact w.elim
  | some s =>
    rw [q] at w
    have hs := fr.sl i s q
    cases s with
    | no => exact w.elim
    | shr d => exact w.elim
    | own d =>
      obtain ⟨p, e1, n1, n2, n3, c⟩ := hs
      cases d with
      | lst xs =>
        obtain ⟨vs, e2, r⟩ := c
        refine ⟨.ref p, e1, .inl ⟨rfl, vs, SqL.of e2⟩, ?_⟩
        refine sa F W H S env σ _ fr (wpO_imp (wpO_bind w) fun x S1 w1 W1 H1 v1 st1 g1 r1 => ?_)
        obtain ⟨cl, w1⟩ := wpO_ite w1
        have fr1 := fr.next st1 g1
        have hp : H p ≠ none := by rw [e2]; exact fun z => nomatch z
        have e3 : H1 p = some (.lst vs) := st1.keep _ _ e2 n2 fun z => z
        have m1 := st1.stayG hp n1
        have m2 := st1.stayC hp n2
        refine ⟨p, vs, v1, rfl, rfl, e3, limLt (by rw [r.length]; exact cl), ?_⟩
        exact w1 W1 _ σ st1.le (fr1.mutOwn q e1 m1 m2 n3 ⟨vs ++ [v1], upd_same, (r.mono st1.le).append (RpL.one r1)⟩)
      | _ => exact w.elim
/-- draw = [..], a thing with an identity -/
theorem s1_newCel (i : Nat) {x : Str} {pos' : Pos} (hN : X.N.Nodup) (ha : SF X K L E a ta da) (hi : X.N[i]? = some x := by rfl) (hx : Loc X.env.scope x := by first | exact Or.inl rfl | exact Or.inr rfl)
    (hs : swapsWith a (some (.Name x pos')) pos.line X.env = pure false := by rfl) (hf : X.fn x = true ∨ X.env.scope.names.lookup x = some .local := by first | exact .inl rfl | exact .inr rfl | assumption) :
    S1 K L E X (.Assign [.Name x pos'] a pos) (tAsg ta (gName i)) (sNewCel i da) := by
  refine ⟨ps_set hN hi hx ha.p hs hf, fun F W H S env σ DD fr w => ?_⟩
  refine ha.s F W H S env σ _ fr (wpO_imp (wpO_bind w) fun d S1 w1 W1 H1 p st1 g1 hp n1 n2 c => ?_)
  cases d with
  | lst xs =>
    have fr1 := fr.next st1 g1
    have le : Le W1 (W1.cel p) := Le.cel'
    have g2 : Gd K L (W1.cel p) H1 (S1 ++ [.lst xs]) := by
      refine ⟨g1.fz, fun a m => ?_, ?_, ?_, fun m d b e1 e2 => ?_⟩
      · rcases List.mem_append.mp m with m | m
        · exact g1.cn a m
        · rw [List.mem_singleton.mp m]
          exact n1
      · show (W1.ca ++ [p]).Nodup
        refine List.nodup_append.mpr ⟨g1.nd, by simp, fun a ha b hb => ?_⟩
        rw [List.mem_singleton.mp hb]
        exact fun z => n2 (by rw [← z]; exact ha)
      · show (W1.ca ++ [p]).length = (S1 ++ [D.lst xs]).length
        rw [List.length_append, List.length_append, g1.ln]
        rfl
      · have e2 : (W1.ca ++ [p])[m]? = some b := e2
        rcases Nat.lt_or_ge m S1.length with hl | hl
        · rw [List.getElem?_append_left hl] at e1
          rw [List.getElem?_append_left (by rw [g1.ln]; exact hl)] at e2
          exact (g1.ce m d b e1 e2).to Le.cel' fun u eu => eu
        · have hm : m = S1.length := by
            have := (List.getElem?_eq_some_iff.mp e1).1
            rw [List.length_append, List.length_singleton] at this
            omega
          subst hm
          rw [List.getElem?_append_right (Nat.le_refl _), Nat.sub_self] at e1
          rw [List.getElem?_append_right (by rw [g1.ln]; exact Nat.le_refl _), g1.ln, Nat.sub_self] at e2
          cases e1
          cases e2
          exact CellAt.to Le.cel' (fun _ q => q) c
    have st2 : Stp F.ex F.W0 F.H0 (W1.cel p) H1 :=
      ⟨fr1.step.le.trans le, fr1.step.keep, fr1.step.dom, fr1.step.new, fun b z => by
        have z : b ∈ W1.ca ++ [p] := z
        rcases List.mem_append.mp z with z | z
        · exact fr1.step.newc b z
        · rw [List.mem_singleton.mp z]
          exact .inr (fr.step.was hp)⟩
    have fr2 : Frm K L F (W1.cel p) H1 (S1 ++ [.lst xs]) env σ := by
      refine ⟨g2, st2, fr1.len, fun j s e => ?_, fr1.sep⟩
      have q := fr1.sl j s e
      cases s with
      | no => trivial
      | shr d =>
        obtain ⟨v, e1, r⟩ := q
        exact ⟨v, e1, r.mono le⟩
      | own d =>
        obtain ⟨p2, e1, m1, m2, m3, c2⟩ := q
        refine ⟨p2, e1, m1, fun m => ?_, m3, c2.to le fun _ q => q⟩
        have m : p2 ∈ W1.ca ++ [p] := m
        rcases List.mem_append.mp m with m | m
        · exact m2 m
        · exact fr.alone hp j d e (by rw [← List.mem_singleton.mp m]; exact e1)
    exact w1 (W1.cel p) H1 _ (st1.le.trans le) (fr2.set ⟨p, rfl, by
      show (W1.ca ++ [p])[S1.length]? = some p
      rw [List.getElem?_append_right (by rw [g1.ln]; exact Nat.le_refl _), g1.ln, Nat.sub_self]
      rfl⟩)
  | _ => exact w1.elim
theorem pget_list : PGet X (rIxL X.K) := by
  intro pins s σ H o i ov iv Q I ro ri h
  obtain ⟨p, xs, i, z, rfl, rfl, hq, he, q⟩ := h
  cases ro
  obtain ⟨t, rfl⟩ := ri
  obtain ⟨its, r, pl, hz⟩ := I.list hq
  obtain ⟨j, h1, h2, h3, h4, h5⟩ := atI_get he
  obtain ⟨w, ew, rw'⟩ := r.get h2
  have hl := r.length
  have hn := line63
  have fin : EP X pins σ Q w s := ⟨z, H, I, rw', q⟩
  by_cases h0 : 0 ≤ i
  · have hj : i.toNat = j := by
      rw [seqIndex_of h0 h5] at h1
      exact Option.some.inj h1
    exact wpAny_getItem_list pl.isList h0 (by omega) (by rw [hj]; simpa using ew) fin
  · have hj : (i + (its.toArray.size : Int)).toNat = j := by
      rw [seqIndex_neg (by omega) h4] at h1
      rw [List.size_toArray, ← hl]
      exact Option.some.inj h1
    exact wpAny_getItem_list_neg pl.isList (by omega) (by rw [List.size_toArray] <;> omega) (by omega) (by rw [hj]; simpa using ew) fin
theorem s1_celAug {op : Operator} {r : R2} {f : D → D → M D} {k : Int} {j : Nat} {ipos tpos : Pos} (ho : OpR X (inplaceOp op) r) (hf : OpS K L r f) (ha : SE X K L E a ta da) (hb : SE X K L E b tb db)
    (haug : ∀ ov iv new, augStore (.Constant (.int k) j ipos) ov iv new = (do holding [new, ov, iv] (setItem ov iv new); release [new, ov, iv] []; pure .next) := by intros; rfl) :
    S1 K L E X (.AugAssign (.Subscript a (.Constant (.int k) j ipos) tpos) op b pos) (tAugS ta (tC (.int k)) tb (rIxL K) r rSetL) (sCelAug da k f db) := by
  obtain ⟨rfl, pa, sa⟩ := ha
  refine ⟨ps_augS pa pe_int pget_list hb.p (fun pins s σ H x y v u Q I rx ry h => ho pins s σ H x y v u Q I rx ry h) set_list haug, fun F W H S env σ D fr w => ?_⟩
  refine sa F W H S env σ _ fr (wpO_imp (wpO_bind w) fun x S1 w1 W1 H1 v1 st1 g1 r1 => ?_)
  cases x with
  | cel n =>
    have w1 : wpO (M.bind (oIxCel n k) (fun x => M.bind (db env) fun y => M.bind (f x y) fun z => celPut n k z env) S1) (PFl X.K L F W D) (XP X.K L F E) := w1
    obtain ⟨p, rfl, ep⟩ := r1
    have w2 := wpO_bind w1
    unfold oIxCel at w2
    cases es : S1[n]? with
    | none =>
      rw [es] at w2
      exact w2.elim
    | some c =>
      rw [es] at w2
      cases c with
      | lst xs =>
        obtain ⟨d, e2, w2⟩ := wpO_lift w2
        obtain ⟨vs, e3, r⟩ := g1.ce n _ p es ep
        obtain ⟨z, ez, rz⟩ := r.atI e2
        refine ⟨p, vs, k, z, rfl, rfl, SqL.of e3, ez, ?_⟩
        refine hb.s F W1 H1 S1 env σ _ (fr.next st1 g1) (wpO_imp (wpO_bind w2) fun y S2 w3 W2 H2 v2 st2 g2 r2 => ?_)
        refine hf W2 H2 S2 d y z v2 _ _ g2 (.inl (rz.mono st2.le)) (.inl r2) (wpO_imp (wpO_bind w3) fun q S3 w4 W3 H3 v3 st3 g3 r3 => ?_)
        have w4 : wpO (celPut n k q env S3) (PFl X.K L F W D) (XP X.K L F E) := w4
        unfold celPut at w4
        cases es3 : S3[n]? with
        | none =>
          rw [es3] at w4
          exact w4.elim
        | some c3 =>
          rw [es3] at w4
          cases c3 with
          | lst ys =>
            have ep3 := (st2.trans st3).le.cel ep
            obtain ⟨ws, e4, r4⟩ := g3.ce n _ p es3 ep3
            cases ej : ixN ys.length k with
            | none =>
              simp only [ej] at w4
              exact w4.elim
            | some j =>
              simp only [ej] at w4
              have hm : p ∈ W3.ca := List.mem_of_getElem? ep3
              refine ⟨p, ws, k, j, rfl, rfl, e4, by rw [r4.length]; exact ej, ?_⟩
              have st13 := (st1.trans st2).trans st3
              exact w4 W3 _ σ st13.le (((((fr.next st1 g1).next st2 g2).next st3 g3)).next (Stp.setCel hm) (g3.setCel ep3 ⟨ws.set j v3, upd_same, RpL.set r3 j r4⟩))
          | _ => exact w4.elim
      | _ => exact w2.elim
  | _ => exact w1.elim
end

/-! ### defs and calls -/
section
variable (K : PySem.W.Frag) (L : Ly)
/-- a def's promise: what its plain reading says -/
def spM (n : Nat) (m : List D → M D) : Sp := fun vs H Q E => ∃ W S ds, ds.length = n ∧ Gd K L W H S ∧ RpL K L W ds vs ∧ wpO (m ds S) (PV K L W H Q) (XP K L ⟨noEx, W, H⟩ E)
end
section
variable {X : Cx} {K : PySem.W.Frag} {L : Ly} {E : XK} {a b c e : Expr} {es : List Expr} {ta tb tc : TE} {da db dc : DE} {tr : TA} {dr : DA} {pos p : Pos}
theorem sem_call {n : Nat} {m : List D → M D} (h : SemA K L E dr tr) (hn : ∀ env S ds S', dr env S = .ok ds S' → ds.length = n) : Sem K L E (dCall m dr) (tCall (spM K L n m) [] E tr) := by
  intro F W H S env σ Q fr w
  refine h F W H S env σ _ fr (wpO_ok (wpO_bind w) fun ds S1 eq w1 W1 H1 vs st1 g1 r1 => ?_)
  show spM K L n m (vs ++ []) H1 Q E
  rw [List.append_nil]
  refine ⟨W1, S1, ds, hn _ _ _ _ eq, g1, r1, ?_⟩
  have fr1 := fr.next st1 g1
  cases q : m ds S1 with
  | ok d S2 =>
    rw [q] at w1
    exact PV.mono st1 w1
  | exc c fs S2 =>
    rw [q] at w1
    exact fun W' H' d vs st g e r => w1 W' H' d vs (fr1.step.trans st.weak) g e r
  | stuck =>
    rw [q] at w1
    exact w1
/-- how many arguments there are -/
def Cnt (dr : DA) (n : Nat) : Prop := ∀ env S ds S', dr env S = .ok ds S' → ds.length = n
theorem cnt_nil : Cnt dNil 0 := fun env S ds S' h => by
  cases h
  rfl
theorem cnt_cons {n : Nat} (h : Cnt dr n) : Cnt (dCons da dr) (n + 1) := fun env S ds S' q => by
  unfold dCons M.bind at q
  cases q1 : da env S with
  | ok x S1 =>
    rw [q1] at q
    cases q2 : dr env S1 with
    | ok xs S2 =>
      simp only [q2] at q
      cases q
      rw [List.length_cons, h _ _ _ _ q2]
    | exc c fs S2 =>
      simp only [q2] at q
      cases q
    | stuck =>
      simp only [q2] at q
      cases q
  | exc c fs S1 =>
    rw [q1] at q
    cases q
  | stuck =>
    rw [q1] at q
    cases q
theorem se_call {x : Str} {f : Addr} {fd : FuncData} {ps : List Str} {k n : Nat} {m : List D → M D} (F : FnOk X.prog X.w X.K X.mg X.base (L2.CX X.prog X.w) k f fd ps (spM K L n m)) (hr : Room k X.A) (hg : Gl X x) (hm : X.mg x = some (.ref f))
    (hk : PySem.W.keepIn X.K (.ref f) = true) (hb : Binds X.K fd ps []) (hx : Passes (L2.CX X.prog X.w) X E) (ha : SA X K L E (e :: es) tr dr) (hn : Cnt dr n) (hdb : (x == ("__debug__" : Str)) = false := by decide)
    (he : starEach (e :: es) X.env = (false, eval e X.env) :: starEach es X.env := by rfl) (hpl : (backTo pos (starEach es X.env)).any (·.1) = false := by rfl) :
    SE X K L E (.Call (.Name x p) (e :: es) [] pos) (tCall (spM K L n m) [] E tr) (dCall m dr) :=
  ⟨ha.hK, pe_call F hr hg hm hk hb .nil hx ha.p hdb he hpl, sem_call ha.s hn⟩
theorem se_call0 {x : Str} {f : Addr} {fd : FuncData} {ps : List Str} {k : Nat} {m : List D → M D} (F : FnOk X.prog X.w X.K X.mg X.base (L2.CX X.prog X.w) k f fd ps (spM K L 0 m)) (hr : Room k X.A) (hg : Gl X x) (hm : X.mg x = some (.ref f))
    (hk : PySem.W.keepIn X.K (.ref f) = true) (hb : Binds X.K fd ps []) (hx : Passes (L2.CX X.prog X.w) X E) (hdb : (x == ("__debug__" : Str)) = false := by decide) (hK : X.K = K := by rfl) :
    SE X K L E (.Call (.Name x p) [] [] pos) (tCall (spM K L 0 m) [] E tNil) (dCall m dNil) :=
  ⟨hK, pe_call0 F hr hg hm hk hb .nil hx hdb, sem_call (sa_nil hK).s cnt_nil⟩
end
section
variable {P : Program} {w : World} {K : PySem.W.Frag} {L : Ly} {mg : Str → Option Value} {base : Heap}
theorem start_frm {W : Wd} {H : Hp} {S : Store} {N : List Str} {ds : List D} {vs : List V} (g : Gd K L W H S) (r : RpL K L W ds vs) : Frm K L ⟨noEx, W, H⟩ W H S (ds.map Slot.shr ++ List.replicate (N.length - ds.length) .no) (start N vs) where
  good := g
  step := Stp.refl
  len := by
    unfold L2.start
    rw [List.length_append, List.length_append, List.length_map, List.length_map, List.length_replicate, List.length_replicate, r.length]
  sl := fun i s e => by
    rcases Nat.lt_or_ge i ds.length with h | h
    · rw [List.getElem?_append_left (by rw [List.length_map]; exact h), List.getElem?_map, List.getElem?_eq_getElem h] at e
      cases e
      obtain ⟨v, e1, r1⟩ := r.get (List.getElem?_eq_getElem h)
      refine ⟨v, ?_, r1⟩
      unfold L2.start
      rw [List.getElem?_append_left (by rw [List.length_map, r.length]; exact h), List.getElem?_map, e1]
      rfl
    · rw [List.getElem?_append_right (by rw [List.length_map]; exact h)] at e
      rw [(List.mem_replicate.mp (List.mem_of_getElem? e)).2]
      trivial
  sep := fun i j d e p h e1 e2 => by
    exfalso
    rcases Nat.lt_or_ge i ds.length with z | z
    · rw [List.getElem?_append_left (by rw [List.length_map]; exact z), List.getElem?_map, List.getElem?_eq_getElem z] at e1
      cases e1
    · rw [List.getElem?_append_right (by rw [List.length_map]; exact z)] at e1
      have := (List.mem_replicate.mp (List.mem_of_getElem? e1)).2
      cases this
/-- THE RULE for a def -/
theorem fn_M {x qual : Str} {st : Stmt} {f : Addr} {fd : FuncData} {N ps : List Str} {k n nn : Nat} {ds : DS} (F : Fun K x qual st f fd) (Sc : FnScope N ps (defScope st)) (hn : ps.length = n) (hN : N.length = nn)
    (hb : ∀ (cdv : Value) (A : Around) (outer : List PySem.Env) (s : Shared) (H : Hp) (E : XK), Room k (A.deeper (envOfC qual (defScope st) s.heap.objs.size f cdv)) →
      Passes (L2.CX P w) (cxOf (L2.CX P w) P w K mg base N qual (defScope st) f cdv A outer s H E) E →
      PassesOwn (model P w) (cxOf (L2.CX P w) P w K mg base N qual (defScope st) f cdv A outer s H E).A (cxOf (L2.CX P w) P w K mg base N qual (defScope st) f cdv A outer s H E).env (cxOf (L2.CX P w) P w K mg base N qual (defScope st) f cdv A outer s H E).xe →
      ∃ t, SS K L E (cxOf (L2.CX P w) P w K mg base N qual (defScope st) f cdv A outer s H E) (defBody st) t ds) :
    FnOk P w K mg base (L2.CX P w) (k + 1) f fd ps (spM K L n (runDef nn ds)) := by
  refine F.okX Sc (fun vs H Q E h => ?_) (fun cdv A outer s H vs Q E hr h => ?_)
  · obtain ⟨W, S, d0, hl, g, r, _⟩ := h
    rw [r.length, hl, hn]
  · obtain ⟨W, S, d0, hl, g, r, w0⟩ := h
    obtain ⟨t, hs⟩ := hb cdv A outer s H E hr (passes_call (takes_of rfl rfl rfl rfl) fun _ _ _ _ h => h) (passes_of rfl)
    refine ⟨t, hs.p, ?_⟩
    have fr := start_frm (N := N) g r
    rw [hN] at fr
    refine hs.s ⟨noEx, W, H⟩ W H S _ _ _ fr (wpO_imp (wpO_bind w0) fun fl S1 w1 => ?_)
    cases fl with
    | next env' =>
      have w1 : PV K L W H Q .non S1 := w1
      exact fun W' H' σ' le fr' => w1 W' H' .non fr'.step fr'.good rfl
    | ret d =>
      have w1 : PV K L W H Q d S1 := w1
      exact fun W' H' v st g r => w1 W' H' v st g r
    | brk e => exact w1.elim
    | cont e => exact w1.elim
end
end Sk

set_option Elab.async false
set_option linter.all false
set_option maxRecDepth 100000
set_option maxHeartbeats 2000000
set_option autoImplicit false
/-! SkV: defs by name. -/
namespace Sk
open PySem PySem.Spec PyProof.Rows L2
/-- a def of the top, as it stands -/
def AtD (K : PySem.W.Frag) (mg : Str → Option Value) (x : Str) (st : Stmt) : Prop := ∃ f fd, FunD K x x (defArgs st) (defBody st) (defScope st) [] [] f fd ∧ mg x = some (.ref f)
/-- a def that keeps its promise -/
def HasFn (P : Program) (w : World) (K : PySem.W.Frag) (L : Ly) (mg : Str → Option Value) (base : Heap) (x : Str) (ps : List Str) (k n : Nat) (m : List D → M D) : Prop :=
  ∃ f fd, FnOk P w K mg base (L2.CX P w) k f fd ps (spM K L n m) ∧ mg x = some (.ref f) ∧ PySem.W.keepIn K (.ref f) = true ∧ Binds K fd ps []
section
variable {P : Program} {w : World} {K : PySem.W.Frag} {L : Ly} {mg : Str → Option Value} {base : Heap}
theorem fn_D {x qual : Str} {pr : Arguments} {bd : List Stmt} {sc : Scope} {f : Addr} {fd : FuncData} {N ps : List Str} {k n nn : Nat} {ds : DS} (F : FunD K x qual pr bd sc [] [] f fd) (Sc : FnScope N ps sc) (hn : ps.length = n) (hN : N.length = nn)
    (hb : ∀ (cdv : Value) (A : Around) (outer : List PySem.Env) (s : Shared) (H : Hp) (E : XK), Room k (A.deeper (envOfC qual sc s.heap.objs.size f cdv)) →
      Passes (L2.CX P w) (cxOf (L2.CX P w) P w K mg base N qual sc f cdv A outer s H E) E →
      PassesOwn (model P w) (cxOf (L2.CX P w) P w K mg base N qual sc f cdv A outer s H E).A (cxOf (L2.CX P w) P w K mg base N qual sc f cdv A outer s H E).env (cxOf (L2.CX P w) P w K mg base N qual sc f cdv A outer s H E).xe →
      ∃ t, SS K L E (cxOf (L2.CX P w) P w K mg base N qual sc f cdv A outer s H E) bd t ds) :
    FnOk P w K mg base (L2.CX P w) (k + 1) f fd ps (spM K L n (runDef nn ds)) := by
  refine F.ok Sc (fun vs H Q E h => ?_) (fun cdv A outer s H vs Q E hr h => ?_)
  · obtain ⟨W, S, d0, hl, g, r, _⟩ := h
    rw [r.length, hl, hn]
  · obtain ⟨W, S, d0, hl, g, r, w0⟩ := h
    obtain ⟨t, hs⟩ := hb cdv A outer s H E hr (passes_call (takes_of rfl rfl rfl rfl) fun _ _ _ _ h => h) (passes_of rfl)
    refine ⟨t, hs.p, ?_⟩
    have fr := start_frm (N := N) g r
    rw [hN] at fr
    refine hs.s ⟨noEx, W, H⟩ W H S _ _ _ fr (wpO_imp (wpO_bind w0) fun fl S1 w1 => ?_)
    cases fl with
    | next env' =>
      have w1 : PV K L W H Q .non S1 := w1
      exact fun W' H' σ' le fr' => w1 W' H' .non fr'.step fr'.good rfl
    | ret d =>
      have w1 : PV K L W H Q d S1 := w1
      exact fun W' H' v st g r => w1 W' H' v st g r
    | brk e => exact w1.elim
    | cont e => exact w1.elim
theorem fn_H {x : Str} {st : Stmt} {N ps : List Str} {k n nn : Nat} {ds : DS} (A : AtD K mg x st) (Sc : FnScope N ps (defScope st)) (hn : ps.length = n) (hN : N.length = nn)
    (hbind : ∀ (kV doc pm : Value) (an : Option Addr) (cdv ct : Value) (us : List Value), us.length = ps.length → bindArgs (PySem.W.fnOf x x (defArgs st) (defBody st) (defScope st) .none kV doc pm an cdv ct) ⟨us, []⟩ = pure (ps.zip us))
    (hb : ∀ (f : Addr) (cdv : Value) (A : Around) (outer : List PySem.Env) (s : Shared) (H : Hp) (E : XK), Room k (A.deeper (envOfC x (defScope st) s.heap.objs.size f cdv)) →
      Passes (L2.CX P w) (cxOf (L2.CX P w) P w K mg base N x (defScope st) f cdv A outer s H E) E →
      PassesOwn (model P w) (cxOf (L2.CX P w) P w K mg base N x (defScope st) f cdv A outer s H E).A (cxOf (L2.CX P w) P w K mg base N x (defScope st) f cdv A outer s H E).env (cxOf (L2.CX P w) P w K mg base N x (defScope st) f cdv A outer s H E).xe →
      ∃ t, SS K L E (cxOf (L2.CX P w) P w K mg base N x (defScope st) f cdv A outer s H E) (defBody st) t ds) : HasFn P w K L mg base x ps (k + 1) n (runDef nn ds) := by
  obtain ⟨f, fd, F, g⟩ := A
  exact ⟨f, fd, fn_D F Sc hn hN (hb f), g, F.kp, F.bindsN hbind⟩
end
section
variable {X : Cx} {K : PySem.W.Frag} {L : Ly} {E : XK} {e : Expr} {es : List Expr} {tr : TA} {dr : DA} {pos p : Pos}
theorem se_callH {x : Str} {ps : List Str} {k n : Nat} {m : List D → M D} (h : HasFn X.prog X.w X.K L X.mg X.base x ps k n m) (hr : Room k X.A) (hx : Passes (L2.CX X.prog X.w) X E) (ha : SA X K L E (e :: es) tr dr) (hn : Cnt dr n) (hg : Gl X x := by rfl) (hdb : (x == ("__debug__" : Str)) = false := by decide)
    (he : starEach (e :: es) X.env = (false, eval e X.env) :: starEach es X.env := by rfl) (hpl : (backTo pos (starEach es X.env)).any (·.1) = false := by rfl) :
    SE X K L E (.Call (.Name x p) (e :: es) [] pos) (tCall (spM K L n m) [] E tr) (dCall m dr) := by
  obtain ⟨f, fd, F, g, kp, b⟩ := h
  obtain ⟨rfl, pa, sa⟩ := ha
  exact se_call F hr hg g kp b hx ⟨rfl, pa, sa⟩ hn hdb he hpl
theorem se_callH0 {x : Str} {ps : List Str} {k : Nat} {m : List D → M D} (h : HasFn X.prog X.w X.K L X.mg X.base x ps k 0 m) (hr : Room k X.A) (hx : Passes (L2.CX X.prog X.w) X E) (hg : Gl X x := by rfl) (hdb : (x == ("__debug__" : Str)) = false := by decide) (hK : X.K = K := by rfl) :
    SE X K L E (.Call (.Name x p) [] [] pos) (tCall (spM K L 0 m) [] E tNil) (dCall m dNil) := by
  subst hK
  obtain ⟨f, fd, F, g, kp, b⟩ := h
  exact se_call0 F hr hg g kp b hx hdb
end
/-! ### the end of a law -/
theorem law_wp {K : PySem.W.Frag} {L : Ly} {H : Hp} {a : Addr} {ns : List Int} {m : List D → M D} {S' : Store} (hS : SqL K H a (ns.map V.int)) (h : m [.scr ns] [] = .ok (.bl true) S') : spM K L 1 m [.ref a] H (fun v _ => v = .bl true) fun _ _ _ => False := by
  refine ⟨⟨H, []⟩, [], [.scr ns], rfl, ⟨fun _ _ e => e, (fun _ m => nomatch m), List.nodup_nil, rfl, fun n c a e _ => (by cases n <;> cases e)⟩, ⟨.ref a, [], rfl, ⟨a, rfl, hS⟩, rfl⟩, ?_⟩
  rw [h]
  exact fun W' H' v st g r => r
theorem walk_M {l : PySem.W.OpenLaw} {k : Nat} {q : Program} {loose : List Str} {XP : (Str → Option Value) → Heap → Prop} {YP : World → Heap → Prop} {d : DefRec}
    (hn : l.most = some 63) (hdf : d.params.defaults = []) (hr : Room k callerA) (m : List D → M D)
    (F : ∀ (w : World) (mg : Str → Option Value) (fa : Addr) (h : Heap), YP w h → h.Ns mainGlobals mg → mg d.name = some (.ref fa) →
      ∃ (K : PySem.W.Frag) (L : Ly) (fd : FuncData), K.In h ∧ (∀ (s : Shared) (u : Value), BindsTo s fd ⟨[u], []⟩ [("script", u)]) ∧
        ∀ base : Heap, FnOk l.prog w K mg base (L2.CX l.prog w) k fa fd ["script"] (spM K L 1 m))
    (hm : ∀ ns : List Int, ns.length ≤ 63 → ∃ S', m [.scr ns] [] = .ok (.bl true) S') : PySem.W.WalkO q loose XP YP l.row.toRowW d [] (fun f vs => PySem.call f vs) := by
  refine Att.attach_call hn hdf fun w s₀ s₁ mg mb fa o pm cd doc a vs ns G Y ho hd hcd hmg hobj hints hlen hg => ?_
  obtain ⟨K, L, fd, KX, hb, hF⟩ := F w mg fa _ Y G.T.g hmg
  obtain ⟨S', e⟩ := hm ns hlen
  exact law_call KX G.T.g G.T.b G.T.builtins G.T.nolimit hg hobj hints (Nat.le_trans hlen (by decide)) hr (fun base _ _ => hF base) hb (fun H hO hS => law_wp hS e) fun H e s' z => by
    obtain ⟨_, _, _, _, _, _, _, _, _, _, _, _, z⟩ := z
    exact z.elim
end Sk

set_option Elab.async false
set_option linter.all false
set_option maxRecDepth 100000
set_option maxHeartbeats 8000000
namespace Lw
open PySem L2 Sk
/-! the plain readings -/
def d__law_number : DS := (sSeq (sAsg (dIf (tVal (dBin oNe (dVar 0) (dLst dNil))) (dTup (dCons (dBin oIx (dVar 0) (dBin oMod (dVar 1) (dUn oLen (dVar 0)))) (dCons (dBin oDiv (dVar 1) (dUn oLen (dVar 0))) dNil))) (dTup (dCons (dC (.int 12345)) (dCons (dC (.int 0)) dNil)))) (gTupD [(gSet 5), (gSet 6)])) (sSeq (sAsg (dIf (tVal (dBin oLt (dVar 6) (dC (.int 60)))) (dBin oSub (dVar 5) (dBin oPow (dC (.int 10)) (dC (.int 18)))) (dC (.int 0))) (gSet 2)) (sSeq (sFor (iRange1 (dBin oMod (dUn oInt (dVar 6)) (dC (.int 60)))) (gSet 3) (sAsg (dBin oDiv (dVar 2) (dC (.int 1009))) (gSet 2))) (sSeq (sIf (tVal (dBin oGt (dVar 2) (dC (.int 0)))) (sRet (dBin oMod (dUn oInt (dVar 2)) (dC (.int 1009)))) sNext) (sSeq (sAsg (dBin oMod (dBin oAdd (dBin oMul (dUn oInt (dBin oAdd (dVar 5) (dBin oMul (dC (.int 977)) (dVar 1)))) (dC (.int 48271))) (dBin oMul (dC (.int 31)) (dUn oLen (dVar 0)))) (dC (.int 2147483647))) (gSet 4)) (sSeq (sAsg (dBin oMod (dBin oAdd (dBin oMul (dVar 4) (dVar 4)) (dBin oMul (dC (.int 40503)) (dVar 1))) (dC (.int 2147483629))) (gSet 4)) (sRet (dUn oInt (dBin oMod (dBin oAdd (dBin oMul (dVar 4) (dC (.int 69621))) (dBin oDiv (dVar 4) (dC (.int 977)))) (dC (.int 2147483587)))))))))))
def f__law_number : List D → M D := runDef 7 d__law_number
def d__law_take : DS := (sSeq (sCelAug (dVar 0) 1 oAddI (dC (.int 1))) (sRet (dBin oMod (dUn oInt (dCall f__law_number (dCons (dBin oIx (dVar 0) (dC (.int 0))) (dCons (dUn oInt (dBin oIx (dVar 0) (dC (.int 1)))) dNil)))) (dVar 1))))
def f__law_take : List D → M D := runDef 2 d__law_take
def d__law_pick : DS := (sRet (dBin oIx (dVar 1) (dCall f__law_take (dCons (dVar 0) (dCons (dUn oLen (dVar 1)) dNil)))))
def f__law_pick : List D → M D := runDef 2 d__law_pick
def d__law_sky : DS := (sSeq (sAsg (dLst (dCons (dTup (dCons (dC (.int 1)) (dCons (dC (.int 0)) (dCons (dC (.int 0)) dNil)))) (dCons (dTup (dCons (dC (.int 0)) (dCons (dC (.int 1)) (dCons (dC (.int 0)) dNil)))) (dCons (dTup (dCons (dC (.int 0)) (dCons (dC (.int 0)) (dCons (dC (.int 1)) dNil)))) (dCons (dTup (dCons (dC (.int 1)) (dCons (dC (.int 2)) (dCons (dC (.int 2)) dNil)))) (dCons (dTup (dCons (dC (.int 2)) (dCons (dC (.int 1)) (dCons (dC (.int 2)) dNil)))) (dCons (dTup (dCons (dC (.int 2)) (dCons (dC (.int 2)) (dCons (dC (.int 1)) dNil)))) (dCons (dTup (dCons (dC (.int 3)) (dCons (dC (.int 0)) (dCons (dC (.int 4)) dNil)))) (dCons (dTup (dCons (dC (.int 0)) (dCons (dC (.int 3)) (dCons (dC (.int 4)) dNil)))) (dCons (dTup (dCons (dC (.int 4)) (dCons (dC (.int 3)) (dCons (dC (.int 0)) dNil)))) (dCons (dTup (dCons (dC (.int 2)) (dCons (dC (.int 3)) (dCons (dC (.int 6)) dNil)))) (dCons (dTup (dCons (dC (.int 6)) (dCons (dC (.int 2)) (dCons (dC (.int 3)) dNil)))) (dCons (dTup (dCons (dC (.int 1)) (dCons (dC (.int 4)) (dCons (dC (.int 8)) dNil)))) (dCons (dTup (dCons (dC (.int 1)) (dCons (dC (.int 1)) (dCons (dC (.int 0)) dNil)))) (dCons (dTup (dCons (dC (.int 1)) (dCons (dC (.int 1)) (dCons (dC (.int 1)) dNil)))) dNil))))))))))))))) (gSet 1)) (sSeq (sAsg (dIf (tVal (dBin oGt (dCall f__law_take (dCons (dVar 0) (dCons (dC (.int 8)) dNil))) (dC (.int 0)))) (dBin oIx (dVar 1) (dCall f__law_take (dCons (dVar 0) (dCons (dC (.int 12)) dNil)))) (dCall f__law_pick (dCons (dVar 0) (dCons (dVar 1) dNil)))) (gSet 2)) (sRet (dUn oTuple (dLc [3] (iVal (dVar 2)) (gSet 3) tYesD (dIf (tVal (dBin oEq (dCall f__law_take (dCons (dVar 0) (dCons (dC (.int 2)) dNil))) (dC (.int 0)))) (dVar 3) (dBin oSub (dC (.int 0)) (dVar 3))))))))
def f__law_sky : List D → M D := runDef 4 d__law_sky
def d_dot : DS := (sRet (dUn oSum (dLc [2, 3] (iZip (dVar 0) (dVar 1)) (gTupD [(gSet 2), (gSet 3)]) tYesD (dBin oMul (dVar 2) (dVar 3)))))
def f_dot : List D → M D := runDef 4 d_dot
def d_cross : DS := (sRet (dTup (dCons (dBin oSub (dBin oMul (dBin oIx (dVar 0) (dC (.int 1))) (dBin oIx (dVar 1) (dC (.int 2)))) (dBin oMul (dBin oIx (dVar 0) (dC (.int 2))) (dBin oIx (dVar 1) (dC (.int 1))))) (dCons (dBin oSub (dBin oMul (dBin oIx (dVar 0) (dC (.int 2))) (dBin oIx (dVar 1) (dC (.int 0)))) (dBin oMul (dBin oIx (dVar 0) (dC (.int 0))) (dBin oIx (dVar 1) (dC (.int 2))))) (dCons (dBin oSub (dBin oMul (dBin oIx (dVar 0) (dC (.int 0))) (dBin oIx (dVar 1) (dC (.int 1)))) (dBin oMul (dBin oIx (dVar 0) (dC (.int 1))) (dBin oIx (dVar 1) (dC (.int 0))))) dNil)))))
def f_cross : List D → M D := runDef 2 d_cross
def d_times : DS := (sRet (dUn oTuple (dLc [2] (iVal (dVar 1)) (gSet 2) tYesD (dBin oMul (dVar 0) (dVar 2)))))
def f_times : List D → M D := runDef 3 d_times
def d_plus : DS := (sRet (dUn oTuple (dLc [2, 3] (iZip (dVar 0) (dVar 1)) (gTupD [(gSet 2), (gSet 3)]) tYesD (dBin oAdd (dVar 2) (dVar 3)))))
def f_plus : List D → M D := runDef 4 d_plus
def d_det : DS := (sRet (dCall f_dot (dCons (dCall f_cross (dCons (dVar 0) (dCons (dVar 1) dNil))) (dCons (dVar 2) dNil))))
def f_det : List D → M D := runDef 3 d_det
def d_root : DS := (sSeq (sAsg (dTup (dCons (dC (.int 0)) (dCons (dC (.int 1)) dNil))) (gTupD [(gSet 1), (gSet 2)])) (sSeq (sWhile (tVal (dBin oLe (dBin oMul (dVar 2) (dVar 2)) (dVar 0))) (sAug 2 oMul (dC (.int 2)))) (sSeq (sWhile (tVal (dBin oLt (dVar 1) (dVar 2))) (sSeq (sAsg (dBin oDiv (dBin oAdd (dVar 1) (dVar 2)) (dC (.int 2))) (gSet 3)) (sIf (tVal (dBin oLt (dBin oMul (dVar 3) (dVar 3)) (dVar 0))) (sAsg (dBin oAdd (dVar 3) (dC (.int 1))) (gSet 1)) (sAsg (dVar 3) (gSet 2))))) (sRet (dIf (tVal (dBin oEq (dBin oMul (dVar 1) (dVar 1)) (dVar 0))) (dVar 1) (dC .non))))))
def f_root : List D → M D := runDef 4 d_root
def d_is_integer : DS := (sRet (dAndV (dUn (oIsB "int") (dVar 0)) (dNotV (dUn (oIsB "bool") (dVar 0)))))
def f_is_integer : List D → M D := runDef 1 d_is_integer
def d_is_triple : DS := (sSeq (sIf (tOrD (tNotD (tVal (dUn (oIsB "tuple") (dVar 0)))) (tOrD (tVal (dBin oNe (dUn oLen (dVar 0)) (dC (.int 3)))) (tNotD (tVal (dUn oAll (dLc [1] (iVal (dVar 0)) (gSet 1) tYesD (dCall f_is_integer (dCons (dVar 1) dNil)))))))) (sRet (dC (.bl false))) sNext) (sRet (dBin oNe (dVar 0) (dTup (dCons (dC (.int 0)) (dCons (dC (.int 0)) (dCons (dC (.int 0)) dNil)))))))
def f_is_triple : List D → M D := runDef 2 d_is_triple
def d_check_triple : DS := (sIf (tNotD (tVal (dCall f_is_triple (dCons (dVar 1) dNil)))) sStk sNext)
def f_check_triple : List D → M D := runDef 2 d_check_triple
def d_common : DS := (sSeq (sPar2 0 1 (dUn oAbs (dVar 0)) (dUn oAbs (dVar 1))) (sSeq (sWhile (tVal (dBin oGt (dVar 1) (dC (.int 0)))) (sPar2 0 1 (dVar 1) (dBin oMod (dVar 0) (dVar 1)))) (sRet (dVar 0))))
def f_common : List D → M D := runDef 2 d_common
def d_lowest : DS := (sSeq (sAsg (dCall f_common (dCons (dVar 0) (dCons (dVar 1) dNil))) (gSet 2)) (sRet (dTup (dCons (dBin oDiv (dVar 0) (dVar 2)) (dCons (dBin oDiv (dVar 1) (dVar 2)) dNil)))))
def f_lowest : List D → M D := runDef 3 d_lowest
def d_ratio : DS := (sSeq (sExpr (dCall f_check_triple (dCons (dC (.str "direction")) (dCons (dVar 0) dNil)))) (sSeq (sExpr (dCall f_check_triple (dCons (dC (.str "direction")) (dCons (dVar 1) dNil)))) (sSeq (sAsg (dCall f_root (dCons (dBin oMul (dCall f_dot (dCons (dVar 0) (dCons (dVar 0) dNil))) (dCall f_dot (dCons (dVar 1) (dCons (dVar 1) dNil)))) dNil)) (gSet 2)) (sRet (dIf (tVal (dBin oIsN2 (dVar 2) (dC .non))) (dC .non) (dCall f_lowest (dCons (dVar 2) (dCons (dCall f_dot (dCons (dVar 1) (dCons (dVar 1) dNil))) dNil))))))))
def f_ratio : List D → M D := runDef 3 d_ratio
def d_is_on_line : DS := (sRet (dBin oEq (dCall f_cross (dCons (dVar 0) (dCons (dVar 1) dNil))) (dTup (dCons (dC (.int 0)) (dCons (dC (.int 0)) (dCons (dC (.int 0)) dNil))))))
def f_is_on_line : List D → M D := runDef 2 d_is_on_line
def d_least : DS := (sSeq (sExpr (dCall f_check_triple (dCons (dC (.str "direction")) (dCons (dVar 0) dNil)))) (sSeq (sAsg (dCall f_common (dCons (dCall f_common (dCons (dBin oIx (dVar 0) (dC (.int 0))) (dCons (dBin oIx (dVar 0) (dC (.int 1))) dNil))) (dCons (dBin oIx (dVar 0) (dC (.int 2))) dNil))) (gSet 1)) (sRet (dUn oTuple (dLc [2] (iVal (dVar 0)) (gSet 2) tYesD (dBin oDiv (dVar 2) (dVar 1)))))))
def f_least : List D → M D := runDef 3 d_least
def d_is_same : DS := (sRet (dBin oEq (dCall f_least (dCons (dVar 0) dNil)) (dCall f_least (dCons (dVar 1) dNil))))
def f_is_same : List D → M D := runDef 2 d_is_same
def d_opposite : DS := (sRet (dUn oTuple (dLc [1] (iVal (dCall f_least (dCons (dVar 0) dNil))) (gSet 1) tYesD (dUn oNeg (dVar 1)))))
def f_opposite : List D → M D := runDef 2 d_opposite
def d_angle_sign : DS := (sSeq (sExpr (dCall f_check_triple (dCons (dC (.str "direction")) (dCons (dVar 0) dNil)))) (sSeq (sExpr (dCall f_check_triple (dCons (dC (.str "direction")) (dCons (dVar 1) dNil)))) (sSeq (sAsg (dCall f_dot (dCons (dVar 0) (dCons (dVar 1) dNil))) (gSet 2)) (sRet (dIf (tVal (dBin oGt (dVar 2) (dC (.int 0)))) (dC (.int 1)) (dIf (tVal (dBin oEq (dVar 2) (dC (.int 0)))) (dC (.int 0)) (dUn oNeg (dC (.int 1)))))))))
def f_angle_sign : List D → M D := runDef 3 d_angle_sign
def d_is_between : DS := (sSeq (sAsg (dCall f_cross (dCons (dVar 0) (dCons (dVar 2) dNil))) (gSet 3)) (sSeq (sIf (tOrD (tVal (dBin oEq (dVar 3) (dTup (dCons (dC (.int 0)) (dCons (dC (.int 0)) (dCons (dC (.int 0)) dNil)))))) (tVal (dBin oNe (dCall f_dot (dCons (dVar 3) (dCons (dVar 1) dNil))) (dC (.int 0))))) (sRet (dC (.bl false))) sNext) (sRet (dAndV (dBin oGt (dCall f_dot (dCons (dCall f_cross (dCons (dVar 0) (dCons (dVar 1) dNil))) (dCons (dVar 3) dNil))) (dC (.int 0))) (dBin oGt (dCall f_dot (dCons (dCall f_cross (dCons (dVar 1) (dCons (dVar 2) dNil))) (dCons (dVar 3) dNil))) (dC (.int 0)))))))
def f_is_between : List D → M D := runDef 4 d_is_between
def d_size_of : DS := (sRet (dBin oMul (dCall f_dot (dCons (dVar 0) (dCons (dVar 0) dNil))) (dCall f_dot (dCons (dVar 1) (dCons (dVar 1) dNil)))))
def f_size_of : List D → M D := runDef 2 d_size_of
def d_are_alike : DS := (sSeq (sPar2 4 5 (dCall f_dot (dCons (dVar 0) (dCons (dVar 1) dNil))) (dCall f_dot (dCons (dVar 2) (dCons (dVar 3) dNil)))) (sSeq (sIf (tOrD (tVal (dBin oLt (dBin oMul (dVar 4) (dVar 5)) (dC (.int 0)))) (tVal (dBin oNe (dBin oMul (dBin oMul (dBin oMul (dVar 4) (dVar 4)) (dCall f_dot (dCons (dVar 2) (dCons (dVar 2) dNil)))) (dCall f_dot (dCons (dVar 3) (dCons (dVar 3) dNil)))) (dBin oMul (dBin oMul (dVar 5) (dVar 5)) (dCall f_size_of (dCons (dVar 0) (dCons (dVar 1) dNil))))))) (sRet (dC (.bl false))) sNext) (sSeq (sPar2 6 7 (dCall f_ratio (dCons (dVar 0) (dCons (dVar 2) dNil))) (dCall f_ratio (dCons (dVar 1) (dCons (dVar 3) dNil)))) (sSeq (sIf (tOrD (tVal (dBin oIsN2 (dVar 6) (dC .non))) (tVal (dBin oIsN2 (dVar 7) (dC .non)))) (sRet (dC (.bl false))) sNext) (sRet (dBin oEq (dBin oMul (dBin oMul (dVar 5) (dBin oIx (dVar 6) (dC (.int 0)))) (dBin oIx (dVar 7) (dC (.int 0)))) (dBin oMul (dBin oMul (dVar 4) (dBin oIx (dVar 6) (dC (.int 1)))) (dBin oIx (dVar 7) (dC (.int 1))))))))))
def f_are_alike : List D → M D := runDef 8 d_are_alike
def d_law : DS := (sSeq (sNewCel 1 (dLst (dCons (dVar 0) (dCons (dC (.int 0)) dNil)))) (sSeq (sFor (iRange1 (dC (.int 12))) (gSet 2) (sSeq (sAsg (dLc [13] (iRange1 (dC (.int 4))) (gSet 13) tYesD (dCall f__law_sky (dCons (dVar 1) dNil))) (gTupD [(gSet 5), (gSet 6), (gSet 7), (gSet 8)])) (sSeq (sIf (tOrD (tVal (dBin oNe (dCall f_dot (dCons (dCall f_cross (dCons (dVar 5) (dCons (dVar 6) dNil))) (dCons (dCall f_cross (dCons (dVar 7) (dCons (dVar 8) dNil))) dNil))) (dBin oSub (dBin oMul (dCall f_dot (dCons (dVar 5) (dCons (dVar 7) dNil))) (dCall f_dot (dCons (dVar 6) (dCons (dVar 8) dNil)))) (dBin oMul (dCall f_dot (dCons (dVar 5) (dCons (dVar 8) dNil))) (dCall f_dot (dCons (dVar 6) (dCons (dVar 7) dNil))))))) (tOrD (tVal (dBin oNe (dCall f_dot (dCons (dCall f_cross (dCons (dVar 5) (dCons (dVar 6) dNil))) (dCons (dVar 5) dNil))) (dC (.int 0)))) (tVal (dBin oNe (dUn oTuple (dCall f_cross (dCons (dVar 5) (dCons (dVar 6) dNil)))) (dUn oTuple (dCall f_times (dCons (dBin oSub (dC (.int 0)) (dC (.int 1))) (dCons (dCall f_cross (dCons (dVar 6) (dCons (dVar 5) dNil))) dNil)))))))) (sRet (dC (.bl false))) sNext) (sSeq (sIf (tOrD (tVal (dBin oNe (dUn oTuple (dCall f_plus (dCons (dCall f_plus (dCons (dCall f_cross (dCons (dVar 5) (dCons (dCall f_cross (dCons (dVar 6) (dCons (dVar 7) dNil))) dNil))) (dCons (dCall f_cross (dCons (dVar 6) (dCons (dCall f_cross (dCons (dVar 7) (dCons (dVar 5) dNil))) dNil))) dNil))) (dCons (dCall f_cross (dCons (dVar 7) (dCons (dCall f_cross (dCons (dVar 5) (dCons (dVar 6) dNil))) dNil))) dNil)))) (dTup (dCons (dC (.int 0)) (dCons (dC (.int 0)) (dCons (dC (.int 0)) dNil)))))) (tOrD (tVal (dBin oNe (dCall f_det (dCons (dVar 5) (dCons (dVar 6) (dCons (dVar 7) dNil)))) (dCall f_det (dCons (dVar 6) (dCons (dVar 7) (dCons (dVar 5) dNil)))))) (tOrD (tVal (dBin oNe (dCall f_det (dCons (dVar 5) (dCons (dVar 6) (dCons (dVar 7) dNil)))) (dBin oSub (dC (.int 0)) (dCall f_det (dCons (dVar 6) (dCons (dVar 5) (dCons (dVar 7) dNil))))))) (tVal (dBin oNe (dCall f_det (dCons (dVar 5) (dCons (dVar 6) (dCons (dCall f_plus (dCons (dVar 7) (dCons (dCall f_times (dCons (dC (.int 3)) (dCons (dVar 5) dNil))) dNil))) dNil)))) (dCall f_det (dCons (dVar 5) (dCons (dVar 6) (dCons (dVar 7) dNil))))))))) (sRet (dC (.bl false))) sNext) (sSeq (sAsg (dBin oAdd (dCall f_dot (dCons (dCall f_cross (dCons (dVar 5) (dCons (dVar 6) dNil))) (dCons (dCall f_cross (dCons (dVar 5) (dCons (dVar 6) dNil))) dNil))) (dBin oMul (dCall f_dot (dCons (dVar 5) (dCons (dVar 6) dNil))) (dCall f_dot (dCons (dVar 5) (dCons (dVar 6) dNil))))) (gSet 3)) (sSeq (sIf (tOrD (tVal (dBin oNe (dVar 3) (dBin oMul (dCall f_dot (dCons (dVar 5) (dCons (dVar 5) dNil))) (dCall f_dot (dCons (dVar 6) (dCons (dVar 6) dNil)))))) (tOrD (tVal (dBin oNe (dBin oIsN2 (dCall f_root (dCons (dVar 3) dNil)) (dC .non)) (dBin oIsN2 (dCall f_ratio (dCons (dVar 5) (dCons (dVar 6) dNil))) (dC .non)))) (tVal (dBin oNe (dCall f_is_on_line (dCons (dVar 5) (dCons (dVar 6) dNil))) (dBin oEq (dBin oMul (dCall f_dot (dCons (dVar 5) (dCons (dVar 6) dNil))) (dCall f_dot (dCons (dVar 5) (dCons (dVar 6) dNil)))) (dVar 3)))))) (sRet (dC (.bl false))) sNext) (sSeq (sPar3 9 10 11 (dCall f_ratio (dCons (dVar 5) (dCons (dVar 6) dNil))) (dCall f_ratio (dCons (dVar 6) (dCons (dVar 7) dNil))) (dCall f_ratio (dCons (dVar 5) (dCons (dVar 7) dNil)))) (sSeq (sIf (tAndD (tVal (dBin oNotN2 (dVar 9) (dC .non))) (tAndD (tVal (dBin oNotN2 (dVar 10) (dC .non))) (tOrD (tVal (dBin oIsN2 (dVar 11) (dC .non))) (tVal (dBin oNe (dBin oMul (dBin oMul (dBin oIx (dVar 11) (dC (.int 0))) (dBin oIx (dVar 9) (dC (.int 1)))) (dBin oIx (dVar 10) (dC (.int 1)))) (dBin oMul (dBin oMul (dBin oIx (dVar 9) (dC (.int 0))) (dBin oIx (dVar 10) (dC (.int 0)))) (dBin oIx (dVar 11) (dC (.int 1))))))))) (sRet (dC (.bl false))) sNext) (sSeq (sIf (tAndD (tVal (dBin oNotN2 (dVar 9) (dC .non))) (tOrD (tVal (dBin oNe (dCall f_ratio (dCons (dVar 6) (dCons (dVar 5) dNil))) (dTup (dCons (dBin oIx (dVar 9) (dC (.int 1))) (dCons (dBin oIx (dVar 9) (dC (.int 0))) dNil))))) (tOrD (tVal (dBin oNe (dBin oMul (dBin oIx (dCall f_ratio (dCons (dCall f_times (dCons (dC (.int 2)) (dCons (dVar 5) dNil))) (dCons (dVar 6) dNil))) (dC (.int 0))) (dBin oIx (dVar 9) (dC (.int 1)))) (dBin oMul (dBin oMul (dC (.int 2)) (dBin oIx (dVar 9) (dC (.int 0)))) (dBin oIx (dCall f_ratio (dCons (dCall f_times (dCons (dC (.int 2)) (dCons (dVar 5) dNil))) (dCons (dVar 6) dNil))) (dC (.int 1)))))) (tVal (dBin oNe (dBin oMul (dBin oMul (dBin oIx (dVar 9) (dC (.int 0))) (dBin oIx (dVar 9) (dC (.int 0)))) (dCall f_dot (dCons (dVar 6) (dCons (dVar 6) dNil)))) (dBin oMul (dBin oMul (dBin oIx (dVar 9) (dC (.int 1))) (dBin oIx (dVar 9) (dC (.int 1)))) (dCall f_dot (dCons (dVar 5) (dCons (dVar 5) dNil))))))))) (sRet (dC (.bl false))) sNext) (sSeq (sAsg (dBin oAdd (dC (.int 1)) (dCall f__law_take (dCons (dVar 1) (dCons (dC (.int 6)) dNil)))) (gSet 4)) (sSeq (sIf (tOrD (tVal (dBin oNe (dCall f_least (dCons (dCall f_times (dCons (dVar 4) (dCons (dVar 5) dNil))) dNil)) (dCall f_least (dCons (dVar 5) dNil)))) (tOrD (tNotD (tVal (dCall f_is_same (dCons (dCall f_times (dCons (dVar 4) (dCons (dVar 5) dNil))) (dCons (dVar 5) dNil))))) (tOrD (tVal (dBin oNe (dCall f_least (dCons (dCall f_opposite (dCons (dVar 5) dNil)) dNil)) (dCall f_opposite (dCons (dVar 5) dNil)))) (tOrD (tVal (dBin oNe (dCall f_opposite (dCons (dCall f_opposite (dCons (dVar 5) dNil)) dNil)) (dCall f_least (dCons (dVar 5) dNil)))) (tVal (dBin oNe (dCall f_angle_sign (dCons (dVar 5) (dCons (dCall f_opposite (dCons (dVar 6) dNil)) dNil))) (dBin oSub (dC (.int 0)) (dCall f_angle_sign (dCons (dVar 5) (dCons (dVar 6) dNil)))))))))) (sRet (dC (.bl false))) sNext) (sIf (tNotD (tVal (dCall f_is_on_line (dCons (dVar 5) (dCons (dVar 6) dNil))))) (sSeq (sAsg (dCall f_plus (dCons (dCall f_times (dCons (dVar 4) (dCons (dVar 5) dNil))) (dCons (dCall f_times (dCons (dBin oAdd (dC (.int 1)) (dCall f__law_take (dCons (dVar 1) (dCons (dC (.int 6)) dNil)))) (dCons (dVar 6) dNil))) dNil))) (gSet 12)) (sSeq (sIf (tOrD (tNotD (tVal (dCall f_is_between (dCons (dVar 5) (dCons (dVar 12) (dCons (dVar 6) dNil)))))) (tOrD (tNotD (tVal (dCall f_is_between (dCons (dVar 6) (dCons (dVar 12) (dCons (dVar 5) dNil)))))) (tOrD (tVal (dCall f_is_between (dCons (dVar 5) (dCons (dCall f_opposite (dCons (dVar 12) dNil)) (dCons (dVar 6) dNil))))) (tOrD (tVal (dCall f_is_between (dCons (dVar 12) (dCons (dVar 5) (dCons (dVar 6) dNil))))) (tOrD (tVal (dCall f_is_between (dCons (dVar 5) (dCons (dVar 5) (dCons (dVar 6) dNil))))) (tVal (dCall f_is_between (dCons (dVar 5) (dCons (dCall f_cross (dCons (dVar 5) (dCons (dVar 6) dNil))) (dCons (dVar 6) dNil)))))))))) (sRet (dC (.bl false))) sNext) (sIf (tOrD (tNotD (tVal (dCall f_are_alike (dCons (dVar 5) (dCons (dVar 6) (dCons (dCall f_times (dCons (dVar 4) (dCons (dVar 5) dNil))) (dCons (dCall f_times (dCons (dC (.int 2)) (dCons (dVar 6) dNil))) dNil))))))) (tOrD (tAndD (tNotD (tVal (dCall f_are_alike (dCons (dVar 5) (dCons (dVar 6) (dCons (dVar 6) (dCons (dVar 5) dNil))))))) (tVal (dBin oNotN2 (dCall f_ratio (dCons (dVar 5) (dCons (dVar 6) dNil))) (dC .non)))) (tAndD (tVal (dCall f_are_alike (dCons (dVar 5) (dCons (dVar 6) (dCons (dVar 5) (dCons (dCall f_opposite (dCons (dVar 6) dNil)) dNil)))))) (tVal (dBin oNe (dCall f_dot (dCons (dVar 5) (dCons (dVar 6) dNil))) (dC (.int 0))))))) (sRet (dC (.bl false))) sNext))) sNext)))))))))))) (sRet (dBin oEq (dLc [14] (iRange1 (dC (.int 17))) (gSet 14) tYesD (dCall f_root (dCons (dVar 14) dNil))) (dLst (dCons (dC (.int 0)) (dCons (dC (.int 1)) (dCons (dC .non) (dCons (dC .non) (dCons (dC (.int 2)) (dCons (dC .non) (dCons (dC .non) (dCons (dC .non) (dCons (dC .non) (dCons (dC (.int 3)) (dCons (dC .non) (dCons (dC .non) (dCons (dC .non) (dCons (dC .non) (dCons (dC .non) (dCons (dC .non) (dCons (dC (.int 4)) dNil))))))))))))))))))))))
def f_law : List D → M D := runDef 15 d_law
end Lw

set_option Elab.async false
set_option linter.all false
set_option maxRecDepth 100000
set_option maxHeartbeats 8000000
namespace Lw
open PySem PySem.Spec PyProof.Rows L2 Sk
/-! the walk -/
def top (i : Nat) : Stmt := PySem.Challenge.pw_skyplaced_k48_numbers_of_triples.main.body.getD i (.Pass ⟨0, 0, 0, 0⟩)
section
variable {P : Program} {w : World} {K : PySem.W.Frag} {L : Ly} {mg : Str → Option Value} {base : Heap}
abbrev s__law_number : Stmt := top 26
abbrev N__law_number : List Str := ["script", "index", "rest", "step", "blend", "cell", "turn"]
theorem sc__law_number : FnScope N__law_number ["script", "index"] (defScope s__law_number) := ⟨rfl, rfl, rfl, by decide +kernel, rfl, by decide +kernel, by decide +kernel⟩
theorem ok__law_number (A : AtD K mg "_law_number" s__law_number) (m_len : mg "len" = none) (m_range : mg "range" = none) (m_int : mg "int" = none) : HasFn P w K L mg base "_law_number" ["script", "index"] 1 2 f__law_number := by
  refine fn_H A sc__law_number rfl rfl (fun _ _ _ _ _ _ us hl => match us, hl with | [_, _], _ => rfl) (fun f cdv A outer s H E hr hx hp => ?_)
  exact ⟨_, (ss_cons (s1_asg (se_if (st_ne hr.units (se_sb (se_var 0)) (se_sb (se_lst sa_nil))) (se_tup (sa_cons (se_ix (se_sb (se_var 0)) (se_mod (se_sb (se_var 1)) (se_sb (se_len (se_sb (se_var 0)) rfl m_len))) (fun _ _ => rfl)) (sa_cons (se_div (se_sb (se_var 1)) (se_sb (se_len (se_sb (se_var 0)) rfl m_len))) sa_nil))) (se_tup (sa_cons se_int (sa_cons se_int sa_nil)))) (sg_tup rfl (sgs_cons (sg_name 5 sc__law_number.nd) (sgs_cons (sg_name 6 sc__law_number.nd) sgs_nil)))) (ss_cons (s1_set 2 sc__law_number.nd (se_if (st_lt (se_sb (se_var 6)) (se_sb se_int)) (se_sub (se_sb (se_var 5)) (se_sb (se_pow (se_sb se_int) (se_sb se_int)))) se_int)) (ss_cons (s1_for hp rfl (si_range1 (se_mod (se_sb (se_intc (se_sb (se_var 6)) rfl m_int)) (se_sb se_int)) rfl m_range) (sg_name 3 sc__law_number.nd) (ss_one (s1_set 2 sc__law_number.nd (se_div (se_sb (se_var 2)) (se_sb se_int))))) (ss_cons (s1_if (st_gt (se_sb (se_var 2)) (se_sb se_int)) (ss_one (s1_ret (se_mod (se_sb (se_intc (se_sb (se_var 2)) rfl m_int)) (se_sb se_int)))) ss_nil) (ss_cons (s1_set 4 sc__law_number.nd (se_mod (se_sb (se_add (se_sb (se_mul (se_sb (se_intc (se_sb (se_add (se_sb (se_var 5)) (se_sb (se_mul (se_sb se_int) (se_sb (se_var 1)))))) rfl m_int)) (se_sb se_int))) (se_sb (se_mul (se_sb se_int) (se_sb (se_len (se_sb (se_var 0)) rfl m_len)))))) (se_sb se_int))) (ss_cons (s1_set 4 sc__law_number.nd (se_mod (se_sb (se_add (se_sb (se_mul (se_sb (se_var 4)) (se_sb (se_var 4)))) (se_sb (se_mul (se_sb se_int) (se_sb (se_var 1)))))) (se_sb se_int))) (ss_one (s1_ret (se_intc (se_sb (se_mod (se_sb (se_add (se_sb (se_mul (se_sb (se_var 4)) (se_sb se_int))) (se_sb (se_div (se_sb (se_var 4)) (se_sb se_int))))) (se_sb se_int))) rfl m_int)))))))))⟩
abbrev s__law_take : Stmt := top 27
abbrev N__law_take : List Str := ["draw", "many"]
theorem sc__law_take : FnScope N__law_take ["draw", "many"] (defScope s__law_take) := ⟨rfl, rfl, rfl, by decide +kernel, rfl, by decide +kernel, by decide +kernel⟩
theorem ok__law_take (A : AtD K mg "_law_take" s__law_take) (h__law_number : HasFn P w K L mg base "_law_number" ["script", "index"] 1 2 f__law_number) (m_int : mg "int" = none) : HasFn P w K L mg base "_law_take" ["draw", "many"] 2 2 f__law_take := by
  refine fn_H A sc__law_take rfl rfl (fun _ _ _ _ _ _ us hl => match us, hl with | [_, _], _ => rfl) (fun f cdv A outer s H E hr hx hp => ?_)
  exact ⟨_, (ss_cons (s1_celAug iop_add ops_addI (se_var 0) se_int) (ss_one (s1_ret (se_mod (se_sb (se_intc (se_sb (se_callH h__law_number (hr.mono (by decide)) hx (sa_cons (se_ix (se_sb (se_var 0)) se_int (fun _ _ => rfl)) (sa_cons (se_intc (se_sb (se_ix (se_sb (se_var 0)) se_int (fun _ _ => rfl))) rfl m_int) sa_nil)) (cnt_cons (cnt_cons cnt_nil)))) rfl m_int)) (se_sb (se_var 1))))))⟩
abbrev s__law_pick : Stmt := top 28
abbrev N__law_pick : List Str := ["draw", "items"]
theorem sc__law_pick : FnScope N__law_pick ["draw", "items"] (defScope s__law_pick) := ⟨rfl, rfl, rfl, by decide +kernel, rfl, by decide +kernel, by decide +kernel⟩
theorem ok__law_pick (A : AtD K mg "_law_pick" s__law_pick) (h__law_take : HasFn P w K L mg base "_law_take" ["draw", "many"] 2 2 f__law_take) (m_len : mg "len" = none) : HasFn P w K L mg base "_law_pick" ["draw", "items"] 3 2 f__law_pick := by
  refine fn_H A sc__law_pick rfl rfl (fun _ _ _ _ _ _ us hl => match us, hl with | [_, _], _ => rfl) (fun f cdv A outer s H E hr hx hp => ?_)
  exact ⟨_, (ss_one (s1_ret (se_ix (se_sb (se_var 1)) (se_callH h__law_take (hr.mono (by decide)) hx (sa_cons (se_var 0) (sa_cons (se_len (se_sb (se_var 1)) rfl m_len) sa_nil)) (cnt_cons (cnt_cons cnt_nil))) (fun _ _ => rfl))))⟩
abbrev s__law_sky : Stmt := top 29
abbrev N__law_sky : List Str := ["draw", "rows", "row", "one"]
theorem sc__law_sky : FnScope N__law_sky ["draw"] (defScope s__law_sky) := ⟨rfl, rfl, rfl, by decide +kernel, rfl, by decide +kernel, by decide +kernel⟩
theorem ok__law_sky (A : AtD K mg "_law_sky" s__law_sky) (h__law_take : HasFn P w K L mg base "_law_take" ["draw", "many"] 2 2 f__law_take) (h__law_pick : HasFn P w K L mg base "_law_pick" ["draw", "items"] 3 2 f__law_pick) (m_tuple : mg "tuple" = none) : HasFn P w K L mg base "_law_sky" ["draw"] 4 1 f__law_sky := by
  refine fn_H A sc__law_sky rfl rfl (fun _ _ _ _ _ _ us hl => match us, hl with | [_], _ => rfl) (fun f cdv A outer s H E hr hx hp => ?_)
  exact ⟨_, (ss_cons (s1_set 1 sc__law_sky.nd (se_lst (sa_cons (se_tup (sa_cons se_int (sa_cons se_int (sa_cons se_int sa_nil)))) (sa_cons (se_tup (sa_cons se_int (sa_cons se_int (sa_cons se_int sa_nil)))) (sa_cons (se_tup (sa_cons se_int (sa_cons se_int (sa_cons se_int sa_nil)))) (sa_cons (se_tup (sa_cons se_int (sa_cons se_int (sa_cons se_int sa_nil)))) (sa_cons (se_tup (sa_cons se_int (sa_cons se_int (sa_cons se_int sa_nil)))) (sa_cons (se_tup (sa_cons se_int (sa_cons se_int (sa_cons se_int sa_nil)))) (sa_cons (se_tup (sa_cons se_int (sa_cons se_int (sa_cons se_int sa_nil)))) (sa_cons (se_tup (sa_cons se_int (sa_cons se_int (sa_cons se_int sa_nil)))) (sa_cons (se_tup (sa_cons se_int (sa_cons se_int (sa_cons se_int sa_nil)))) (sa_cons (se_tup (sa_cons se_int (sa_cons se_int (sa_cons se_int sa_nil)))) (sa_cons (se_tup (sa_cons se_int (sa_cons se_int (sa_cons se_int sa_nil)))) (sa_cons (se_tup (sa_cons se_int (sa_cons se_int (sa_cons se_int sa_nil)))) (sa_cons (se_tup (sa_cons se_int (sa_cons se_int (sa_cons se_int sa_nil)))) (sa_cons (se_tup (sa_cons se_int (sa_cons se_int (sa_cons se_int sa_nil)))) sa_nil)))))))))))))))) (ss_cons (s1_set 2 sc__law_sky.nd (se_if (st_gt (se_sb (se_callH h__law_take (hr.mono (by decide)) hx (sa_cons (se_var 0) (sa_cons se_int sa_nil)) (cnt_cons (cnt_cons cnt_nil)))) (se_sb se_int)) (se_ix (se_sb (se_var 1)) (se_callH h__law_take (hr.mono (by decide)) hx (sa_cons (se_var 0) (sa_cons se_int sa_nil)) (cnt_cons (cnt_cons cnt_nil))) (fun _ _ => rfl)) (se_callH h__law_pick (hr.mono (by decide)) hx (sa_cons (se_var 0) (sa_cons (se_var 1) sa_nil)) (cnt_cons (cnt_cons cnt_nil))))) (ss_one (s1_ret (se_tuple (se_sb (se_sf (sf_lc (own := [("one", 3)]) rfl sc__law_sky.nd (si_val (se_var 2)) (blkOk_by (N := N__law_sky) (sc := defScope s__law_sky) (by decide +kernel)) (fun _ _ _ _ _ => (sg_name 3 sc__law_sky.nd)) (fun _ _ _ _ _ => sts_nil) (fun _ _ _ _ _ => (se_if (st_eq hr.units (se_sb (se_callH h__law_take (hr.mono (by decide)) passL (sa_cons (se_var 0) (sa_cons se_int sa_nil)) (cnt_cons (cnt_cons cnt_nil)))) (se_sb se_int)) (se_var 3) (se_sub (se_sb se_int) (se_sb (se_var 3)))))) lsts_lc)) rfl m_tuple)))))⟩
abbrev s_dot : Stmt := top 13
abbrev N_dot : List Str := ["one", "other", "left", "right"]
theorem sc_dot : FnScope N_dot ["one", "other"] (defScope s_dot) := ⟨rfl, rfl, rfl, by decide +kernel, rfl, by decide +kernel, by decide +kernel⟩
theorem ok_dot (A : AtD K mg "dot" s_dot) (m_sum : mg "sum" = none) (m_zip : mg "zip" = none) : HasFn P w K L mg base "dot" ["one", "other"] 1 2 f_dot := by
  refine fn_H A sc_dot rfl rfl (fun _ _ _ _ _ _ us hl => match us, hl with | [_, _], _ => rfl) (fun f cdv A outer s H E hr hx hp => ?_)
  exact ⟨_, (ss_one (s1_ret (se_sum rfl (se_sb (se_sf (sf_lc (own := [("left", 2), ("right", 3)]) rfl sc_dot.nd (si_zip (se_var 0) (se_var 1) rfl m_zip) (blkOk_by (N := N_dot) (sc := defScope s_dot) (by decide +kernel)) (fun _ _ _ _ _ => (sg_tup rfl (sgs_cons (sg_name 2 sc_dot.nd) (sgs_cons (sg_name 3 sc_dot.nd) sgs_nil)))) (fun _ _ _ _ _ => sts_nil) (fun _ _ _ _ _ => (se_mul (se_sb (se_var 2)) (se_sb (se_var 3))))) lsts_lc)) rfl m_sum)))⟩
abbrev s_cross : Stmt := top 14
abbrev N_cross : List Str := ["one", "other"]
theorem sc_cross : FnScope N_cross ["one", "other"] (defScope s_cross) := ⟨rfl, rfl, rfl, by decide +kernel, rfl, by decide +kernel, by decide +kernel⟩
theorem ok_cross (A : AtD K mg "cross" s_cross) : HasFn P w K L mg base "cross" ["one", "other"] 1 2 f_cross := by
  refine fn_H A sc_cross rfl rfl (fun _ _ _ _ _ _ us hl => match us, hl with | [_, _], _ => rfl) (fun f cdv A outer s H E hr hx hp => ?_)
  exact ⟨_, (ss_one (s1_ret (se_tup (sa_cons (se_sub (se_sb (se_mul (se_sb (se_ix (se_sb (se_var 0)) se_int (fun _ _ => rfl))) (se_sb (se_ix (se_sb (se_var 1)) se_int (fun _ _ => rfl))))) (se_sb (se_mul (se_sb (se_ix (se_sb (se_var 0)) se_int (fun _ _ => rfl))) (se_sb (se_ix (se_sb (se_var 1)) se_int (fun _ _ => rfl)))))) (sa_cons (se_sub (se_sb (se_mul (se_sb (se_ix (se_sb (se_var 0)) se_int (fun _ _ => rfl))) (se_sb (se_ix (se_sb (se_var 1)) se_int (fun _ _ => rfl))))) (se_sb (se_mul (se_sb (se_ix (se_sb (se_var 0)) se_int (fun _ _ => rfl))) (se_sb (se_ix (se_sb (se_var 1)) se_int (fun _ _ => rfl)))))) (sa_cons (se_sub (se_sb (se_mul (se_sb (se_ix (se_sb (se_var 0)) se_int (fun _ _ => rfl))) (se_sb (se_ix (se_sb (se_var 1)) se_int (fun _ _ => rfl))))) (se_sb (se_mul (se_sb (se_ix (se_sb (se_var 0)) se_int (fun _ _ => rfl))) (se_sb (se_ix (se_sb (se_var 1)) se_int (fun _ _ => rfl)))))) sa_nil))))))⟩
abbrev s_times : Stmt := top 17
abbrev N_times : List Str := ["factor", "triple", "one"]
theorem sc_times : FnScope N_times ["factor", "triple"] (defScope s_times) := ⟨rfl, rfl, rfl, by decide +kernel, rfl, by decide +kernel, by decide +kernel⟩
theorem ok_times (A : AtD K mg "times" s_times) (m_tuple : mg "tuple" = none) : HasFn P w K L mg base "times" ["factor", "triple"] 1 2 f_times := by
  refine fn_H A sc_times rfl rfl (fun _ _ _ _ _ _ us hl => match us, hl with | [_, _], _ => rfl) (fun f cdv A outer s H E hr hx hp => ?_)
  exact ⟨_, (ss_one (s1_ret (se_tuple (se_sb (se_sf (sf_lc (own := [("one", 2)]) rfl sc_times.nd (si_val (se_var 1)) (blkOk_by (N := N_times) (sc := defScope s_times) (by decide +kernel)) (fun _ _ _ _ _ => (sg_name 2 sc_times.nd)) (fun _ _ _ _ _ => sts_nil) (fun _ _ _ _ _ => (se_mul (se_sb (se_var 0)) (se_sb (se_var 2))))) lsts_lc)) rfl m_tuple)))⟩
abbrev s_plus : Stmt := top 16
abbrev N_plus : List Str := ["one", "other", "left", "right"]
theorem sc_plus : FnScope N_plus ["one", "other"] (defScope s_plus) := ⟨rfl, rfl, rfl, by decide +kernel, rfl, by decide +kernel, by decide +kernel⟩
theorem ok_plus (A : AtD K mg "plus" s_plus) (m_tuple : mg "tuple" = none) (m_zip : mg "zip" = none) : HasFn P w K L mg base "plus" ["one", "other"] 1 2 f_plus := by
  refine fn_H A sc_plus rfl rfl (fun _ _ _ _ _ _ us hl => match us, hl with | [_, _], _ => rfl) (fun f cdv A outer s H E hr hx hp => ?_)
  exact ⟨_, (ss_one (s1_ret (se_tuple (se_sb (se_sf (sf_lc (own := [("left", 2), ("right", 3)]) rfl sc_plus.nd (si_zip (se_var 0) (se_var 1) rfl m_zip) (blkOk_by (N := N_plus) (sc := defScope s_plus) (by decide +kernel)) (fun _ _ _ _ _ => (sg_tup rfl (sgs_cons (sg_name 2 sc_plus.nd) (sgs_cons (sg_name 3 sc_plus.nd) sgs_nil)))) (fun _ _ _ _ _ => sts_nil) (fun _ _ _ _ _ => (se_add (se_sb (se_var 2)) (se_sb (se_var 3))))) lsts_lc)) rfl m_tuple)))⟩
abbrev s_det : Stmt := top 15
abbrev N_det : List Str := ["one", "other", "third"]
theorem sc_det : FnScope N_det ["one", "other", "third"] (defScope s_det) := ⟨rfl, rfl, rfl, by decide +kernel, rfl, by decide +kernel, by decide +kernel⟩
theorem ok_det (A : AtD K mg "det" s_det) (h_dot : HasFn P w K L mg base "dot" ["one", "other"] 1 2 f_dot) (h_cross : HasFn P w K L mg base "cross" ["one", "other"] 1 2 f_cross) : HasFn P w K L mg base "det" ["one", "other", "third"] 2 3 f_det := by
  refine fn_H A sc_det rfl rfl (fun _ _ _ _ _ _ us hl => match us, hl with | [_, _, _], _ => rfl) (fun f cdv A outer s H E hr hx hp => ?_)
  exact ⟨_, (ss_one (s1_ret (se_callH h_dot (hr.mono (by decide)) hx (sa_cons (se_callH h_cross (hr.mono (by decide)) hx (sa_cons (se_var 0) (sa_cons (se_var 1) sa_nil)) (cnt_cons (cnt_cons cnt_nil))) (sa_cons (se_var 2) sa_nil)) (cnt_cons (cnt_cons cnt_nil)))))⟩
abbrev s_root : Stmt := top 19
abbrev N_root : List Str := ["number", "low", "high", "middle"]
theorem sc_root : FnScope N_root ["number"] (defScope s_root) := ⟨rfl, rfl, rfl, by decide +kernel, rfl, by decide +kernel, by decide +kernel⟩
theorem ok_root (A : AtD K mg "root" s_root) : HasFn P w K L mg base "root" ["number"] 1 1 f_root := by
  refine fn_H A sc_root rfl rfl (fun _ _ _ _ _ _ us hl => match us, hl with | [_], _ => rfl) (fun f cdv A outer s H E hr hx hp => ?_)
  exact ⟨_, (ss_cons (s1_asg (se_tup (sa_cons se_int (sa_cons se_int sa_nil))) (sg_tup rfl (sgs_cons (sg_name 1 sc_root.nd) (sgs_cons (sg_name 2 sc_root.nd) sgs_nil)))) (ss_cons (s1_while hp (st_le (se_sb (se_mul (se_sb (se_var 2)) (se_sb (se_var 2)))) (se_sb (se_var 0))) (ss_one (s1_aug 2 iop_mulB ops_mul sc_root.nd se_int))) (ss_cons (s1_while hp (st_lt (se_sb (se_var 1)) (se_sb (se_var 2))) (ss_cons (s1_set 3 sc_root.nd (se_div (se_sb (se_add (se_sb (se_var 1)) (se_sb (se_var 2)))) (se_sb se_int))) (ss_one (s1_if (st_lt (se_sb (se_mul (se_sb (se_var 3)) (se_sb (se_var 3)))) (se_sb (se_var 0))) (ss_one (s1_set 1 sc_root.nd (se_add (se_sb (se_var 3)) (se_sb se_int)))) (ss_one (s1_set 2 sc_root.nd (se_var 3))))))) (ss_one (s1_ret (se_if (st_eq hr.units (se_sb (se_mul (se_sb (se_var 1)) (se_sb (se_var 1)))) (se_sb (se_var 0))) (se_var 1) se_non))))))⟩
abbrev s_is_integer : Stmt := top 4
abbrev N_is_integer : List Str := ["thing"]
theorem sc_is_integer : FnScope N_is_integer ["thing"] (defScope s_is_integer) := ⟨rfl, rfl, rfl, by decide +kernel, rfl, by decide +kernel, by decide +kernel⟩
theorem ok_is_integer (A : AtD K mg "is_integer" s_is_integer) (m_isinstance : mg "isinstance" = none) (m_int : mg "int" = none) (m_bool : mg "bool" = none) : HasFn P w K L mg base "is_integer" ["thing"] 1 1 f_is_integer := by
  refine fn_H A sc_is_integer rfl rfl (fun _ _ _ _ _ _ us hl => match us, hl with | [_], _ => rfl) (fun f cdv A outer s H E hr hx hp => ?_)
  exact ⟨_, (ss_one (s1_ret (se_and (se_isB (se_sb (se_var 0)) (pe_bltn rfl m_int (by decide +kernel) rfl) rfl m_isinstance) (se_one (se_not (se_isB (se_sb (se_var 0)) (pe_bltn rfl m_bool (by decide +kernel) rfl) rfl m_isinstance))))))⟩
abbrev s_is_triple : Stmt := top 8
abbrev N_is_triple : List Str := ["thing", "one"]
theorem sc_is_triple : FnScope N_is_triple ["thing"] (defScope s_is_triple) := ⟨rfl, rfl, rfl, by decide +kernel, rfl, by decide +kernel, by decide +kernel⟩
theorem ok_is_triple (A : AtD K mg "is_triple" s_is_triple) (h_is_integer : HasFn P w K L mg base "is_integer" ["thing"] 1 1 f_is_integer) (m_isinstance : mg "isinstance" = none) (m_tuple : mg "tuple" = none) (m_len : mg "len" = none) (m_all : mg "all" = none) : HasFn P w K L mg base "is_triple" ["thing"] 2 1 f_is_triple := by
  refine fn_H A sc_is_triple rfl rfl (fun _ _ _ _ _ _ us hl => match us, hl with | [_], _ => rfl) (fun f cdv A outer s H E hr hx hp => ?_)
  exact ⟨_, (ss_cons (s1_if (st_w (sw_or (st_not (st_val (se_isB (se_sb (se_var 0)) (pe_bltn rfl m_tuple (by decide +kernel) rfl) rfl m_isinstance))) (sw_or (st_ne hr.units (se_sb (se_len (se_sb (se_var 0)) rfl m_len)) (se_sb se_int)) (sw_or1 (st_not (st_val (se_all rfl (se_sb (se_sf (sf_lc (own := [("one", 1)]) rfl sc_is_triple.nd (si_val (se_var 0)) (blkOk_by (N := N_is_triple) (sc := defScope s_is_triple) (by decide +kernel)) (fun _ _ _ _ _ => (sg_name 1 sc_is_triple.nd)) (fun _ _ _ _ _ => sts_nil) (fun _ _ _ _ _ => (se_callH h_is_integer (hr.mono (by decide)) passL (sa_cons (se_var 1) sa_nil) (cnt_cons cnt_nil)))) lsts_lc)) rfl m_all))))))) (ss_one (s1_ret se_bl)) ss_nil) (ss_one (s1_ret (se_ne hr.units (se_sb (se_var 0)) (se_sb (se_tup (sa_cons se_int (sa_cons se_int (sa_cons se_int sa_nil)))))))))⟩
abbrev s_check_triple : Stmt := top 9
abbrev N_check_triple : List Str := ["part", "thing"]
theorem sc_check_triple : FnScope N_check_triple ["part", "thing"] (defScope s_check_triple) := ⟨rfl, rfl, rfl, by decide +kernel, rfl, by decide +kernel, by decide +kernel⟩
theorem ok_check_triple (A : AtD K mg "check_triple" s_check_triple) (h_is_triple : HasFn P w K L mg base "is_triple" ["thing"] 2 1 f_is_triple) : HasFn P w K L mg base "check_triple" ["part", "thing"] 3 2 f_check_triple := by
  refine fn_H A sc_check_triple rfl rfl (fun _ _ _ _ _ _ us hl => match us, hl with | [_, _], _ => rfl) (fun f cdv A outer s H E hr hx hp => ?_)
  exact ⟨_, (ss_one (s1_if (st_not (st_val (se_callH h_is_triple (hr.mono (by decide)) hx (sa_cons (se_var 1) sa_nil) (cnt_cons cnt_nil)))) (ss_one s1_never) ss_nil))⟩
abbrev s_common : Stmt := top 5
abbrev N_common : List Str := ["one", "other"]
theorem sc_common : FnScope N_common ["one", "other"] (defScope s_common) := ⟨rfl, rfl, rfl, by decide +kernel, rfl, by decide +kernel, by decide +kernel⟩
theorem ok_common (A : AtD K mg "common" s_common) (m_abs : mg "abs" = none) : HasFn P w K L mg base "common" ["one", "other"] 1 2 f_common := by
  refine fn_H A sc_common rfl rfl (fun _ _ _ _ _ _ us hl => match us, hl with | [_, _], _ => rfl) (fun f cdv A outer s H E hr hx hp => ?_)
  exact ⟨_, (ss_cons (s1_par2 0 1 rfl sc_common.nd (se_abs (se_sb (se_var 0)) rfl m_abs) (se_abs (se_sb (se_var 1)) rfl m_abs)) (ss_cons (s1_while hp (st_gt (se_sb (se_var 1)) (se_sb se_int)) (ss_one (s1_par2 0 1 rfl sc_common.nd (se_var 1) (se_mod (se_sb (se_var 0)) (se_sb (se_var 1)))))) (ss_one (s1_ret (se_var 0)))))⟩
abbrev s_lowest : Stmt := top 6
abbrev N_lowest : List Str := ["above", "below", "divisor"]
theorem sc_lowest : FnScope N_lowest ["above", "below"] (defScope s_lowest) := ⟨rfl, rfl, rfl, by decide +kernel, rfl, by decide +kernel, by decide +kernel⟩
theorem ok_lowest (A : AtD K mg "lowest" s_lowest) (h_common : HasFn P w K L mg base "common" ["one", "other"] 1 2 f_common) : HasFn P w K L mg base "lowest" ["above", "below"] 2 2 f_lowest := by
  refine fn_H A sc_lowest rfl rfl (fun _ _ _ _ _ _ us hl => match us, hl with | [_, _], _ => rfl) (fun f cdv A outer s H E hr hx hp => ?_)
  exact ⟨_, (ss_cons (s1_set 2 sc_lowest.nd (se_callH h_common (hr.mono (by decide)) hx (sa_cons (se_var 0) (sa_cons (se_var 1) sa_nil)) (cnt_cons (cnt_cons cnt_nil)))) (ss_one (s1_ret (se_tup (sa_cons (se_div (se_sb (se_var 0)) (se_sb (se_var 2))) (sa_cons (se_div (se_sb (se_var 1)) (se_sb (se_var 2))) sa_nil))))))⟩
abbrev s_ratio : Stmt := top 20
abbrev N_ratio : List Str := ["one", "other", "found"]
theorem sc_ratio : FnScope N_ratio ["one", "other"] (defScope s_ratio) := ⟨rfl, rfl, rfl, by decide +kernel, rfl, by decide +kernel, by decide +kernel⟩
theorem ok_ratio (A : AtD K mg "ratio" s_ratio) (h_check_triple : HasFn P w K L mg base "check_triple" ["part", "thing"] 3 2 f_check_triple) (h_root : HasFn P w K L mg base "root" ["number"] 1 1 f_root) (h_dot : HasFn P w K L mg base "dot" ["one", "other"] 1 2 f_dot) (h_lowest : HasFn P w K L mg base "lowest" ["above", "below"] 2 2 f_lowest) : HasFn P w K L mg base "ratio" ["one", "other"] 4 2 f_ratio := by
  refine fn_H A sc_ratio rfl rfl (fun _ _ _ _ _ _ us hl => match us, hl with | [_, _], _ => rfl) (fun f cdv A outer s H E hr hx hp => ?_)
  exact ⟨_, (ss_cons (s1_expr (se_callH h_check_triple (hr.mono (by decide)) hx (sa_cons se_str (sa_cons (se_var 0) sa_nil)) (cnt_cons (cnt_cons cnt_nil)))) (ss_cons (s1_expr (se_callH h_check_triple (hr.mono (by decide)) hx (sa_cons se_str (sa_cons (se_var 1) sa_nil)) (cnt_cons (cnt_cons cnt_nil)))) (ss_cons (s1_set 2 sc_ratio.nd (se_callH h_root (hr.mono (by decide)) hx (sa_cons (se_mul (se_sb (se_callH h_dot (hr.mono (by decide)) hx (sa_cons (se_var 0) (sa_cons (se_var 0) sa_nil)) (cnt_cons (cnt_cons cnt_nil)))) (se_sb (se_callH h_dot (hr.mono (by decide)) hx (sa_cons (se_var 1) (sa_cons (se_var 1) sa_nil)) (cnt_cons (cnt_cons cnt_nil))))) sa_nil) (cnt_cons cnt_nil))) (ss_one (s1_ret (se_if (st_isN (se_sb (se_var 2)) (se_sb se_non)) se_non (se_callH h_lowest (hr.mono (by decide)) hx (sa_cons (se_var 2) (sa_cons (se_callH h_dot (hr.mono (by decide)) hx (sa_cons (se_var 1) (sa_cons (se_var 1) sa_nil)) (cnt_cons (cnt_cons cnt_nil))) sa_nil)) (cnt_cons (cnt_cons cnt_nil)))))))))⟩
abbrev s_is_on_line : Stmt := top 18
abbrev N_is_on_line : List Str := ["one", "other"]
theorem sc_is_on_line : FnScope N_is_on_line ["one", "other"] (defScope s_is_on_line) := ⟨rfl, rfl, rfl, by decide +kernel, rfl, by decide +kernel, by decide +kernel⟩
theorem ok_is_on_line (A : AtD K mg "is_on_line" s_is_on_line) (h_cross : HasFn P w K L mg base "cross" ["one", "other"] 1 2 f_cross) : HasFn P w K L mg base "is_on_line" ["one", "other"] 2 2 f_is_on_line := by
  refine fn_H A sc_is_on_line rfl rfl (fun _ _ _ _ _ _ us hl => match us, hl with | [_, _], _ => rfl) (fun f cdv A outer s H E hr hx hp => ?_)
  exact ⟨_, (ss_one (s1_ret (se_eq hr.units (se_sb (se_callH h_cross (hr.mono (by decide)) hx (sa_cons (se_var 0) (sa_cons (se_var 1) sa_nil)) (cnt_cons (cnt_cons cnt_nil)))) (se_sb (se_tup (sa_cons se_int (sa_cons se_int (sa_cons se_int sa_nil))))))))⟩
abbrev s_least : Stmt := top 10
abbrev N_least : List Str := ["direction", "divisor", "one"]
theorem sc_least : FnScope N_least ["direction"] (defScope s_least) := ⟨rfl, rfl, rfl, by decide +kernel, rfl, by decide +kernel, by decide +kernel⟩
theorem ok_least (A : AtD K mg "least" s_least) (h_check_triple : HasFn P w K L mg base "check_triple" ["part", "thing"] 3 2 f_check_triple) (h_common : HasFn P w K L mg base "common" ["one", "other"] 1 2 f_common) (m_tuple : mg "tuple" = none) : HasFn P w K L mg base "least" ["direction"] 4 1 f_least := by
  refine fn_H A sc_least rfl rfl (fun _ _ _ _ _ _ us hl => match us, hl with | [_], _ => rfl) (fun f cdv A outer s H E hr hx hp => ?_)
  exact ⟨_, (ss_cons (s1_expr (se_callH h_check_triple (hr.mono (by decide)) hx (sa_cons se_str (sa_cons (se_var 0) sa_nil)) (cnt_cons (cnt_cons cnt_nil)))) (ss_cons (s1_set 1 sc_least.nd (se_callH h_common (hr.mono (by decide)) hx (sa_cons (se_callH h_common (hr.mono (by decide)) hx (sa_cons (se_ix (se_sb (se_var 0)) se_int (fun _ _ => rfl)) (sa_cons (se_ix (se_sb (se_var 0)) se_int (fun _ _ => rfl)) sa_nil)) (cnt_cons (cnt_cons cnt_nil))) (sa_cons (se_ix (se_sb (se_var 0)) se_int (fun _ _ => rfl)) sa_nil)) (cnt_cons (cnt_cons cnt_nil)))) (ss_one (s1_ret (se_tuple (se_sb (se_sf (sf_lc (own := [("one", 2)]) rfl sc_least.nd (si_val (se_var 0)) (blkOk_by (N := N_least) (sc := defScope s_least) (by decide +kernel)) (fun _ _ _ _ _ => (sg_name 2 sc_least.nd)) (fun _ _ _ _ _ => sts_nil) (fun _ _ _ _ _ => (se_div (se_sb (se_var 2)) (se_sb (se_var 1))))) lsts_lc)) rfl m_tuple)))))⟩
abbrev s_is_same : Stmt := top 11
abbrev N_is_same : List Str := ["one", "other"]
theorem sc_is_same : FnScope N_is_same ["one", "other"] (defScope s_is_same) := ⟨rfl, rfl, rfl, by decide +kernel, rfl, by decide +kernel, by decide +kernel⟩
theorem ok_is_same (A : AtD K mg "is_same" s_is_same) (h_least : HasFn P w K L mg base "least" ["direction"] 4 1 f_least) : HasFn P w K L mg base "is_same" ["one", "other"] 5 2 f_is_same := by
  refine fn_H A sc_is_same rfl rfl (fun _ _ _ _ _ _ us hl => match us, hl with | [_, _], _ => rfl) (fun f cdv A outer s H E hr hx hp => ?_)
  exact ⟨_, (ss_one (s1_ret (se_eq hr.units (se_sb (se_callH h_least (hr.mono (by decide)) hx (sa_cons (se_var 0) sa_nil) (cnt_cons cnt_nil))) (se_sb (se_callH h_least (hr.mono (by decide)) hx (sa_cons (se_var 1) sa_nil) (cnt_cons cnt_nil))))))⟩
abbrev s_opposite : Stmt := top 12
abbrev N_opposite : List Str := ["direction", "one"]
theorem sc_opposite : FnScope N_opposite ["direction"] (defScope s_opposite) := ⟨rfl, rfl, rfl, by decide +kernel, rfl, by decide +kernel, by decide +kernel⟩
theorem ok_opposite (A : AtD K mg "opposite" s_opposite) (h_least : HasFn P w K L mg base "least" ["direction"] 4 1 f_least) (m_tuple : mg "tuple" = none) : HasFn P w K L mg base "opposite" ["direction"] 5 1 f_opposite := by
  refine fn_H A sc_opposite rfl rfl (fun _ _ _ _ _ _ us hl => match us, hl with | [_], _ => rfl) (fun f cdv A outer s H E hr hx hp => ?_)
  exact ⟨_, (ss_one (s1_ret (se_tuple (se_sb (se_sf (sf_lc (own := [("one", 1)]) rfl sc_opposite.nd (si_val (se_callH h_least (hr.mono (by decide)) hx (sa_cons (se_var 0) sa_nil) (cnt_cons cnt_nil))) (blkOk_by (N := N_opposite) (sc := defScope s_opposite) (by decide +kernel)) (fun _ _ _ _ _ => (sg_name 1 sc_opposite.nd)) (fun _ _ _ _ _ => sts_nil) (fun _ _ _ _ _ => (se_neg (se_sb (se_var 1))))) lsts_lc)) rfl m_tuple)))⟩
abbrev s_angle_sign : Stmt := top 23
abbrev N_angle_sign : List Str := ["one", "other", "found"]
theorem sc_angle_sign : FnScope N_angle_sign ["one", "other"] (defScope s_angle_sign) := ⟨rfl, rfl, rfl, by decide +kernel, rfl, by decide +kernel, by decide +kernel⟩
theorem ok_angle_sign (A : AtD K mg "angle_sign" s_angle_sign) (h_check_triple : HasFn P w K L mg base "check_triple" ["part", "thing"] 3 2 f_check_triple) (h_dot : HasFn P w K L mg base "dot" ["one", "other"] 1 2 f_dot) : HasFn P w K L mg base "angle_sign" ["one", "other"] 4 2 f_angle_sign := by
  refine fn_H A sc_angle_sign rfl rfl (fun _ _ _ _ _ _ us hl => match us, hl with | [_, _], _ => rfl) (fun f cdv A outer s H E hr hx hp => ?_)
  exact ⟨_, (ss_cons (s1_expr (se_callH h_check_triple (hr.mono (by decide)) hx (sa_cons se_str (sa_cons (se_var 0) sa_nil)) (cnt_cons (cnt_cons cnt_nil)))) (ss_cons (s1_expr (se_callH h_check_triple (hr.mono (by decide)) hx (sa_cons se_str (sa_cons (se_var 1) sa_nil)) (cnt_cons (cnt_cons cnt_nil)))) (ss_cons (s1_set 2 sc_angle_sign.nd (se_callH h_dot (hr.mono (by decide)) hx (sa_cons (se_var 0) (sa_cons (se_var 1) sa_nil)) (cnt_cons (cnt_cons cnt_nil)))) (ss_one (s1_ret (se_if (st_gt (se_sb (se_var 2)) (se_sb se_int)) se_int (se_if (st_eq hr.units (se_sb (se_var 2)) (se_sb se_int)) se_int (se_neg (se_sb se_int)))))))))⟩
abbrev s_is_between : Stmt := top 24
abbrev N_is_between : List Str := ["one", "middle", "other", "normal"]
theorem sc_is_between : FnScope N_is_between ["one", "middle", "other"] (defScope s_is_between) := ⟨rfl, rfl, rfl, by decide +kernel, rfl, by decide +kernel, by decide +kernel⟩
theorem ok_is_between (A : AtD K mg "is_between" s_is_between) (h_cross : HasFn P w K L mg base "cross" ["one", "other"] 1 2 f_cross) (h_dot : HasFn P w K L mg base "dot" ["one", "other"] 1 2 f_dot) : HasFn P w K L mg base "is_between" ["one", "middle", "other"] 2 3 f_is_between := by
  refine fn_H A sc_is_between rfl rfl (fun _ _ _ _ _ _ us hl => match us, hl with | [_, _, _], _ => rfl) (fun f cdv A outer s H E hr hx hp => ?_)
  exact ⟨_, (ss_cons (s1_set 3 sc_is_between.nd (se_callH h_cross (hr.mono (by decide)) hx (sa_cons (se_var 0) (sa_cons (se_var 2) sa_nil)) (cnt_cons (cnt_cons cnt_nil)))) (ss_cons (s1_if (st_w (sw_or (st_eq hr.units (se_sb (se_var 3)) (se_sb (se_tup (sa_cons se_int (sa_cons se_int (sa_cons se_int sa_nil)))))) (sw_or1 (st_ne hr.units (se_sb (se_callH h_dot (hr.mono (by decide)) hx (sa_cons (se_var 3) (sa_cons (se_var 1) sa_nil)) (cnt_cons (cnt_cons cnt_nil)))) (se_sb se_int))))) (ss_one (s1_ret se_bl)) ss_nil) (ss_one (s1_ret (se_and (se_gt (se_sb (se_callH h_dot (hr.mono (by decide)) hx (sa_cons (se_callH h_cross (hr.mono (by decide)) hx (sa_cons (se_var 0) (sa_cons (se_var 1) sa_nil)) (cnt_cons (cnt_cons cnt_nil))) (sa_cons (se_var 3) sa_nil)) (cnt_cons (cnt_cons cnt_nil)))) (se_sb se_int)) (se_one (se_gt (se_sb (se_callH h_dot (hr.mono (by decide)) hx (sa_cons (se_callH h_cross (hr.mono (by decide)) hx (sa_cons (se_var 1) (sa_cons (se_var 2) sa_nil)) (cnt_cons (cnt_cons cnt_nil))) (sa_cons (se_var 3) sa_nil)) (cnt_cons (cnt_cons cnt_nil)))) (se_sb se_int))))))))⟩
abbrev s_size_of : Stmt := top 22
abbrev N_size_of : List Str := ["one", "other"]
theorem sc_size_of : FnScope N_size_of ["one", "other"] (defScope s_size_of) := ⟨rfl, rfl, rfl, by decide +kernel, rfl, by decide +kernel, by decide +kernel⟩
theorem ok_size_of (A : AtD K mg "size_of" s_size_of) (h_dot : HasFn P w K L mg base "dot" ["one", "other"] 1 2 f_dot) : HasFn P w K L mg base "size_of" ["one", "other"] 2 2 f_size_of := by
  refine fn_H A sc_size_of rfl rfl (fun _ _ _ _ _ _ us hl => match us, hl with | [_, _], _ => rfl) (fun f cdv A outer s H E hr hx hp => ?_)
  exact ⟨_, (ss_one (s1_ret (se_mul (se_sb (se_callH h_dot (hr.mono (by decide)) hx (sa_cons (se_var 0) (sa_cons (se_var 0) sa_nil)) (cnt_cons (cnt_cons cnt_nil)))) (se_sb (se_callH h_dot (hr.mono (by decide)) hx (sa_cons (se_var 1) (sa_cons (se_var 1) sa_nil)) (cnt_cons (cnt_cons cnt_nil)))))))⟩
abbrev s_are_alike : Stmt := top 21
abbrev N_are_alike : List Str := ["one", "other", "late", "after", "mine", "theirs", "first", "second"]
theorem sc_are_alike : FnScope N_are_alike ["one", "other", "late", "after"] (defScope s_are_alike) := ⟨rfl, rfl, rfl, by decide +kernel, rfl, by decide +kernel, by decide +kernel⟩
theorem ok_are_alike (A : AtD K mg "are_alike" s_are_alike) (h_dot : HasFn P w K L mg base "dot" ["one", "other"] 1 2 f_dot) (h_size_of : HasFn P w K L mg base "size_of" ["one", "other"] 2 2 f_size_of) (h_ratio : HasFn P w K L mg base "ratio" ["one", "other"] 4 2 f_ratio) : HasFn P w K L mg base "are_alike" ["one", "other", "late", "after"] 5 4 f_are_alike := by
  refine fn_H A sc_are_alike rfl rfl (fun _ _ _ _ _ _ us hl => match us, hl with | [_, _, _, _], _ => rfl) (fun f cdv A outer s H E hr hx hp => ?_)
  exact ⟨_, (ss_cons (s1_par2 4 5 rfl sc_are_alike.nd (se_callH h_dot (hr.mono (by decide)) hx (sa_cons (se_var 0) (sa_cons (se_var 1) sa_nil)) (cnt_cons (cnt_cons cnt_nil))) (se_callH h_dot (hr.mono (by decide)) hx (sa_cons (se_var 2) (sa_cons (se_var 3) sa_nil)) (cnt_cons (cnt_cons cnt_nil)))) (ss_cons (s1_if (st_w (sw_or (st_lt (se_sb (se_mul (se_sb (se_var 4)) (se_sb (se_var 5)))) (se_sb se_int)) (sw_or1 (st_ne hr.units (se_sb (se_mul (se_sb (se_mul (se_sb (se_mul (se_sb (se_var 4)) (se_sb (se_var 4)))) (se_sb (se_callH h_dot (hr.mono (by decide)) hx (sa_cons (se_var 2) (sa_cons (se_var 2) sa_nil)) (cnt_cons (cnt_cons cnt_nil)))))) (se_sb (se_callH h_dot (hr.mono (by decide)) hx (sa_cons (se_var 3) (sa_cons (se_var 3) sa_nil)) (cnt_cons (cnt_cons cnt_nil)))))) (se_sb (se_mul (se_sb (se_mul (se_sb (se_var 5)) (se_sb (se_var 5)))) (se_sb (se_callH h_size_of (hr.mono (by decide)) hx (sa_cons (se_var 0) (sa_cons (se_var 1) sa_nil)) (cnt_cons (cnt_cons cnt_nil)))))))))) (ss_one (s1_ret se_bl)) ss_nil) (ss_cons (s1_par2 6 7 rfl sc_are_alike.nd (se_callH h_ratio (hr.mono (by decide)) hx (sa_cons (se_var 0) (sa_cons (se_var 2) sa_nil)) (cnt_cons (cnt_cons cnt_nil))) (se_callH h_ratio (hr.mono (by decide)) hx (sa_cons (se_var 1) (sa_cons (se_var 3) sa_nil)) (cnt_cons (cnt_cons cnt_nil)))) (ss_cons (s1_if (st_w (sw_or (st_isN (se_sb (se_var 6)) (se_sb se_non)) (sw_or1 (st_isN (se_sb (se_var 7)) (se_sb se_non))))) (ss_one (s1_ret se_bl)) ss_nil) (ss_one (s1_ret (se_eq hr.units (se_sb (se_mul (se_sb (se_mul (se_sb (se_var 5)) (se_sb (se_ix (se_sb (se_var 6)) se_int (fun _ _ => rfl))))) (se_sb (se_ix (se_sb (se_var 7)) se_int (fun _ _ => rfl))))) (se_sb (se_mul (se_sb (se_mul (se_sb (se_var 4)) (se_sb (se_ix (se_sb (se_var 6)) se_int (fun _ _ => rfl))))) (se_sb (se_ix (se_sb (se_var 7)) se_int (fun _ _ => rfl))))))))))))⟩
abbrev s_law : Stmt := top 30
abbrev N_law : List Str := ["script", "draw", "turn", "whole", "many", "a", "b", "c", "d", "one", "other", "third", "middle", "again", "number"]
theorem sc_law : FnScope N_law ["script"] (defScope s_law) := ⟨rfl, rfl, rfl, by decide +kernel, rfl, by decide +kernel, by decide +kernel⟩
theorem okf_law {f : Addr} {fd : FuncData} (F : FunD K "law" "law" (defArgs s_law) (defBody s_law) (defScope s_law) [] [] f fd) (h__law_sky : HasFn P w K L mg base "_law_sky" ["draw"] 4 1 f__law_sky) (h_dot : HasFn P w K L mg base "dot" ["one", "other"] 1 2 f_dot) (h_cross : HasFn P w K L mg base "cross" ["one", "other"] 1 2 f_cross) (h_times : HasFn P w K L mg base "times" ["factor", "triple"] 1 2 f_times) (h_plus : HasFn P w K L mg base "plus" ["one", "other"] 1 2 f_plus) (h_det : HasFn P w K L mg base "det" ["one", "other", "third"] 2 3 f_det) (h_root : HasFn P w K L mg base "root" ["number"] 1 1 f_root) (h_ratio : HasFn P w K L mg base "ratio" ["one", "other"] 4 2 f_ratio) (h_is_on_line : HasFn P w K L mg base "is_on_line" ["one", "other"] 2 2 f_is_on_line) (h__law_take : HasFn P w K L mg base "_law_take" ["draw", "many"] 2 2 f__law_take) (h_least : HasFn P w K L mg base "least" ["direction"] 4 1 f_least) (h_is_same : HasFn P w K L mg base "is_same" ["one", "other"] 5 2 f_is_same) (h_opposite : HasFn P w K L mg base "opposite" ["direction"] 5 1 f_opposite) (h_angle_sign : HasFn P w K L mg base "angle_sign" ["one", "other"] 4 2 f_angle_sign) (h_is_between : HasFn P w K L mg base "is_between" ["one", "middle", "other"] 2 3 f_is_between) (h_are_alike : HasFn P w K L mg base "are_alike" ["one", "other", "late", "after"] 5 4 f_are_alike) (m_range : mg "range" = none) (m_tuple : mg "tuple" = none) : FnOk P w K mg base (L2.CX P w) 6 f fd ["script"] (spM K L 1 f_law) := by
  refine fn_D F sc_law rfl rfl (fun cdv A outer s H E hr hx hp => ?_)
  exact ⟨_, (ss_cons (s1_newCel 1 sc_law.nd (sf_lst (sa_cons (se_var 0) (sa_cons se_int sa_nil)))) (ss_cons (s1_for hp rfl (si_range1 se_int rfl m_range) (sg_name 2 sc_law.nd) (ss_cons (s1_asg (se_sf (sf_lc (own := [("again", 13)]) rfl sc_law.nd (si_range1 se_int rfl m_range) (blkOk_by (N := N_law) (sc := defScope s_law) (by decide +kernel)) (fun _ _ _ _ _ => (sg_name 13 sc_law.nd)) (fun _ _ _ _ _ => sts_nil) (fun _ _ _ _ _ => (se_callH h__law_sky (hr.mono (by decide)) passL (sa_cons (se_var 1) sa_nil) (cnt_cons cnt_nil)))) lsts_lc) (sg_tup rfl (sgs_cons (sg_name 5 sc_law.nd) (sgs_cons (sg_name 6 sc_law.nd) (sgs_cons (sg_name 7 sc_law.nd) (sgs_cons (sg_name 8 sc_law.nd) sgs_nil)))))) (ss_cons (s1_if (st_w (sw_or (st_ne hr.units (se_sb (se_callH h_dot (hr.mono (by decide)) hx (sa_cons (se_callH h_cross (hr.mono (by decide)) hx (sa_cons (se_var 5) (sa_cons (se_var 6) sa_nil)) (cnt_cons (cnt_cons cnt_nil))) (sa_cons (se_callH h_cross (hr.mono (by decide)) hx (sa_cons (se_var 7) (sa_cons (se_var 8) sa_nil)) (cnt_cons (cnt_cons cnt_nil))) sa_nil)) (cnt_cons (cnt_cons cnt_nil)))) (se_sb (se_sub (se_sb (se_mul (se_sb (se_callH h_dot (hr.mono (by decide)) hx (sa_cons (se_var 5) (sa_cons (se_var 7) sa_nil)) (cnt_cons (cnt_cons cnt_nil)))) (se_sb (se_callH h_dot (hr.mono (by decide)) hx (sa_cons (se_var 6) (sa_cons (se_var 8) sa_nil)) (cnt_cons (cnt_cons cnt_nil)))))) (se_sb (se_mul (se_sb (se_callH h_dot (hr.mono (by decide)) hx (sa_cons (se_var 5) (sa_cons (se_var 8) sa_nil)) (cnt_cons (cnt_cons cnt_nil)))) (se_sb (se_callH h_dot (hr.mono (by decide)) hx (sa_cons (se_var 6) (sa_cons (se_var 7) sa_nil)) (cnt_cons (cnt_cons cnt_nil))))))))) (sw_or (st_ne hr.units (se_sb (se_callH h_dot (hr.mono (by decide)) hx (sa_cons (se_callH h_cross (hr.mono (by decide)) hx (sa_cons (se_var 5) (sa_cons (se_var 6) sa_nil)) (cnt_cons (cnt_cons cnt_nil))) (sa_cons (se_var 5) sa_nil)) (cnt_cons (cnt_cons cnt_nil)))) (se_sb se_int)) (sw_or1 (st_ne hr.units (se_sb (se_tuple (se_sb (se_callH h_cross (hr.mono (by decide)) hx (sa_cons (se_var 5) (sa_cons (se_var 6) sa_nil)) (cnt_cons (cnt_cons cnt_nil)))) rfl m_tuple)) (se_sb (se_tuple (se_sb (se_callH h_times (hr.mono (by decide)) hx (sa_cons (se_sub (se_sb se_int) (se_sb se_int)) (sa_cons (se_callH h_cross (hr.mono (by decide)) hx (sa_cons (se_var 6) (sa_cons (se_var 5) sa_nil)) (cnt_cons (cnt_cons cnt_nil))) sa_nil)) (cnt_cons (cnt_cons cnt_nil)))) rfl m_tuple))))))) (ss_one (s1_ret se_bl)) ss_nil) (ss_cons (s1_if (st_w (sw_or (st_ne hr.units (se_sb (se_tuple (se_sb (se_callH h_plus (hr.mono (by decide)) hx (sa_cons (se_callH h_plus (hr.mono (by decide)) hx (sa_cons (se_callH h_cross (hr.mono (by decide)) hx (sa_cons (se_var 5) (sa_cons (se_callH h_cross (hr.mono (by decide)) hx (sa_cons (se_var 6) (sa_cons (se_var 7) sa_nil)) (cnt_cons (cnt_cons cnt_nil))) sa_nil)) (cnt_cons (cnt_cons cnt_nil))) (sa_cons (se_callH h_cross (hr.mono (by decide)) hx (sa_cons (se_var 6) (sa_cons (se_callH h_cross (hr.mono (by decide)) hx (sa_cons (se_var 7) (sa_cons (se_var 5) sa_nil)) (cnt_cons (cnt_cons cnt_nil))) sa_nil)) (cnt_cons (cnt_cons cnt_nil))) sa_nil)) (cnt_cons (cnt_cons cnt_nil))) (sa_cons (se_callH h_cross (hr.mono (by decide)) hx (sa_cons (se_var 7) (sa_cons (se_callH h_cross (hr.mono (by decide)) hx (sa_cons (se_var 5) (sa_cons (se_var 6) sa_nil)) (cnt_cons (cnt_cons cnt_nil))) sa_nil)) (cnt_cons (cnt_cons cnt_nil))) sa_nil)) (cnt_cons (cnt_cons cnt_nil)))) rfl m_tuple)) (se_sb (se_tup (sa_cons se_int (sa_cons se_int (sa_cons se_int sa_nil)))))) (sw_or (st_ne hr.units (se_sb (se_callH h_det (hr.mono (by decide)) hx (sa_cons (se_var 5) (sa_cons (se_var 6) (sa_cons (se_var 7) sa_nil))) (cnt_cons (cnt_cons (cnt_cons cnt_nil))))) (se_sb (se_callH h_det (hr.mono (by decide)) hx (sa_cons (se_var 6) (sa_cons (se_var 7) (sa_cons (se_var 5) sa_nil))) (cnt_cons (cnt_cons (cnt_cons cnt_nil)))))) (sw_or (st_ne hr.units (se_sb (se_callH h_det (hr.mono (by decide)) hx (sa_cons (se_var 5) (sa_cons (se_var 6) (sa_cons (se_var 7) sa_nil))) (cnt_cons (cnt_cons (cnt_cons cnt_nil))))) (se_sb (se_sub (se_sb se_int) (se_sb (se_callH h_det (hr.mono (by decide)) hx (sa_cons (se_var 6) (sa_cons (se_var 5) (sa_cons (se_var 7) sa_nil))) (cnt_cons (cnt_cons (cnt_cons cnt_nil)))))))) (sw_or1 (st_ne hr.units (se_sb (se_callH h_det (hr.mono (by decide)) hx (sa_cons (se_var 5) (sa_cons (se_var 6) (sa_cons (se_callH h_plus (hr.mono (by decide)) hx (sa_cons (se_var 7) (sa_cons (se_callH h_times (hr.mono (by decide)) hx (sa_cons se_int (sa_cons (se_var 5) sa_nil)) (cnt_cons (cnt_cons cnt_nil))) sa_nil)) (cnt_cons (cnt_cons cnt_nil))) sa_nil))) (cnt_cons (cnt_cons (cnt_cons cnt_nil))))) (se_sb (se_callH h_det (hr.mono (by decide)) hx (sa_cons (se_var 5) (sa_cons (se_var 6) (sa_cons (se_var 7) sa_nil))) (cnt_cons (cnt_cons (cnt_cons cnt_nil))))))))))) (ss_one (s1_ret se_bl)) ss_nil) (ss_cons (s1_set 3 sc_law.nd (se_add (se_sb (se_callH h_dot (hr.mono (by decide)) hx (sa_cons (se_callH h_cross (hr.mono (by decide)) hx (sa_cons (se_var 5) (sa_cons (se_var 6) sa_nil)) (cnt_cons (cnt_cons cnt_nil))) (sa_cons (se_callH h_cross (hr.mono (by decide)) hx (sa_cons (se_var 5) (sa_cons (se_var 6) sa_nil)) (cnt_cons (cnt_cons cnt_nil))) sa_nil)) (cnt_cons (cnt_cons cnt_nil)))) (se_sb (se_mul (se_sb (se_callH h_dot (hr.mono (by decide)) hx (sa_cons (se_var 5) (sa_cons (se_var 6) sa_nil)) (cnt_cons (cnt_cons cnt_nil)))) (se_sb (se_callH h_dot (hr.mono (by decide)) hx (sa_cons (se_var 5) (sa_cons (se_var 6) sa_nil)) (cnt_cons (cnt_cons cnt_nil)))))))) (ss_cons (s1_if (st_w (sw_or (st_ne hr.units (se_sb (se_var 3)) (se_sb (se_mul (se_sb (se_callH h_dot (hr.mono (by decide)) hx (sa_cons (se_var 5) (sa_cons (se_var 5) sa_nil)) (cnt_cons (cnt_cons cnt_nil)))) (se_sb (se_callH h_dot (hr.mono (by decide)) hx (sa_cons (se_var 6) (sa_cons (se_var 6) sa_nil)) (cnt_cons (cnt_cons cnt_nil))))))) (sw_or (st_ne hr.units (se_sb (se_isN (se_sb (se_callH h_root (hr.mono (by decide)) hx (sa_cons (se_var 3) sa_nil) (cnt_cons cnt_nil))) (se_sb se_non))) (se_sb (se_isN (se_sb (se_callH h_ratio (hr.mono (by decide)) hx (sa_cons (se_var 5) (sa_cons (se_var 6) sa_nil)) (cnt_cons (cnt_cons cnt_nil)))) (se_sb se_non)))) (sw_or1 (st_ne hr.units (se_sb (se_callH h_is_on_line (hr.mono (by decide)) hx (sa_cons (se_var 5) (sa_cons (se_var 6) sa_nil)) (cnt_cons (cnt_cons cnt_nil)))) (se_sb (se_eq hr.units (se_sb (se_mul (se_sb (se_callH h_dot (hr.mono (by decide)) hx (sa_cons (se_var 5) (sa_cons (se_var 6) sa_nil)) (cnt_cons (cnt_cons cnt_nil)))) (se_sb (se_callH h_dot (hr.mono (by decide)) hx (sa_cons (se_var 5) (sa_cons (se_var 6) sa_nil)) (cnt_cons (cnt_cons cnt_nil)))))) (se_sb (se_var 3))))))))) (ss_one (s1_ret se_bl)) ss_nil) (ss_cons (s1_par3 9 10 11 rfl sc_law.nd (se_callH h_ratio (hr.mono (by decide)) hx (sa_cons (se_var 5) (sa_cons (se_var 6) sa_nil)) (cnt_cons (cnt_cons cnt_nil))) (se_callH h_ratio (hr.mono (by decide)) hx (sa_cons (se_var 6) (sa_cons (se_var 7) sa_nil)) (cnt_cons (cnt_cons cnt_nil))) (se_callH h_ratio (hr.mono (by decide)) hx (sa_cons (se_var 5) (sa_cons (se_var 7) sa_nil)) (cnt_cons (cnt_cons cnt_nil)))) (ss_cons (s1_if (st_w (sw_and (st_notN (se_sb (se_var 9)) (se_sb se_non)) (sw_and (st_notN (se_sb (se_var 10)) (se_sb se_non)) (sw_and1 (st_w (sw_or (st_isN (se_sb (se_var 11)) (se_sb se_non)) (sw_or1 (st_ne hr.units (se_sb (se_mul (se_sb (se_mul (se_sb (se_ix (se_sb (se_var 11)) se_int (fun _ _ => rfl))) (se_sb (se_ix (se_sb (se_var 9)) se_int (fun _ _ => rfl))))) (se_sb (se_ix (se_sb (se_var 10)) se_int (fun _ _ => rfl))))) (se_sb (se_mul (se_sb (se_mul (se_sb (se_ix (se_sb (se_var 9)) se_int (fun _ _ => rfl))) (se_sb (se_ix (se_sb (se_var 10)) se_int (fun _ _ => rfl))))) (se_sb (se_ix (se_sb (se_var 11)) se_int (fun _ _ => rfl))))))))))))) (ss_one (s1_ret se_bl)) ss_nil) (ss_cons (s1_if (st_w (sw_and (st_notN (se_sb (se_var 9)) (se_sb se_non)) (sw_and1 (st_w (sw_or (st_ne hr.units (se_sb (se_callH h_ratio (hr.mono (by decide)) hx (sa_cons (se_var 6) (sa_cons (se_var 5) sa_nil)) (cnt_cons (cnt_cons cnt_nil)))) (se_sb (se_tup (sa_cons (se_ix (se_sb (se_var 9)) se_int (fun _ _ => rfl)) (sa_cons (se_ix (se_sb (se_var 9)) se_int (fun _ _ => rfl)) sa_nil))))) (sw_or (st_ne hr.units (se_sb (se_mul (se_sb (se_ix (se_sb (se_callH h_ratio (hr.mono (by decide)) hx (sa_cons (se_callH h_times (hr.mono (by decide)) hx (sa_cons se_int (sa_cons (se_var 5) sa_nil)) (cnt_cons (cnt_cons cnt_nil))) (sa_cons (se_var 6) sa_nil)) (cnt_cons (cnt_cons cnt_nil)))) se_int (fun _ _ => rfl))) (se_sb (se_ix (se_sb (se_var 9)) se_int (fun _ _ => rfl))))) (se_sb (se_mul (se_sb (se_mul (se_sb se_int) (se_sb (se_ix (se_sb (se_var 9)) se_int (fun _ _ => rfl))))) (se_sb (se_ix (se_sb (se_callH h_ratio (hr.mono (by decide)) hx (sa_cons (se_callH h_times (hr.mono (by decide)) hx (sa_cons se_int (sa_cons (se_var 5) sa_nil)) (cnt_cons (cnt_cons cnt_nil))) (sa_cons (se_var 6) sa_nil)) (cnt_cons (cnt_cons cnt_nil)))) se_int (fun _ _ => rfl)))))) (sw_or1 (st_ne hr.units (se_sb (se_mul (se_sb (se_mul (se_sb (se_ix (se_sb (se_var 9)) se_int (fun _ _ => rfl))) (se_sb (se_ix (se_sb (se_var 9)) se_int (fun _ _ => rfl))))) (se_sb (se_callH h_dot (hr.mono (by decide)) hx (sa_cons (se_var 6) (sa_cons (se_var 6) sa_nil)) (cnt_cons (cnt_cons cnt_nil)))))) (se_sb (se_mul (se_sb (se_mul (se_sb (se_ix (se_sb (se_var 9)) se_int (fun _ _ => rfl))) (se_sb (se_ix (se_sb (se_var 9)) se_int (fun _ _ => rfl))))) (se_sb (se_callH h_dot (hr.mono (by decide)) hx (sa_cons (se_var 5) (sa_cons (se_var 5) sa_nil)) (cnt_cons (cnt_cons cnt_nil)))))))))))))) (ss_one (s1_ret se_bl)) ss_nil) (ss_cons (s1_set 4 sc_law.nd (se_add (se_sb se_int) (se_sb (se_callH h__law_take (hr.mono (by decide)) hx (sa_cons (se_var 1) (sa_cons se_int sa_nil)) (cnt_cons (cnt_cons cnt_nil)))))) (ss_cons (s1_if (st_w (sw_or (st_ne hr.units (se_sb (se_callH h_least (hr.mono (by decide)) hx (sa_cons (se_callH h_times (hr.mono (by decide)) hx (sa_cons (se_var 4) (sa_cons (se_var 5) sa_nil)) (cnt_cons (cnt_cons cnt_nil))) sa_nil) (cnt_cons cnt_nil))) (se_sb (se_callH h_least (hr.mono (by decide)) hx (sa_cons (se_var 5) sa_nil) (cnt_cons cnt_nil)))) (sw_or (st_not (st_val (se_callH h_is_same (hr.mono (by decide)) hx (sa_cons (se_callH h_times (hr.mono (by decide)) hx (sa_cons (se_var 4) (sa_cons (se_var 5) sa_nil)) (cnt_cons (cnt_cons cnt_nil))) (sa_cons (se_var 5) sa_nil)) (cnt_cons (cnt_cons cnt_nil))))) (sw_or (st_ne hr.units (se_sb (se_callH h_least (hr.mono (by decide)) hx (sa_cons (se_callH h_opposite (hr.mono (by decide)) hx (sa_cons (se_var 5) sa_nil) (cnt_cons cnt_nil)) sa_nil) (cnt_cons cnt_nil))) (se_sb (se_callH h_opposite (hr.mono (by decide)) hx (sa_cons (se_var 5) sa_nil) (cnt_cons cnt_nil)))) (sw_or (st_ne hr.units (se_sb (se_callH h_opposite (hr.mono (by decide)) hx (sa_cons (se_callH h_opposite (hr.mono (by decide)) hx (sa_cons (se_var 5) sa_nil) (cnt_cons cnt_nil)) sa_nil) (cnt_cons cnt_nil))) (se_sb (se_callH h_least (hr.mono (by decide)) hx (sa_cons (se_var 5) sa_nil) (cnt_cons cnt_nil)))) (sw_or1 (st_ne hr.units (se_sb (se_callH h_angle_sign (hr.mono (by decide)) hx (sa_cons (se_var 5) (sa_cons (se_callH h_opposite (hr.mono (by decide)) hx (sa_cons (se_var 6) sa_nil) (cnt_cons cnt_nil)) sa_nil)) (cnt_cons (cnt_cons cnt_nil)))) (se_sb (se_sub (se_sb se_int) (se_sb (se_callH h_angle_sign (hr.mono (by decide)) hx (sa_cons (se_var 5) (sa_cons (se_var 6) sa_nil)) (cnt_cons (cnt_cons cnt_nil))))))))))))) (ss_one (s1_ret se_bl)) ss_nil) (ss_one (s1_if (st_not (st_val (se_callH h_is_on_line (hr.mono (by decide)) hx (sa_cons (se_var 5) (sa_cons (se_var 6) sa_nil)) (cnt_cons (cnt_cons cnt_nil))))) (ss_cons (s1_set 12 sc_law.nd (se_callH h_plus (hr.mono (by decide)) hx (sa_cons (se_callH h_times (hr.mono (by decide)) hx (sa_cons (se_var 4) (sa_cons (se_var 5) sa_nil)) (cnt_cons (cnt_cons cnt_nil))) (sa_cons (se_callH h_times (hr.mono (by decide)) hx (sa_cons (se_add (se_sb se_int) (se_sb (se_callH h__law_take (hr.mono (by decide)) hx (sa_cons (se_var 1) (sa_cons se_int sa_nil)) (cnt_cons (cnt_cons cnt_nil))))) (sa_cons (se_var 6) sa_nil)) (cnt_cons (cnt_cons cnt_nil))) sa_nil)) (cnt_cons (cnt_cons cnt_nil)))) (ss_cons (s1_if (st_w (sw_or (st_not (st_val (se_callH h_is_between (hr.mono (by decide)) hx (sa_cons (se_var 5) (sa_cons (se_var 12) (sa_cons (se_var 6) sa_nil))) (cnt_cons (cnt_cons (cnt_cons cnt_nil)))))) (sw_or (st_not (st_val (se_callH h_is_between (hr.mono (by decide)) hx (sa_cons (se_var 6) (sa_cons (se_var 12) (sa_cons (se_var 5) sa_nil))) (cnt_cons (cnt_cons (cnt_cons cnt_nil)))))) (sw_or (st_val (se_callH h_is_between (hr.mono (by decide)) hx (sa_cons (se_var 5) (sa_cons (se_callH h_opposite (hr.mono (by decide)) hx (sa_cons (se_var 12) sa_nil) (cnt_cons cnt_nil)) (sa_cons (se_var 6) sa_nil))) (cnt_cons (cnt_cons (cnt_cons cnt_nil))))) (sw_or (st_val (se_callH h_is_between (hr.mono (by decide)) hx (sa_cons (se_var 12) (sa_cons (se_var 5) (sa_cons (se_var 6) sa_nil))) (cnt_cons (cnt_cons (cnt_cons cnt_nil))))) (sw_or (st_val (se_callH h_is_between (hr.mono (by decide)) hx (sa_cons (se_var 5) (sa_cons (se_var 5) (sa_cons (se_var 6) sa_nil))) (cnt_cons (cnt_cons (cnt_cons cnt_nil))))) (sw_or1 (st_val (se_callH h_is_between (hr.mono (by decide)) hx (sa_cons (se_var 5) (sa_cons (se_callH h_cross (hr.mono (by decide)) hx (sa_cons (se_var 5) (sa_cons (se_var 6) sa_nil)) (cnt_cons (cnt_cons cnt_nil))) (sa_cons (se_var 6) sa_nil))) (cnt_cons (cnt_cons (cnt_cons cnt_nil)))))))))))) (ss_one (s1_ret se_bl)) ss_nil) (ss_one (s1_if (st_w (sw_or (st_not (st_val (se_callH h_are_alike (hr.mono (by decide)) hx (sa_cons (se_var 5) (sa_cons (se_var 6) (sa_cons (se_callH h_times (hr.mono (by decide)) hx (sa_cons (se_var 4) (sa_cons (se_var 5) sa_nil)) (cnt_cons (cnt_cons cnt_nil))) (sa_cons (se_callH h_times (hr.mono (by decide)) hx (sa_cons se_int (sa_cons (se_var 6) sa_nil)) (cnt_cons (cnt_cons cnt_nil))) sa_nil)))) (cnt_cons (cnt_cons (cnt_cons (cnt_cons cnt_nil))))))) (sw_or (st_w (sw_and (st_not (st_val (se_callH h_are_alike (hr.mono (by decide)) hx (sa_cons (se_var 5) (sa_cons (se_var 6) (sa_cons (se_var 6) (sa_cons (se_var 5) sa_nil)))) (cnt_cons (cnt_cons (cnt_cons (cnt_cons cnt_nil))))))) (sw_and1 (st_notN (se_sb (se_callH h_ratio (hr.mono (by decide)) hx (sa_cons (se_var 5) (sa_cons (se_var 6) sa_nil)) (cnt_cons (cnt_cons cnt_nil)))) (se_sb se_non))))) (sw_or1 (st_w (sw_and (st_val (se_callH h_are_alike (hr.mono (by decide)) hx (sa_cons (se_var 5) (sa_cons (se_var 6) (sa_cons (se_var 5) (sa_cons (se_callH h_opposite (hr.mono (by decide)) hx (sa_cons (se_var 6) sa_nil) (cnt_cons cnt_nil)) sa_nil)))) (cnt_cons (cnt_cons (cnt_cons (cnt_cons cnt_nil)))))) (sw_and1 (st_ne hr.units (se_sb (se_callH h_dot (hr.mono (by decide)) hx (sa_cons (se_var 5) (sa_cons (se_var 6) sa_nil)) (cnt_cons (cnt_cons cnt_nil)))) (se_sb se_int))))))))) (ss_one (s1_ret se_bl)) ss_nil)))) ss_nil))))))))))))) (ss_one (s1_ret (se_eq hr.units (se_sb (se_sf (sf_lc (own := [("number", 14)]) rfl sc_law.nd (si_range1 se_int rfl m_range) (blkOk_by (N := N_law) (sc := defScope s_law) (by decide +kernel)) (fun _ _ _ _ _ => (sg_name 14 sc_law.nd)) (fun _ _ _ _ _ => sts_nil) (fun _ _ _ _ _ => (se_callH h_root (hr.mono (by decide)) passL (sa_cons (se_var 14) sa_nil) (cnt_cons cnt_nil)))) lsts_lc)) (se_sb (se_lst (sa_cons se_int (sa_cons se_int (sa_cons se_non (sa_cons se_non (sa_cons se_int (sa_cons se_non (sa_cons se_non (sa_cons se_non (sa_cons se_non (sa_cons se_int (sa_cons se_non (sa_cons se_non (sa_cons se_non (sa_cons se_non (sa_cons se_non (sa_cons se_non (sa_cons se_int sa_nil))))))))))))))))))))))))⟩
end
/-! the head -/
def fD (x : Str) (i : Nat) : He.DefD := ⟨(x, none), x, x, defArgs (top i), defBody (top i), defScope (top i), [], []⟩
def fn : List He.DefD := [fD "_law_number" 26, fD "_law_take" 27, fD "_law_pick" 28, fD "_law_sky" 29, fD "dot" 13, fD "cross" 14, fD "times" 17, fD "plus" 16, fD "det" 15, fD "root" 19, fD "is_integer" 4, fD "is_triple" 8, fD "check_triple" 9, fD "common" 5, fD "lowest" 6, fD "ratio" 20, fD "is_on_line" 18, fD "least" 10, fD "is_same" 11, fD "opposite" 12, fD "angle_sign" 23, fD "is_between" 24, fD "size_of" 22, fD "are_alike" 21, fD "law" 30]
def fa : List He.Fa := [.glo "_law_number", .glo "_law_take", .glo "_law_pick", .glo "_law_sky", .glo "dot", .glo "cross", .glo "times", .glo "plus", .glo "det", .glo "root", .glo "is_integer", .glo "is_triple", .glo "check_triple", .glo "common", .glo "lowest", .glo "ratio", .glo "is_on_line", .glo "least", .glo "is_same", .glo "opposite", .glo "angle_sign", .glo "is_between", .glo "size_of", .glo "are_alike", .glo "law", .free "abs", .free "all", .free "bool", .free "int", .free "isinstance", .free "len", .free "range", .free "sum", .free "tuple", .free "zip"]
abbrev R : PySem.W.OpenRow := PySem.W.OpenLaw.row PySem.Challenge.rw_skyplaced_k48_numbers_of_triples
abbrev hk : PySem.W.Hook := He.hookD 4 fa fn
def ob (s : PySem.W.SharedT) : He.AlD := He.obsDG 4 fa fn (HandSHeadRun.getT s)
theorem ob_eq (s : PySem.W.SharedT) : ob s = hk.obs s.abs := He.obsDG_eq (HandSHeadRun.getT_eq s)
theorem run (w : World) : HandSHeadRun.RunEq R (PySem.W.view R.prog [30]) hk ob 6000 ["SkyError", "BadPart", "is_integer", "common", "lowest", "is_triple", "check_triple", "least", "is_same", "opposite", "dot", "cross", "det", "plus", "times", "is_on_line", "root", "ratio", "are_alike", "size_of", "angle_sign", "is_between", "_law_number", "_law_take", "_law_pick", "_law_sky"] w := by
  intro os
  kernel_rfl
theorem facts {P : Program} {w : World} {K : PySem.W.Frag} {h : Heap} {mg : Str → Option Value} {f : Addr} {L : Ly} (X : K.In h) (G : h.Ns mainGlobals mg) (hfa : mg ("law" : Str) = some (.ref f)) (c : He.SaysD fa fn K) :
    ∃ fd : FuncData, (∀ (s : Shared) (v : Value), BindsTo s fd ⟨[v], []⟩ [("script", v)]) ∧ ∀ base : Heap, FnOk P w K mg base (L2.CX P w) 6 f fd ["script"] (spM K L 1 f_law) := by
  obtain ⟨fd__law_number, F__law_number⟩ := c.def_ 0 (d := fD "_law_number" 26) rfl
  have g__law_number : mg "_law_number" = some (.ref (He.ga K "_law_number")) := He.glo_ok X G (c.fact 0 (f := .glo "_law_number") rfl)
  obtain ⟨fd__law_take, F__law_take⟩ := c.def_ 1 (d := fD "_law_take" 27) rfl
  have g__law_take : mg "_law_take" = some (.ref (He.ga K "_law_take")) := He.glo_ok X G (c.fact 1 (f := .glo "_law_take") rfl)
  obtain ⟨fd__law_pick, F__law_pick⟩ := c.def_ 2 (d := fD "_law_pick" 28) rfl
  have g__law_pick : mg "_law_pick" = some (.ref (He.ga K "_law_pick")) := He.glo_ok X G (c.fact 2 (f := .glo "_law_pick") rfl)
  obtain ⟨fd__law_sky, F__law_sky⟩ := c.def_ 3 (d := fD "_law_sky" 29) rfl
  have g__law_sky : mg "_law_sky" = some (.ref (He.ga K "_law_sky")) := He.glo_ok X G (c.fact 3 (f := .glo "_law_sky") rfl)
  obtain ⟨fd_dot, F_dot⟩ := c.def_ 4 (d := fD "dot" 13) rfl
  have g_dot : mg "dot" = some (.ref (He.ga K "dot")) := He.glo_ok X G (c.fact 4 (f := .glo "dot") rfl)
  obtain ⟨fd_cross, F_cross⟩ := c.def_ 5 (d := fD "cross" 14) rfl
  have g_cross : mg "cross" = some (.ref (He.ga K "cross")) := He.glo_ok X G (c.fact 5 (f := .glo "cross") rfl)
  obtain ⟨fd_times, F_times⟩ := c.def_ 6 (d := fD "times" 17) rfl
  have g_times : mg "times" = some (.ref (He.ga K "times")) := He.glo_ok X G (c.fact 6 (f := .glo "times") rfl)
  obtain ⟨fd_plus, F_plus⟩ := c.def_ 7 (d := fD "plus" 16) rfl
  have g_plus : mg "plus" = some (.ref (He.ga K "plus")) := He.glo_ok X G (c.fact 7 (f := .glo "plus") rfl)
  obtain ⟨fd_det, F_det⟩ := c.def_ 8 (d := fD "det" 15) rfl
  have g_det : mg "det" = some (.ref (He.ga K "det")) := He.glo_ok X G (c.fact 8 (f := .glo "det") rfl)
  obtain ⟨fd_root, F_root⟩ := c.def_ 9 (d := fD "root" 19) rfl
  have g_root : mg "root" = some (.ref (He.ga K "root")) := He.glo_ok X G (c.fact 9 (f := .glo "root") rfl)
  obtain ⟨fd_is_integer, F_is_integer⟩ := c.def_ 10 (d := fD "is_integer" 4) rfl
  have g_is_integer : mg "is_integer" = some (.ref (He.ga K "is_integer")) := He.glo_ok X G (c.fact 10 (f := .glo "is_integer") rfl)
  obtain ⟨fd_is_triple, F_is_triple⟩ := c.def_ 11 (d := fD "is_triple" 8) rfl
  have g_is_triple : mg "is_triple" = some (.ref (He.ga K "is_triple")) := He.glo_ok X G (c.fact 11 (f := .glo "is_triple") rfl)
  obtain ⟨fd_check_triple, F_check_triple⟩ := c.def_ 12 (d := fD "check_triple" 9) rfl
  have g_check_triple : mg "check_triple" = some (.ref (He.ga K "check_triple")) := He.glo_ok X G (c.fact 12 (f := .glo "check_triple") rfl)
  obtain ⟨fd_common, F_common⟩ := c.def_ 13 (d := fD "common" 5) rfl
  have g_common : mg "common" = some (.ref (He.ga K "common")) := He.glo_ok X G (c.fact 13 (f := .glo "common") rfl)
  obtain ⟨fd_lowest, F_lowest⟩ := c.def_ 14 (d := fD "lowest" 6) rfl
  have g_lowest : mg "lowest" = some (.ref (He.ga K "lowest")) := He.glo_ok X G (c.fact 14 (f := .glo "lowest") rfl)
  obtain ⟨fd_ratio, F_ratio⟩ := c.def_ 15 (d := fD "ratio" 20) rfl
  have g_ratio : mg "ratio" = some (.ref (He.ga K "ratio")) := He.glo_ok X G (c.fact 15 (f := .glo "ratio") rfl)
  obtain ⟨fd_is_on_line, F_is_on_line⟩ := c.def_ 16 (d := fD "is_on_line" 18) rfl
  have g_is_on_line : mg "is_on_line" = some (.ref (He.ga K "is_on_line")) := He.glo_ok X G (c.fact 16 (f := .glo "is_on_line") rfl)
  obtain ⟨fd_least, F_least⟩ := c.def_ 17 (d := fD "least" 10) rfl
  have g_least : mg "least" = some (.ref (He.ga K "least")) := He.glo_ok X G (c.fact 17 (f := .glo "least") rfl)
  obtain ⟨fd_is_same, F_is_same⟩ := c.def_ 18 (d := fD "is_same" 11) rfl
  have g_is_same : mg "is_same" = some (.ref (He.ga K "is_same")) := He.glo_ok X G (c.fact 18 (f := .glo "is_same") rfl)
  obtain ⟨fd_opposite, F_opposite⟩ := c.def_ 19 (d := fD "opposite" 12) rfl
  have g_opposite : mg "opposite" = some (.ref (He.ga K "opposite")) := He.glo_ok X G (c.fact 19 (f := .glo "opposite") rfl)
  obtain ⟨fd_angle_sign, F_angle_sign⟩ := c.def_ 20 (d := fD "angle_sign" 23) rfl
  have g_angle_sign : mg "angle_sign" = some (.ref (He.ga K "angle_sign")) := He.glo_ok X G (c.fact 20 (f := .glo "angle_sign") rfl)
  obtain ⟨fd_is_between, F_is_between⟩ := c.def_ 21 (d := fD "is_between" 24) rfl
  have g_is_between : mg "is_between" = some (.ref (He.ga K "is_between")) := He.glo_ok X G (c.fact 21 (f := .glo "is_between") rfl)
  obtain ⟨fd_size_of, F_size_of⟩ := c.def_ 22 (d := fD "size_of" 22) rfl
  have g_size_of : mg "size_of" = some (.ref (He.ga K "size_of")) := He.glo_ok X G (c.fact 22 (f := .glo "size_of") rfl)
  obtain ⟨fd_are_alike, F_are_alike⟩ := c.def_ 23 (d := fD "are_alike" 21) rfl
  have g_are_alike : mg "are_alike" = some (.ref (He.ga K "are_alike")) := He.glo_ok X G (c.fact 23 (f := .glo "are_alike") rfl)
  obtain ⟨fd_law, F_law⟩ := c.def_ 24 (d := fD "law" 30) rfl
  have g_law : mg "law" = some (.ref (He.ga K "law")) := He.glo_ok X G (c.fact 24 (f := .glo "law") rfl)
  have m_abs : mg "abs" = none := He.free_ok X G (c.fact 25 (f := .free "abs") rfl)
  have m_all : mg "all" = none := He.free_ok X G (c.fact 26 (f := .free "all") rfl)
  have m_bool : mg "bool" = none := He.free_ok X G (c.fact 27 (f := .free "bool") rfl)
  have m_int : mg "int" = none := He.free_ok X G (c.fact 28 (f := .free "int") rfl)
  have m_isinstance : mg "isinstance" = none := He.free_ok X G (c.fact 29 (f := .free "isinstance") rfl)
  have m_len : mg "len" = none := He.free_ok X G (c.fact 30 (f := .free "len") rfl)
  have m_range : mg "range" = none := He.free_ok X G (c.fact 31 (f := .free "range") rfl)
  have m_sum : mg "sum" = none := He.free_ok X G (c.fact 32 (f := .free "sum") rfl)
  have m_tuple : mg "tuple" = none := He.free_ok X G (c.fact 33 (f := .free "tuple") rfl)
  have m_zip : mg "zip" = none := He.free_ok X G (c.fact 34 (f := .free "zip") rfl)
  have e := hfa.symm.trans g_law
  cases e
  have b := FunD.bindsA (ps := ["script"]) F_law fun _ _ _ _ _ _ us hl => match us, hl with | [_], _ => rfl
  refine ⟨fd_law, fun s v => b s [v] rfl, fun base => ?_⟩
  have h__law_number : HasFn P w K L mg base "_law_number" ["script", "index"] 1 2 f__law_number := ok__law_number ⟨_, fd__law_number, F__law_number, g__law_number⟩ m_len m_range m_int
  have h__law_take : HasFn P w K L mg base "_law_take" ["draw", "many"] 2 2 f__law_take := ok__law_take ⟨_, fd__law_take, F__law_take, g__law_take⟩ h__law_number m_int
  have h__law_pick : HasFn P w K L mg base "_law_pick" ["draw", "items"] 3 2 f__law_pick := ok__law_pick ⟨_, fd__law_pick, F__law_pick, g__law_pick⟩ h__law_take m_len
  have h__law_sky : HasFn P w K L mg base "_law_sky" ["draw"] 4 1 f__law_sky := ok__law_sky ⟨_, fd__law_sky, F__law_sky, g__law_sky⟩ h__law_take h__law_pick m_tuple
  have h_dot : HasFn P w K L mg base "dot" ["one", "other"] 1 2 f_dot := ok_dot ⟨_, fd_dot, F_dot, g_dot⟩ m_sum m_zip
  have h_cross : HasFn P w K L mg base "cross" ["one", "other"] 1 2 f_cross := ok_cross ⟨_, fd_cross, F_cross, g_cross⟩ 
  have h_times : HasFn P w K L mg base "times" ["factor", "triple"] 1 2 f_times := ok_times ⟨_, fd_times, F_times, g_times⟩ m_tuple
  have h_plus : HasFn P w K L mg base "plus" ["one", "other"] 1 2 f_plus := ok_plus ⟨_, fd_plus, F_plus, g_plus⟩ m_tuple m_zip
  have h_det : HasFn P w K L mg base "det" ["one", "other", "third"] 2 3 f_det := ok_det ⟨_, fd_det, F_det, g_det⟩ h_dot h_cross
  have h_root : HasFn P w K L mg base "root" ["number"] 1 1 f_root := ok_root ⟨_, fd_root, F_root, g_root⟩ 
  have h_is_integer : HasFn P w K L mg base "is_integer" ["thing"] 1 1 f_is_integer := ok_is_integer ⟨_, fd_is_integer, F_is_integer, g_is_integer⟩ m_isinstance m_int m_bool
  have h_is_triple : HasFn P w K L mg base "is_triple" ["thing"] 2 1 f_is_triple := ok_is_triple ⟨_, fd_is_triple, F_is_triple, g_is_triple⟩ h_is_integer m_isinstance m_tuple m_len m_all
  have h_check_triple : HasFn P w K L mg base "check_triple" ["part", "thing"] 3 2 f_check_triple := ok_check_triple ⟨_, fd_check_triple, F_check_triple, g_check_triple⟩ h_is_triple
  have h_common : HasFn P w K L mg base "common" ["one", "other"] 1 2 f_common := ok_common ⟨_, fd_common, F_common, g_common⟩ m_abs
  have h_lowest : HasFn P w K L mg base "lowest" ["above", "below"] 2 2 f_lowest := ok_lowest ⟨_, fd_lowest, F_lowest, g_lowest⟩ h_common
  have h_ratio : HasFn P w K L mg base "ratio" ["one", "other"] 4 2 f_ratio := ok_ratio ⟨_, fd_ratio, F_ratio, g_ratio⟩ h_check_triple h_root h_dot h_lowest
  have h_is_on_line : HasFn P w K L mg base "is_on_line" ["one", "other"] 2 2 f_is_on_line := ok_is_on_line ⟨_, fd_is_on_line, F_is_on_line, g_is_on_line⟩ h_cross
  have h_least : HasFn P w K L mg base "least" ["direction"] 4 1 f_least := ok_least ⟨_, fd_least, F_least, g_least⟩ h_check_triple h_common m_tuple
  have h_is_same : HasFn P w K L mg base "is_same" ["one", "other"] 5 2 f_is_same := ok_is_same ⟨_, fd_is_same, F_is_same, g_is_same⟩ h_least
  have h_opposite : HasFn P w K L mg base "opposite" ["direction"] 5 1 f_opposite := ok_opposite ⟨_, fd_opposite, F_opposite, g_opposite⟩ h_least m_tuple
  have h_angle_sign : HasFn P w K L mg base "angle_sign" ["one", "other"] 4 2 f_angle_sign := ok_angle_sign ⟨_, fd_angle_sign, F_angle_sign, g_angle_sign⟩ h_check_triple h_dot
  have h_is_between : HasFn P w K L mg base "is_between" ["one", "middle", "other"] 2 3 f_is_between := ok_is_between ⟨_, fd_is_between, F_is_between, g_is_between⟩ h_cross h_dot
  have h_size_of : HasFn P w K L mg base "size_of" ["one", "other"] 2 2 f_size_of := ok_size_of ⟨_, fd_size_of, F_size_of, g_size_of⟩ h_dot
  have h_are_alike : HasFn P w K L mg base "are_alike" ["one", "other", "late", "after"] 5 4 f_are_alike := ok_are_alike ⟨_, fd_are_alike, F_are_alike, g_are_alike⟩ h_dot h_size_of h_ratio
  exact okf_law F_law h__law_sky h_dot h_cross h_times h_plus h_det h_root h_ratio h_is_on_line h__law_take h_least h_is_same h_opposite h_angle_sign h_is_between h_are_alike m_range m_tuple
end Lw


set_option Elab.async false
set_option linter.all false
set_option maxRecDepth 100000
set_option maxHeartbeats 4000000
set_option autoImplicit false
namespace Lw
open PySem L2 Sk
theorem bind_pure {α β : Type} (a : α) (f : α → M β) : M.bind (M.pure a) f = f a := rfl
theorem noX_pure {α : Type} (a : α) : noX (M.pure a) = M.pure a := rfl
theorem lift_some {α : Type} (a : α) : lift (some a) = M.pure a := rfl
theorem atI_n {α : Type} (xs : List α) (n : Nat) (x : α) (h : xs[n]? = some x) : atI xs (n : Int) = some x := atI_nat h
theorem atI0 {α : Type} (x : α) (r : List α) : atI (x :: r) 0 = some x := atI_nat (j := 0) rfl
theorem atI1 {α : Type} (x y : α) (r : List α) : atI (x :: y :: r) 1 = some y := atI_nat (j := 1) rfl
theorem atI2 {α : Type} (x y z : α) (r : List α) : atI (x :: y :: z :: r) 2 = some z := atI_nat (j := 2) rfl
/-- triples -/
abbrev T3 := Int × Int × Int
def tD (a : T3) : D := .tup [.int a.1, .int a.2.1, .int a.2.2]
/-- numbers of at most k bits -/
def Bi (k : Nat) (i : Int) : Prop := i.natAbs < 2 ^ k
def B (k : Nat) (a : T3) : Prop := Bi k a.1 ∧ Bi k a.2.1 ∧ Bi k a.2.2
theorem Bi.mono {k m : Nat} {i : Int} (h : Bi k i) (hk : k ≤ m) : Bi m i := Nat.lt_of_lt_of_le h (Nat.pow_le_pow_right (by omega) hk)
theorem B.mono {k m : Nat} {a : T3} (h : B k a) (hk : k ≤ m) : B m a := ⟨h.1.mono hk, h.2.1.mono hk, h.2.2.mono hk⟩
theorem Bi.mul {k m : Nat} {i j : Int} (h : Bi k i) (g : Bi m j) : Bi (k + m) (i * j) := by
  unfold Bi at *
  rw [Int.natAbs_mul, Nat.pow_add]
  exact Nat.mul_lt_mul'' h g
theorem Bi.add {k : Nat} {i j : Int} (h : Bi k i) (g : Bi k j) : Bi (k + 1) (i + j) := by
  unfold Bi at *
  rw [Nat.pow_succ]
  omega
theorem Bi.sub {k : Nat} {i j : Int} (h : Bi k i) (g : Bi k j) : Bi (k + 1) (i - j) := by
  unfold Bi at *
  rw [Nat.pow_succ]
  omega
theorem Bi.neg {k : Nat} {i : Int} (h : Bi k i) : Bi k (-i) := by
  unfold Bi at *
  omega
theorem Bi.zero {k : Nat} : Bi k 0 := Nat.two_pow_pos k
theorem oMul_b {k m : Nat} {i j : Int} (h : Bi k i) (g : Bi m j) (hk : k ≤ 8000) (hm : m ≤ 8000) : oMul (.int i) (.int j) = M.pure (.int (i * j)) := by
  have h1 : i.natAbs < 2 ^ 8000 := h.mono hk
  have h2 : j.natAbs < 2 ^ 8000 := g.mono hm
  have e : mulOk i j = true := by
    unfold mulOk
    rw [decide_eq_true h1, decide_eq_true h2]
    simp
  show (if mulOk i j = true then M.pure (D.int (i * j)) else stk) = _
  rw [if_pos e]
def cross (a b : T3) : T3 := (a.2.1 * b.2.2 - a.2.2 * b.2.1, a.2.2 * b.1 - a.1 * b.2.2, a.1 * b.2.1 - a.2.1 * b.1)
def dot (a b : T3) : Int := a.1 * b.1 + (a.2.1 * b.2.1 + (a.2.2 * b.2.2 + 0))
theorem B.cross {k m : Nat} {a b : T3} (h : B k a) (g : B m b) : B (k + m + 1) (cross a b) :=
  ⟨(h.2.1.mul g.2.2).sub (h.2.2.mul g.2.1), (h.2.2.mul g.1).sub (h.1.mul g.2.2), (h.1.mul g.2.1).sub (h.2.1.mul g.1)⟩
theorem B.dot {k m : Nat} {a b : T3} (h : B k a) (g : B m b) : Bi (k + m + 2) (dot a b) := by
  have h1 := h.1.mul g.1
  have h2 := h.2.1.mul g.2.1
  have h3 := h.2.2.mul g.2.2
  unfold Bi Lw.dot at *
  rw [Nat.pow_succ, Nat.pow_succ]
  omega
theorem f_cross_eq {k m : Nat} {a b : T3} (h : B k a) (g : B m b) (hk : k ≤ 8000) (hm : m ≤ 8000) : f_cross [tD a, tD b] = M.pure (tD (cross a b)) := by
  obtain ⟨h1, h2, h3⟩ := h
  obtain ⟨g1, g2, g3⟩ := g
  simp only [f_cross, d_cross, tD, atI0, atI1, atI2, oMul_b h1 g2 hk hm, oMul_b h1 g3 hk hm, oMul_b h2 g1 hk hm, oMul_b h2 g3 hk hm, oMul_b h3 g1 hk hm, oMul_b h3 g2 hk hm, bind_pure, lift_some, noX_pure, runDef, sNext, sSeq, sExpr, sRet, sRetN, sIf, sAsg, sPar2, sPar3, sAug, sOwn, sAppend, sFreeze, endOf, dVar, bVar, dC, dUn, dBin, dNil, dCons, dTup, dLst, dCall, asB, tVal, tAndD, tOrD, tNotD, dOfT, dIf, dAndV, dOrV, dNotV, oAdd, oAddI, oSub, oMod, oNeg, oLt, oLe, oGt, oGe, oIsNone, oNotNone, oIsN2, oNotN2, oAll, oAny, oSum, oLen, oTuple, oList, oAbs, oInt, oIx, asBs, asIs, wipeE, itemsOf, iVal, lcLoop, lcTurn, dLc, tYesD, gSet, gAll, gTupD, zipD, Sk.iZip, List.zip_cons_cons, List.zip_nil_right, List.zip_nil_left, List.map_cons, List.map_nil, List.length_cons, List.length_nil, List.replicate_succ, List.replicate_zero, List.cons_append, List.nil_append, List.append_nil, List.getElem?_cons_zero, List.getElem?_cons_succ, List.set_cons_zero, List.set_cons_succ, Option.map_some, Option.bind_some, Nat.reduceAdd, Nat.reduceSub, Nat.reduceLeDiff, ite_true, ite_false, Bool.false_eq_true, Bool.not_true, Bool.not_false, if_true, if_false, reduceIte, reduceCtorEq, List.sum_cons, List.sum_nil, List.all_cons, List.all_nil, List.any_cons, List.any_nil, id_eq, Bool.and_true, Bool.true_and, Bool.or_false, Bool.false_or, Bool.and_self, Bool.false_and, Bool.and_false, Bool.true_or, Bool.or_true, Int.cast_ofNat_Int, beq_self_eq_true, Int.reduceBEq, Int.reduceLT, Int.reduceLE, decide_true, decide_false]
  rfl
theorem f_dot_eq {k m : Nat} {a b : T3} (h : B k a) (g : B m b) (hk : k ≤ 8000) (hm : m ≤ 8000) : f_dot [tD a, tD b] = M.pure (.int (dot a b)) := by
  obtain ⟨h1, h2, h3⟩ := h
  obtain ⟨g1, g2, g3⟩ := g
  simp only [f_dot, d_dot, tD, oMul_b h1 g1 hk hm, oMul_b h2 g2 hk hm, oMul_b h3 g3 hk hm, bind_pure, lift_some, noX_pure, runDef, sNext, sSeq, sExpr, sRet, sRetN, sIf, sAsg, sPar2, sPar3, sAug, sOwn, sAppend, sFreeze, endOf, dVar, bVar, dC, dUn, dBin, dNil, dCons, dTup, dLst, dCall, asB, tVal, tAndD, tOrD, tNotD, dOfT, dIf, dAndV, dOrV, dNotV, oAdd, oAddI, oSub, oMod, oNeg, oLt, oLe, oGt, oGe, oIsNone, oNotNone, oIsN2, oNotN2, oAll, oAny, oSum, oLen, oTuple, oList, oAbs, oInt, oIx, asBs, asIs, wipeE, itemsOf, iVal, lcLoop, lcTurn, dLc, tYesD, gSet, gAll, gTupD, zipD, Sk.iZip, List.zip_cons_cons, List.zip_nil_right, List.zip_nil_left, List.map_cons, List.map_nil, List.length_cons, List.length_nil, List.replicate_succ, List.replicate_zero, List.cons_append, List.nil_append, List.append_nil, List.getElem?_cons_zero, List.getElem?_cons_succ, List.set_cons_zero, List.set_cons_succ, Option.map_some, Option.bind_some, Nat.reduceAdd, Nat.reduceSub, Nat.reduceLeDiff, ite_true, ite_false, Bool.false_eq_true, Bool.not_true, Bool.not_false, if_true, if_false, reduceIte, reduceCtorEq, List.sum_cons, List.sum_nil, List.all_cons, List.all_nil, List.any_cons, List.any_nil, id_eq, Bool.and_true, Bool.true_and, Bool.or_false, Bool.false_or, Bool.and_self, Bool.false_and, Bool.and_false, Bool.true_or, Bool.or_true, Int.cast_ofNat_Int, beq_self_eq_true, Int.reduceBEq, Int.reduceLT, Int.reduceLE, decide_true, decide_false]
  rfl
/-! ### kinds, equality -/
theorem isB_ii (i : Int) : oIsB "int" (.int i) = M.pure (.bl true) := by
  have e : kitB "int" "int" = some true := by decide +kernel
  simp only [oIsB, tyN, e, bind_pure, lift_some]
theorem isB_bi (i : Int) : oIsB "bool" (.int i) = M.pure (.bl false) := by
  have e : kitB "int" "bool" = some false := by decide +kernel
  simp only [oIsB, tyN, e, bind_pure, lift_some]
theorem isB_tt (xs : List D) : oIsB "tuple" (.tup xs) = M.pure (.bl true) := by
  have e : kitB "tuple" "tuple" = some true := by decide +kernel
  simp only [oIsB, tyN, e, bind_pure, lift_some]
theorem oEq_int (i j : Int) : oEq (.int i) (.int j) = M.pure (.bl (i == j)) := rfl
theorem oNe_int (i j : Int) : oNe (.int i) (.int j) = M.pure (.bl (!(i == j))) := rfl
theorem t3_beq (a b : T3) : (a.1 == b.1 && (a.2.1 == b.2.1 && (a.2.2 == b.2.2 && true))) = decide (a = b) := by
  obtain ⟨a1, a2, a3⟩ := a
  obtain ⟨b1, b2, b3⟩ := b
  by_cases h1 : a1 = b1 <;> by_cases h2 : a2 = b2 <;> by_cases h3 : a3 = b3 <;> simp [h1, h2, h3]
theorem oEq_t3 (a b : T3) : oEq (tD a) (tD b) = M.pure (.bl (decide (a = b))) := by
  rw [← t3_beq]
  rfl
theorem oNe_t3 (a b : T3) : oNe (tD a) (tD b) = M.pure (.bl (!decide (a = b))) := by
  rw [← t3_beq]
  rfl
abbrev z3 : T3 := (0, 0, 0)
theorem f_is_integer_eq (i : Int) : f_is_integer [.int i] = M.pure (.bl true) := by
  simp only [f_is_integer, d_is_integer, isB_ii, isB_bi, bind_pure, lift_some, noX_pure, runDef, sNext, sSeq, sExpr, sRet, sRetN, sIf, sAsg, sPar2, sPar3, sAug, sOwn, sAppend, sFreeze, endOf, dVar, bVar, dC, dUn, dBin, dNil, dCons, dTup, dLst, dCall, asB, tVal, tAndD, tOrD, tNotD, dOfT, dIf, dAndV, dOrV, dNotV, oAdd, oAddI, oSub, oMod, oNeg, oLt, oLe, oGt, oGe, oIsNone, oNotNone, oIsN2, oNotN2, oAll, oAny, oSum, oLen, oTuple, oList, oAbs, oInt, oIx, asBs, asIs, wipeE, itemsOf, iVal, lcLoop, lcTurn, dLc, tYesD, gSet, gAll, gTupD, zipD, Sk.iZip, List.zip_cons_cons, List.zip_nil_right, List.zip_nil_left, List.map_cons, List.map_nil, List.length_cons, List.length_nil, List.replicate_succ, List.replicate_zero, List.cons_append, List.nil_append, List.append_nil, List.getElem?_cons_zero, List.getElem?_cons_succ, List.set_cons_zero, List.set_cons_succ, Option.map_some, Option.bind_some, Nat.reduceAdd, Nat.reduceSub, Nat.reduceLeDiff, ite_true, ite_false, Bool.false_eq_true, Bool.not_true, Bool.not_false, if_true, if_false, reduceIte, reduceCtorEq, List.sum_cons, List.sum_nil, List.all_cons, List.all_nil, List.any_cons, List.any_nil, id_eq, Bool.and_true, Bool.true_and, Bool.or_false, Bool.false_or, Bool.and_self, Bool.false_and, Bool.and_false, Bool.true_or, Bool.or_true, Int.cast_ofNat_Int, beq_self_eq_true, Int.reduceBEq, Int.reduceLT, Int.reduceLE, decide_true, decide_false]
theorem f_is_triple_eq (a : T3) : f_is_triple [tD a] = M.pure (.bl (!decide (a = z3))) := by
  have e : oNe (.tup [.int a.1, .int a.2.1, .int a.2.2]) (.tup [.int 0, .int 0, .int 0]) = M.pure (.bl (!decide (a = z3))) := oNe_t3 a z3
  simp only [f_is_triple, d_is_triple, tD, isB_tt, f_is_integer_eq, oNe_int, e, bind_pure, lift_some, noX_pure, runDef, sNext, sSeq, sExpr, sRet, sRetN, sIf, sAsg, sPar2, sPar3, sAug, sOwn, sAppend, sFreeze, endOf, dVar, bVar, dC, dUn, dBin, dNil, dCons, dTup, dLst, dCall, asB, tVal, tAndD, tOrD, tNotD, dOfT, dIf, dAndV, dOrV, dNotV, oAdd, oAddI, oSub, oMod, oNeg, oLt, oLe, oGt, oGe, oIsNone, oNotNone, oIsN2, oNotN2, oAll, oAny, oSum, oLen, oTuple, oList, oAbs, oInt, oIx, asBs, asIs, wipeE, itemsOf, iVal, lcLoop, lcTurn, dLc, tYesD, gSet, gAll, gTupD, zipD, Sk.iZip, List.zip_cons_cons, List.zip_nil_right, List.zip_nil_left, List.map_cons, List.map_nil, List.length_cons, List.length_nil, List.replicate_succ, List.replicate_zero, List.cons_append, List.nil_append, List.append_nil, List.getElem?_cons_zero, List.getElem?_cons_succ, List.set_cons_zero, List.set_cons_succ, Option.map_some, Option.bind_some, Nat.reduceAdd, Nat.reduceSub, Nat.reduceLeDiff, ite_true, ite_false, Bool.false_eq_true, Bool.not_true, Bool.not_false, if_true, if_false, reduceIte, reduceCtorEq, List.sum_cons, List.sum_nil, List.all_cons, List.all_nil, List.any_cons, List.any_nil, id_eq, Bool.and_true, Bool.true_and, Bool.or_false, Bool.false_or, Bool.and_self, Bool.false_and, Bool.and_false, Bool.true_or, Bool.or_true, Int.cast_ofNat_Int, beq_self_eq_true, Int.reduceBEq, Int.reduceLT, Int.reduceLE, decide_true, decide_false]
theorem f_check_triple_eq (s : Str) {a : T3} (h : a ≠ z3) : f_check_triple [.str s, tD a] = M.pure .non := by
  have e : f_is_triple [.tup [.int a.1, .int a.2.1, .int a.2.2]] = M.pure (.bl (!decide (a = z3))) := f_is_triple_eq a
  rw [decide_eq_false h] at e
  simp only [f_check_triple, d_check_triple, tD, e, bind_pure, lift_some, noX_pure, runDef, sNext, sSeq, sExpr, sRet, sRetN, sIf, sAsg, sPar2, sPar3, sAug, sOwn, sAppend, sFreeze, endOf, dVar, bVar, dC, dUn, dBin, dNil, dCons, dTup, dLst, dCall, asB, tVal, tAndD, tOrD, tNotD, dOfT, dIf, dAndV, dOrV, dNotV, oAdd, oAddI, oSub, oMod, oNeg, oLt, oLe, oGt, oGe, oIsNone, oNotNone, oIsN2, oNotN2, oAll, oAny, oSum, oLen, oTuple, oList, oAbs, oInt, oIx, asBs, asIs, wipeE, itemsOf, iVal, lcLoop, lcTurn, dLc, tYesD, gSet, gAll, gTupD, zipD, Sk.iZip, List.zip_cons_cons, List.zip_nil_right, List.zip_nil_left, List.map_cons, List.map_nil, List.length_cons, List.length_nil, List.replicate_succ, List.replicate_zero, List.cons_append, List.nil_append, List.append_nil, List.getElem?_cons_zero, List.getElem?_cons_succ, List.set_cons_zero, List.set_cons_succ, Option.map_some, Option.bind_some, Nat.reduceAdd, Nat.reduceSub, Nat.reduceLeDiff, ite_true, ite_false, Bool.false_eq_true, Bool.not_true, Bool.not_false, if_true, if_false, reduceIte, reduceCtorEq, List.sum_cons, List.sum_nil, List.all_cons, List.all_nil, List.any_cons, List.any_nil, id_eq, Bool.and_true, Bool.true_and, Bool.or_false, Bool.false_or, Bool.and_self, Bool.false_and, Bool.and_false, Bool.true_or, Bool.or_true, Int.cast_ofNat_Int, beq_self_eq_true, Int.reduceBEq, Int.reduceLT, Int.reduceLE, decide_true, decide_false]
theorem while_succ (t : DB) (b : DS) (n : Nat) (env : Sk.Env) : whileLoop t b (n + 1) env = M.bind (t env) fun c => if c = true then M.bind (b env) fun fl => (match fl with
      | .next e => whileLoop t b n e
      | .cont e => whileLoop t b n e
      | .brk e => M.pure (.next e)
      | .ret d => M.pure (.ret d)) else M.pure (.next env) := rfl
/-! ### common divisors -/
theorem common_loop : ∀ (n f m k : Nat), n + 1 ≤ f → k ≤ m → m * k < 2 ^ n →
    whileLoop (tVal (dBin oGt (dVar 1) (dC (.int 0)))) (sPar2 0 1 (dVar 1) (dBin oMod (dVar 0) (dVar 1))) f [.shr (.int m), .shr (.int k)] = M.pure (.next [.shr (.int (Nat.gcd m k)), .shr (.int 0)]) := by
  intro n
  induction n with
  | zero =>
    intro f m k hf hk h
    obtain ⟨f, rfl⟩ : ∃ g, f = g + 1 := ⟨f - 1, by omega⟩
    have hk0 : k = 0 := by
      rcases Nat.eq_zero_or_pos k with z | z
      · exact z
      · have : 1 ≤ m * k := Nat.mul_pos (by omega) z
        omega
    subst hk0
    have e : decide ((0 : Int) < ((0 : Nat) : Int)) = false := rfl
    simp only [whileLoop, e, bind_pure, lift_some, noX_pure, runDef, sNext, sSeq, sExpr, sRet, sRetN, sIf, sAsg, sPar2, sPar3, sAug, sOwn, sAppend, sFreeze, endOf, dVar, bVar, dC, dUn, dBin, dNil, dCons, dTup, dLst, dCall, asB, tVal, tAndD, tOrD, tNotD, dOfT, dIf, dAndV, dOrV, dNotV, oAdd, oAddI, oSub, oMod, oNeg, oLt, oLe, oGt, oGe, oIsNone, oNotNone, oIsN2, oNotN2, oAll, oAny, oSum, oLen, oTuple, oList, oAbs, oInt, oIx, asBs, asIs, wipeE, itemsOf, iVal, lcLoop, lcTurn, dLc, tYesD, gSet, gAll, gTupD, zipD, Sk.iZip, List.zip_cons_cons, List.zip_nil_right, List.zip_nil_left, List.map_cons, List.map_nil, List.length_cons, List.length_nil, List.replicate_succ, List.replicate_zero, List.cons_append, List.nil_append, List.append_nil, List.getElem?_cons_zero, List.getElem?_cons_succ, List.set_cons_zero, List.set_cons_succ, Option.map_some, Option.bind_some, Nat.reduceAdd, Nat.reduceSub, Nat.reduceLeDiff, ite_true, ite_false, Bool.false_eq_true, Bool.not_true, Bool.not_false, if_true, if_false, reduceIte, reduceCtorEq, List.sum_cons, List.sum_nil, List.all_cons, List.all_nil, List.any_cons, List.any_nil, id_eq, Bool.and_true, Bool.true_and, Bool.or_false, Bool.false_or, Bool.and_self, Bool.false_and, Bool.and_false, Bool.true_or, Bool.or_true, Int.cast_ofNat_Int, beq_self_eq_true, Int.reduceBEq, Int.reduceLT, Int.reduceLE, decide_true, decide_false, Nat.gcd_zero_right]
  | succ n ih =>
    intro f m k hf hk h
    obtain ⟨f, rfl⟩ : ∃ g, f = g + 1 := ⟨f - 1, by omega⟩
    rcases Nat.eq_zero_or_pos k with z | z
    · subst z
      have e : decide ((0 : Int) < ((0 : Nat) : Int)) = false := rfl
      simp only [whileLoop, e, bind_pure, lift_some, noX_pure, runDef, sNext, sSeq, sExpr, sRet, sRetN, sIf, sAsg, sPar2, sPar3, sAug, sOwn, sAppend, sFreeze, endOf, dVar, bVar, dC, dUn, dBin, dNil, dCons, dTup, dLst, dCall, asB, tVal, tAndD, tOrD, tNotD, dOfT, dIf, dAndV, dOrV, dNotV, oAdd, oAddI, oSub, oMod, oNeg, oLt, oLe, oGt, oGe, oIsNone, oNotNone, oIsN2, oNotN2, oAll, oAny, oSum, oLen, oTuple, oList, oAbs, oInt, oIx, asBs, asIs, wipeE, itemsOf, iVal, lcLoop, lcTurn, dLc, tYesD, gSet, gAll, gTupD, zipD, Sk.iZip, List.zip_cons_cons, List.zip_nil_right, List.zip_nil_left, List.map_cons, List.map_nil, List.length_cons, List.length_nil, List.replicate_succ, List.replicate_zero, List.cons_append, List.nil_append, List.append_nil, List.getElem?_cons_zero, List.getElem?_cons_succ, List.set_cons_zero, List.set_cons_succ, Option.map_some, Option.bind_some, Nat.reduceAdd, Nat.reduceSub, Nat.reduceLeDiff, ite_true, ite_false, Bool.false_eq_true, Bool.not_true, Bool.not_false, if_true, if_false, reduceIte, reduceCtorEq, List.sum_cons, List.sum_nil, List.all_cons, List.all_nil, List.any_cons, List.any_nil, id_eq, Bool.and_true, Bool.true_and, Bool.or_false, Bool.false_or, Bool.and_self, Bool.false_and, Bool.and_false, Bool.true_or, Bool.or_true, Int.cast_ofNat_Int, beq_self_eq_true, Int.reduceBEq, Int.reduceLT, Int.reduceLE, decide_true, decide_false, Nat.gcd_zero_right]
    · have e : decide ((0 : Int) < (k : Int)) = true := decide_eq_true (by omega)
      have hr : m % k < k := Nat.mod_lt _ z
      have h2 : 2 * (m % k) ≤ m := by
        have := Nat.div_add_mod m k
        have h1 : 1 ≤ m / k := Nat.div_pos hk z
        have : k * 1 ≤ k * (m / k) := Nat.mul_le_mul_left k h1
        omega
      have h3 : k * (m % k) < 2 ^ n := by
        have a1 : k * (2 * (m % k)) ≤ k * m := Nat.mul_le_mul_left k h2
        have a2 : k * (2 * (m % k)) = 2 * (k * (m % k)) := by rw [Nat.mul_left_comm]
        have a3 : k * m = m * k := Nat.mul_comm k m
        have a4 : 2 ^ (n + 1) = 2 * 2 ^ n := by rw [Nat.pow_succ, Nat.mul_comm]
        omega
      have i := ih f k (m % k) (by omega) (by omega) h3
      have em : ((m : Int) % (k : Int)) = ((m % k : Nat) : Int) := rfl
      simp only [whileLoop, e, em, bind_pure, lift_some, noX_pure, runDef, sNext, sSeq, sExpr, sRet, sRetN, sIf, sAsg, sPar2, sPar3, sAug, sOwn, sAppend, sFreeze, endOf, dVar, bVar, dC, dUn, dBin, dNil, dCons, dTup, dLst, dCall, asB, tVal, tAndD, tOrD, tNotD, dOfT, dIf, dAndV, dOrV, dNotV, oAdd, oAddI, oSub, oMod, oNeg, oLt, oLe, oGt, oGe, oIsNone, oNotNone, oIsN2, oNotN2, oAll, oAny, oSum, oLen, oTuple, oList, oAbs, oInt, oIx, asBs, asIs, wipeE, itemsOf, iVal, lcLoop, lcTurn, dLc, tYesD, gSet, gAll, gTupD, zipD, Sk.iZip, List.zip_cons_cons, List.zip_nil_right, List.zip_nil_left, List.map_cons, List.map_nil, List.length_cons, List.length_nil, List.replicate_succ, List.replicate_zero, List.cons_append, List.nil_append, List.append_nil, List.getElem?_cons_zero, List.getElem?_cons_succ, List.set_cons_zero, List.set_cons_succ, Option.map_some, Option.bind_some, Nat.reduceAdd, Nat.reduceSub, Nat.reduceLeDiff, ite_true, ite_false, Bool.false_eq_true, Bool.not_true, Bool.not_false, if_true, if_false, reduceIte, reduceCtorEq, List.sum_cons, List.sum_nil, List.all_cons, List.all_nil, List.any_cons, List.any_nil, id_eq, Bool.and_true, Bool.true_and, Bool.or_false, Bool.false_or, Bool.and_self, Bool.false_and, Bool.and_false, Bool.true_or, Bool.or_true, Int.cast_ofNat_Int, beq_self_eq_true, Int.reduceBEq, Int.reduceLT, Int.reduceLE, decide_true, decide_false, i]
      rw [Nat.gcd_comm m k, Nat.gcd_rec k m, Nat.gcd_comm]
theorem natAbs_ite (i : Int) : (if i < 0 then -i else i) = (i.natAbs : Int) := by
  split <;> omega
theorem f_common_eq {a b : Int} (ha : a.natAbs < 2 ^ 20000) (hb : b.natAbs < 2 ^ 20000) : f_common [.int a, .int b] = M.pure (.int (Int.gcd a b)) := by
  have hp : a.natAbs * b.natAbs < 2 ^ 40000 := by
    have := Nat.mul_lt_mul'' ha hb
    rwa [← Nat.pow_add] at this
  have key : whileLoop (tVal (dBin oGt (dVar 1) (dC (.int 0)))) (sPar2 0 1 (dVar 1) (dBin oMod (dVar 0) (dVar 1))) 100000 [.shr (.int a.natAbs), .shr (.int b.natAbs)] = M.pure (.next [.shr (.int (Nat.gcd a.natAbs b.natAbs)), .shr (.int 0)]) := by
    rcases Nat.le_total b.natAbs a.natAbs with h | h
    · exact common_loop 40000 100000 _ _ (by omega) h hp
    · rcases Nat.eq_zero_or_pos b.natAbs with z | z
      · rw [z] at h ⊢
        have : a.natAbs = 0 := by omega
        rw [this]
        exact common_loop 0 100000 0 0 (by omega) (by omega) (by decide)
      · have e : decide ((0 : Int) < (b.natAbs : Int)) = true := decide_eq_true (by omega)
        have em : ((a.natAbs : Int) % (b.natAbs : Int)) = ((a.natAbs % b.natAbs : Nat) : Int) := rfl
        have hlt : a.natAbs % b.natAbs < b.natAbs := Nat.mod_lt _ z
        have hle : a.natAbs % b.natAbs ≤ a.natAbs := Nat.mod_le _ _
        have i := common_loop 40000 99999 b.natAbs (a.natAbs % b.natAbs) (by omega) (by omega) (by
          have h1 : b.natAbs * (a.natAbs % b.natAbs) ≤ b.natAbs * a.natAbs := Nat.mul_le_mul_left _ hle
          have h2 : b.natAbs * a.natAbs = a.natAbs * b.natAbs := Nat.mul_comm _ _
          omega)
        rw [show (100000 : Nat) = 99999 + 1 from rfl, while_succ]
        generalize 99999 = f at *
        simp only [e, em, bind_pure, lift_some, noX_pure, runDef, sNext, sSeq, sExpr, sRet, sRetN, sIf, sAsg, sPar2, sPar3, sAug, sOwn, sAppend, sFreeze, endOf, dVar, bVar, dC, dUn, dBin, dNil, dCons, dTup, dLst, dCall, asB, tVal, tAndD, tOrD, tNotD, dOfT, dIf, dAndV, dOrV, dNotV, oAdd, oAddI, oSub, oMod, oNeg, oLt, oLe, oGt, oGe, oIsNone, oNotNone, oIsN2, oNotN2, oAll, oAny, oSum, oLen, oTuple, oList, oAbs, oInt, oIx, asBs, asIs, wipeE, itemsOf, iVal, lcLoop, lcTurn, dLc, tYesD, gSet, gAll, gTupD, zipD, Sk.iZip, List.zip_cons_cons, List.zip_nil_right, List.zip_nil_left, List.map_cons, List.map_nil, List.length_cons, List.length_nil, List.replicate_succ, List.replicate_zero, List.cons_append, List.nil_append, List.append_nil, List.getElem?_cons_zero, List.getElem?_cons_succ, List.set_cons_zero, List.set_cons_succ, Option.map_some, Option.bind_some, Nat.reduceAdd, Nat.reduceSub, Nat.reduceLeDiff, ite_true, ite_false, Bool.false_eq_true, Bool.not_true, Bool.not_false, if_true, if_false, reduceIte, reduceCtorEq, List.sum_cons, List.sum_nil, List.all_cons, List.all_nil, List.any_cons, List.any_nil, id_eq, Bool.and_true, Bool.true_and, Bool.or_false, Bool.false_or, Bool.and_self, Bool.false_and, Bool.and_false, Bool.true_or, Bool.or_true, Int.cast_ofNat_Int, beq_self_eq_true, Int.reduceBEq, Int.reduceLT, Int.reduceLE, decide_true, decide_false, i]
        rw [Nat.gcd_comm a.natAbs b.natAbs, Nat.gcd_rec b.natAbs a.natAbs, Nat.gcd_comm]
  simp only [f_common, d_common, sWhile, natAbs_ite, bind_pure, lift_some, noX_pure, runDef, sNext, sSeq, sExpr, sRet, sRetN, sIf, sAsg, sPar2, sPar3, sAug, sOwn, sAppend, sFreeze, endOf, dVar, bVar, dC, dUn, dBin, dNil, dCons, dTup, dLst, dCall, asB, tVal, tAndD, tOrD, tNotD, dOfT, dIf, dAndV, dOrV, dNotV, oAdd, oAddI, oSub, oMod, oNeg, oLt, oLe, oGt, oGe, oIsNone, oNotNone, oIsN2, oNotN2, oAll, oAny, oSum, oLen, oTuple, oList, oAbs, oInt, oIx, asBs, asIs, wipeE, itemsOf, iVal, lcLoop, lcTurn, dLc, tYesD, gSet, gAll, gTupD, zipD, Sk.iZip, List.zip_cons_cons, List.zip_nil_right, List.zip_nil_left, List.map_cons, List.map_nil, List.length_cons, List.length_nil, List.replicate_succ, List.replicate_zero, List.cons_append, List.nil_append, List.append_nil, List.getElem?_cons_zero, List.getElem?_cons_succ, List.set_cons_zero, List.set_cons_succ, Option.map_some, Option.bind_some, Nat.reduceAdd, Nat.reduceSub, Nat.reduceLeDiff, ite_true, ite_false, Bool.false_eq_true, Bool.not_true, Bool.not_false, if_true, if_false, reduceIte, reduceCtorEq, List.sum_cons, List.sum_nil, List.all_cons, List.all_nil, List.any_cons, List.any_nil, id_eq, Bool.and_true, Bool.true_and, Bool.or_false, Bool.false_or, Bool.and_self, Bool.false_and, Bool.and_false, Bool.true_or, Bool.or_true, Int.cast_ofNat_Int, beq_self_eq_true, Int.reduceBEq, Int.reduceLT, Int.reduceLE, decide_true, decide_false, key]
  rfl

/-! ### roots -/
theorem sq_le {a b : Nat} (h : a ≤ b) : a * a ≤ b * b := Nat.mul_le_mul h h
theorem sq_lt {a b : Nat} (h : a * a < b * b) : a < b := by
  rcases Nat.lt_or_ge a b with z | z
  · exact z
  · have := sq_le z
    omega
theorem oMul_n {m k : Nat} (h : m < 2 ^ 8000) (h2 : k < 2 ^ 8000) : oMul (.int (m : Int)) (.int (k : Int)) = M.pure (.int ((m * k : Nat) : Int)) := by
  have e : mulOk (m : Int) (k : Int) = true := by
    unfold mulOk
    rw [Int.natAbs_natCast, Int.natAbs_natCast, decide_eq_true h, decide_eq_true h2]
    simp
  show (if mulOk (m : Int) (k : Int) = true then M.pure (D.int ((m : Int) * (k : Int))) else stk) = _
  rw [if_pos e]
  rfl
theorem root_up (N : Nat) (hN : N < 2 ^ 4000) : ∀ (n f h : Nat), n + 1 ≤ f → 1 ≤ h → h ≤ 2 * N + 1 → N < h * h * 4 ^ n →
    ∃ h', N < h' * h' ∧ h' ≤ 2 * N + 1 ∧ whileLoop (tVal (dBin oLe (dBin oMul (dVar 2) (dVar 2)) (dVar 0))) (sAug 2 oMul (dC (.int 2))) f [.shr (.int N), .shr (.int 0), .shr (.int h), .no] = M.pure (.next [.shr (.int N), .shr (.int 0), .shr (.int h'), .no]) := by
  have hb : 2 ^ 4000 * 4 ≤ 2 ^ 8000 := by decide +kernel
  intro n
  induction n with
  | zero =>
    intro f h hf h1 h2 hlt
    obtain ⟨f, rfl⟩ : ∃ g, f = g + 1 := ⟨f - 1, by omega⟩
    rw [Nat.pow_zero, Nat.mul_one] at hlt
    have hm : oMul (.int (h : Int)) (.int (h : Int)) = M.pure (.int ((h * h : Nat) : Int)) := oMul_n (by omega) (by omega)
    have e : decide (((h * h : Nat) : Int) ≤ (N : Int)) = false := decide_eq_false (by omega)
    refine ⟨h, hlt, h2, ?_⟩
    rw [while_succ]
    simp only [hm, e, bind_pure, lift_some, noX_pure, runDef, sNext, sSeq, sExpr, sRet, sRetN, sIf, sAsg, sPar2, sPar3, sAug, sOwn, sAppend, sFreeze, endOf, dVar, bVar, dC, dUn, dBin, dNil, dCons, dTup, dLst, dCall, asB, tVal, tAndD, tOrD, tNotD, dOfT, dIf, dAndV, dOrV, dNotV, oAdd, oAddI, oSub, oMod, oNeg, oLt, oLe, oGt, oGe, oIsNone, oNotNone, oIsN2, oNotN2, oAll, oAny, oSum, oLen, oTuple, oList, oAbs, oInt, oIx, asBs, asIs, wipeE, itemsOf, iVal, lcLoop, lcTurn, dLc, tYesD, gSet, gAll, gTupD, zipD, Sk.iZip, List.zip_cons_cons, List.zip_nil_right, List.zip_nil_left, List.map_cons, List.map_nil, List.length_cons, List.length_nil, List.replicate_succ, List.replicate_zero, List.cons_append, List.nil_append, List.append_nil, List.getElem?_cons_zero, List.getElem?_cons_succ, List.set_cons_zero, List.set_cons_succ, Option.map_some, Option.bind_some, Nat.reduceAdd, Nat.reduceSub, Nat.reduceLeDiff, ite_true, ite_false, Bool.false_eq_true, Bool.not_true, Bool.not_false, if_true, if_false, reduceIte, reduceCtorEq, List.sum_cons, List.sum_nil, List.all_cons, List.all_nil, List.any_cons, List.any_nil, id_eq, Bool.and_true, Bool.true_and, Bool.or_false, Bool.false_or, Bool.and_self, Bool.false_and, Bool.and_false, Bool.true_or, Bool.or_true, Int.cast_ofNat_Int, beq_self_eq_true, Int.reduceBEq, Int.reduceLT, Int.reduceLE, decide_true, decide_false]
  | succ n ih =>
    intro f h hf h1 h2 hlt
    obtain ⟨f, rfl⟩ : ∃ g, f = g + 1 := ⟨f - 1, by omega⟩
    have hm : oMul (.int (h : Int)) (.int (h : Int)) = M.pure (.int ((h * h : Nat) : Int)) := oMul_n (by omega) (by omega)
    rcases Nat.lt_or_ge N (h * h) with z | z
    · have e : decide (((h * h : Nat) : Int) ≤ (N : Int)) = false := decide_eq_false (by omega)
      refine ⟨h, z, h2, ?_⟩
      rw [while_succ]
      simp only [hm, e, bind_pure, lift_some, noX_pure, runDef, sNext, sSeq, sExpr, sRet, sRetN, sIf, sAsg, sPar2, sPar3, sAug, sOwn, sAppend, sFreeze, endOf, dVar, bVar, dC, dUn, dBin, dNil, dCons, dTup, dLst, dCall, asB, tVal, tAndD, tOrD, tNotD, dOfT, dIf, dAndV, dOrV, dNotV, oAdd, oAddI, oSub, oMod, oNeg, oLt, oLe, oGt, oGe, oIsNone, oNotNone, oIsN2, oNotN2, oAll, oAny, oSum, oLen, oTuple, oList, oAbs, oInt, oIx, asBs, asIs, wipeE, itemsOf, iVal, lcLoop, lcTurn, dLc, tYesD, gSet, gAll, gTupD, zipD, Sk.iZip, List.zip_cons_cons, List.zip_nil_right, List.zip_nil_left, List.map_cons, List.map_nil, List.length_cons, List.length_nil, List.replicate_succ, List.replicate_zero, List.cons_append, List.nil_append, List.append_nil, List.getElem?_cons_zero, List.getElem?_cons_succ, List.set_cons_zero, List.set_cons_succ, Option.map_some, Option.bind_some, Nat.reduceAdd, Nat.reduceSub, Nat.reduceLeDiff, ite_true, ite_false, Bool.false_eq_true, Bool.not_true, Bool.not_false, if_true, if_false, reduceIte, reduceCtorEq, List.sum_cons, List.sum_nil, List.all_cons, List.all_nil, List.any_cons, List.any_nil, id_eq, Bool.and_true, Bool.true_and, Bool.or_false, Bool.false_or, Bool.and_self, Bool.false_and, Bool.and_false, Bool.true_or, Bool.or_true, Int.cast_ofNat_Int, beq_self_eq_true, Int.reduceBEq, Int.reduceLT, Int.reduceLE, decide_true, decide_false]
    · have e : decide (((h * h : Nat) : Int) ≤ (N : Int)) = true := decide_eq_true (by omega)
      have hm2 : oMul (.int (h : Int)) (.int 2) = M.pure (.int ((h * 2 : Nat) : Int)) := oMul_n (k := 2) (by omega) (by decide +kernel)
      have hh : h * 1 ≤ h * h := Nat.mul_le_mul_left h h1
      obtain ⟨h', a1, a2, a3⟩ := ih f (h * 2) (by omega) (by omega) (by omega) (by
        have : h * 2 * (h * 2) * 4 ^ n = h * h * 4 ^ (n + 1) := by
          rw [Nat.pow_succ]
          have : h * 2 * (h * 2) = h * h * 4 := by
            rw [Nat.mul_mul_mul_comm]
          rw [this, Nat.mul_assoc, Nat.mul_comm 4]
        omega)
      refine ⟨h', a1, a2, ?_⟩
      rw [while_succ]
      simp only [hm, hm2, e, bind_pure, lift_some, noX_pure, runDef, sNext, sSeq, sExpr, sRet, sRetN, sIf, sAsg, sPar2, sPar3, sAug, sOwn, sAppend, sFreeze, endOf, dVar, bVar, dC, dUn, dBin, dNil, dCons, dTup, dLst, dCall, asB, tVal, tAndD, tOrD, tNotD, dOfT, dIf, dAndV, dOrV, dNotV, oAdd, oAddI, oSub, oMod, oNeg, oLt, oLe, oGt, oGe, oIsNone, oNotNone, oIsN2, oNotN2, oAll, oAny, oSum, oLen, oTuple, oList, oAbs, oInt, oIx, asBs, asIs, wipeE, itemsOf, iVal, lcLoop, lcTurn, dLc, tYesD, gSet, gAll, gTupD, zipD, Sk.iZip, List.zip_cons_cons, List.zip_nil_right, List.zip_nil_left, List.map_cons, List.map_nil, List.length_cons, List.length_nil, List.replicate_succ, List.replicate_zero, List.cons_append, List.nil_append, List.append_nil, List.getElem?_cons_zero, List.getElem?_cons_succ, List.set_cons_zero, List.set_cons_succ, Option.map_some, Option.bind_some, Nat.reduceAdd, Nat.reduceSub, Nat.reduceLeDiff, ite_true, ite_false, Bool.false_eq_true, Bool.not_true, Bool.not_false, if_true, if_false, reduceIte, reduceCtorEq, List.sum_cons, List.sum_nil, List.all_cons, List.all_nil, List.any_cons, List.any_nil, id_eq, Bool.and_true, Bool.true_and, Bool.or_false, Bool.false_or, Bool.and_self, Bool.false_and, Bool.and_false, Bool.true_or, Bool.or_true, Int.cast_ofNat_Int, beq_self_eq_true, Int.reduceBEq, Int.reduceLT, Int.reduceLE, decide_true, decide_false, a3]
abbrev rootB : DS := sSeq (sAsg (dBin oDiv (dBin oAdd (dVar 1) (dVar 2)) (dC (.int 2))) (gSet 3)) (sIf (tVal (dBin oLt (dBin oMul (dVar 3) (dVar 3)) (dVar 0))) (sAsg (dBin oAdd (dVar 3) (dC (.int 1))) (gSet 1)) (sAsg (dVar 3) (gSet 2)))
theorem root_in (N : Nat) (hN : N < 2 ^ 4000) : ∀ (n f l h : Nat) (s : Slot), n + 1 ≤ f → l ≤ h → h ≤ 2 * N + 1 → (∀ x, x < l → x * x < N) → N ≤ h * h → h - l < 2 ^ n →
    ∃ (r : Nat) (s' : Slot), (∀ x, x < r → x * x < N) ∧ N ≤ r * r ∧ r ≤ 2 * N + 1 ∧ whileLoop (tVal (dBin oLt (dVar 1) (dVar 2))) rootB f [.shr (.int N), .shr (.int l), .shr (.int h), s] = M.pure (.next [.shr (.int N), .shr (.int r), .shr (.int r), s']) := by
  have hb : 2 ^ 4000 * 4 ≤ 2 ^ 8000 := by decide +kernel
  have hdiv : divOk 2 = true := by decide +kernel
  intro n
  induction n with
  | zero =>
    intro f l h s hf hl h2 hx hy hd
    obtain ⟨f, rfl⟩ : ∃ g, f = g + 1 := ⟨f - 1, by omega⟩
    have hlh : l = h := by omega
    subst hlh
    have e : decide ((l : Int) < (l : Int)) = false := decide_eq_false (by omega)
    refine ⟨l, s, hx, hy, h2, ?_⟩
    rw [while_succ]
    simp only [e, bind_pure, lift_some, noX_pure, runDef, sNext, sSeq, sExpr, sRet, sRetN, sIf, sAsg, sPar2, sPar3, sAug, sOwn, sAppend, sFreeze, endOf, dVar, bVar, dC, dUn, dBin, dNil, dCons, dTup, dLst, dCall, asB, tVal, tAndD, tOrD, tNotD, dOfT, dIf, dAndV, dOrV, dNotV, oAdd, oAddI, oSub, oMod, oNeg, oLt, oLe, oGt, oGe, oIsNone, oNotNone, oIsN2, oNotN2, oAll, oAny, oSum, oLen, oTuple, oList, oAbs, oInt, oIx, asBs, asIs, wipeE, itemsOf, iVal, lcLoop, lcTurn, dLc, tYesD, gSet, gAll, gTupD, zipD, Sk.iZip, List.zip_cons_cons, List.zip_nil_right, List.zip_nil_left, List.map_cons, List.map_nil, List.length_cons, List.length_nil, List.replicate_succ, List.replicate_zero, List.cons_append, List.nil_append, List.append_nil, List.getElem?_cons_zero, List.getElem?_cons_succ, List.set_cons_zero, List.set_cons_succ, Option.map_some, Option.bind_some, Nat.reduceAdd, Nat.reduceSub, Nat.reduceLeDiff, ite_true, ite_false, Bool.false_eq_true, Bool.not_true, Bool.not_false, if_true, if_false, reduceIte, reduceCtorEq, List.sum_cons, List.sum_nil, List.all_cons, List.all_nil, List.any_cons, List.any_nil, id_eq, Bool.and_true, Bool.true_and, Bool.or_false, Bool.false_or, Bool.and_self, Bool.false_and, Bool.and_false, Bool.true_or, Bool.or_true, Int.cast_ofNat_Int, beq_self_eq_true, Int.reduceBEq, Int.reduceLT, Int.reduceLE, decide_true, decide_false]
  | succ n ih =>
    intro f l h s hf hl h2 hx hy hd
    obtain ⟨f, rfl⟩ : ∃ g, f = g + 1 := ⟨f - 1, by omega⟩
    rcases Nat.lt_or_ge l h with z | z
    · have e : decide ((l : Int) < (h : Int)) = true := decide_eq_true (by omega)
      have em : ((l : Int) + (h : Int)) / 2 = (((l + h) / 2 : Nat) : Int) := by omega
      generalize hmid : (l + h) / 2 = m at em
      have hm : oMul (.int (m : Int)) (.int (m : Int)) = M.pure (.int ((m * m : Nat) : Int)) := oMul_n (by omega) (by omega)
      have hp : 2 ^ (n + 1) = 2 * 2 ^ n := by rw [Nat.pow_succ, Nat.mul_comm]
      rcases Nat.lt_or_ge (m * m) N with y | y
      · have e2 : decide (((m * m : Nat) : Int) < (N : Int)) = true := decide_eq_true (by omega)
        have ea : ((m : Int) + 1) = ((m + 1 : Nat) : Int) := by omega
        obtain ⟨r, s', a1, a2, a3, a4⟩ := ih f (m + 1) h (.shr (.int m)) (by omega) (by omega) h2 (fun x hx' => by
          have := sq_le (a := x) (b := m) (by omega)
          omega) hy (by omega)
        refine ⟨r, s', a1, a2, a3, ?_⟩
        rw [while_succ]
        simp only [rootB, oDiv, hdiv, e, e2, em, ea, hm, bind_pure, lift_some, noX_pure, runDef, sNext, sSeq, sExpr, sRet, sRetN, sIf, sAsg, sPar2, sPar3, sAug, sOwn, sAppend, sFreeze, endOf, dVar, bVar, dC, dUn, dBin, dNil, dCons, dTup, dLst, dCall, asB, tVal, tAndD, tOrD, tNotD, dOfT, dIf, dAndV, dOrV, dNotV, oAdd, oAddI, oSub, oMod, oNeg, oLt, oLe, oGt, oGe, oIsNone, oNotNone, oIsN2, oNotN2, oAll, oAny, oSum, oLen, oTuple, oList, oAbs, oInt, oIx, asBs, asIs, wipeE, itemsOf, iVal, lcLoop, lcTurn, dLc, tYesD, gSet, gAll, gTupD, zipD, Sk.iZip, List.zip_cons_cons, List.zip_nil_right, List.zip_nil_left, List.map_cons, List.map_nil, List.length_cons, List.length_nil, List.replicate_succ, List.replicate_zero, List.cons_append, List.nil_append, List.append_nil, List.getElem?_cons_zero, List.getElem?_cons_succ, List.set_cons_zero, List.set_cons_succ, Option.map_some, Option.bind_some, Nat.reduceAdd, Nat.reduceSub, Nat.reduceLeDiff, ite_true, ite_false, Bool.false_eq_true, Bool.not_true, Bool.not_false, if_true, if_false, reduceIte, reduceCtorEq, List.sum_cons, List.sum_nil, List.all_cons, List.all_nil, List.any_cons, List.any_nil, id_eq, Bool.and_true, Bool.true_and, Bool.or_false, Bool.false_or, Bool.and_self, Bool.false_and, Bool.and_false, Bool.true_or, Bool.or_true, Int.cast_ofNat_Int, beq_self_eq_true, Int.reduceBEq, Int.reduceLT, Int.reduceLE, decide_true, decide_false, a4]
      · have e2 : decide (((m * m : Nat) : Int) < (N : Int)) = false := decide_eq_false (by omega)
        obtain ⟨r, s', a1, a2, a3, a4⟩ := ih f l m (.shr (.int m)) (by omega) (by omega) (by omega) hx y (by omega)
        refine ⟨r, s', a1, a2, a3, ?_⟩
        rw [while_succ]
        simp only [rootB, oDiv, hdiv, e, e2, em, hm, bind_pure, lift_some, noX_pure, runDef, sNext, sSeq, sExpr, sRet, sRetN, sIf, sAsg, sPar2, sPar3, sAug, sOwn, sAppend, sFreeze, endOf, dVar, bVar, dC, dUn, dBin, dNil, dCons, dTup, dLst, dCall, asB, tVal, tAndD, tOrD, tNotD, dOfT, dIf, dAndV, dOrV, dNotV, oAdd, oAddI, oSub, oMod, oNeg, oLt, oLe, oGt, oGe, oIsNone, oNotNone, oIsN2, oNotN2, oAll, oAny, oSum, oLen, oTuple, oList, oAbs, oInt, oIx, asBs, asIs, wipeE, itemsOf, iVal, lcLoop, lcTurn, dLc, tYesD, gSet, gAll, gTupD, zipD, Sk.iZip, List.zip_cons_cons, List.zip_nil_right, List.zip_nil_left, List.map_cons, List.map_nil, List.length_cons, List.length_nil, List.replicate_succ, List.replicate_zero, List.cons_append, List.nil_append, List.append_nil, List.getElem?_cons_zero, List.getElem?_cons_succ, List.set_cons_zero, List.set_cons_succ, Option.map_some, Option.bind_some, Nat.reduceAdd, Nat.reduceSub, Nat.reduceLeDiff, ite_true, ite_false, Bool.false_eq_true, Bool.not_true, Bool.not_false, if_true, if_false, reduceIte, reduceCtorEq, List.sum_cons, List.sum_nil, List.all_cons, List.all_nil, List.any_cons, List.any_nil, id_eq, Bool.and_true, Bool.true_and, Bool.or_false, Bool.false_or, Bool.and_self, Bool.false_and, Bool.and_false, Bool.true_or, Bool.or_true, Int.cast_ofNat_Int, beq_self_eq_true, Int.reduceBEq, Int.reduceLT, Int.reduceLE, decide_true, decide_false, a4]
    · have hlh : l = h := by omega
      subst hlh
      have e : decide ((l : Int) < (l : Int)) = false := decide_eq_false (by omega)
      refine ⟨l, s, hx, hy, h2, ?_⟩
      rw [while_succ]
      simp only [e, bind_pure, lift_some, noX_pure, runDef, sNext, sSeq, sExpr, sRet, sRetN, sIf, sAsg, sPar2, sPar3, sAug, sOwn, sAppend, sFreeze, endOf, dVar, bVar, dC, dUn, dBin, dNil, dCons, dTup, dLst, dCall, asB, tVal, tAndD, tOrD, tNotD, dOfT, dIf, dAndV, dOrV, dNotV, oAdd, oAddI, oSub, oMod, oNeg, oLt, oLe, oGt, oGe, oIsNone, oNotNone, oIsN2, oNotN2, oAll, oAny, oSum, oLen, oTuple, oList, oAbs, oInt, oIx, asBs, asIs, wipeE, itemsOf, iVal, lcLoop, lcTurn, dLc, tYesD, gSet, gAll, gTupD, zipD, Sk.iZip, List.zip_cons_cons, List.zip_nil_right, List.zip_nil_left, List.map_cons, List.map_nil, List.length_cons, List.length_nil, List.replicate_succ, List.replicate_zero, List.cons_append, List.nil_append, List.append_nil, List.getElem?_cons_zero, List.getElem?_cons_succ, List.set_cons_zero, List.set_cons_succ, Option.map_some, Option.bind_some, Nat.reduceAdd, Nat.reduceSub, Nat.reduceLeDiff, ite_true, ite_false, Bool.false_eq_true, Bool.not_true, Bool.not_false, if_true, if_false, reduceIte, reduceCtorEq, List.sum_cons, List.sum_nil, List.all_cons, List.all_nil, List.any_cons, List.any_nil, id_eq, Bool.and_true, Bool.true_and, Bool.or_false, Bool.false_or, Bool.and_self, Bool.false_and, Bool.and_false, Bool.true_or, Bool.or_true, Int.cast_ofNat_Int, beq_self_eq_true, Int.reduceBEq, Int.reduceLT, Int.reduceLE, decide_true, decide_false]
/-- the whole root, none if there is none -/
def rootN (N : Nat) : Option Nat := (List.range (N + 1)).find? fun r => r * r == N
theorem rootN_some {N r : Nat} (h : rootN N = some r) : r * r = N := by
  have := List.find?_some h
  simpa using this
theorem rootN_of {N r : Nat} (h : r * r = N) : rootN N = some r := by
  cases e : rootN N with
  | none =>
    unfold rootN at e
    rw [List.find?_eq_none] at e
    have hr : r ≤ N := by
      rcases Nat.eq_zero_or_pos r with z | z
      · omega
      · have : r * 1 ≤ r * r := Nat.mul_le_mul_left r z
        omega
    have := e r (List.mem_range.mpr (by omega))
    simp [h] at this
  | some q =>
    have h2 := rootN_some e
    have : q = r := by
      rcases Nat.lt_trichotomy q r with z | z | z
      · have := Nat.mul_self_lt_mul_self z
        omega
      · exact z
      · have := Nat.mul_self_lt_mul_self z
        omega
    rw [this]
def optD : Option Nat → D
  | some r => .int r
  | none => .non
theorem f_root_eq {N : Nat} (hN : N < 2 ^ 4000) : f_root [.int N] = M.pure (optD (rootN N)) := by
  have hb : 2 ^ 4000 * 4 ≤ 2 ^ 8000 := by decide +kernel
  obtain ⟨h, a1, a2, a3⟩ := root_up N hN 4000 100000 1 (by omega) (by omega) (by omega) (by
    have : 2 ^ 4000 ≤ 4 ^ 4000 := Nat.pow_le_pow_left (by omega) 4000
    omega)
  obtain ⟨r, s', b1, b2, b3, b4⟩ := root_in N hN 4002 100000 0 h .no (by omega) (by omega) a2 (fun x hx => by omega) (by omega) (by
    have : (2 : Nat) ^ 4002 = 2 ^ 4000 * 4 := by decide +kernel
    omega)
  have hm : oMul (.int (r : Int)) (.int (r : Int)) = M.pure (.int ((r * r : Nat) : Int)) := oMul_n (by omega) (by omega)
  have a3' : whileLoop (tVal (dBin oLe (dBin oMul (dVar 2) (dVar 2)) (dVar 0))) (sAug 2 oMul (dC (.int 2))) 100000 [.shr (.int N), .shr (.int 0), .shr (.int 1), .no] = _ := a3
  have b4' : whileLoop (tVal (dBin oLt (dVar 1) (dVar 2))) rootB 100000 [.shr (.int N), .shr (.int 0), .shr (.int h), .no] = _ := b4
  rcases Nat.lt_or_ge N (r * r) with z | z
  · have hn : rootN N = none := by
      cases e : rootN N with
      | none => rfl
      | some q =>
        have h2 := rootN_some e
        rcases Nat.lt_or_ge q r with y | y
        · have := b1 q y
          omega
        · have := sq_le y
          omega
    have e : oEq (.int ((r * r : Nat) : Int)) (.int (N : Int)) = M.pure (.bl false) := by
      rw [oEq_int]
      have : (((r * r : Nat) : Int) == (N : Int)) = false := beq_eq_false_iff_ne.mpr (by omega)
      rw [this]
    unfold rootB at b4'
    simp only [f_root, d_root, sWhile, bind_pure, lift_some, noX_pure, runDef, sNext, sSeq, sExpr, sRet, sRetN, sIf, sAsg, sPar2, sPar3, sAug, sOwn, sAppend, sFreeze, endOf, dVar, bVar, dC, dUn, dBin, dNil, dCons, dTup, dLst, dCall, asB, tVal, tAndD, tOrD, tNotD, dOfT, dIf, dAndV, dOrV, dNotV, oAdd, oAddI, oSub, oMod, oNeg, oLt, oLe, oGt, oGe, oIsNone, oNotNone, oIsN2, oNotN2, oAll, oAny, oSum, oLen, oTuple, oList, oAbs, oInt, oIx, asBs, asIs, wipeE, itemsOf, iVal, lcLoop, lcTurn, dLc, tYesD, gSet, gAll, gTupD, zipD, Sk.iZip, List.zip_cons_cons, List.zip_nil_right, List.zip_nil_left, List.map_cons, List.map_nil, List.length_cons, List.length_nil, List.replicate_succ, List.replicate_zero, List.cons_append, List.nil_append, List.append_nil, List.getElem?_cons_zero, List.getElem?_cons_succ, List.set_cons_zero, List.set_cons_succ, Option.map_some, Option.bind_some, Nat.reduceAdd, Nat.reduceSub, Nat.reduceLeDiff, ite_true, ite_false, Bool.false_eq_true, Bool.not_true, Bool.not_false, if_true, if_false, reduceIte, reduceCtorEq, List.sum_cons, List.sum_nil, List.all_cons, List.all_nil, List.any_cons, List.any_nil, id_eq, Bool.and_true, Bool.true_and, Bool.or_false, Bool.false_or, Bool.and_self, Bool.false_and, Bool.and_false, Bool.true_or, Bool.or_true, Int.cast_ofNat_Int, beq_self_eq_true, Int.reduceBEq, Int.reduceLT, Int.reduceLE, decide_true, decide_false, a3', b4', hm, e, hn, optD]
  · have hn : rootN N = some r := rootN_of (by omega)
    have e : oEq (.int ((r * r : Nat) : Int)) (.int (N : Int)) = M.pure (.bl true) := by
      rw [oEq_int]
      have : (((r * r : Nat) : Int) == (N : Int)) = true := beq_iff_eq.mpr (by omega)
      rw [this]
    unfold rootB at b4'
    simp only [f_root, d_root, sWhile, bind_pure, lift_some, noX_pure, runDef, sNext, sSeq, sExpr, sRet, sRetN, sIf, sAsg, sPar2, sPar3, sAug, sOwn, sAppend, sFreeze, endOf, dVar, bVar, dC, dUn, dBin, dNil, dCons, dTup, dLst, dCall, asB, tVal, tAndD, tOrD, tNotD, dOfT, dIf, dAndV, dOrV, dNotV, oAdd, oAddI, oSub, oMod, oNeg, oLt, oLe, oGt, oGe, oIsNone, oNotNone, oIsN2, oNotN2, oAll, oAny, oSum, oLen, oTuple, oList, oAbs, oInt, oIx, asBs, asIs, wipeE, itemsOf, iVal, lcLoop, lcTurn, dLc, tYesD, gSet, gAll, gTupD, zipD, Sk.iZip, List.zip_cons_cons, List.zip_nil_right, List.zip_nil_left, List.map_cons, List.map_nil, List.length_cons, List.length_nil, List.replicate_succ, List.replicate_zero, List.cons_append, List.nil_append, List.append_nil, List.getElem?_cons_zero, List.getElem?_cons_succ, List.set_cons_zero, List.set_cons_succ, Option.map_some, Option.bind_some, Nat.reduceAdd, Nat.reduceSub, Nat.reduceLeDiff, ite_true, ite_false, Bool.false_eq_true, Bool.not_true, Bool.not_false, if_true, if_false, reduceIte, reduceCtorEq, List.sum_cons, List.sum_nil, List.all_cons, List.all_nil, List.any_cons, List.any_nil, id_eq, Bool.and_true, Bool.true_and, Bool.or_false, Bool.false_or, Bool.and_self, Bool.false_and, Bool.and_false, Bool.true_or, Bool.or_true, Int.cast_ofNat_Int, beq_self_eq_true, Int.reduceBEq, Int.reduceLT, Int.reduceLE, decide_true, decide_false, a3', b4', hm, e, hn, optD]

/-! ### lowest terms, ratios -/
theorem oDiv_g {i g : Int} (h : 0 < g) (hb : g.natAbs < 2 ^ 8000) : oDiv (.int i) (.int g) = M.pure (.int (i / g)) := by
  have e : divOk g = true := by
    unfold divOk
    rw [decide_eq_true h, decide_eq_true hb]
    rfl
  show (if divOk g = true then M.pure (D.int (i / g)) else stk) = _
  rw [if_pos e]
theorem gcd_pos {a b : Int} (h : a ≠ 0 ∨ b ≠ 0) : 0 < Int.gcd a b := by
  rcases Nat.eq_zero_or_pos (Int.gcd a b) with z | z
  · rw [Int.gcd_eq_zero_iff] at z
    omega
  · exact z
theorem gcd_le {a b : Int} (h : b ≠ 0) : Int.gcd a b ≤ b.natAbs := Nat.le_of_dvd (by omega) (Int.natAbs_dvd_natAbs.mpr (Int.gcd_dvd_right a b) |> fun z => by simpa using z)
def lowN (a b : Int) : Int × Int := (a / (Int.gcd a b : Int), b / (Int.gcd a b : Int))
theorem f_lowest_eq {a b : Int} (ha : a.natAbs < 2 ^ 4000) (hb : b.natAbs < 2 ^ 4000) (h : b ≠ 0) : f_lowest [.int a, .int b] = M.pure (.tup [.int (lowN a b).1, .int (lowN a b).2]) := by
  have h1 : 2 ^ 4000 ≤ 2 ^ 20000 := Nat.pow_le_pow_right (by omega) (by omega)
  have h2 : 2 ^ 4000 ≤ 2 ^ 8000 := Nat.pow_le_pow_right (by omega) (by omega)
  have g := f_common_eq (a := a) (b := b) (by omega) (by omega)
  have gp : 0 < Int.gcd a b := gcd_pos (.inr h)
  have gl := gcd_le (a := a) h
  have d1 : ∀ i, oDiv (.int i) (.int (Int.gcd a b : Int)) = M.pure (.int (i / (Int.gcd a b : Int))) := fun i => oDiv_g (by omega) (by omega)
  simp only [f_lowest, d_lowest, g, d1, bind_pure, lift_some, noX_pure, runDef, sNext, sSeq, sExpr, sRet, sRetN, sIf, sAsg, sPar2, sPar3, sAug, sOwn, sAppend, sFreeze, endOf, dVar, bVar, dC, dUn, dBin, dNil, dCons, dTup, dLst, dCall, asB, tVal, tAndD, tOrD, tNotD, dOfT, dIf, dAndV, dOrV, dNotV, oAdd, oAddI, oSub, oMod, oNeg, oLt, oLe, oGt, oGe, oIsNone, oNotNone, oIsN2, oNotN2, oAll, oAny, oSum, oLen, oTuple, oList, oAbs, oInt, oIx, asBs, asIs, wipeE, itemsOf, iVal, lcLoop, lcTurn, dLc, tYesD, gSet, gAll, gTupD, zipD, Sk.iZip, List.zip_cons_cons, List.zip_nil_right, List.zip_nil_left, List.map_cons, List.map_nil, List.length_cons, List.length_nil, List.replicate_succ, List.replicate_zero, List.cons_append, List.nil_append, List.append_nil, List.getElem?_cons_zero, List.getElem?_cons_succ, List.set_cons_zero, List.set_cons_succ, Option.map_some, Option.bind_some, Nat.reduceAdd, Nat.reduceSub, Nat.reduceLeDiff, ite_true, ite_false, Bool.false_eq_true, Bool.not_true, Bool.not_false, if_true, if_false, reduceIte, reduceCtorEq, List.sum_cons, List.sum_nil, List.all_cons, List.all_nil, List.any_cons, List.any_nil, id_eq, Bool.and_true, Bool.true_and, Bool.or_false, Bool.false_or, Bool.and_self, Bool.false_and, Bool.and_false, Bool.true_or, Bool.or_true, Int.cast_ofNat_Int, beq_self_eq_true, Int.reduceBEq, Int.reduceLT, Int.reduceLE, decide_true, decide_false, lowN]
def times (k : Int) (a : T3) : T3 := (k * a.1, k * a.2.1, k * a.2.2)
def plus (a b : T3) : T3 := (a.1 + b.1, a.2.1 + b.2.1, a.2.2 + b.2.2)
def neg (a : T3) : T3 := (-a.1, -a.2.1, -a.2.2)
def gcd3 (a : T3) : Int := (Int.gcd (Int.gcd a.1 a.2.1 : Int) a.2.2 : Int)
def least (a : T3) : T3 := (a.1 / gcd3 a, a.2.1 / gcd3 a, a.2.2 / gcd3 a)
def sq (a : T3) : Nat := a.1.natAbs * a.1.natAbs + (a.2.1.natAbs * a.2.1.natAbs + a.2.2.natAbs * a.2.2.natAbs)
theorem dot_self (a : T3) : dot a a = (sq a : Int) := by
  unfold dot sq
  rw [Int.natCast_add, Int.natCast_add, Int.natCast_mul, Int.natCast_mul, Int.natCast_mul, Int.natAbs_mul_self', Int.natAbs_mul_self', Int.natAbs_mul_self']
  omega
theorem gcd3_pos {a : T3} (h : a ≠ z3) : 0 < gcd3 a := by
  unfold gcd3
  have : 0 < Int.gcd (Int.gcd a.1 a.2.1 : Int) a.2.2 := by
    rcases Nat.eq_zero_or_pos (Int.gcd (Int.gcd a.1 a.2.1 : Int) a.2.2) with z | z
    · exfalso
      rw [Int.gcd_eq_zero_iff] at z
      have z1 : Int.gcd a.1 a.2.1 = 0 := by omega
      rw [Int.gcd_eq_zero_iff] at z1
      exact h (Prod.ext z1.1 (Prod.ext z1.2 z.2))
    · exact z
  omega
theorem gcd3_dvd (a : T3) : gcd3 a ∣ a.1 ∧ gcd3 a ∣ a.2.1 ∧ gcd3 a ∣ a.2.2 := by
  unfold gcd3
  have h1 : (Int.gcd (Int.gcd a.1 a.2.1 : Int) a.2.2 : Int) ∣ (Int.gcd a.1 a.2.1 : Int) := Int.gcd_dvd_left ..
  exact ⟨Int.dvd_trans h1 (Int.gcd_dvd_left ..), Int.dvd_trans h1 (Int.gcd_dvd_right ..), Int.gcd_dvd_right ..⟩
theorem natAbs_le_of_dvd {g a : Int} (h : g ∣ a) (ha : a ≠ 0) : g.natAbs ≤ a.natAbs := Nat.le_of_dvd (by omega) (Int.natAbs_dvd_natAbs.mpr h)
theorem gcd3_B {k : Nat} {a : T3} (h : B k a) (ha : a ≠ z3) : Bi k (gcd3 a) := by
  obtain ⟨d1, d2, d3⟩ := gcd3_dvd a
  obtain ⟨h1, h2, h3⟩ := h
  unfold Bi at *
  by_cases e1 : a.1 = 0
  · by_cases e2 : a.2.1 = 0
    · by_cases e3 : a.2.2 = 0
      · exact absurd (Prod.ext e1 (Prod.ext e2 e3)) ha
      · have := natAbs_le_of_dvd d3 e3
        omega
    · have := natAbs_le_of_dvd d2 e2
      omega
  · have := natAbs_le_of_dvd d1 e1
    omega
theorem Bi.gcd {k : Nat} {i j : Int} (h : Bi k i) (g : Bi k j) : Bi k (Int.gcd i j : Int) := by
  unfold Bi at *
  rw [Int.natAbs_natCast]
  by_cases e : i = 0
  · subst e
    rw [Int.gcd_zero_left]
    exact g
  · have := natAbs_le_of_dvd (Int.gcd_dvd_left i j) e
    rw [Int.natAbs_natCast] at this
    omega
theorem Bi.ediv {k : Nat} {i j : Int} (h : Bi k i) (hj : 0 < j) (d : j ∣ i) : Bi k (i / j) := by
  unfold Bi at *
  obtain ⟨q, rfl⟩ := d
  rw [Int.mul_ediv_cancel_left _ (by omega)]
  rw [Int.natAbs_mul] at h
  have : 1 * q.natAbs ≤ j.natAbs * q.natAbs := Nat.mul_le_mul_right _ (by omega)
  omega
theorem f_times_eq {k m : Nat} {c : Int} {a : T3} (hc : Bi k c) (h : B m a) (hk : k ≤ 8000) (hm : m ≤ 8000) : f_times [.int c, tD a] = M.pure (tD (times c a)) := by
  obtain ⟨h1, h2, h3⟩ := h
  simp only [f_times, d_times, tD, oMul_b hc h1 hk hm, oMul_b hc h2 hk hm, oMul_b hc h3 hk hm, bind_pure, lift_some, noX_pure, runDef, sNext, sSeq, sExpr, sRet, sRetN, sIf, sAsg, sPar2, sPar3, sAug, sOwn, sAppend, sFreeze, endOf, dVar, bVar, dC, dUn, dBin, dNil, dCons, dTup, dLst, dCall, asB, tVal, tAndD, tOrD, tNotD, dOfT, dIf, dAndV, dOrV, dNotV, oAdd, oAddI, oSub, oMod, oNeg, oLt, oLe, oGt, oGe, oIsNone, oNotNone, oIsN2, oNotN2, oAll, oAny, oSum, oLen, oTuple, oList, oAbs, oInt, oIx, asBs, asIs, wipeE, itemsOf, iVal, lcLoop, lcTurn, dLc, tYesD, gSet, gAll, gTupD, zipD, Sk.iZip, List.zip_cons_cons, List.zip_nil_right, List.zip_nil_left, List.map_cons, List.map_nil, List.length_cons, List.length_nil, List.replicate_succ, List.replicate_zero, List.cons_append, List.nil_append, List.append_nil, List.getElem?_cons_zero, List.getElem?_cons_succ, List.set_cons_zero, List.set_cons_succ, Option.map_some, Option.bind_some, Nat.reduceAdd, Nat.reduceSub, Nat.reduceLeDiff, ite_true, ite_false, Bool.false_eq_true, Bool.not_true, Bool.not_false, if_true, if_false, reduceIte, reduceCtorEq, List.sum_cons, List.sum_nil, List.all_cons, List.all_nil, List.any_cons, List.any_nil, id_eq, Bool.and_true, Bool.true_and, Bool.or_false, Bool.false_or, Bool.and_self, Bool.false_and, Bool.and_false, Bool.true_or, Bool.or_true, Int.cast_ofNat_Int, beq_self_eq_true, Int.reduceBEq, Int.reduceLT, Int.reduceLE, decide_true, decide_false, times]
theorem f_plus_eq {a b : T3} : f_plus [tD a, tD b] = M.pure (tD (plus a b)) := by
  simp only [f_plus, d_plus, tD, bind_pure, lift_some, noX_pure, runDef, sNext, sSeq, sExpr, sRet, sRetN, sIf, sAsg, sPar2, sPar3, sAug, sOwn, sAppend, sFreeze, endOf, dVar, bVar, dC, dUn, dBin, dNil, dCons, dTup, dLst, dCall, asB, tVal, tAndD, tOrD, tNotD, dOfT, dIf, dAndV, dOrV, dNotV, oAdd, oAddI, oSub, oMod, oNeg, oLt, oLe, oGt, oGe, oIsNone, oNotNone, oIsN2, oNotN2, oAll, oAny, oSum, oLen, oTuple, oList, oAbs, oInt, oIx, asBs, asIs, wipeE, itemsOf, iVal, lcLoop, lcTurn, dLc, tYesD, gSet, gAll, gTupD, zipD, Sk.iZip, List.zip_cons_cons, List.zip_nil_right, List.zip_nil_left, List.map_cons, List.map_nil, List.length_cons, List.length_nil, List.replicate_succ, List.replicate_zero, List.cons_append, List.nil_append, List.append_nil, List.getElem?_cons_zero, List.getElem?_cons_succ, List.set_cons_zero, List.set_cons_succ, Option.map_some, Option.bind_some, Nat.reduceAdd, Nat.reduceSub, Nat.reduceLeDiff, ite_true, ite_false, Bool.false_eq_true, Bool.not_true, Bool.not_false, if_true, if_false, reduceIte, reduceCtorEq, List.sum_cons, List.sum_nil, List.all_cons, List.all_nil, List.any_cons, List.any_nil, id_eq, Bool.and_true, Bool.true_and, Bool.or_false, Bool.false_or, Bool.and_self, Bool.false_and, Bool.and_false, Bool.true_or, Bool.or_true, Int.cast_ofNat_Int, beq_self_eq_true, Int.reduceBEq, Int.reduceLT, Int.reduceLE, decide_true, decide_false, plus]
def det (a b c : T3) : Int := dot (cross a b) c
theorem f_det_eq {k m n : Nat} {a b c : T3} (h : B k a) (g : B m b) (f : B n c) (hk : k + m + 1 ≤ 8000) (hn : n ≤ 8000) : f_det [tD a, tD b, tD c] = M.pure (.int (det a b c)) := by
  have e1 : f_cross [.tup [.int a.1, .int a.2.1, .int a.2.2], .tup [.int b.1, .int b.2.1, .int b.2.2]] = M.pure (tD (cross a b)) := f_cross_eq h g (by omega) (by omega)
  have e2 : f_dot [.tup [.int (cross a b).1, .int (cross a b).2.1, .int (cross a b).2.2], .tup [.int c.1, .int c.2.1, .int c.2.2]] = M.pure (.int (det a b c)) := f_dot_eq (h.cross g) f (by omega) (by omega)
  simp only [f_det, d_det, tD, e1, e2, bind_pure, lift_some, noX_pure, runDef, sNext, sSeq, sExpr, sRet, sRetN, sIf, sAsg, sPar2, sPar3, sAug, sOwn, sAppend, sFreeze, endOf, dVar, bVar, dC, dUn, dBin, dNil, dCons, dTup, dLst, dCall, asB, tVal, tAndD, tOrD, tNotD, dOfT, dIf, dAndV, dOrV, dNotV, oAdd, oAddI, oSub, oMod, oNeg, oLt, oLe, oGt, oGe, oIsNone, oNotNone, oIsN2, oNotN2, oAll, oAny, oSum, oLen, oTuple, oList, oAbs, oInt, oIx, asBs, asIs, wipeE, itemsOf, iVal, lcLoop, lcTurn, dLc, tYesD, gSet, gAll, gTupD, zipD, Sk.iZip, List.zip_cons_cons, List.zip_nil_right, List.zip_nil_left, List.map_cons, List.map_nil, List.length_cons, List.length_nil, List.replicate_succ, List.replicate_zero, List.cons_append, List.nil_append, List.append_nil, List.getElem?_cons_zero, List.getElem?_cons_succ, List.set_cons_zero, List.set_cons_succ, Option.map_some, Option.bind_some, Nat.reduceAdd, Nat.reduceSub, Nat.reduceLeDiff, ite_true, ite_false, Bool.false_eq_true, Bool.not_true, Bool.not_false, if_true, if_false, reduceIte, reduceCtorEq, List.sum_cons, List.sum_nil, List.all_cons, List.all_nil, List.any_cons, List.any_nil, id_eq, Bool.and_true, Bool.true_and, Bool.or_false, Bool.false_or, Bool.and_self, Bool.false_and, Bool.and_false, Bool.true_or, Bool.or_true, Int.cast_ofNat_Int, beq_self_eq_true, Int.reduceBEq, Int.reduceLT, Int.reduceLE, decide_true, decide_false]
theorem f_is_on_line_eq {k m : Nat} {a b : T3} (h : B k a) (g : B m b) (hk : k ≤ 8000) (hm : m ≤ 8000) : f_is_on_line [tD a, tD b] = M.pure (.bl (decide (cross a b = z3))) := by
  have e1 : f_cross [.tup [.int a.1, .int a.2.1, .int a.2.2], .tup [.int b.1, .int b.2.1, .int b.2.2]] = M.pure (tD (cross a b)) := f_cross_eq h g hk hm
  have e2 : oEq (.tup [.int (cross a b).1, .int (cross a b).2.1, .int (cross a b).2.2]) (.tup [.int 0, .int 0, .int 0]) = M.pure (.bl (decide (cross a b = z3))) := oEq_t3 _ z3
  simp only [f_is_on_line, d_is_on_line, tD, e1, e2, bind_pure, lift_some, noX_pure, runDef, sNext, sSeq, sExpr, sRet, sRetN, sIf, sAsg, sPar2, sPar3, sAug, sOwn, sAppend, sFreeze, endOf, dVar, bVar, dC, dUn, dBin, dNil, dCons, dTup, dLst, dCall, asB, tVal, tAndD, tOrD, tNotD, dOfT, dIf, dAndV, dOrV, dNotV, oAdd, oAddI, oSub, oMod, oNeg, oLt, oLe, oGt, oGe, oIsNone, oNotNone, oIsN2, oNotN2, oAll, oAny, oSum, oLen, oTuple, oList, oAbs, oInt, oIx, asBs, asIs, wipeE, itemsOf, iVal, lcLoop, lcTurn, dLc, tYesD, gSet, gAll, gTupD, zipD, Sk.iZip, List.zip_cons_cons, List.zip_nil_right, List.zip_nil_left, List.map_cons, List.map_nil, List.length_cons, List.length_nil, List.replicate_succ, List.replicate_zero, List.cons_append, List.nil_append, List.append_nil, List.getElem?_cons_zero, List.getElem?_cons_succ, List.set_cons_zero, List.set_cons_succ, Option.map_some, Option.bind_some, Nat.reduceAdd, Nat.reduceSub, Nat.reduceLeDiff, ite_true, ite_false, Bool.false_eq_true, Bool.not_true, Bool.not_false, if_true, if_false, reduceIte, reduceCtorEq, List.sum_cons, List.sum_nil, List.all_cons, List.all_nil, List.any_cons, List.any_nil, id_eq, Bool.and_true, Bool.true_and, Bool.or_false, Bool.false_or, Bool.and_self, Bool.false_and, Bool.and_false, Bool.true_or, Bool.or_true, Int.cast_ofNat_Int, beq_self_eq_true, Int.reduceBEq, Int.reduceLT, Int.reduceLE, decide_true, decide_false]
theorem f_least_eq {k : Nat} {a : T3} (h : B k a) (hk : k ≤ 4000) (ha : a ≠ z3) : f_least [tD a] = M.pure (tD (least a)) := by
  have hp : 2 ^ 4000 ≤ 2 ^ 20000 := Nat.pow_le_pow_right (by omega) (by omega)
  have c0 : f_check_triple [.str "direction", .tup [.int a.1, .int a.2.1, .int a.2.2]] = M.pure .non := f_check_triple_eq _ ha
  have h12 : Bi k (Int.gcd a.1 a.2.1 : Int) := h.1.gcd h.2.1
  have b20 : ∀ i, Bi k i → i.natAbs < 2 ^ 20000 := fun i hi => Nat.lt_of_lt_of_le (hi.mono hk) hp
  have c1 := f_common_eq (b20 _ h.1) (b20 _ h.2.1)
  have c2 : f_common [.int (Int.gcd a.1 a.2.1 : Int), .int a.2.2] = M.pure (.int (gcd3 a)) := f_common_eq (b20 _ h12) (b20 _ h.2.2)
  have gp := gcd3_pos ha
  have gb : (gcd3 a).natAbs < 2 ^ 8000 := (gcd3_B h ha).mono (by omega)
  have d1 : ∀ i, oDiv (.int i) (.int (gcd3 a)) = M.pure (.int (i / gcd3 a)) := fun i => oDiv_g gp gb
  simp only [f_least, d_least, tD, atI0, atI1, atI2, c0, c1, c2, d1, bind_pure, lift_some, noX_pure, runDef, sNext, sSeq, sExpr, sRet, sRetN, sIf, sAsg, sPar2, sPar3, sAug, sOwn, sAppend, sFreeze, endOf, dVar, bVar, dC, dUn, dBin, dNil, dCons, dTup, dLst, dCall, asB, tVal, tAndD, tOrD, tNotD, dOfT, dIf, dAndV, dOrV, dNotV, oAdd, oAddI, oSub, oMod, oNeg, oLt, oLe, oGt, oGe, oIsNone, oNotNone, oIsN2, oNotN2, oAll, oAny, oSum, oLen, oTuple, oList, oAbs, oInt, oIx, asBs, asIs, wipeE, itemsOf, iVal, lcLoop, lcTurn, dLc, tYesD, gSet, gAll, gTupD, zipD, Sk.iZip, List.zip_cons_cons, List.zip_nil_right, List.zip_nil_left, List.map_cons, List.map_nil, List.length_cons, List.length_nil, List.replicate_succ, List.replicate_zero, List.cons_append, List.nil_append, List.append_nil, List.getElem?_cons_zero, List.getElem?_cons_succ, List.set_cons_zero, List.set_cons_succ, Option.map_some, Option.bind_some, Nat.reduceAdd, Nat.reduceSub, Nat.reduceLeDiff, ite_true, ite_false, Bool.false_eq_true, Bool.not_true, Bool.not_false, if_true, if_false, reduceIte, reduceCtorEq, List.sum_cons, List.sum_nil, List.all_cons, List.all_nil, List.any_cons, List.any_nil, id_eq, Bool.and_true, Bool.true_and, Bool.or_false, Bool.false_or, Bool.and_self, Bool.false_and, Bool.and_false, Bool.true_or, Bool.or_true, Int.cast_ofNat_Int, beq_self_eq_true, Int.reduceBEq, Int.reduceLT, Int.reduceLE, decide_true, decide_false, least]
theorem ediv_zero {g a : Int} (hg : 0 < g) (d : g ∣ a) (h : a / g = 0) : a = 0 := by
  obtain ⟨q, rfl⟩ := d
  rw [Int.mul_ediv_cancel_left _ (by omega)] at h
  rw [h, Int.mul_zero]
theorem least_ne {a : T3} (h : a ≠ z3) : least a ≠ z3 := by
  intro e
  have gp := gcd3_pos h
  obtain ⟨d1, d2, d3⟩ := gcd3_dvd a
  have e1 : a.1 / gcd3 a = 0 := congrArg Prod.fst e
  have e2 : a.2.1 / gcd3 a = 0 := congrArg (fun x => x.2.1) e
  have e3 : a.2.2 / gcd3 a = 0 := congrArg (fun x => x.2.2) e
  exact h (Prod.ext (ediv_zero gp d1 e1) (Prod.ext (ediv_zero gp d2 e2) (ediv_zero gp d3 e3)))
theorem B.least {k : Nat} {a : T3} (h : B k a) (ha : a ≠ z3) : B k (least a) := by
  obtain ⟨d1, d2, d3⟩ := gcd3_dvd a
  have gp := gcd3_pos ha
  exact ⟨h.1.ediv gp d1, h.2.1.ediv gp d2, h.2.2.ediv gp d3⟩
theorem B.neg {k : Nat} {a : T3} (h : B k a) : B k (neg a) := ⟨h.1.neg, h.2.1.neg, h.2.2.neg⟩
theorem B.times {k m : Nat} {c : Int} {a : T3} (hc : Bi k c) (h : B m a) : B (k + m) (times c a) := ⟨hc.mul h.1, hc.mul h.2.1, hc.mul h.2.2⟩
theorem B.plus {k : Nat} {a b : T3} (h : B k a) (g : B k b) : B (k + 1) (plus a b) := ⟨h.1.add g.1, h.2.1.add g.2.1, h.2.2.add g.2.2⟩
theorem f_opposite_eq {k : Nat} {a : T3} (h : B k a) (hk : k ≤ 4000) (ha : a ≠ z3) : f_opposite [tD a] = M.pure (tD (neg (least a))) := by
  have c : f_least [.tup [.int a.1, .int a.2.1, .int a.2.2]] = M.pure (.tup [.int (least a).1, .int (least a).2.1, .int (least a).2.2]) := f_least_eq h hk ha
  simp only [f_opposite, d_opposite, tD, c, bind_pure, lift_some, noX_pure, runDef, sNext, sSeq, sExpr, sRet, sRetN, sIf, sAsg, sPar2, sPar3, sAug, sOwn, sAppend, sFreeze, endOf, dVar, bVar, dC, dUn, dBin, dNil, dCons, dTup, dLst, dCall, asB, tVal, tAndD, tOrD, tNotD, dOfT, dIf, dAndV, dOrV, dNotV, oAdd, oAddI, oSub, oMod, oNeg, oLt, oLe, oGt, oGe, oIsNone, oNotNone, oIsN2, oNotN2, oAll, oAny, oSum, oLen, oTuple, oList, oAbs, oInt, oIx, asBs, asIs, wipeE, itemsOf, iVal, lcLoop, lcTurn, dLc, tYesD, gSet, gAll, gTupD, zipD, Sk.iZip, List.zip_cons_cons, List.zip_nil_right, List.zip_nil_left, List.map_cons, List.map_nil, List.length_cons, List.length_nil, List.replicate_succ, List.replicate_zero, List.cons_append, List.nil_append, List.append_nil, List.getElem?_cons_zero, List.getElem?_cons_succ, List.set_cons_zero, List.set_cons_succ, Option.map_some, Option.bind_some, Nat.reduceAdd, Nat.reduceSub, Nat.reduceLeDiff, ite_true, ite_false, Bool.false_eq_true, Bool.not_true, Bool.not_false, if_true, if_false, reduceIte, reduceCtorEq, List.sum_cons, List.sum_nil, List.all_cons, List.all_nil, List.any_cons, List.any_nil, id_eq, Bool.and_true, Bool.true_and, Bool.or_false, Bool.false_or, Bool.and_self, Bool.false_and, Bool.and_false, Bool.true_or, Bool.or_true, Int.cast_ofNat_Int, beq_self_eq_true, Int.reduceBEq, Int.reduceLT, Int.reduceLE, decide_true, decide_false, neg]
theorem f_is_same_eq {k m : Nat} {a b : T3} (h : B k a) (g : B m b) (hk : k ≤ 4000) (hm : m ≤ 4000) (ha : a ≠ z3) (hb : b ≠ z3) : f_is_same [tD a, tD b] = M.pure (.bl (decide (least a = least b))) := by
  have c : f_least [.tup [.int a.1, .int a.2.1, .int a.2.2]] = M.pure (.tup [.int (least a).1, .int (least a).2.1, .int (least a).2.2]) := f_least_eq h hk ha
  have c2 : f_least [.tup [.int b.1, .int b.2.1, .int b.2.2]] = M.pure (.tup [.int (least b).1, .int (least b).2.1, .int (least b).2.2]) := f_least_eq g hm hb
  have e := oEq_t3 (least a) (least b)
  simp only [tD] at e
  simp only [f_is_same, d_is_same, tD, c, c2, e, bind_pure, lift_some, noX_pure, runDef, sNext, sSeq, sExpr, sRet, sRetN, sIf, sAsg, sPar2, sPar3, sAug, sOwn, sAppend, sFreeze, endOf, dVar, bVar, dC, dUn, dBin, dNil, dCons, dTup, dLst, dCall, asB, tVal, tAndD, tOrD, tNotD, dOfT, dIf, dAndV, dOrV, dNotV, oAdd, oAddI, oSub, oMod, oNeg, oLt, oLe, oGt, oGe, oIsNone, oNotNone, oIsN2, oNotN2, oAll, oAny, oSum, oLen, oTuple, oList, oAbs, oInt, oIx, asBs, asIs, wipeE, itemsOf, iVal, lcLoop, lcTurn, dLc, tYesD, gSet, gAll, gTupD, zipD, Sk.iZip, List.zip_cons_cons, List.zip_nil_right, List.zip_nil_left, List.map_cons, List.map_nil, List.length_cons, List.length_nil, List.replicate_succ, List.replicate_zero, List.cons_append, List.nil_append, List.append_nil, List.getElem?_cons_zero, List.getElem?_cons_succ, List.set_cons_zero, List.set_cons_succ, Option.map_some, Option.bind_some, Nat.reduceAdd, Nat.reduceSub, Nat.reduceLeDiff, ite_true, ite_false, Bool.false_eq_true, Bool.not_true, Bool.not_false, if_true, if_false, reduceIte, reduceCtorEq, List.sum_cons, List.sum_nil, List.all_cons, List.all_nil, List.any_cons, List.any_nil, id_eq, Bool.and_true, Bool.true_and, Bool.or_false, Bool.false_or, Bool.and_self, Bool.false_and, Bool.and_false, Bool.true_or, Bool.or_true, Int.cast_ofNat_Int, beq_self_eq_true, Int.reduceBEq, Int.reduceLT, Int.reduceLE, decide_true, decide_false]
def sgn (i : Int) : Int := if 0 < i then 1 else if i = 0 then 0 else -1
theorem f_angle_sign_eq {k m : Nat} {a b : T3} (h : B k a) (g : B m b) (hk : k ≤ 8000) (hm : m ≤ 8000) (ha : a ≠ z3) (hb : b ≠ z3) : f_angle_sign [tD a, tD b] = M.pure (.int (sgn (dot a b))) := by
  have c0 : f_check_triple [.str "direction", .tup [.int a.1, .int a.2.1, .int a.2.2]] = M.pure .non := f_check_triple_eq _ ha
  have c1 : f_check_triple [.str "direction", .tup [.int b.1, .int b.2.1, .int b.2.2]] = M.pure .non := f_check_triple_eq _ hb
  have e : f_dot [.tup [.int a.1, .int a.2.1, .int a.2.2], .tup [.int b.1, .int b.2.1, .int b.2.2]] = M.pure (.int (dot a b)) := f_dot_eq h g hk hm
  simp only [f_angle_sign, d_angle_sign, tD, c0, c1, e, oEq_int, bind_pure, lift_some, noX_pure, runDef, sNext, sSeq, sExpr, sRet, sRetN, sIf, sAsg, sPar2, sPar3, sAug, sOwn, sAppend, sFreeze, endOf, dVar, bVar, dC, dUn, dBin, dNil, dCons, dTup, dLst, dCall, asB, tVal, tAndD, tOrD, tNotD, dOfT, dIf, dAndV, dOrV, dNotV, oAdd, oAddI, oSub, oMod, oNeg, oLt, oLe, oGt, oGe, oIsNone, oNotNone, oIsN2, oNotN2, oAll, oAny, oSum, oLen, oTuple, oList, oAbs, oInt, oIx, asBs, asIs, wipeE, itemsOf, iVal, lcLoop, lcTurn, dLc, tYesD, gSet, gAll, gTupD, zipD, Sk.iZip, List.zip_cons_cons, List.zip_nil_right, List.zip_nil_left, List.map_cons, List.map_nil, List.length_cons, List.length_nil, List.replicate_succ, List.replicate_zero, List.cons_append, List.nil_append, List.append_nil, List.getElem?_cons_zero, List.getElem?_cons_succ, List.set_cons_zero, List.set_cons_succ, Option.map_some, Option.bind_some, Nat.reduceAdd, Nat.reduceSub, Nat.reduceLeDiff, ite_true, ite_false, Bool.false_eq_true, Bool.not_true, Bool.not_false, if_true, if_false, reduceIte, reduceCtorEq, List.sum_cons, List.sum_nil, List.all_cons, List.all_nil, List.any_cons, List.any_nil, id_eq, Bool.and_true, Bool.true_and, Bool.or_false, Bool.false_or, Bool.and_self, Bool.false_and, Bool.and_false, Bool.true_or, Bool.or_true, Int.cast_ofNat_Int, beq_self_eq_true, Int.reduceBEq, Int.reduceLT, Int.reduceLE, decide_true, decide_false]
  unfold sgn
  by_cases h1 : 0 < dot a b
  · simp only [h1, bind_pure, lift_some, noX_pure, runDef, sNext, sSeq, sExpr, sRet, sRetN, sIf, sAsg, sPar2, sPar3, sAug, sOwn, sAppend, sFreeze, endOf, dVar, bVar, dC, dUn, dBin, dNil, dCons, dTup, dLst, dCall, asB, tVal, tAndD, tOrD, tNotD, dOfT, dIf, dAndV, dOrV, dNotV, oAdd, oAddI, oSub, oMod, oNeg, oLt, oLe, oGt, oGe, oIsNone, oNotNone, oIsN2, oNotN2, oAll, oAny, oSum, oLen, oTuple, oList, oAbs, oInt, oIx, asBs, asIs, wipeE, itemsOf, iVal, lcLoop, lcTurn, dLc, tYesD, gSet, gAll, gTupD, zipD, Sk.iZip, List.zip_cons_cons, List.zip_nil_right, List.zip_nil_left, List.map_cons, List.map_nil, List.length_cons, List.length_nil, List.replicate_succ, List.replicate_zero, List.cons_append, List.nil_append, List.append_nil, List.getElem?_cons_zero, List.getElem?_cons_succ, List.set_cons_zero, List.set_cons_succ, Option.map_some, Option.bind_some, Nat.reduceAdd, Nat.reduceSub, Nat.reduceLeDiff, ite_true, ite_false, Bool.false_eq_true, Bool.not_true, Bool.not_false, if_true, if_false, reduceIte, reduceCtorEq, List.sum_cons, List.sum_nil, List.all_cons, List.all_nil, List.any_cons, List.any_nil, id_eq, Bool.and_true, Bool.true_and, Bool.or_false, Bool.false_or, Bool.and_self, Bool.false_and, Bool.and_false, Bool.true_or, Bool.or_true, Int.cast_ofNat_Int, beq_self_eq_true, Int.reduceBEq, Int.reduceLT, Int.reduceLE, decide_true, decide_false]
  · by_cases h2 : dot a b = 0
    · simp only [h1, h2, bind_pure, lift_some, noX_pure, runDef, sNext, sSeq, sExpr, sRet, sRetN, sIf, sAsg, sPar2, sPar3, sAug, sOwn, sAppend, sFreeze, endOf, dVar, bVar, dC, dUn, dBin, dNil, dCons, dTup, dLst, dCall, asB, tVal, tAndD, tOrD, tNotD, dOfT, dIf, dAndV, dOrV, dNotV, oAdd, oAddI, oSub, oMod, oNeg, oLt, oLe, oGt, oGe, oIsNone, oNotNone, oIsN2, oNotN2, oAll, oAny, oSum, oLen, oTuple, oList, oAbs, oInt, oIx, asBs, asIs, wipeE, itemsOf, iVal, lcLoop, lcTurn, dLc, tYesD, gSet, gAll, gTupD, zipD, Sk.iZip, List.zip_cons_cons, List.zip_nil_right, List.zip_nil_left, List.map_cons, List.map_nil, List.length_cons, List.length_nil, List.replicate_succ, List.replicate_zero, List.cons_append, List.nil_append, List.append_nil, List.getElem?_cons_zero, List.getElem?_cons_succ, List.set_cons_zero, List.set_cons_succ, Option.map_some, Option.bind_some, Nat.reduceAdd, Nat.reduceSub, Nat.reduceLeDiff, ite_true, ite_false, Bool.false_eq_true, Bool.not_true, Bool.not_false, if_true, if_false, reduceIte, reduceCtorEq, List.sum_cons, List.sum_nil, List.all_cons, List.all_nil, List.any_cons, List.any_nil, id_eq, Bool.and_true, Bool.true_and, Bool.or_false, Bool.false_or, Bool.and_self, Bool.false_and, Bool.and_false, Bool.true_or, Bool.or_true, Int.cast_ofNat_Int, beq_self_eq_true, Int.reduceBEq, Int.reduceLT, Int.reduceLE, decide_true, decide_false]
    · have h3 : (dot a b == 0) = false := beq_eq_false_iff_ne.mpr h2
      simp only [h1, h2, h3, bind_pure, lift_some, noX_pure, runDef, sNext, sSeq, sExpr, sRet, sRetN, sIf, sAsg, sPar2, sPar3, sAug, sOwn, sAppend, sFreeze, endOf, dVar, bVar, dC, dUn, dBin, dNil, dCons, dTup, dLst, dCall, asB, tVal, tAndD, tOrD, tNotD, dOfT, dIf, dAndV, dOrV, dNotV, oAdd, oAddI, oSub, oMod, oNeg, oLt, oLe, oGt, oGe, oIsNone, oNotNone, oIsN2, oNotN2, oAll, oAny, oSum, oLen, oTuple, oList, oAbs, oInt, oIx, asBs, asIs, wipeE, itemsOf, iVal, lcLoop, lcTurn, dLc, tYesD, gSet, gAll, gTupD, zipD, Sk.iZip, List.zip_cons_cons, List.zip_nil_right, List.zip_nil_left, List.map_cons, List.map_nil, List.length_cons, List.length_nil, List.replicate_succ, List.replicate_zero, List.cons_append, List.nil_append, List.append_nil, List.getElem?_cons_zero, List.getElem?_cons_succ, List.set_cons_zero, List.set_cons_succ, Option.map_some, Option.bind_some, Nat.reduceAdd, Nat.reduceSub, Nat.reduceLeDiff, ite_true, ite_false, Bool.false_eq_true, Bool.not_true, Bool.not_false, if_true, if_false, reduceIte, reduceCtorEq, List.sum_cons, List.sum_nil, List.all_cons, List.all_nil, List.any_cons, List.any_nil, id_eq, Bool.and_true, Bool.true_and, Bool.or_false, Bool.false_or, Bool.and_self, Bool.false_and, Bool.and_false, Bool.true_or, Bool.or_true, Int.cast_ofNat_Int, beq_self_eq_true, Int.reduceBEq, Int.reduceLT, Int.reduceLE, decide_true, decide_false]
      try rfl
def between (a m b : T3) : Bool := !decide (cross a b = z3) && (dot (cross a b) m == 0) && decide (0 < dot (cross a m) (cross a b)) && decide (0 < dot (cross m b) (cross a b))
theorem f_is_between_eq {k m n : Nat} {a c b : T3} (h : B k a) (f : B m c) (g : B n b) (hk : k + m + n ≤ 3000) : f_is_between [tD a, tD c, tD b] = M.pure (.bl (between a c b)) := by
  have c1 : f_cross [.tup [.int a.1, .int a.2.1, .int a.2.2], .tup [.int b.1, .int b.2.1, .int b.2.2]] = M.pure (.tup [.int (cross a b).1, .int (cross a b).2.1, .int (cross a b).2.2]) := f_cross_eq h g (by omega) (by omega)
  have c2 : f_cross [.tup [.int a.1, .int a.2.1, .int a.2.2], .tup [.int c.1, .int c.2.1, .int c.2.2]] = M.pure (.tup [.int (cross a c).1, .int (cross a c).2.1, .int (cross a c).2.2]) := f_cross_eq h f (by omega) (by omega)
  have c3 : f_cross [.tup [.int c.1, .int c.2.1, .int c.2.2], .tup [.int b.1, .int b.2.1, .int b.2.2]] = M.pure (.tup [.int (cross c b).1, .int (cross c b).2.1, .int (cross c b).2.2]) := f_cross_eq f g (by omega) (by omega)
  have e2 : oEq (.tup [.int (cross a b).1, .int (cross a b).2.1, .int (cross a b).2.2]) (.tup [.int 0, .int 0, .int 0]) = M.pure (.bl (decide (cross a b = z3))) := oEq_t3 _ z3
  have d1 : f_dot [.tup [.int (cross a b).1, .int (cross a b).2.1, .int (cross a b).2.2], .tup [.int c.1, .int c.2.1, .int c.2.2]] = M.pure (.int (dot (cross a b) c)) := f_dot_eq (h.cross g) f (by omega) (by omega)
  have d2 : f_dot [.tup [.int (cross a c).1, .int (cross a c).2.1, .int (cross a c).2.2], .tup [.int (cross a b).1, .int (cross a b).2.1, .int (cross a b).2.2]] = M.pure (.int (dot (cross a c) (cross a b))) := f_dot_eq (h.cross f) (h.cross g) (by omega) (by omega)
  have d3 : f_dot [.tup [.int (cross c b).1, .int (cross c b).2.1, .int (cross c b).2.2], .tup [.int (cross a b).1, .int (cross a b).2.1, .int (cross a b).2.2]] = M.pure (.int (dot (cross c b) (cross a b))) := f_dot_eq (f.cross g) (h.cross g) (by omega) (by omega)
  simp only [f_is_between, d_is_between, tD, c1, c2, c3, e2, d1, d2, d3, oNe_int, bind_pure, lift_some, noX_pure, runDef, sNext, sSeq, sExpr, sRet, sRetN, sIf, sAsg, sPar2, sPar3, sAug, sOwn, sAppend, sFreeze, endOf, dVar, bVar, dC, dUn, dBin, dNil, dCons, dTup, dLst, dCall, asB, tVal, tAndD, tOrD, tNotD, dOfT, dIf, dAndV, dOrV, dNotV, oAdd, oAddI, oSub, oMod, oNeg, oLt, oLe, oGt, oGe, oIsNone, oNotNone, oIsN2, oNotN2, oAll, oAny, oSum, oLen, oTuple, oList, oAbs, oInt, oIx, asBs, asIs, wipeE, itemsOf, iVal, lcLoop, lcTurn, dLc, tYesD, gSet, gAll, gTupD, zipD, Sk.iZip, List.zip_cons_cons, List.zip_nil_right, List.zip_nil_left, List.map_cons, List.map_nil, List.length_cons, List.length_nil, List.replicate_succ, List.replicate_zero, List.cons_append, List.nil_append, List.append_nil, List.getElem?_cons_zero, List.getElem?_cons_succ, List.set_cons_zero, List.set_cons_succ, Option.map_some, Option.bind_some, Nat.reduceAdd, Nat.reduceSub, Nat.reduceLeDiff, ite_true, ite_false, Bool.false_eq_true, Bool.not_true, Bool.not_false, if_true, if_false, reduceIte, reduceCtorEq, List.sum_cons, List.sum_nil, List.all_cons, List.all_nil, List.any_cons, List.any_nil, id_eq, Bool.and_true, Bool.true_and, Bool.or_false, Bool.false_or, Bool.and_self, Bool.false_and, Bool.and_false, Bool.true_or, Bool.or_true, Int.cast_ofNat_Int, beq_self_eq_true, Int.reduceBEq, Int.reduceLT, Int.reduceLE, decide_true, decide_false, between]
  cases decide (cross a b = z3) <;> cases (dot (cross a b) c == 0) <;> cases hd : decide (0 < dot (cross a c) (cross a b)) <;> simp only [c2, c3, d2, d3, hd, bind_pure, lift_some, noX_pure, runDef, sNext, sSeq, sExpr, sRet, sRetN, sIf, sAsg, sPar2, sPar3, sAug, sOwn, sAppend, sFreeze, endOf, dVar, bVar, dC, dUn, dBin, dNil, dCons, dTup, dLst, dCall, asB, tVal, tAndD, tOrD, tNotD, dOfT, dIf, dAndV, dOrV, dNotV, oAdd, oAddI, oSub, oMod, oNeg, oLt, oLe, oGt, oGe, oIsNone, oNotNone, oIsN2, oNotN2, oAll, oAny, oSum, oLen, oTuple, oList, oAbs, oInt, oIx, asBs, asIs, wipeE, itemsOf, iVal, lcLoop, lcTurn, dLc, tYesD, gSet, gAll, gTupD, zipD, Sk.iZip, List.zip_cons_cons, List.zip_nil_right, List.zip_nil_left, List.map_cons, List.map_nil, List.length_cons, List.length_nil, List.replicate_succ, List.replicate_zero, List.cons_append, List.nil_append, List.append_nil, List.getElem?_cons_zero, List.getElem?_cons_succ, List.set_cons_zero, List.set_cons_succ, Option.map_some, Option.bind_some, Nat.reduceAdd, Nat.reduceSub, Nat.reduceLeDiff, ite_true, ite_false, Bool.false_eq_true, Bool.not_true, Bool.not_false, if_true, if_false, reduceIte, reduceCtorEq, List.sum_cons, List.sum_nil, List.all_cons, List.all_nil, List.any_cons, List.any_nil, id_eq, Bool.and_true, Bool.true_and, Bool.or_false, Bool.false_or, Bool.and_self, Bool.false_and, Bool.and_false, Bool.true_or, Bool.or_true, Int.cast_ofNat_Int, beq_self_eq_true, Int.reduceBEq, Int.reduceLT, Int.reduceLE, decide_true, decide_false]
def ratio (a b : T3) : Option (Int × Int) := (rootN (sq a * sq b)).map fun (r : Nat) => lowN (r : Int) (sq b : Int)
def ratD : Option (Int × Int) → D
  | none => .non
  | some p => .tup [.int p.1, .int p.2]
theorem sq_pos {a : T3} (h : a ≠ z3) : 0 < sq a := by
  rcases Nat.eq_zero_or_pos (sq a) with z | z
  · exfalso
    unfold sq at z
    have h1 : a.1.natAbs * a.1.natAbs = 0 := by omega
    have h2 : a.2.1.natAbs * a.2.1.natAbs = 0 := by omega
    have h3 : a.2.2.natAbs * a.2.2.natAbs = 0 := by omega
    rw [Nat.mul_eq_zero, or_self, Int.natAbs_eq_zero] at h1 h2 h3
    exact h (Prod.ext h1 (Prod.ext h2 h3))
  · exact z
theorem B.sq {k : Nat} {a : T3} (h : B k a) : sq a < 2 ^ (2 * k + 2) := by
  have := h.dot h
  rw [dot_self] at this
  unfold Bi at this
  rw [Int.natAbs_natCast] at this
  rwa [show 2 * k + 2 = k + k + 2 by omega]
theorem root_le {N r : Nat} (h : r * r = N) : r ≤ N := by
  rcases Nat.eq_zero_or_pos r with z | z
  · omega
  · have : r * 1 ≤ r * r := Nat.mul_le_mul_left r z
    omega
theorem f_ratio_eq {k m : Nat} {a b : T3} (h : B k a) (g : B m b) (hk : k + m ≤ 1900) (ha : a ≠ z3) (hb : b ≠ z3) : f_ratio [tD a, tD b] = M.pure (ratD (ratio a b)) := by
  have c0 : f_check_triple [.str "direction", .tup [.int a.1, .int a.2.1, .int a.2.2]] = M.pure .non := f_check_triple_eq _ ha
  have c1 : f_check_triple [.str "direction", .tup [.int b.1, .int b.2.1, .int b.2.2]] = M.pure .non := f_check_triple_eq _ hb
  have s1 := h.sq
  have s2 := g.sq
  have d1 : f_dot [.tup [.int a.1, .int a.2.1, .int a.2.2], .tup [.int a.1, .int a.2.1, .int a.2.2]] = M.pure (.int (sq a : Int)) := by
    rw [← dot_self]
    exact f_dot_eq h h (by omega) (by omega)
  have d2 : f_dot [.tup [.int b.1, .int b.2.1, .int b.2.2], .tup [.int b.1, .int b.2.1, .int b.2.2]] = M.pure (.int (sq b : Int)) := by
    rw [← dot_self]
    exact f_dot_eq g g (by omega) (by omega)
  have m1 : oMul (.int (sq a : Int)) (.int (sq b : Int)) = M.pure (.int ((sq a * sq b : Nat) : Int)) := oMul_n (Nat.lt_of_lt_of_le s1 (Nat.pow_le_pow_right (by omega) (by omega))) (Nat.lt_of_lt_of_le s2 (Nat.pow_le_pow_right (by omega) (by omega)))
  have hN : sq a * sq b < 2 ^ 4000 := by
    have := Nat.mul_lt_mul'' s1 s2
    rw [← Nat.pow_add] at this
    exact Nat.lt_of_lt_of_le this (Nat.pow_le_pow_right (by omega) (by omega))
  have r := f_root_eq hN
  have sb := sq_pos hb
  cases e : rootN (sq a * sq b) with
  | none =>
    rw [e] at r
    simp only [f_ratio, d_ratio, tD, c0, c1, d1, d2, m1, r, optD, bind_pure, lift_some, noX_pure, runDef, sNext, sSeq, sExpr, sRet, sRetN, sIf, sAsg, sPar2, sPar3, sAug, sOwn, sAppend, sFreeze, endOf, dVar, bVar, dC, dUn, dBin, dNil, dCons, dTup, dLst, dCall, asB, tVal, tAndD, tOrD, tNotD, dOfT, dIf, dAndV, dOrV, dNotV, oAdd, oAddI, oSub, oMod, oNeg, oLt, oLe, oGt, oGe, oIsNone, oNotNone, oIsN2, oNotN2, oAll, oAny, oSum, oLen, oTuple, oList, oAbs, oInt, oIx, asBs, asIs, wipeE, itemsOf, iVal, lcLoop, lcTurn, dLc, tYesD, gSet, gAll, gTupD, zipD, Sk.iZip, List.zip_cons_cons, List.zip_nil_right, List.zip_nil_left, List.map_cons, List.map_nil, List.length_cons, List.length_nil, List.replicate_succ, List.replicate_zero, List.cons_append, List.nil_append, List.append_nil, List.getElem?_cons_zero, List.getElem?_cons_succ, List.set_cons_zero, List.set_cons_succ, Option.map_some, Option.bind_some, Nat.reduceAdd, Nat.reduceSub, Nat.reduceLeDiff, ite_true, ite_false, Bool.false_eq_true, Bool.not_true, Bool.not_false, if_true, if_false, reduceIte, reduceCtorEq, List.sum_cons, List.sum_nil, List.all_cons, List.all_nil, List.any_cons, List.any_nil, id_eq, Bool.and_true, Bool.true_and, Bool.or_false, Bool.false_or, Bool.and_self, Bool.false_and, Bool.and_false, Bool.true_or, Bool.or_true, Int.cast_ofNat_Int, beq_self_eq_true, Int.reduceBEq, Int.reduceLT, Int.reduceLE, decide_true, decide_false, ratio, e, Option.map_none, ratD]
  | some q =>
    rw [e] at r
    have hq := root_le (rootN_some e)
    have l : f_lowest [.int (q : Int), .int (sq b : Int)] = M.pure (.tup [.int (lowN (q : Int) (sq b : Int)).1, .int (lowN (q : Int) (sq b : Int)).2]) :=
      f_lowest_eq (by rw [Int.natAbs_natCast]; omega) (by rw [Int.natAbs_natCast]; exact Nat.lt_of_lt_of_le s2 (Nat.pow_le_pow_right (by omega) (by omega))) (by omega)
    simp only [f_ratio, d_ratio, tD, c0, c1, d1, d2, m1, r, optD, l, bind_pure, lift_some, noX_pure, runDef, sNext, sSeq, sExpr, sRet, sRetN, sIf, sAsg, sPar2, sPar3, sAug, sOwn, sAppend, sFreeze, endOf, dVar, bVar, dC, dUn, dBin, dNil, dCons, dTup, dLst, dCall, asB, tVal, tAndD, tOrD, tNotD, dOfT, dIf, dAndV, dOrV, dNotV, oAdd, oAddI, oSub, oMod, oNeg, oLt, oLe, oGt, oGe, oIsNone, oNotNone, oIsN2, oNotN2, oAll, oAny, oSum, oLen, oTuple, oList, oAbs, oInt, oIx, asBs, asIs, wipeE, itemsOf, iVal, lcLoop, lcTurn, dLc, tYesD, gSet, gAll, gTupD, zipD, Sk.iZip, List.zip_cons_cons, List.zip_nil_right, List.zip_nil_left, List.map_cons, List.map_nil, List.length_cons, List.length_nil, List.replicate_succ, List.replicate_zero, List.cons_append, List.nil_append, List.append_nil, List.getElem?_cons_zero, List.getElem?_cons_succ, List.set_cons_zero, List.set_cons_succ, Option.map_some, Option.bind_some, Nat.reduceAdd, Nat.reduceSub, Nat.reduceLeDiff, ite_true, ite_false, Bool.false_eq_true, Bool.not_true, Bool.not_false, if_true, if_false, reduceIte, reduceCtorEq, List.sum_cons, List.sum_nil, List.all_cons, List.all_nil, List.any_cons, List.any_nil, id_eq, Bool.and_true, Bool.true_and, Bool.or_false, Bool.false_or, Bool.and_self, Bool.false_and, Bool.and_false, Bool.true_or, Bool.or_true, Int.cast_ofNat_Int, beq_self_eq_true, Int.reduceBEq, Int.reduceLT, Int.reduceLE, decide_true, decide_false, ratio, e, ratD]
def alike (a b c d : T3) : Bool := if dot a b * dot c d < 0 ∨ dot a b * dot a b * (sq c : Int) * (sq d : Int) ≠ dot c d * dot c d * ((sq a : Int) * (sq b : Int)) then false else
  match ratio a c, ratio b d with
  | some p, some q => dot c d * p.1 * q.1 == dot a b * p.2 * q.2
  | _, _ => false
theorem rat_B {k m : Nat} {a b : T3} (h : B k a) (g : B m b) {p : Int × Int} (e : ratio a b = some p) (hb : b ≠ z3) : Bi (2 * k + 2 + (2 * m + 2)) p.1 ∧ Bi (2 * m + 2) p.2 := by
  unfold ratio at e
  cases e1 : rootN (sq a * sq b) with
  | none =>
    rw [e1] at e
    cases e
  | some q =>
    rw [e1] at e
    cases e
    have hq := root_le (rootN_some e1)
    have s1 := h.sq
    have s2 := g.sq
    have s3 := Nat.mul_lt_mul'' s1 s2
    rw [← Nat.pow_add] at s3
    have sb := sq_pos hb
    have gp : 0 < Int.gcd (q : Int) (sq b : Int) := gcd_pos (.inr (by omega))
    refine ⟨Bi.ediv ?_ (by omega) (Int.gcd_dvd_left ..), Bi.ediv ?_ (by omega) (Int.gcd_dvd_right ..)⟩
    · unfold Bi
      rw [Int.natAbs_natCast]
      omega
    · unfold Bi
      rw [Int.natAbs_natCast]
      omega
theorem tD_ix0 (a : T3) : oIx (tD a) (.int 0) = M.pure (.int a.1) := rfl
theorem f_size_of_eq {k m : Nat} {a b : T3} (h : B k a) (g : B m b) (hk : k ≤ 3000) (hm : m ≤ 3000) : f_size_of [tD a, tD b] = M.pure (.int ((sq a : Int) * (sq b : Int))) := by
  have d1 : f_dot [tD a, tD a] = M.pure (.int (sq a : Int)) := by
    rw [← dot_self]
    exact f_dot_eq h h (by omega) (by omega)
  have d2 : f_dot [tD b, tD b] = M.pure (.int (sq b : Int)) := by
    rw [← dot_self]
    exact f_dot_eq g g (by omega) (by omega)
  have s1 := h.sq
  have s2 := g.sq
  have m1 : oMul (.int (sq a : Int)) (.int (sq b : Int)) = M.pure (.int ((sq a : Int) * (sq b : Int))) := oMul_b (k := 2 * k + 2) (m := 2 * m + 2) (by unfold Bi; rw [Int.natAbs_natCast]; exact s1) (by unfold Bi; rw [Int.natAbs_natCast]; exact s2) (by omega) (by omega)
  simp only [f_size_of, d_size_of, d1, d2, m1, bind_pure, lift_some, noX_pure, runDef, sNext, sSeq, sExpr, sRet, sRetN, sIf, sAsg, sPar2, sPar3, sAug, sOwn, sAppend, sFreeze, endOf, dVar, bVar, dC, dUn, dBin, dNil, dCons, dTup, dLst, dCall, asB, tVal, tAndD, tOrD, tNotD, dOfT, dIf, dAndV, dOrV, dNotV, oAdd, oAddI, oSub, oMod, oNeg, oLt, oLe, oGt, oGe, oIsNone, oNotNone, oIsN2, oNotN2, oAll, oAny, oSum, oLen, oTuple, oList, oAbs, oInt, oIx, asBs, asIs, wipeE, itemsOf, iVal, lcLoop, lcTurn, dLc, tYesD, gSet, gAll, gTupD, zipD, Sk.iZip, List.zip_cons_cons, List.zip_nil_right, List.zip_nil_left, List.map_cons, List.map_nil, List.length_cons, List.length_nil, List.replicate_succ, List.replicate_zero, List.cons_append, List.nil_append, List.append_nil, List.getElem?_cons_zero, List.getElem?_cons_succ, List.set_cons_zero, List.set_cons_succ, Option.map_some, Option.bind_some, Nat.reduceAdd, Nat.reduceSub, Nat.reduceLeDiff, ite_true, ite_false, Bool.false_eq_true, Bool.not_true, Bool.not_false, if_true, if_false, reduceIte, reduceCtorEq, List.sum_cons, List.sum_nil, List.all_cons, List.all_nil, List.any_cons, List.any_nil, id_eq, Bool.and_true, Bool.true_and, Bool.or_false, Bool.false_or, Bool.and_self, Bool.false_and, Bool.and_false, Bool.true_or, Bool.or_true, Int.cast_ofNat_Int, beq_self_eq_true, Int.reduceBEq, Int.reduceLT, Int.reduceLE, decide_true, decide_false]
theorem f_are_alike_eq {k : Nat} {a b c d : T3} (ha : B k a) (hb : B k b) (hc : B k c) (hd : B k d) (hk : k ≤ 300) (na : a ≠ z3) (nb : b ≠ z3) (nc : c ≠ z3) (nd : d ≠ z3) : f_are_alike [tD a, tD b, tD c, tD d] = M.pure (.bl (alike a b c d)) := by
  have e1 := f_dot_eq ha hb (by omega) (by omega)
  have e2 := f_dot_eq hc hd (by omega) (by omega)
  have e3 : f_dot [tD c, tD c] = M.pure (.int (sq c : Int)) := by
    rw [← dot_self]
    exact f_dot_eq hc hc (by omega) (by omega)
  have e4 : f_dot [tD d, tD d] = M.pure (.int (sq d : Int)) := by
    rw [← dot_self]
    exact f_dot_eq hd hd (by omega) (by omega)
  have e5 := f_size_of_eq ha hb (by omega) (by omega)
  have r1 := f_ratio_eq ha hc (by omega) na nc
  have r2 := f_ratio_eq hb hd (by omega) nb nd
  have b1 := ha.dot hb
  have b2 := hc.dot hd
  have q3 : Bi (2 * k + 2) (sq c : Int) := by
    unfold Bi
    rw [Int.natAbs_natCast]
    exact hc.sq
  have q4 : Bi (2 * k + 2) (sq d : Int) := by
    unfold Bi
    rw [Int.natAbs_natCast]
    exact hd.sq
  have q1 : Bi (2 * k + 2) (sq a : Int) := by
    unfold Bi
    rw [Int.natAbs_natCast]
    exact ha.sq
  have q2 : Bi (2 * k + 2) (sq b : Int) := by
    unfold Bi
    rw [Int.natAbs_natCast]
    exact hb.sq
  have m1 := oMul_b b1 b2 (by omega) (by omega)
  have m2 := oMul_b b1 b1 (by omega) (by omega)
  have m3 := oMul_b (b1.mul b1) q3 (by omega) (by omega)
  have m4 := oMul_b ((b1.mul b1).mul q3) q4 (by omega) (by omega)
  have m5 := oMul_b b2 b2 (by omega) (by omega)
  have m6 := oMul_b (b2.mul b2) (q1.mul q2) (by omega) (by omega)
  unfold alike
  by_cases c1 : dot a b * dot c d < 0
  · rw [if_pos (Or.inl c1)]
    simp only [f_are_alike, d_are_alike, e1, e2, e3, e4, e5, m1, m2, m3, m4, m5, m6, c1, bind_pure, lift_some, noX_pure, runDef, sNext, sSeq, sExpr, sRet, sRetN, sIf, sAsg, sPar2, sPar3, sAug, sOwn, sAppend, sFreeze, endOf, dVar, bVar, dC, dUn, dBin, dNil, dCons, dTup, dLst, dCall, asB, tVal, tAndD, tOrD, tNotD, dOfT, dIf, dAndV, dOrV, dNotV, oAdd, oAddI, oSub, oMod, oNeg, oLt, oLe, oGt, oGe, oIsNone, oNotNone, oIsN2, oNotN2, oAll, oAny, oSum, oLen, oTuple, oList, oAbs, oInt, oIx, asBs, asIs, wipeE, itemsOf, iVal, lcLoop, lcTurn, dLc, tYesD, gSet, gAll, gTupD, zipD, Sk.iZip, List.zip_cons_cons, List.zip_nil_right, List.zip_nil_left, List.map_cons, List.map_nil, List.length_cons, List.length_nil, List.replicate_succ, List.replicate_zero, List.cons_append, List.nil_append, List.append_nil, List.getElem?_cons_zero, List.getElem?_cons_succ, List.set_cons_zero, List.set_cons_succ, Option.map_some, Option.bind_some, Nat.reduceAdd, Nat.reduceSub, Nat.reduceLeDiff, ite_true, ite_false, Bool.false_eq_true, Bool.not_true, Bool.not_false, if_true, if_false, reduceIte, reduceCtorEq, List.sum_cons, List.sum_nil, List.all_cons, List.all_nil, List.any_cons, List.any_nil, id_eq, Bool.and_true, Bool.true_and, Bool.or_false, Bool.false_or, Bool.and_self, Bool.false_and, Bool.and_false, Bool.true_or, Bool.or_true, Int.cast_ofNat_Int, beq_self_eq_true, Int.reduceBEq, Int.reduceLT, Int.reduceLE, decide_true, decide_false]
  · by_cases c2 : dot a b * dot a b * (sq c : Int) * (sq d : Int) = dot c d * dot c d * ((sq a : Int) * (sq b : Int))
    · have c3 : (dot a b * dot a b * (sq c : Int) * (sq d : Int) == dot c d * dot c d * ((sq a : Int) * (sq b : Int))) = true := beq_iff_eq.mpr c2
      have c4 : ¬ (dot a b * dot c d < 0 ∨ dot a b * dot a b * (sq c : Int) * (sq d : Int) ≠ dot c d * dot c d * ((sq a : Int) * (sq b : Int))) := fun z => z.elim c1 fun z => z c2
      rw [if_neg c4]
      cases x1 : ratio a c with
      | none =>
        rw [x1] at r1
        simp only [f_are_alike, d_are_alike, e1, e2, e3, e4, e5, m1, m2, m3, m4, m5, m6, c1, c3, r1, r2, ratD, oNe_int, bind_pure, lift_some, noX_pure, runDef, sNext, sSeq, sExpr, sRet, sRetN, sIf, sAsg, sPar2, sPar3, sAug, sOwn, sAppend, sFreeze, endOf, dVar, bVar, dC, dUn, dBin, dNil, dCons, dTup, dLst, dCall, asB, tVal, tAndD, tOrD, tNotD, dOfT, dIf, dAndV, dOrV, dNotV, oAdd, oAddI, oSub, oMod, oNeg, oLt, oLe, oGt, oGe, oIsNone, oNotNone, oIsN2, oNotN2, oAll, oAny, oSum, oLen, oTuple, oList, oAbs, oInt, oIx, asBs, asIs, wipeE, itemsOf, iVal, lcLoop, lcTurn, dLc, tYesD, gSet, gAll, gTupD, zipD, Sk.iZip, List.zip_cons_cons, List.zip_nil_right, List.zip_nil_left, List.map_cons, List.map_nil, List.length_cons, List.length_nil, List.replicate_succ, List.replicate_zero, List.cons_append, List.nil_append, List.append_nil, List.getElem?_cons_zero, List.getElem?_cons_succ, List.set_cons_zero, List.set_cons_succ, Option.map_some, Option.bind_some, Nat.reduceAdd, Nat.reduceSub, Nat.reduceLeDiff, ite_true, ite_false, Bool.false_eq_true, Bool.not_true, Bool.not_false, if_true, if_false, reduceIte, reduceCtorEq, List.sum_cons, List.sum_nil, List.all_cons, List.all_nil, List.any_cons, List.any_nil, id_eq, Bool.and_true, Bool.true_and, Bool.or_false, Bool.false_or, Bool.and_self, Bool.false_and, Bool.and_false, Bool.true_or, Bool.or_true, Int.cast_ofNat_Int, beq_self_eq_true, Int.reduceBEq, Int.reduceLT, Int.reduceLE, decide_true, decide_false]
      | some p =>
        rw [x1] at r1
        obtain ⟨p1, p2⟩ := rat_B ha hc x1 nc
        cases x2 : ratio b d with
        | none =>
          rw [x2] at r2
          simp only [f_are_alike, d_are_alike, e1, e2, e3, e4, e5, m1, m2, m3, m4, m5, m6, c1, c3, r1, r2, ratD, oNe_int, bind_pure, lift_some, noX_pure, runDef, sNext, sSeq, sExpr, sRet, sRetN, sIf, sAsg, sPar2, sPar3, sAug, sOwn, sAppend, sFreeze, endOf, dVar, bVar, dC, dUn, dBin, dNil, dCons, dTup, dLst, dCall, asB, tVal, tAndD, tOrD, tNotD, dOfT, dIf, dAndV, dOrV, dNotV, oAdd, oAddI, oSub, oMod, oNeg, oLt, oLe, oGt, oGe, oIsNone, oNotNone, oIsN2, oNotN2, oAll, oAny, oSum, oLen, oTuple, oList, oAbs, oInt, oIx, asBs, asIs, wipeE, itemsOf, iVal, lcLoop, lcTurn, dLc, tYesD, gSet, gAll, gTupD, zipD, Sk.iZip, List.zip_cons_cons, List.zip_nil_right, List.zip_nil_left, List.map_cons, List.map_nil, List.length_cons, List.length_nil, List.replicate_succ, List.replicate_zero, List.cons_append, List.nil_append, List.append_nil, List.getElem?_cons_zero, List.getElem?_cons_succ, List.set_cons_zero, List.set_cons_succ, Option.map_some, Option.bind_some, Nat.reduceAdd, Nat.reduceSub, Nat.reduceLeDiff, ite_true, ite_false, Bool.false_eq_true, Bool.not_true, Bool.not_false, if_true, if_false, reduceIte, reduceCtorEq, List.sum_cons, List.sum_nil, List.all_cons, List.all_nil, List.any_cons, List.any_nil, id_eq, Bool.and_true, Bool.true_and, Bool.or_false, Bool.false_or, Bool.and_self, Bool.false_and, Bool.and_false, Bool.true_or, Bool.or_true, Int.cast_ofNat_Int, beq_self_eq_true, Int.reduceBEq, Int.reduceLT, Int.reduceLE, decide_true, decide_false]
        | some q =>
          rw [x2] at r2
          obtain ⟨t1, t2⟩ := rat_B hb hd x2 nd
          have m7 := oMul_b b2 p1 (by omega) (by omega)
          have m8 := oMul_b (b2.mul p1) t1 (by omega) (by omega)
          have m9 := oMul_b b1 p2 (by omega) (by omega)
          have m10 := oMul_b (b1.mul p2) t2 (by omega) (by omega)
          simp only [f_are_alike, d_are_alike, e1, e2, e3, e4, e5, m1, m2, m3, m4, m5, m6, m7, m8, m9, m10, c1, c3, r1, r2, ratD, oNe_int, oEq_int, atI0, atI1, bind_pure, lift_some, noX_pure, runDef, sNext, sSeq, sExpr, sRet, sRetN, sIf, sAsg, sPar2, sPar3, sAug, sOwn, sAppend, sFreeze, endOf, dVar, bVar, dC, dUn, dBin, dNil, dCons, dTup, dLst, dCall, asB, tVal, tAndD, tOrD, tNotD, dOfT, dIf, dAndV, dOrV, dNotV, oAdd, oAddI, oSub, oMod, oNeg, oLt, oLe, oGt, oGe, oIsNone, oNotNone, oIsN2, oNotN2, oAll, oAny, oSum, oLen, oTuple, oList, oAbs, oInt, oIx, asBs, asIs, wipeE, itemsOf, iVal, lcLoop, lcTurn, dLc, tYesD, gSet, gAll, gTupD, zipD, Sk.iZip, List.zip_cons_cons, List.zip_nil_right, List.zip_nil_left, List.map_cons, List.map_nil, List.length_cons, List.length_nil, List.replicate_succ, List.replicate_zero, List.cons_append, List.nil_append, List.append_nil, List.getElem?_cons_zero, List.getElem?_cons_succ, List.set_cons_zero, List.set_cons_succ, Option.map_some, Option.bind_some, Nat.reduceAdd, Nat.reduceSub, Nat.reduceLeDiff, ite_true, ite_false, Bool.false_eq_true, Bool.not_true, Bool.not_false, if_true, if_false, reduceIte, reduceCtorEq, List.sum_cons, List.sum_nil, List.all_cons, List.all_nil, List.any_cons, List.any_nil, id_eq, Bool.and_true, Bool.true_and, Bool.or_false, Bool.false_or, Bool.and_self, Bool.false_and, Bool.and_false, Bool.true_or, Bool.or_true, Int.cast_ofNat_Int, beq_self_eq_true, Int.reduceBEq, Int.reduceLT, Int.reduceLE, decide_true, decide_false]
    · have c3 : (dot a b * dot a b * (sq c : Int) * (sq d : Int) == dot c d * dot c d * ((sq a : Int) * (sq b : Int))) = false := beq_eq_false_iff_ne.mpr c2
      simp only [f_are_alike, d_are_alike, e1, e2, e3, e4, e5, m1, m2, m3, m4, m5, m6, c1, c3, oNe_int, bind_pure, lift_some, noX_pure, runDef, sNext, sSeq, sExpr, sRet, sRetN, sIf, sAsg, sPar2, sPar3, sAug, sOwn, sAppend, sFreeze, endOf, dVar, bVar, dC, dUn, dBin, dNil, dCons, dTup, dLst, dCall, asB, tVal, tAndD, tOrD, tNotD, dOfT, dIf, dAndV, dOrV, dNotV, oAdd, oAddI, oSub, oMod, oNeg, oLt, oLe, oGt, oGe, oIsNone, oNotNone, oIsN2, oNotN2, oAll, oAny, oSum, oLen, oTuple, oList, oAbs, oInt, oIx, asBs, asIs, wipeE, itemsOf, iVal, lcLoop, lcTurn, dLc, tYesD, gSet, gAll, gTupD, zipD, Sk.iZip, List.zip_cons_cons, List.zip_nil_right, List.zip_nil_left, List.map_cons, List.map_nil, List.length_cons, List.length_nil, List.replicate_succ, List.replicate_zero, List.cons_append, List.nil_append, List.append_nil, List.getElem?_cons_zero, List.getElem?_cons_succ, List.set_cons_zero, List.set_cons_succ, Option.map_some, Option.bind_some, Nat.reduceAdd, Nat.reduceSub, Nat.reduceLeDiff, ite_true, ite_false, Bool.false_eq_true, Bool.not_true, Bool.not_false, if_true, if_false, reduceIte, reduceCtorEq, List.sum_cons, List.sum_nil, List.all_cons, List.all_nil, List.any_cons, List.any_nil, id_eq, Bool.and_true, Bool.true_and, Bool.or_false, Bool.false_or, Bool.and_self, Bool.false_and, Bool.and_false, Bool.true_or, Bool.or_true, Int.cast_ofNat_Int, beq_self_eq_true, Int.reduceBEq, Int.reduceLT, Int.reduceLE, decide_true, decide_false]
      rw [if_pos (.inr c2)]
end Lw

set_option Elab.async false
set_option linter.all false
set_option maxRecDepth 100000
set_option maxHeartbeats 4000000
set_option autoImplicit false
namespace Lw
open PySem L2 Sk
/-! ### draws -/
theorem bind_assoc {α β γ : Type} (m : M α) (f : α → M β) (g : β → M γ) : M.bind (M.bind m f) g = M.bind m fun a => M.bind (f a) g := by
  funext S
  show (match (match m S with | .ok a S' => f a S' | .exc c fs S' => .exc c fs S' | .stuck => .stuck) with | .ok a S' => g a S' | .exc c fs S' => .exc c fs S' | .stuck => .stuck) = (match m S with | .ok a S' => (match f a S' with | .ok a S' => g a S' | .exc c fs S' => .exc c fs S' | .stuck => .stuck) | .exc c fs S' => .exc c fs S' | .stuck => .stuck)
  cases m S <;> rfl
theorem oDiv1009 (i : Int) : oDiv (.int i) (.int 1009) = M.pure (.int (i / 1009)) := rfl
theorem oDiv977 (i : Int) : oDiv (.int i) (.int 977) = M.pure (.int (i / 977)) := rfl
theorem oMul_small {i j : Int} (h : j.natAbs < 2 ^ 64) : oMul (.int i) (.int j) = M.pure (.int (i * j)) := by
  have e : mulOk i j = true := by
    unfold mulOk
    rw [decide_eq_true h]
    simp
  show (if mulOk i j = true then M.pure (D.int (i * j)) else stk) = _
  rw [if_pos e]
theorem oMul_smallL {i j : Int} (h : i.natAbs < 2 ^ 64) : oMul (.int i) (.int j) = M.pure (.int (i * j)) := by
  have e : mulOk i j = true := by
    unfold mulOk
    rw [decide_eq_true h]
    simp
  show (if mulOk i j = true then M.pure (D.int (i * j)) else stk) = _
  rw [if_pos e]
theorem eqv_nil {a : Int} {r : List Int} : PyData.eqv (.list ((a :: r).map PyData.int)) (.list []) = false := rfl
theorem oNe_scr (ns : List Int) : oNe (.scr ns) (.lst []) = M.pure (.bl (!ns.isEmpty)) := by
  cases ns <;> rfl
def nR : List D → Int → Int
  | [], r => r
  | _ :: xs, r => nR xs (r / 1009)
def nS : List D → Slot → Slot
  | [], s => s
  | x :: xs, _ => nS xs (.shr x)
theorem num_loop (a b c4 c5 c6 : Slot) : ∀ (xs : List D) (r : Int) (s : Slot), forLoop (fun x e => M.bind (lift (gSet 3 x e)) (sAsg (dBin oDiv (dVar 2) (dC (.int 1009))) (gSet 2))) xs [a, b, .shr (.int r), s, c4, c5, c6] = M.pure (.next [a, b, .shr (.int (nR xs r)), nS xs s, c4, c5, c6]) := by
  intro xs
  induction xs with
  | nil =>
    intro r s
    rfl
  | cons x xs ih =>
    intro r s
    simp only [forLoop, oDiv1009, bind_pure, lift_some, noX_pure, runDef, sNext, sSeq, sExpr, sRet, sRetN, sIf, sAsg, sPar2, sPar3, sAug, sOwn, sAppend, sFreeze, endOf, dVar, bVar, dC, dUn, dBin, dNil, dCons, dTup, dLst, dCall, asB, tVal, tAndD, tOrD, tNotD, dOfT, dIf, dAndV, dOrV, dNotV, oAdd, oAddI, oSub, oMod, oNeg, oLt, oLe, oGt, oGe, oIsNone, oNotNone, oIsN2, oNotN2, oAll, oAny, oSum, oLen, oTuple, oList, oAbs, oInt, oIx, asBs, asIs, wipeE, itemsOf, iVal, lcLoop, lcTurn, dLc, tYesD, gSet, gAll, gTupD, zipD, Sk.iZip, List.zip_cons_cons, List.zip_nil_right, List.zip_nil_left, List.map_cons, List.map_nil, List.length_cons, List.length_nil, List.replicate_succ, List.replicate_zero, List.cons_append, List.nil_append, List.append_nil, List.getElem?_cons_zero, List.getElem?_cons_succ, List.set_cons_zero, List.set_cons_succ, Option.map_some, Option.bind_some, Nat.reduceAdd, Nat.reduceSub, Nat.reduceLeDiff, ite_true, ite_false, Bool.false_eq_true, Bool.not_true, Bool.not_false, if_true, if_false, reduceIte, reduceCtorEq, List.sum_cons, List.sum_nil, List.all_cons, List.all_nil, List.any_cons, List.any_nil, id_eq, Bool.and_true, Bool.true_and, Bool.or_false, Bool.false_or, Bool.and_self, Bool.false_and, Bool.and_false, Bool.true_or, Bool.or_true, Int.cast_ofNat_Int, beq_self_eq_true, Int.reduceBEq, Int.reduceLT, Int.reduceLE, decide_true, decide_false]
    exact ih (r / 1009) (.shr x)
theorem num_for (a b c4 c5 : Slot) (t r : Int) (s : Slot) : sFor (iRange1 (dBin oMod (dUn oInt (dVar 6)) (dC (.int 60)))) (gSet 3) (sAsg (dBin oDiv (dVar 2) (dC (.int 1009))) (gSet 2)) [a, b, .shr (.int r), s, c4, c5, .shr (.int t)] = M.pure (.next [a, b, .shr (.int (nR (rangeD 0 (t % 60)) r)), nS (rangeD 0 (t % 60)) s, c4, c5, .shr (.int t)]) := by
  have e : decide (-50000 ≤ t % 60 ∧ t % 60 ≤ 50000) = true := decide_eq_true (by omega)
  unfold sFor
  simp only [iRange1, bind_pure, lift_some, noX_pure, runDef, sNext, sSeq, sExpr, sRet, sRetN, sIf, sAsg, sPar2, sPar3, sAug, sOwn, sAppend, sFreeze, endOf, dVar, bVar, dC, dUn, dBin, dNil, dCons, dTup, dLst, dCall, asB, tVal, tAndD, tOrD, tNotD, dOfT, dIf, dAndV, dOrV, dNotV, oAdd, oAddI, oSub, oMod, oNeg, oLt, oLe, oGt, oGe, oIsNone, oNotNone, oIsN2, oNotN2, oAll, oAny, oSum, oLen, oTuple, oList, oAbs, oInt, oIx, asBs, asIs, wipeE, itemsOf, iVal, lcLoop, lcTurn, dLc, tYesD, gSet, gAll, gTupD, zipD, Sk.iZip, List.zip_cons_cons, List.zip_nil_right, List.zip_nil_left, List.map_cons, List.map_nil, List.length_cons, List.length_nil, List.replicate_succ, List.replicate_zero, List.cons_append, List.nil_append, List.append_nil, List.getElem?_cons_zero, List.getElem?_cons_succ, List.set_cons_zero, List.set_cons_succ, Option.map_some, Option.bind_some, Nat.reduceAdd, Nat.reduceSub, Nat.reduceLeDiff, ite_true, ite_false, Bool.false_eq_true, Bool.not_true, Bool.not_false, if_true, if_false, reduceIte, reduceCtorEq, List.sum_cons, List.sum_nil, List.all_cons, List.all_nil, List.any_cons, List.any_nil, id_eq, Bool.and_true, Bool.true_and, Bool.or_false, Bool.false_or, Bool.and_self, Bool.false_and, Bool.and_false, Bool.true_or, Bool.or_true, Int.cast_ofNat_Int, beq_self_eq_true, Int.reduceBEq, Int.reduceLT, Int.reduceLE, decide_true, decide_false, e]
  exact num_loop a b c4 c5 (.shr (.int t)) (rangeD 0 (t % 60)) r s
theorem f_number (ns : List Int) (i : Int) (hns : ns.length ≤ 63) : ∃ r : Int, f__law_number [.scr ns, .int i] = M.pure (.int r) := by
  have m1 : ∀ j : Int, oMul (.int 977) (.int j) = M.pure (.int (977 * j)) := fun j => oMul_smallL (by decide)
  have m2 : ∀ j : Int, oMul (.int j) (.int 48271) = M.pure (.int (j * 48271)) := fun j => oMul_small (by decide)
  have m3 : ∀ j : Int, oMul (.int 31) (.int j) = M.pure (.int (31 * j)) := fun j => oMul_smallL (by decide)
  have m4 : ∀ j : Int, oMul (.int (j % 2147483647)) (.int (j % 2147483647)) = M.pure (.int ((j % 2147483647) * (j % 2147483647))) := fun j => oMul_small (by omega)
  have m5 : ∀ j : Int, oMul (.int 40503) (.int j) = M.pure (.int (40503 * j)) := fun j => oMul_smallL (by decide)
  have m6 : ∀ j : Int, oMul (.int j) (.int 69621) = M.pure (.int (j * 69621)) := fun j => oMul_small (by decide)
  have p1 : oPow (.int 10) (.int 18) = M.pure (.int (10 ^ 18)) := rfl
  have d1 : decide ((0 : Int) < 60) = true := rfl
  have d2 : decide ((0 : Int) < 1009) = true := rfl
  have d3 : decide ((0 : Int) < 2147483647) = true := rfl
  have d4 : decide ((0 : Int) < 2147483629) = true := rfl
  have d5 : decide ((0 : Int) < 2147483587) = true := rfl
  cases ns with
  | nil =>
    simp only [f__law_number, d__law_number, oNe_scr, List.isEmpty_nil, bind_pure, lift_some, noX_pure, runDef, sNext, sSeq, sExpr, sRet, sRetN, sIf, sAsg, sPar2, sPar3, sAug, sOwn, sAppend, sFreeze, endOf, dVar, bVar, dC, dUn, dBin, dNil, dCons, dTup, dLst, dCall, asB, tVal, tAndD, tOrD, tNotD, dOfT, dIf, dAndV, dOrV, dNotV, oAdd, oAddI, oSub, oMod, oNeg, oLt, oLe, oGt, oGe, oIsNone, oNotNone, oIsN2, oNotN2, oAll, oAny, oSum, oLen, oTuple, oList, oAbs, oInt, oIx, asBs, asIs, wipeE, itemsOf, iVal, lcLoop, lcTurn, dLc, tYesD, gSet, gAll, gTupD, zipD, Sk.iZip, List.zip_cons_cons, List.zip_nil_right, List.zip_nil_left, List.map_cons, List.map_nil, List.length_cons, List.length_nil, List.replicate_succ, List.replicate_zero, List.cons_append, List.nil_append, List.append_nil, List.getElem?_cons_zero, List.getElem?_cons_succ, List.set_cons_zero, List.set_cons_succ, Option.map_some, Option.bind_some, Nat.reduceAdd, Nat.reduceSub, Nat.reduceLeDiff, ite_true, ite_false, Bool.false_eq_true, Bool.not_true, Bool.not_false, if_true, if_false, reduceIte, reduceCtorEq, List.sum_cons, List.sum_nil, List.all_cons, List.all_nil, List.any_cons, List.any_nil, id_eq, Bool.and_true, Bool.true_and, Bool.or_false, Bool.false_or, Bool.and_self, Bool.false_and, Bool.and_false, Bool.true_or, Bool.or_true, Int.cast_ofNat_Int, beq_self_eq_true, Int.reduceBEq, Int.reduceLT, Int.reduceLE, decide_true, decide_false, p1, num_for, oDiv977, m1, m2, m3, m4, m5, m6, d1, d2, d3, d4, d5]
    generalize decide ((0 : Int) < nR _ _) = b
    cases b <;> (simp only [bind_pure, lift_some, noX_pure, runDef, sNext, sSeq, sExpr, sRet, sRetN, sIf, sAsg, sPar2, sPar3, sAug, sOwn, sAppend, sFreeze, endOf, dVar, bVar, dC, dUn, dBin, dNil, dCons, dTup, dLst, dCall, asB, tVal, tAndD, tOrD, tNotD, dOfT, dIf, dAndV, dOrV, dNotV, oAdd, oAddI, oSub, oMod, oNeg, oLt, oLe, oGt, oGe, oIsNone, oNotNone, oIsN2, oNotN2, oAll, oAny, oSum, oLen, oTuple, oList, oAbs, oInt, oIx, asBs, asIs, wipeE, itemsOf, iVal, lcLoop, lcTurn, dLc, tYesD, gSet, gAll, gTupD, zipD, Sk.iZip, List.zip_cons_cons, List.zip_nil_right, List.zip_nil_left, List.map_cons, List.map_nil, List.length_cons, List.length_nil, List.replicate_succ, List.replicate_zero, List.cons_append, List.nil_append, List.append_nil, List.getElem?_cons_zero, List.getElem?_cons_succ, List.set_cons_zero, List.set_cons_succ, Option.map_some, Option.bind_some, Nat.reduceAdd, Nat.reduceSub, Nat.reduceLeDiff, ite_true, ite_false, Bool.false_eq_true, Bool.not_true, Bool.not_false, if_true, if_false, reduceIte, reduceCtorEq, List.sum_cons, List.sum_nil, List.all_cons, List.all_nil, List.any_cons, List.any_nil, id_eq, Bool.and_true, Bool.true_and, Bool.or_false, Bool.false_or, Bool.and_self, Bool.false_and, Bool.and_false, Bool.true_or, Bool.or_true, Int.cast_ofNat_Int, beq_self_eq_true, Int.reduceBEq, Int.reduceLT, Int.reduceLE, decide_true, decide_false, p1, num_for, oDiv977, m1, m2, m3, m4, m5, m6, d1, d2, d3, d4, d5]; exact ⟨_, rfl⟩)
  | cons a t =>
    have hl : (0 : Int) < ((a :: t).length : Nat) := by
      simp only [List.length_cons]
      omega
    obtain ⟨v, hv⟩ : ∃ v : Int, atI (a :: t) (i % ((a :: t).length : Nat)) = some v := by
      have h1 := Int.emod_nonneg i (show ((a :: t).length : Int) ≠ 0 by omega)
      have h2 := Int.emod_lt_of_pos i hl
      obtain ⟨n, hn⟩ : ∃ n : Nat, i % ((a :: t).length : Nat) = (n : Int) := ⟨(i % ((a :: t).length : Nat)).toNat, by omega⟩
      rw [hn]
      have h3 : n < (a :: t).length := by omega
      exact ⟨(a :: t)[n], atI_n _ n _ (List.getElem?_eq_getElem h3)⟩
    have hs : (a :: t).length ≤ 63 := hns
    have hd : oDiv (.int i) (.int ((a :: t).length : Nat)) = M.pure (.int (i / ((a :: t).length : Nat))) := oDiv_g hl (Nat.lt_of_le_of_lt (by rw [Int.natAbs_natCast]; exact hs) (by decide : (63 : Nat) < 2 ^ 8000))
    have hl' := decide_eq_true hl
    have he : (a :: t).isEmpty = false := rfl
    generalize a :: t = ns at *
    generalize hT : i / (ns.length : Nat) = T at *
    by_cases h60 : T < 60
    · simp only [f__law_number, d__law_number, oNe_scr, he, hl', hv, hd, decide_eq_true h60, bind_pure, lift_some, noX_pure, runDef, sNext, sSeq, sExpr, sRet, sRetN, sIf, sAsg, sPar2, sPar3, sAug, sOwn, sAppend, sFreeze, endOf, dVar, bVar, dC, dUn, dBin, dNil, dCons, dTup, dLst, dCall, asB, tVal, tAndD, tOrD, tNotD, dOfT, dIf, dAndV, dOrV, dNotV, oAdd, oAddI, oSub, oMod, oNeg, oLt, oLe, oGt, oGe, oIsNone, oNotNone, oIsN2, oNotN2, oAll, oAny, oSum, oLen, oTuple, oList, oAbs, oInt, oIx, asBs, asIs, wipeE, itemsOf, iVal, lcLoop, lcTurn, dLc, tYesD, gSet, gAll, gTupD, zipD, Sk.iZip, List.zip_cons_cons, List.zip_nil_right, List.zip_nil_left, List.map_cons, List.map_nil, List.length_cons, List.length_nil, List.replicate_succ, List.replicate_zero, List.cons_append, List.nil_append, List.append_nil, List.getElem?_cons_zero, List.getElem?_cons_succ, List.set_cons_zero, List.set_cons_succ, Option.map_some, Option.bind_some, Nat.reduceAdd, Nat.reduceSub, Nat.reduceLeDiff, ite_true, ite_false, Bool.false_eq_true, Bool.not_true, Bool.not_false, if_true, if_false, reduceIte, reduceCtorEq, List.sum_cons, List.sum_nil, List.all_cons, List.all_nil, List.any_cons, List.any_nil, id_eq, Bool.and_true, Bool.true_and, Bool.or_false, Bool.false_or, Bool.and_self, Bool.false_and, Bool.and_false, Bool.true_or, Bool.or_true, Int.cast_ofNat_Int, beq_self_eq_true, Int.reduceBEq, Int.reduceLT, Int.reduceLE, decide_true, decide_false, p1, num_for, oDiv977, m1, m2, m3, m4, m5, m6, d1, d2, d3, d4, d5]
      generalize decide ((0 : Int) < nR _ _) = b
      cases b <;> (simp only [bind_pure, lift_some, noX_pure, runDef, sNext, sSeq, sExpr, sRet, sRetN, sIf, sAsg, sPar2, sPar3, sAug, sOwn, sAppend, sFreeze, endOf, dVar, bVar, dC, dUn, dBin, dNil, dCons, dTup, dLst, dCall, asB, tVal, tAndD, tOrD, tNotD, dOfT, dIf, dAndV, dOrV, dNotV, oAdd, oAddI, oSub, oMod, oNeg, oLt, oLe, oGt, oGe, oIsNone, oNotNone, oIsN2, oNotN2, oAll, oAny, oSum, oLen, oTuple, oList, oAbs, oInt, oIx, asBs, asIs, wipeE, itemsOf, iVal, lcLoop, lcTurn, dLc, tYesD, gSet, gAll, gTupD, zipD, Sk.iZip, List.zip_cons_cons, List.zip_nil_right, List.zip_nil_left, List.map_cons, List.map_nil, List.length_cons, List.length_nil, List.replicate_succ, List.replicate_zero, List.cons_append, List.nil_append, List.append_nil, List.getElem?_cons_zero, List.getElem?_cons_succ, List.set_cons_zero, List.set_cons_succ, Option.map_some, Option.bind_some, Nat.reduceAdd, Nat.reduceSub, Nat.reduceLeDiff, ite_true, ite_false, Bool.false_eq_true, Bool.not_true, Bool.not_false, if_true, if_false, reduceIte, reduceCtorEq, List.sum_cons, List.sum_nil, List.all_cons, List.all_nil, List.any_cons, List.any_nil, id_eq, Bool.and_true, Bool.true_and, Bool.or_false, Bool.false_or, Bool.and_self, Bool.false_and, Bool.and_false, Bool.true_or, Bool.or_true, Int.cast_ofNat_Int, beq_self_eq_true, Int.reduceBEq, Int.reduceLT, Int.reduceLE, decide_true, decide_false, p1, num_for, oDiv977, m1, m2, m3, m4, m5, m6, d1, d2, d3, d4, d5]; exact ⟨_, rfl⟩)
    · simp only [f__law_number, d__law_number, oNe_scr, he, hl', hv, hd, decide_eq_false h60, bind_pure, lift_some, noX_pure, runDef, sNext, sSeq, sExpr, sRet, sRetN, sIf, sAsg, sPar2, sPar3, sAug, sOwn, sAppend, sFreeze, endOf, dVar, bVar, dC, dUn, dBin, dNil, dCons, dTup, dLst, dCall, asB, tVal, tAndD, tOrD, tNotD, dOfT, dIf, dAndV, dOrV, dNotV, oAdd, oAddI, oSub, oMod, oNeg, oLt, oLe, oGt, oGe, oIsNone, oNotNone, oIsN2, oNotN2, oAll, oAny, oSum, oLen, oTuple, oList, oAbs, oInt, oIx, asBs, asIs, wipeE, itemsOf, iVal, lcLoop, lcTurn, dLc, tYesD, gSet, gAll, gTupD, zipD, Sk.iZip, List.zip_cons_cons, List.zip_nil_right, List.zip_nil_left, List.map_cons, List.map_nil, List.length_cons, List.length_nil, List.replicate_succ, List.replicate_zero, List.cons_append, List.nil_append, List.append_nil, List.getElem?_cons_zero, List.getElem?_cons_succ, List.set_cons_zero, List.set_cons_succ, Option.map_some, Option.bind_some, Nat.reduceAdd, Nat.reduceSub, Nat.reduceLeDiff, ite_true, ite_false, Bool.false_eq_true, Bool.not_true, Bool.not_false, if_true, if_false, reduceIte, reduceCtorEq, List.sum_cons, List.sum_nil, List.all_cons, List.all_nil, List.any_cons, List.any_nil, id_eq, Bool.and_true, Bool.true_and, Bool.or_false, Bool.false_or, Bool.and_self, Bool.false_and, Bool.and_false, Bool.true_or, Bool.or_true, Int.cast_ofNat_Int, beq_self_eq_true, Int.reduceBEq, Int.reduceLT, Int.reduceLE, decide_true, decide_false, p1, num_for, oDiv977, m1, m2, m3, m4, m5, m6, d1, d2, d3, d4, d5]
      generalize decide ((0 : Int) < nR _ _) = b
      cases b <;> (simp only [bind_pure, lift_some, noX_pure, runDef, sNext, sSeq, sExpr, sRet, sRetN, sIf, sAsg, sPar2, sPar3, sAug, sOwn, sAppend, sFreeze, endOf, dVar, bVar, dC, dUn, dBin, dNil, dCons, dTup, dLst, dCall, asB, tVal, tAndD, tOrD, tNotD, dOfT, dIf, dAndV, dOrV, dNotV, oAdd, oAddI, oSub, oMod, oNeg, oLt, oLe, oGt, oGe, oIsNone, oNotNone, oIsN2, oNotN2, oAll, oAny, oSum, oLen, oTuple, oList, oAbs, oInt, oIx, asBs, asIs, wipeE, itemsOf, iVal, lcLoop, lcTurn, dLc, tYesD, gSet, gAll, gTupD, zipD, Sk.iZip, List.zip_cons_cons, List.zip_nil_right, List.zip_nil_left, List.map_cons, List.map_nil, List.length_cons, List.length_nil, List.replicate_succ, List.replicate_zero, List.cons_append, List.nil_append, List.append_nil, List.getElem?_cons_zero, List.getElem?_cons_succ, List.set_cons_zero, List.set_cons_succ, Option.map_some, Option.bind_some, Nat.reduceAdd, Nat.reduceSub, Nat.reduceLeDiff, ite_true, ite_false, Bool.false_eq_true, Bool.not_true, Bool.not_false, if_true, if_false, reduceIte, reduceCtorEq, List.sum_cons, List.sum_nil, List.all_cons, List.all_nil, List.any_cons, List.any_nil, id_eq, Bool.and_true, Bool.true_and, Bool.or_false, Bool.false_or, Bool.and_self, Bool.false_and, Bool.and_false, Bool.true_or, Bool.or_true, Int.cast_ofNat_Int, beq_self_eq_true, Int.reduceBEq, Int.reduceLT, Int.reduceLE, decide_true, decide_false, p1, num_for, oDiv977, m1, m2, m3, m4, m5, m6, d1, d2, d3, d4, d5]; exact ⟨_, rfl⟩)
/-! ### promises about draws -/
def Dw (ns : List Int) (c : Int) : Store := [.lst [.scr ns, .int c]]
def Ev {α : Type} (ns : List Int) (m : M α) (P : α → Prop) : Prop := ∀ c : Int, ∃ (a : α) (c' : Int), m (Dw ns c) = .ok a (Dw ns c') ∧ P a
section
variable {ns : List Int} {α β : Type}
theorem Ev.pure {a : α} {P : α → Prop} (h : P a) : Ev ns (M.pure a) P := fun c => ⟨a, c, rfl, h⟩
theorem Ev.bind {m : M α} {f : α → M β} {Q : α → Prop} {P : β → Prop} (h : Ev ns m Q) (g : ∀ a, Q a → Ev ns (f a) P) : Ev ns (M.bind m f) P := by
  intro c
  obtain ⟨a, c', e, q⟩ := h c
  obtain ⟨b, c2, e2, p⟩ := g a q c'
  refine ⟨b, c2, ?_, p⟩
  show (match m (Dw ns c) with | .ok a S' => f a S' | .exc c fs S' => .exc c fs S' | .stuck => .stuck) = _
  rw [e]
  exact e2
theorem Ev.mono {m : M α} {Q P : α → Prop} (h : Ev ns m Q) (g : ∀ a, Q a → P a) : Ev ns m P := fun c => by
  obtain ⟨a, c', e, q⟩ := h c
  exact ⟨a, c', e, g a q⟩
theorem Ev.noX {m : M α} {P : α → Prop} (h : Ev ns m P) : Ev ns (noX m) P := by
  intro c
  obtain ⟨a, c', e, q⟩ := h c
  refine ⟨a, c', ?_, q⟩
  show (match m (Dw ns c) with | .ok a S' => Out.ok a S' | _ => .stuck) = _
  rw [e]
/-- a promise about where a statement goes on -/
def Fl (I J : Sk.Env → Prop) (R : D → Prop) : Sk.Flow → Prop
  | .next e => I e
  | .cont e => I e
  | .brk e => J e
  | .ret d => R d
def Fo (I : Sk.Env → Prop) (R : D → Prop) : Sk.Flow → Prop
  | .next e => I e
  | .ret d => R d
  | _ => False
theorem Ev.forLoop {f : D → Sk.Env → M Sk.Flow} {I : Sk.Env → Prop} {R : D → Prop} : ∀ (xs : List D) (env : Sk.Env), (∀ x ∈ xs, ∀ e, I e → Ev ns (f x e) (Fl I I R)) → I env → Ev ns (Sk.forLoop f xs env) (Fo I R)
  | [], env, _, h => Ev.pure h
  | x :: xs, env, h, i => by
    refine Ev.bind (h x (.head _) env i) fun fl p => ?_
    cases fl with
    | next e => exact Ev.forLoop xs e (fun y hy => h y (.tail _ hy)) p
    | cont e => exact Ev.forLoop xs e (fun y hy => h y (.tail _ hy)) p
    | brk e => exact Ev.pure p
    | ret d => exact Ev.pure p
inductive Al (R : D → D → Prop) : List D → List D → Prop
  | nil : Al R [] []
  | cons {x y : D} {xs ys : List D} (h : R x y) (t : Al R xs ys) : Al R (x :: xs) (y :: ys)
theorem Ev.lcLoop {f : D → M (List D)} {R : D → D → Prop} : ∀ (xs : List D), (∀ x ∈ xs, Ev ns (f x) fun l => ∃ y, l = [y] ∧ R x y) → Ev ns (lcLoop f xs) (Al R xs)
  | [], _ => Ev.pure .nil
  | x :: xs, h => by
    refine Ev.bind (h x (.head _)) fun l p => ?_
    obtain ⟨y, rfl, r⟩ := p
    refine Ev.bind (Ev.lcLoop xs fun z hz => h z (.tail _ hz)) fun l p => ?_
    exact Ev.pure (.cons r p)
/-- a comprehension without a test -/
theorem Ev.dLc {vs : List Nat} {di : DI} {dg : DG} {de : DE} {env : Sk.Env} {xs : List D} {R : D → D → Prop} (hi : di env = M.pure xs) (hl : xs.length ≤ 50000) (h : ∀ x ∈ xs, ∃ env', dg x (wipeE env vs) = some env' ∧ Ev ns (de env') (R x)) : Ev ns (dLc vs di dg tYesD de env) fun d => ∃ ys, d = .lst ys ∧ Al R xs ys := by
  unfold Sk.dLc
  rw [hi, bind_pure, if_pos hl]
  refine Ev.bind (Ev.lcLoop (R := R) xs fun x hx => ?_) fun ys p => Ev.pure ⟨ys, rfl, p⟩
  obtain ⟨env', e, g⟩ := h x hx
  refine Ev.noX ?_
  unfold lcTurn
  rw [e, lift_some, bind_pure, show tYesD env' = M.pure true from rfl, bind_pure, if_pos rfl]
  exact Ev.bind g fun y r => Ev.pure ⟨y, rfl, r⟩
end
theorem f_take {ns : List Int} (hns : ns.length ≤ 63) {m : Int} (h : 0 < m) : Ev ns (f__law_take [.cel 0, .int m]) fun d => ∃ r : Int, d = .int r ∧ 0 ≤ r ∧ r < m := by
  intro c
  obtain ⟨r, e⟩ := f_number ns (c + 1) hns
  refine ⟨.int (r % m), c + 1, ?_, r % m, rfl, Int.emod_nonneg _ (by omega), Int.emod_lt_of_pos _ h⟩
  have e1 : (sCelAug (dVar 0) 1 oAddI (dC (.int 1)) [.shr (.cel 0), .shr (.int m)]) (Dw ns c) = .ok (.next [.shr (.cel 0), .shr (.int m)]) (Dw ns (c + 1)) := rfl
  have e2 : (oIxCel 0 0) (Dw ns (c + 1)) = .ok (.scr ns) (Dw ns (c + 1)) := rfl
  have e3 : (oIxCel 0 1) (Dw ns (c + 1)) = .ok (.int (c + 1)) (Dw ns (c + 1)) := rfl
  have hm := decide_eq_true h
  unfold f__law_take runDef d__law_take sSeq
  show (M.bind (M.bind (sCelAug (dVar 0) 1 oAddI (dC (.int 1)) [.shr (.cel 0), .shr (.int m)]) _) endOf) (Dw ns c) = _
  have st {α β : Type} {p : M α} {g : α → M β} {S S' : Store} {a : α} (x : p S = .ok a S') : (M.bind p g) S = g a S' := by
    show (match p S with | .ok a S' => g a S' | .exc c fs S' => .exc c fs S' | .stuck => .stuck) = _
    rw [x]
  rw [bind_assoc, st e1]
  simp only [bind_pure, lift_some, noX_pure, runDef, sNext, sSeq, sExpr, sRet, sRetN, sIf, sAsg, sPar2, sPar3, sAug, sOwn, sAppend, sFreeze, endOf, dVar, bVar, dC, dUn, dBin, dNil, dCons, dTup, dLst, dCall, asB, tVal, tAndD, tOrD, tNotD, dOfT, dIf, dAndV, dOrV, dNotV, oAdd, oAddI, oSub, oMod, oNeg, oLt, oLe, oGt, oGe, oIsNone, oNotNone, oIsN2, oNotN2, oAll, oAny, oSum, oLen, oTuple, oList, oAbs, oInt, oIx, asBs, asIs, wipeE, itemsOf, iVal, lcLoop, lcTurn, dLc, tYesD, gSet, gAll, gTupD, zipD, Sk.iZip, List.zip_cons_cons, List.zip_nil_right, List.zip_nil_left, List.map_cons, List.map_nil, List.length_cons, List.length_nil, List.replicate_succ, List.replicate_zero, List.cons_append, List.nil_append, List.append_nil, List.getElem?_cons_zero, List.getElem?_cons_succ, List.set_cons_zero, List.set_cons_succ, Option.map_some, Option.bind_some, Nat.reduceAdd, Nat.reduceSub, Nat.reduceLeDiff, ite_true, ite_false, Bool.false_eq_true, Bool.not_true, Bool.not_false, if_true, if_false, reduceIte, reduceCtorEq, List.sum_cons, List.sum_nil, List.all_cons, List.all_nil, List.any_cons, List.any_nil, id_eq, Bool.and_true, Bool.true_and, Bool.or_false, Bool.false_or, Bool.and_self, Bool.false_and, Bool.and_false, Bool.true_or, Bool.or_true, Int.cast_ofNat_Int, beq_self_eq_true, Int.reduceBEq, Int.reduceLT, Int.reduceLE, decide_true, decide_false, bind_assoc]
  refine (st e2).trans ((st e3).trans ?_)
  simp only [bind_pure, lift_some, noX_pure, runDef, sNext, sSeq, sExpr, sRet, sRetN, sIf, sAsg, sPar2, sPar3, sAug, sOwn, sAppend, sFreeze, endOf, dVar, bVar, dC, dUn, dBin, dNil, dCons, dTup, dLst, dCall, asB, tVal, tAndD, tOrD, tNotD, dOfT, dIf, dAndV, dOrV, dNotV, oAdd, oAddI, oSub, oMod, oNeg, oLt, oLe, oGt, oGe, oIsNone, oNotNone, oIsN2, oNotN2, oAll, oAny, oSum, oLen, oTuple, oList, oAbs, oInt, oIx, asBs, asIs, wipeE, itemsOf, iVal, lcLoop, lcTurn, dLc, tYesD, gSet, gAll, gTupD, zipD, Sk.iZip, List.zip_cons_cons, List.zip_nil_right, List.zip_nil_left, List.map_cons, List.map_nil, List.length_cons, List.length_nil, List.replicate_succ, List.replicate_zero, List.cons_append, List.nil_append, List.append_nil, List.getElem?_cons_zero, List.getElem?_cons_succ, List.set_cons_zero, List.set_cons_succ, Option.map_some, Option.bind_some, Nat.reduceAdd, Nat.reduceSub, Nat.reduceLeDiff, ite_true, ite_false, Bool.false_eq_true, Bool.not_true, Bool.not_false, if_true, if_false, reduceIte, reduceCtorEq, List.sum_cons, List.sum_nil, List.all_cons, List.all_nil, List.any_cons, List.any_nil, id_eq, Bool.and_true, Bool.true_and, Bool.or_false, Bool.false_or, Bool.and_self, Bool.false_and, Bool.and_false, Bool.true_or, Bool.or_true, Int.cast_ofNat_Int, beq_self_eq_true, Int.reduceBEq, Int.reduceLT, Int.reduceLE, decide_true, decide_false, e, hm]
  rfl
theorem Al.len {R : D → D → Prop} {xs ys : List D} (h : Al R xs ys) : ys.length = xs.length := by
  induction h with
  | nil => rfl
  | cons _ _ ih => rw [List.length_cons, List.length_cons, ih]
theorem Al.mem {R : D → D → Prop} {xs ys : List D} (h : Al R xs ys) : ∀ y ∈ ys, ∃ x ∈ xs, R x y := by
  induction h with
  | nil => intro y hy; cases hy
  | cons r _ ih =>
    intro y hy
    cases hy with
    | head => exact ⟨_, .head _, r⟩
    | tail _ hy =>
      obtain ⟨x, hx, r⟩ := ih y hy
      exact ⟨x, .tail _ hx, r⟩
/-! ### skies -/
def rows14 : List T3 := [(1, 0, 0), (0, 1, 0), (0, 0, 1), (1, 2, 2), (2, 1, 2), (2, 2, 1), (3, 0, 4), (0, 3, 4), (4, 3, 0), (2, 3, 6), (6, 2, 3), (1, 4, 8), (1, 1, 0), (1, 1, 1)]
def pm (i j : Int) : Prop := j = i ∨ j = -i
def Sky (a : T3) : Prop := ∃ r ∈ rows14, pm r.1 a.1 ∧ pm r.2.1 a.2.1 ∧ pm r.2.2 a.2.2
theorem atI_rows {n : Int} (h0 : 0 ≤ n) (h : n < 14) : ∃ r ∈ rows14, atI (rows14.map tD) n = some (tD r) := by
  obtain ⟨k, rfl⟩ : ∃ k : Nat, n = (k : Int) := ⟨n.toNat, by omega⟩
  have hk : k < rows14.length := by
    show k < 14
    omega
  refine ⟨rows14[k], List.getElem_mem hk, atI_n _ k _ ?_⟩
  rw [List.getElem?_map, List.getElem?_eq_getElem hk]
  rfl
theorem f_pick14 {ns : List Int} (hns : ns.length ≤ 63) : Ev ns (f__law_pick [.cel 0, .lst (rows14.map tD)]) fun d => ∃ r ∈ rows14, d = tD r := by
  have e : ∀ n : Nat, (14 : Int) = (n : Int) → True := fun _ _ => trivial
  simp only [f__law_pick, d__law_pick, bind_pure, lift_some, noX_pure, runDef, sNext, sSeq, sExpr, sRet, sRetN, sIf, sAsg, sPar2, sPar3, sAug, sOwn, sAppend, sFreeze, endOf, dVar, bVar, dC, dUn, dBin, dNil, dCons, dTup, dLst, dCall, asB, tVal, tAndD, tOrD, tNotD, dOfT, dIf, dAndV, dOrV, dNotV, oAdd, oAddI, oSub, oMod, oNeg, oLt, oLe, oGt, oGe, oIsNone, oNotNone, oIsN2, oNotN2, oAll, oAny, oSum, oLen, oTuple, oList, oAbs, oInt, oIx, asBs, asIs, wipeE, itemsOf, iVal, lcLoop, lcTurn, dLc, tYesD, gSet, gAll, gTupD, zipD, Sk.iZip, List.zip_cons_cons, List.zip_nil_right, List.zip_nil_left, List.map_cons, List.map_nil, List.length_cons, List.length_nil, List.replicate_succ, List.replicate_zero, List.cons_append, List.nil_append, List.append_nil, List.getElem?_cons_zero, List.getElem?_cons_succ, List.set_cons_zero, List.set_cons_succ, Option.map_some, Option.bind_some, Nat.reduceAdd, Nat.reduceSub, Nat.reduceLeDiff, ite_true, ite_false, Bool.false_eq_true, Bool.not_true, Bool.not_false, if_true, if_false, reduceIte, reduceCtorEq, List.sum_cons, List.sum_nil, List.all_cons, List.all_nil, List.any_cons, List.any_nil, id_eq, Bool.and_true, Bool.true_and, Bool.or_false, Bool.false_or, Bool.and_self, Bool.false_and, Bool.and_false, Bool.true_or, Bool.or_true, Int.cast_ofNat_Int, beq_self_eq_true, Int.reduceBEq, Int.reduceLT, Int.reduceLE, decide_true, decide_false, bind_assoc, List.length_map, show rows14.length = 14 from rfl]
  refine Ev.bind (f_take hns (by omega)) fun d p => ?_
  obtain ⟨n, rfl, h0, h1⟩ := p
  obtain ⟨r, hr, er⟩ := atI_rows h0 (by omega)
  simp only [bind_pure, lift_some, noX_pure, runDef, sNext, sSeq, sExpr, sRet, sRetN, sIf, sAsg, sPar2, sPar3, sAug, sOwn, sAppend, sFreeze, endOf, dVar, bVar, dC, dUn, dBin, dNil, dCons, dTup, dLst, dCall, asB, tVal, tAndD, tOrD, tNotD, dOfT, dIf, dAndV, dOrV, dNotV, oAdd, oAddI, oSub, oMod, oNeg, oLt, oLe, oGt, oGe, oIsNone, oNotNone, oIsN2, oNotN2, oAll, oAny, oSum, oLen, oTuple, oList, oAbs, oInt, oIx, asBs, asIs, wipeE, itemsOf, iVal, lcLoop, lcTurn, dLc, tYesD, gSet, gAll, gTupD, zipD, Sk.iZip, List.zip_cons_cons, List.zip_nil_right, List.zip_nil_left, List.map_cons, List.map_nil, List.length_cons, List.length_nil, List.replicate_succ, List.replicate_zero, List.cons_append, List.nil_append, List.append_nil, List.getElem?_cons_zero, List.getElem?_cons_succ, List.set_cons_zero, List.set_cons_succ, Option.map_some, Option.bind_some, Nat.reduceAdd, Nat.reduceSub, Nat.reduceLeDiff, ite_true, ite_false, Bool.false_eq_true, Bool.not_true, Bool.not_false, if_true, if_false, reduceIte, reduceCtorEq, List.sum_cons, List.sum_nil, List.all_cons, List.all_nil, List.any_cons, List.any_nil, id_eq, Bool.and_true, Bool.true_and, Bool.or_false, Bool.false_or, Bool.and_self, Bool.false_and, Bool.and_false, Bool.true_or, Bool.or_true, Int.cast_ofNat_Int, beq_self_eq_true, Int.reduceBEq, Int.reduceLT, Int.reduceLE, decide_true, decide_false, er]
  exact Ev.pure ⟨r, hr, rfl⟩
theorem f_sky {ns : List Int} (hns : ns.length ≤ 63) : Ev ns (f__law_sky [.cel 0]) fun d => ∃ a, Sky a ∧ d = tD a := by
  have hrow : (D.lst [.tup [.int 1, .int 0, .int 0], .tup [.int 0, .int 1, .int 0], .tup [.int 0, .int 0, .int 1], .tup [.int 1, .int 2, .int 2], .tup [.int 2, .int 1, .int 2], .tup [.int 2, .int 2, .int 1], .tup [.int 3, .int 0, .int 4], .tup [.int 0, .int 3, .int 4], .tup [.int 4, .int 3, .int 0], .tup [.int 2, .int 3, .int 6], .tup [.int 6, .int 2, .int 3], .tup [.int 1, .int 4, .int 8], .tup [.int 1, .int 1, .int 0], .tup [.int 1, .int 1, .int 1]]) = .lst (rows14.map tD) := rfl
  have tail : ∀ (r : T3), r ∈ rows14 → ∀ s : Slot, Ev ns (M.bind (sRet (dUn oTuple (dLc [3] (iVal (dVar 2)) (gSet 3) tYesD (dIf (tVal (dBin oEq (dCall f__law_take (dCons (dVar 0) (dCons (dC (.int 2)) dNil))) (dC (.int 0)))) (dVar 3) (dBin oSub (dC (.int 0)) (dVar 3))))) [.shr (.cel 0), s, .shr (tD r), .no]) endOf) fun d => ∃ a, Sky a ∧ d = tD a := by
    intro r hr s
    have hl : Ev ns (dLc [3] (iVal (dVar 2)) (gSet 3) tYesD (dIf (tVal (dBin oEq (dCall f__law_take (dCons (dVar 0) (dCons (dC (.int 2)) dNil))) (dC (.int 0)))) (dVar 3) (dBin oSub (dC (.int 0)) (dVar 3))) [.shr (.cel 0), s, .shr (tD r), .no]) fun d => ∃ ys, d = .lst ys ∧ Al (fun x y => ∀ i, x = .int i → ∃ j, y = .int j ∧ pm i j) [.int r.1, .int r.2.1, .int r.2.2] ys := by
      refine Ev.dLc (xs := [.int r.1, .int r.2.1, .int r.2.2]) rfl (by simp) fun x hx => ⟨_, rfl, ?_⟩
      obtain ⟨i, rfl⟩ : ∃ i, x = .int i := by
        simp only [List.mem_cons, List.not_mem_nil, or_false] at hx
        rcases hx with h | h | h <;> exact ⟨_, h⟩
      simp only [bind_pure, lift_some, noX_pure, runDef, sNext, sSeq, sExpr, sRet, sRetN, sIf, sAsg, sPar2, sPar3, sAug, sOwn, sAppend, sFreeze, endOf, dVar, bVar, dC, dUn, dBin, dNil, dCons, dTup, dLst, dCall, asB, tVal, tAndD, tOrD, tNotD, dOfT, dIf, dAndV, dOrV, dNotV, oAdd, oAddI, oSub, oMod, oNeg, oLt, oLe, oGt, oGe, oIsNone, oNotNone, oIsN2, oNotN2, oAll, oAny, oSum, oLen, oTuple, oList, oAbs, oInt, oIx, asBs, asIs, wipeE, itemsOf, iVal, lcLoop, lcTurn, dLc, tYesD, gSet, gAll, gTupD, zipD, Sk.iZip, List.zip_cons_cons, List.zip_nil_right, List.zip_nil_left, List.map_cons, List.map_nil, List.length_cons, List.length_nil, List.replicate_succ, List.replicate_zero, List.cons_append, List.nil_append, List.append_nil, List.getElem?_cons_zero, List.getElem?_cons_succ, List.set_cons_zero, List.set_cons_succ, Option.map_some, Option.bind_some, Nat.reduceAdd, Nat.reduceSub, Nat.reduceLeDiff, ite_true, ite_false, Bool.false_eq_true, Bool.not_true, Bool.not_false, if_true, if_false, reduceIte, reduceCtorEq, List.sum_cons, List.sum_nil, List.all_cons, List.all_nil, List.any_cons, List.any_nil, id_eq, Bool.and_true, Bool.true_and, Bool.or_false, Bool.false_or, Bool.and_self, Bool.false_and, Bool.and_false, Bool.true_or, Bool.or_true, Int.cast_ofNat_Int, beq_self_eq_true, Int.reduceBEq, Int.reduceLT, Int.reduceLE, decide_true, decide_false, bind_assoc]
      refine Ev.bind (f_take hns (by omega)) fun d p => ?_
      obtain ⟨n, rfl, h0, h1⟩ := p
      simp only [bind_pure, lift_some, noX_pure, runDef, sNext, sSeq, sExpr, sRet, sRetN, sIf, sAsg, sPar2, sPar3, sAug, sOwn, sAppend, sFreeze, endOf, dVar, bVar, dC, dUn, dBin, dNil, dCons, dTup, dLst, dCall, asB, tVal, tAndD, tOrD, tNotD, dOfT, dIf, dAndV, dOrV, dNotV, oAdd, oAddI, oSub, oMod, oNeg, oLt, oLe, oGt, oGe, oIsNone, oNotNone, oIsN2, oNotN2, oAll, oAny, oSum, oLen, oTuple, oList, oAbs, oInt, oIx, asBs, asIs, wipeE, itemsOf, iVal, lcLoop, lcTurn, dLc, tYesD, gSet, gAll, gTupD, zipD, Sk.iZip, List.zip_cons_cons, List.zip_nil_right, List.zip_nil_left, List.map_cons, List.map_nil, List.length_cons, List.length_nil, List.replicate_succ, List.replicate_zero, List.cons_append, List.nil_append, List.append_nil, List.getElem?_cons_zero, List.getElem?_cons_succ, List.set_cons_zero, List.set_cons_succ, Option.map_some, Option.bind_some, Nat.reduceAdd, Nat.reduceSub, Nat.reduceLeDiff, ite_true, ite_false, Bool.false_eq_true, Bool.not_true, Bool.not_false, if_true, if_false, reduceIte, reduceCtorEq, List.sum_cons, List.sum_nil, List.all_cons, List.all_nil, List.any_cons, List.any_nil, id_eq, Bool.and_true, Bool.true_and, Bool.or_false, Bool.false_or, Bool.and_self, Bool.false_and, Bool.and_false, Bool.true_or, Bool.or_true, Int.cast_ofNat_Int, beq_self_eq_true, Int.reduceBEq, Int.reduceLT, Int.reduceLE, decide_true, decide_false, oEq_int]
      by_cases c : n = 0
      · simp only [beq_iff_eq.mpr c, bind_pure, lift_some, noX_pure, runDef, sNext, sSeq, sExpr, sRet, sRetN, sIf, sAsg, sPar2, sPar3, sAug, sOwn, sAppend, sFreeze, endOf, dVar, bVar, dC, dUn, dBin, dNil, dCons, dTup, dLst, dCall, asB, tVal, tAndD, tOrD, tNotD, dOfT, dIf, dAndV, dOrV, dNotV, oAdd, oAddI, oSub, oMod, oNeg, oLt, oLe, oGt, oGe, oIsNone, oNotNone, oIsN2, oNotN2, oAll, oAny, oSum, oLen, oTuple, oList, oAbs, oInt, oIx, asBs, asIs, wipeE, itemsOf, iVal, lcLoop, lcTurn, dLc, tYesD, gSet, gAll, gTupD, zipD, Sk.iZip, List.zip_cons_cons, List.zip_nil_right, List.zip_nil_left, List.map_cons, List.map_nil, List.length_cons, List.length_nil, List.replicate_succ, List.replicate_zero, List.cons_append, List.nil_append, List.append_nil, List.getElem?_cons_zero, List.getElem?_cons_succ, List.set_cons_zero, List.set_cons_succ, Option.map_some, Option.bind_some, Nat.reduceAdd, Nat.reduceSub, Nat.reduceLeDiff, ite_true, ite_false, Bool.false_eq_true, Bool.not_true, Bool.not_false, if_true, if_false, reduceIte, reduceCtorEq, List.sum_cons, List.sum_nil, List.all_cons, List.all_nil, List.any_cons, List.any_nil, id_eq, Bool.and_true, Bool.true_and, Bool.or_false, Bool.false_or, Bool.and_self, Bool.false_and, Bool.and_false, Bool.true_or, Bool.or_true, Int.cast_ofNat_Int, beq_self_eq_true, Int.reduceBEq, Int.reduceLT, Int.reduceLE, decide_true, decide_false]
        exact Ev.pure fun k hk => ⟨i, rfl, .inl (by cases hk; rfl)⟩
      · simp only [beq_eq_false_iff_ne.mpr c, bind_pure, lift_some, noX_pure, runDef, sNext, sSeq, sExpr, sRet, sRetN, sIf, sAsg, sPar2, sPar3, sAug, sOwn, sAppend, sFreeze, endOf, dVar, bVar, dC, dUn, dBin, dNil, dCons, dTup, dLst, dCall, asB, tVal, tAndD, tOrD, tNotD, dOfT, dIf, dAndV, dOrV, dNotV, oAdd, oAddI, oSub, oMod, oNeg, oLt, oLe, oGt, oGe, oIsNone, oNotNone, oIsN2, oNotN2, oAll, oAny, oSum, oLen, oTuple, oList, oAbs, oInt, oIx, asBs, asIs, wipeE, itemsOf, iVal, lcLoop, lcTurn, dLc, tYesD, gSet, gAll, gTupD, zipD, Sk.iZip, List.zip_cons_cons, List.zip_nil_right, List.zip_nil_left, List.map_cons, List.map_nil, List.length_cons, List.length_nil, List.replicate_succ, List.replicate_zero, List.cons_append, List.nil_append, List.append_nil, List.getElem?_cons_zero, List.getElem?_cons_succ, List.set_cons_zero, List.set_cons_succ, Option.map_some, Option.bind_some, Nat.reduceAdd, Nat.reduceSub, Nat.reduceLeDiff, ite_true, ite_false, Bool.false_eq_true, Bool.not_true, Bool.not_false, if_true, if_false, reduceIte, reduceCtorEq, List.sum_cons, List.sum_nil, List.all_cons, List.all_nil, List.any_cons, List.any_nil, id_eq, Bool.and_true, Bool.true_and, Bool.or_false, Bool.false_or, Bool.and_self, Bool.false_and, Bool.and_false, Bool.true_or, Bool.or_true, Int.cast_ofNat_Int, beq_self_eq_true, Int.reduceBEq, Int.reduceLT, Int.reduceLE, decide_true, decide_false]
        exact Ev.pure fun k hk => ⟨0 - i, rfl, .inr (by cases hk; omega)⟩
    unfold sRet
    rw [bind_assoc]
    unfold dUn
    rw [bind_assoc]
    refine Ev.bind hl fun d p => ?_
    obtain ⟨ys, rfl, al⟩ := p
    cases al with
    | cons h1 al =>
    cases al with
    | cons h2 al =>
    cases al with
    | cons h3 al =>
    cases al
    obtain ⟨x, rfl, px⟩ := h1 _ rfl
    obtain ⟨y, rfl, py⟩ := h2 _ rfl
    obtain ⟨z, rfl, pz⟩ := h3 _ rfl
    exact Ev.pure ⟨(x, y, z), ⟨r, hr, px, py, pz⟩, rfl⟩
  have sqq {A B C : DS} {e0 e1 : Sk.Env} {P : D → Prop} (hA : A e0 = M.pure (.next e1)) (hB : Ev ns (B e1) fun fl => ∃ r ∈ rows14, ∃ s, fl = .next [.shr (.cel 0), s, .shr (tD r), .no]) (hC : ∀ r ∈ rows14, ∀ s : Slot, Ev ns (M.bind (C [.shr (.cel 0), s, .shr (tD r), .no]) endOf) P) : Ev ns (M.bind (sSeq A (sSeq B C) e0) endOf) P := by
    unfold sSeq
    rw [hA, bind_pure]
    show Ev ns (M.bind (M.bind (B e1) _) endOf) P
    rw [bind_assoc]
    refine Ev.bind hB fun fl p => ?_
    obtain ⟨r, hr, t, rfl⟩ := p
    exact hC r hr t
  show Ev ns (M.bind (d__law_sky [.shr (.cel 0), .no, .no, .no]) endOf) _
  unfold d__law_sky
  refine sqq (e1 := [.shr (.cel 0), .shr (.lst (rows14.map tD)), .no, .no]) ?_ ?_ tail
  · simp only [bind_pure, lift_some, noX_pure, runDef, sNext, sSeq, sExpr, sRet, sRetN, sIf, sAsg, sPar2, sPar3, sAug, sOwn, sAppend, sFreeze, endOf, dVar, bVar, dC, dUn, dBin, dNil, dCons, dTup, dLst, dCall, asB, tVal, tAndD, tOrD, tNotD, dOfT, dIf, dAndV, dOrV, dNotV, oAdd, oAddI, oSub, oMod, oNeg, oLt, oLe, oGt, oGe, oIsNone, oNotNone, oIsN2, oNotN2, oAll, oAny, oSum, oLen, oTuple, oList, oAbs, oInt, oIx, asBs, asIs, wipeE, itemsOf, iVal, lcLoop, lcTurn, dLc, tYesD, gSet, gAll, gTupD, zipD, Sk.iZip, List.zip_cons_cons, List.zip_nil_right, List.zip_nil_left, List.map_cons, List.map_nil, List.length_cons, List.length_nil, List.replicate_succ, List.replicate_zero, List.cons_append, List.nil_append, List.append_nil, List.getElem?_cons_zero, List.getElem?_cons_succ, List.set_cons_zero, List.set_cons_succ, Option.map_some, Option.bind_some, Nat.reduceAdd, Nat.reduceSub, Nat.reduceLeDiff, ite_true, ite_false, Bool.false_eq_true, Bool.not_true, Bool.not_false, if_true, if_false, reduceIte, reduceCtorEq, List.sum_cons, List.sum_nil, List.all_cons, List.all_nil, List.any_cons, List.any_nil, id_eq, Bool.and_true, Bool.true_and, Bool.or_false, Bool.false_or, Bool.and_self, Bool.false_and, Bool.and_false, Bool.true_or, Bool.or_true, Int.cast_ofNat_Int, beq_self_eq_true, Int.reduceBEq, Int.reduceLT, Int.reduceLE, decide_true, decide_false, ← hrow]
  · simp only [bind_pure, lift_some, noX_pure, runDef, sNext, sSeq, sExpr, sRet, sRetN, sIf, sAsg, sPar2, sPar3, sAug, sOwn, sAppend, sFreeze, endOf, dVar, bVar, dC, dUn, dBin, dNil, dCons, dTup, dLst, dCall, asB, tVal, tAndD, tOrD, tNotD, dOfT, dIf, dAndV, dOrV, dNotV, oAdd, oAddI, oSub, oMod, oNeg, oLt, oLe, oGt, oGe, oIsNone, oNotNone, oIsN2, oNotN2, oAll, oAny, oSum, oLen, oTuple, oList, oAbs, oInt, oIx, asBs, asIs, wipeE, itemsOf, iVal, lcLoop, lcTurn, dLc, tYesD, gSet, gAll, gTupD, zipD, Sk.iZip, List.zip_cons_cons, List.zip_nil_right, List.zip_nil_left, List.map_cons, List.map_nil, List.length_cons, List.length_nil, List.replicate_succ, List.replicate_zero, List.cons_append, List.nil_append, List.append_nil, List.getElem?_cons_zero, List.getElem?_cons_succ, List.set_cons_zero, List.set_cons_succ, Option.map_some, Option.bind_some, Nat.reduceAdd, Nat.reduceSub, Nat.reduceLeDiff, ite_true, ite_false, Bool.false_eq_true, Bool.not_true, Bool.not_false, if_true, if_false, reduceIte, reduceCtorEq, List.sum_cons, List.sum_nil, List.all_cons, List.all_nil, List.any_cons, List.any_nil, id_eq, Bool.and_true, Bool.true_and, Bool.or_false, Bool.false_or, Bool.and_self, Bool.false_and, Bool.and_false, Bool.true_or, Bool.or_true, Int.cast_ofNat_Int, beq_self_eq_true, Int.reduceBEq, Int.reduceLT, Int.reduceLE, decide_true, decide_false, bind_assoc]
    refine Ev.bind (f_take hns (by omega)) fun d p => ?_
    obtain ⟨n, rfl, h0, h1⟩ := p
    simp only [bind_pure, lift_some, noX_pure, runDef, sNext, sSeq, sExpr, sRet, sRetN, sIf, sAsg, sPar2, sPar3, sAug, sOwn, sAppend, sFreeze, endOf, dVar, bVar, dC, dUn, dBin, dNil, dCons, dTup, dLst, dCall, asB, tVal, tAndD, tOrD, tNotD, dOfT, dIf, dAndV, dOrV, dNotV, oAdd, oAddI, oSub, oMod, oNeg, oLt, oLe, oGt, oGe, oIsNone, oNotNone, oIsN2, oNotN2, oAll, oAny, oSum, oLen, oTuple, oList, oAbs, oInt, oIx, asBs, asIs, wipeE, itemsOf, iVal, lcLoop, lcTurn, dLc, tYesD, gSet, gAll, gTupD, zipD, Sk.iZip, List.zip_cons_cons, List.zip_nil_right, List.zip_nil_left, List.map_cons, List.map_nil, List.length_cons, List.length_nil, List.replicate_succ, List.replicate_zero, List.cons_append, List.nil_append, List.append_nil, List.getElem?_cons_zero, List.getElem?_cons_succ, List.set_cons_zero, List.set_cons_succ, Option.map_some, Option.bind_some, Nat.reduceAdd, Nat.reduceSub, Nat.reduceLeDiff, ite_true, ite_false, Bool.false_eq_true, Bool.not_true, Bool.not_false, if_true, if_false, reduceIte, reduceCtorEq, List.sum_cons, List.sum_nil, List.all_cons, List.all_nil, List.any_cons, List.any_nil, id_eq, Bool.and_true, Bool.true_and, Bool.or_false, Bool.false_or, Bool.and_self, Bool.false_and, Bool.and_false, Bool.true_or, Bool.or_true, Int.cast_ofNat_Int, beq_self_eq_true, Int.reduceBEq, Int.reduceLT, Int.reduceLE, decide_true, decide_false, bind_assoc]
    by_cases c : (0 : Int) < n
    · simp only [decide_eq_true c, bind_pure, lift_some, noX_pure, runDef, sNext, sSeq, sExpr, sRet, sRetN, sIf, sAsg, sPar2, sPar3, sAug, sOwn, sAppend, sFreeze, endOf, dVar, bVar, dC, dUn, dBin, dNil, dCons, dTup, dLst, dCall, asB, tVal, tAndD, tOrD, tNotD, dOfT, dIf, dAndV, dOrV, dNotV, oAdd, oAddI, oSub, oMod, oNeg, oLt, oLe, oGt, oGe, oIsNone, oNotNone, oIsN2, oNotN2, oAll, oAny, oSum, oLen, oTuple, oList, oAbs, oInt, oIx, asBs, asIs, wipeE, itemsOf, iVal, lcLoop, lcTurn, dLc, tYesD, gSet, gAll, gTupD, zipD, Sk.iZip, List.zip_cons_cons, List.zip_nil_right, List.zip_nil_left, List.map_cons, List.map_nil, List.length_cons, List.length_nil, List.replicate_succ, List.replicate_zero, List.cons_append, List.nil_append, List.append_nil, List.getElem?_cons_zero, List.getElem?_cons_succ, List.set_cons_zero, List.set_cons_succ, Option.map_some, Option.bind_some, Nat.reduceAdd, Nat.reduceSub, Nat.reduceLeDiff, ite_true, ite_false, Bool.false_eq_true, Bool.not_true, Bool.not_false, if_true, if_false, reduceIte, reduceCtorEq, List.sum_cons, List.sum_nil, List.all_cons, List.all_nil, List.any_cons, List.any_nil, id_eq, Bool.and_true, Bool.true_and, Bool.or_false, Bool.false_or, Bool.and_self, Bool.false_and, Bool.and_false, Bool.true_or, Bool.or_true, Int.cast_ofNat_Int, beq_self_eq_true, Int.reduceBEq, Int.reduceLT, Int.reduceLE, decide_true, decide_false, bind_assoc]
      refine Ev.bind (f_take hns (by omega)) fun d p => ?_
      obtain ⟨n, rfl, h0, h1⟩ := p
      obtain ⟨r, hr, er⟩ := atI_rows h0 (by omega)
      simp only [bind_pure, lift_some, noX_pure, runDef, sNext, sSeq, sExpr, sRet, sRetN, sIf, sAsg, sPar2, sPar3, sAug, sOwn, sAppend, sFreeze, endOf, dVar, bVar, dC, dUn, dBin, dNil, dCons, dTup, dLst, dCall, asB, tVal, tAndD, tOrD, tNotD, dOfT, dIf, dAndV, dOrV, dNotV, oAdd, oAddI, oSub, oMod, oNeg, oLt, oLe, oGt, oGe, oIsNone, oNotNone, oIsN2, oNotN2, oAll, oAny, oSum, oLen, oTuple, oList, oAbs, oInt, oIx, asBs, asIs, wipeE, itemsOf, iVal, lcLoop, lcTurn, dLc, tYesD, gSet, gAll, gTupD, zipD, Sk.iZip, List.zip_cons_cons, List.zip_nil_right, List.zip_nil_left, List.map_cons, List.map_nil, List.length_cons, List.length_nil, List.replicate_succ, List.replicate_zero, List.cons_append, List.nil_append, List.append_nil, List.getElem?_cons_zero, List.getElem?_cons_succ, List.set_cons_zero, List.set_cons_succ, Option.map_some, Option.bind_some, Nat.reduceAdd, Nat.reduceSub, Nat.reduceLeDiff, ite_true, ite_false, Bool.false_eq_true, Bool.not_true, Bool.not_false, if_true, if_false, reduceIte, reduceCtorEq, List.sum_cons, List.sum_nil, List.all_cons, List.all_nil, List.any_cons, List.any_nil, id_eq, Bool.and_true, Bool.true_and, Bool.or_false, Bool.false_or, Bool.and_self, Bool.false_and, Bool.and_false, Bool.true_or, Bool.or_true, Int.cast_ofNat_Int, beq_self_eq_true, Int.reduceBEq, Int.reduceLT, Int.reduceLE, decide_true, decide_false, er]
      exact Ev.pure ⟨r, hr, _, rfl⟩
    · simp only [decide_eq_false c, bind_pure, lift_some, noX_pure, runDef, sNext, sSeq, sExpr, sRet, sRetN, sIf, sAsg, sPar2, sPar3, sAug, sOwn, sAppend, sFreeze, endOf, dVar, bVar, dC, dUn, dBin, dNil, dCons, dTup, dLst, dCall, asB, tVal, tAndD, tOrD, tNotD, dOfT, dIf, dAndV, dOrV, dNotV, oAdd, oAddI, oSub, oMod, oNeg, oLt, oLe, oGt, oGe, oIsNone, oNotNone, oIsN2, oNotN2, oAll, oAny, oSum, oLen, oTuple, oList, oAbs, oInt, oIx, asBs, asIs, wipeE, itemsOf, iVal, lcLoop, lcTurn, dLc, tYesD, gSet, gAll, gTupD, zipD, Sk.iZip, List.zip_cons_cons, List.zip_nil_right, List.zip_nil_left, List.map_cons, List.map_nil, List.length_cons, List.length_nil, List.replicate_succ, List.replicate_zero, List.cons_append, List.nil_append, List.append_nil, List.getElem?_cons_zero, List.getElem?_cons_succ, List.set_cons_zero, List.set_cons_succ, Option.map_some, Option.bind_some, Nat.reduceAdd, Nat.reduceSub, Nat.reduceLeDiff, ite_true, ite_false, Bool.false_eq_true, Bool.not_true, Bool.not_false, if_true, if_false, reduceIte, reduceCtorEq, List.sum_cons, List.sum_nil, List.all_cons, List.all_nil, List.any_cons, List.any_nil, id_eq, Bool.and_true, Bool.true_and, Bool.or_false, Bool.false_or, Bool.and_self, Bool.false_and, Bool.and_false, Bool.true_or, Bool.or_true, Int.cast_ofNat_Int, beq_self_eq_true, Int.reduceBEq, Int.reduceLT, Int.reduceLE, decide_true, decide_false, bind_assoc]
      refine Ev.bind (f_pick14 hns) fun d p => ?_
      obtain ⟨r, hr, rfl⟩ := p
      exact Ev.pure ⟨r, hr, _, rfl⟩
theorem Sky.ne {a : T3} (h : Sky a) : a ≠ z3 := by
  obtain ⟨r, hr, p1, p2, p3⟩ := h
  rintro rfl
  unfold pm at p1 p2 p3
  simp only [rows14, List.mem_cons, List.not_mem_nil, or_false] at hr
  rcases hr with h | h | h | h | h | h | h | h | h | h | h | h | h | h <;> (subst h; dsimp only at p1 p2 p3; omega)
theorem Sky.B {a : T3} (h : Sky a) : B 4 a := by
  obtain ⟨r, hr, p1, p2, p3⟩ := h
  obtain ⟨x, y, z⟩ := a
  unfold pm at p1 p2 p3
  unfold Lw.B Bi
  simp only [rows14, List.mem_cons, List.not_mem_nil, or_false] at hr
  rcases hr with h | h | h | h | h | h | h | h | h | h | h | h | h | h <;> (subst h; dsimp only at p1 p2 p3 ⊢; omega)
end Lw

set_option Elab.async false
set_option linter.all false
set_option maxRecDepth 100000
set_option maxHeartbeats 4000000
set_option autoImplicit false
namespace Lw
open PySem L2 Sk
theorem lagrange (a b c d : T3) : dot (cross a b) (cross c d) = dot a c * dot b d - dot a d * dot b c := by
  simp only [dot, cross]
  grind
theorem cross_perp (a b : T3) : dot (cross a b) a = 0 := by
  simp only [dot, cross]
  grind
theorem cross_anti (a b : T3) : cross a b = times (0 - 1) (cross b a) := by
  simp only [cross, times, Prod.mk.injEq]
  grind
theorem jacobi (a b c : T3) : plus (plus (cross a (cross b c)) (cross b (cross c a))) (cross c (cross a b)) = z3 := by
  simp only [cross, plus, Prod.mk.injEq]
  grind
theorem det_rot (a b c : T3) : det a b c = det b c a := by
  simp only [det, dot, cross]
  grind
theorem det_swap (a b c : T3) : det a b c = 0 - det b a c := by
  simp only [det, dot, cross]
  grind
theorem det_add (a b c : T3) (k : Int) : det a b (plus c (times k a)) = det a b c := by
  simp only [det, dot, cross, plus, times]
  grind
theorem whole_eq (a b : T3) : dot (cross a b) (cross a b) + dot a b * dot a b = ((sq a * sq b : Nat) : Int) := by
  have h1 := dot_self a
  have h2 := dot_self b
  rw [Int.natCast_mul, ← h1, ← h2, lagrange]
  have : dot b a = dot a b := by
    simp only [dot]
    grind
  rw [this]
  grind
theorem dot_comm (a b : T3) : dot a b = dot b a := by
  simp only [dot]
  grind
theorem sq_zero {a : T3} : sq a = 0 ↔ a = z3 := by
  constructor
  · intro h
    refine Classical.byContradiction fun n => ?_
    have := sq_pos n
    omega
  · rintro rfl
    rfl
theorem line_eq (a b : T3) : decide (cross a b = z3) = (dot a b * dot a b == ((sq a * sq b : Nat) : Int)) := by
  have h := whole_eq a b
  rw [dot_self] at h
  by_cases c : cross a b = z3
  · have h0 := sq_zero.mpr c
    rw [decide_eq_true c, eq_comm, beq_iff_eq]
    omega
  · have h0 := sq_pos c
    rw [decide_eq_false c, eq_comm, beq_eq_false_iff_ne]
    omega
/-! ### lowest terms -/
theorem lowN_cross (x y : Int) : (lowN x y).1 * y = (lowN x y).2 * x := by
  unfold lowN
  have h1 := Int.ediv_mul_cancel (Int.gcd_dvd_left x y)
  have h2 := Int.ediv_mul_cancel (Int.gcd_dvd_right x y)
  generalize x / (Int.gcd x y : Int) = p at *
  generalize y / (Int.gcd x y : Int) = q at *
  dsimp only
  rw [← h1] 
  conv => lhs; rw [← h2]
  grind
theorem lowN_pos {x y : Int} (h : 0 < y) : 0 < (lowN x y).2 := by
  unfold lowN
  have g : 0 < Int.gcd x y := gcd_pos (.inr (by omega))
  have h2 := Int.ediv_mul_cancel (Int.gcd_dvd_right x y)
  generalize y / (Int.gcd x y : Int) = q at *
  dsimp only
  refine Classical.byContradiction fun n => ?_
  have : q * (Int.gcd x y : Int) ≤ 0 := Int.mul_nonpos_of_nonpos_of_nonneg (by omega) (by omega)
  omega
theorem lowN_cop {x y : Int} (h : 0 < y) : Int.gcd (lowN x y).1 (lowN x y).2 = 1 := by
  unfold lowN
  exact Int.gcd_ediv_gcd_ediv_gcd (gcd_pos (.inr (by omega)))
theorem cop_dvd {q p s : Int} (h : q ∣ p * s) (c : Int.gcd q p = 1) : q ∣ s := by
  have h1 := Int.natAbs_dvd_natAbs.mpr h
  rw [Int.natAbs_mul] at h1
  exact Int.natAbs_dvd_natAbs.mp (Nat.Coprime.dvd_of_dvd_mul_left c h1)
/-- lowest terms are one -/
theorem low_uniq {p q r s : Int} (h1 : Int.gcd p q = 1) (h2 : Int.gcd r s = 1) (hq : 0 < q) (hs : 0 < s) (h : p * s = r * q) : p = r ∧ q = s := by
  have d1 : q ∣ s := by
    have : q ∣ p * s := ⟨r, by rw [h, Int.mul_comm]⟩
    exact cop_dvd this (by rw [Int.gcd_comm]; exact h1)
  have d2 : s ∣ q := by
    have : s ∣ r * q := ⟨p, by rw [← h, Int.mul_comm]⟩
    exact cop_dvd this (by rw [Int.gcd_comm]; exact h2)
  have e : q = s := Int.dvd_antisymm (by omega) (by omega) d1 d2
  subst e
  exact ⟨Int.eq_of_mul_eq_mul_right (by omega) h, rfl⟩
theorem low_eq {p q x y : Int} (h1 : Int.gcd p q = 1) (hq : 0 < q) (hy : 0 < y) (h : p * y = q * x) : lowN x y = (p, q) := by
  have c := lowN_cop (x := x) hy
  have d := lowN_pos (x := x) hy
  have e := lowN_cross x y
  have : (lowN x y).1 * q = p * (lowN x y).2 := by
    have z : ((lowN x y).1 * q) * y = (p * (lowN x y).2) * y := by grind
    exact Int.eq_of_mul_eq_mul_right (by omega) z
  obtain ⟨u, v⟩ := low_uniq c h1 d hq this
  exact Prod.ext u v
theorem ratio_some {a b : T3} {p : Int × Int} (h : ratio a b = some p) : ∃ r : Nat, r * r = sq a * sq b ∧ p = lowN (r : Int) (sq b : Int) := by
  unfold ratio at h
  cases e : rootN (sq a * sq b) with
  | none => rw [e] at h; cases h
  | some r =>
    rw [e] at h
    exact ⟨r, rootN_some e, by cases h; rfl⟩
theorem ratio_of {a b : T3} {r : Nat} (h : r * r = sq a * sq b) : ratio a b = some (lowN (r : Int) (sq b : Int)) := by
  unfold ratio
  rw [rootN_of h]
  rfl
theorem root_none_iff (a b : T3) : (rootN (sq a * sq b)).isNone = (ratio a b).isNone := by
  unfold ratio
  cases rootN (sq a * sq b) <;> rfl
theorem sq_times (k : Int) (a : T3) : sq (times k a) = k.natAbs * k.natAbs * sq a := by
  simp only [sq, times, Int.natAbs_mul]
  grind
theorem ratio_swap {a b : T3} (ha : a ≠ z3) (hb : b ≠ z3) {p : Int × Int} (h : ratio a b = some p) : ratio b a = some (p.2, p.1) := by
  obtain ⟨r, e, rfl⟩ := ratio_some h
  have pa := sq_pos ha
  have pb := sq_pos hb
  rw [ratio_of (r := r) (by rw [e, Nat.mul_comm])]
  have hr : 0 < r := by
    rcases Nat.eq_zero_or_pos r with z | z
    · subst z
      have := Nat.mul_pos pa pb
      omega
    · exact z
  have e' : (r : Int) * r = (sq a : Int) * (sq b : Int) := by exact_mod_cast e
  have lc := lowN_cross (r : Int) (sq b : Int)
  have lp := lowN_pos (x := (r : Int)) (y := (sq b : Int)) (by omega)
  have cop := lowN_cop (x := (r : Int)) (y := (sq b : Int)) (by omega)
  generalize lowN (r : Int) (sq b : Int) = p at *
  have p1 : 0 < p.1 := by
    refine Classical.byContradiction fun n => ?_
    have z1 : p.1 * (sq b : Int) ≤ 0 := Int.mul_nonpos_of_nonpos_of_nonneg (by omega) (by omega)
    have z2 : 0 < p.2 * (r : Int) := Int.mul_pos lp (by omega)
    omega
  congr 1
  refine low_eq (by rw [Int.gcd_comm]; exact cop) p1 (by omega) ?_
  -- p.2 * sq a = p.1 * r
  have z : (p.2 * (sq a : Int)) * (r : Int) = (p.1 * (r : Int)) * (r : Int) := by
    have : (p.2 * (r : Int)) * (sq a : Int) = p.1 * ((r : Int) * r) := by rw [e', ← lc]; grind
    grind
  exact Int.eq_of_mul_eq_mul_right (by omega) z
theorem ratio_chain {a b c : T3} (hb : b ≠ z3) (hc : c ≠ z3) {p q : Int × Int} (h : ratio a b = some p) (g : ratio b c = some q) : ∃ t, ratio a c = some t ∧ t.1 * p.2 * q.2 = p.1 * q.1 * t.2 := by
  obtain ⟨r, e, rfl⟩ := ratio_some h
  obtain ⟨s, f, rfl⟩ := ratio_some g
  have pb := sq_pos hb
  have pc := sq_pos hc
  have dv : sq b ∣ r * s := by
    have : (sq b) ^ 2 ∣ (r * s) ^ 2 := ⟨sq a * sq c, by
      have : (r * s) ^ 2 = (r * r) * (s * s) := by grind
      rw [this, e, f]
      grind⟩
    exact (Nat.pow_dvd_pow_iff (by omega)).mp this
  obtain ⟨u, hu⟩ := dv
  have hu2 : u * u = sq a * sq c := by
    have : (sq b * sq b) * (u * u) = (sq b * sq b) * (sq a * sq c) := by
      have : (sq b * u) * (sq b * u) = (r * r) * (s * s) := by rw [← hu]; grind
      rw [e, f] at this
      grind
    exact Nat.eq_of_mul_eq_mul_left (Nat.mul_pos pb pb) this
  refine ⟨_, ratio_of hu2, ?_⟩
  have l1 := lowN_cross (r : Int) (sq b : Int)
  have l2 := lowN_cross (s : Int) (sq c : Int)
  have l3 := lowN_cross (u : Int) (sq c : Int)
  generalize lowN (r : Int) (sq b : Int) = p at *
  generalize lowN (s : Int) (sq c : Int) = q at *
  generalize lowN (u : Int) (sq c : Int) = t at *
  have hu' : (r : Int) * s = (sq b : Int) * u := by exact_mod_cast hu
  have z : (t.1 * p.2 * q.2) * ((sq b : Int) * (sq c : Int)) = (p.1 * q.1 * t.2) * ((sq b : Int) * (sq c : Int)) := by
    have : (p.1 * (sq b : Int)) * (q.1 * (sq c : Int)) * t.2 = (p.2 * q.2) * ((r : Int) * s) * t.2 := by rw [l1, l2]; grind
    rw [hu'] at this
    have w : (t.1 * (sq c : Int)) * (sq b : Int) * (p.2 * q.2) = t.2 * u * (sq b : Int) * (p.2 * q.2) := by rw [l3]
    grind
  exact Int.eq_of_mul_eq_mul_right (by
    have : 0 < (sq b : Int) * (sq c : Int) := Int.mul_pos (by omega) (by omega)
    omega) z
theorem ratio_twice {a b : T3} (hb : b ≠ z3) {p : Int × Int} (h : ratio a b = some p) : ∃ t, ratio (times 2 a) b = some t ∧ t.1 * p.2 = 2 * p.1 * t.2 := by
  obtain ⟨r, e, rfl⟩ := ratio_some h
  have pb := sq_pos hb
  have e2 : (2 * r) * (2 * r) = sq (times 2 a) * sq b := by
    rw [sq_times]
    have : (2 : Int).natAbs = 2 := rfl
    rw [this]
    grind
  refine ⟨_, ratio_of e2, ?_⟩
  have l1 := lowN_cross (r : Int) (sq b : Int)
  have l2 := lowN_cross ((2 * r : Nat) : Int) (sq b : Int)
  generalize lowN (r : Int) (sq b : Int) = p at *
  generalize lowN ((2 * r : Nat) : Int) (sq b : Int) = t at *
  have z : (t.1 * p.2) * (sq b : Int) = (2 * p.1 * t.2) * (sq b : Int) := by
    have : (t.1 * (sq b : Int)) * p.2 = t.2 * (2 * (p.2 * (r : Int))) := by
      rw [l2, Int.natCast_mul]
      grind
    rw [← l1] at this
    grind
  exact Int.eq_of_mul_eq_mul_right (by omega) z
theorem ratio_sq {a b : T3} (hb : b ≠ z3) {p : Int × Int} (h : ratio a b = some p) : p.1 * p.1 * (sq b : Int) = p.2 * p.2 * (sq a : Int) := by
  obtain ⟨r, e, rfl⟩ := ratio_some h
  have pb := sq_pos hb
  have l1 := lowN_cross (r : Int) (sq b : Int)
  generalize lowN (r : Int) (sq b : Int) = p at *
  have e' : (r : Int) * r = (sq a : Int) * (sq b : Int) := by exact_mod_cast e
  have z : (p.1 * p.1 * (sq b : Int)) * (sq b : Int) = (p.2 * p.2 * (sq a : Int)) * (sq b : Int) := by
    have : (p.1 * (sq b : Int)) * (p.1 * (sq b : Int)) = (p.2 * p.2) * ((r : Int) * r) := by rw [l1]; grind
    rw [e'] at this
    grind
  exact Int.eq_of_mul_eq_mul_right (by omega) z
theorem ratio_times {a : T3} (ha : a ≠ z3) {k : Int} (hk : 0 < k) : ratio a (times k a) = some (1, k) := by
  have pa := sq_pos ha
  have kn : (k.natAbs : Int) = k := by omega
  have e : (k.natAbs * sq a) * (k.natAbs * sq a) = sq a * sq (times k a) := by
    rw [sq_times]
    grind
  rw [ratio_of e]
  congr 1
  have kp := Nat.mul_pos (Nat.mul_pos (show 0 < k.natAbs by omega) (show 0 < k.natAbs by omega)) pa
  refine low_eq (by rw [Int.gcd_comm]; exact Int.gcd_one) hk (by rw [sq_times]; omega) ?_
  rw [sq_times]
  simp only [Int.natCast_mul, kn]
  grind
/-! ### least -/
theorem gcd3_times {k : Int} (hk : 0 < k) (a : T3) : gcd3 (times k a) = k * gcd3 a := by
  unfold gcd3 times
  dsimp only
  have kn : (k.natAbs : Int) = k := by omega
  rw [Int.gcd_mul_left, Int.natCast_mul, kn, Int.gcd_mul_left, Int.natCast_mul, kn]
theorem least_times {k : Int} (hk : 0 < k) (a : T3) : least (times k a) = least a := by
  unfold least
  rw [gcd3_times hk]
  simp only [times, Int.mul_ediv_mul_of_pos _ _ hk]
theorem gcd3_neg (a : T3) : gcd3 (neg a) = gcd3 a := by
  unfold gcd3 neg
  dsimp only
  rw [Int.gcd_neg, Int.neg_gcd, Int.gcd_neg]
theorem times_least (a : T3) : times (gcd3 a) (least a) = a := by
  obtain ⟨d1, d2, d3⟩ := gcd3_dvd a
  unfold times least
  dsimp only
  rw [Int.mul_ediv_cancel' d1, Int.mul_ediv_cancel' d2, Int.mul_ediv_cancel' d3]
theorem gcd3_least {a : T3} (h : a ≠ z3) : gcd3 (least a) = 1 := by
  have g := gcd3_pos h
  have e := gcd3_times g (least a)
  rw [times_least] at e
  have : gcd3 a * 1 = gcd3 a * gcd3 (least a) := by omega
  exact (Int.eq_of_mul_eq_mul_left (by omega) this).symm
theorem least_of_one {a : T3} (h : gcd3 a = 1) : least a = a := by
  unfold least
  rw [h]
  simp only [Int.ediv_one]
theorem neg_neg (a : T3) : neg (neg a) = a := by
  simp only [neg, Int.neg_neg]
theorem least_opp {a : T3} (h : a ≠ z3) : least (neg (least a)) = neg (least a) := least_of_one (by rw [gcd3_neg, gcd3_least h])
theorem neg_ne {a : T3} (h : a ≠ z3) : neg a ≠ z3 := by
  intro e
  have := congrArg neg e
  rw [neg_neg] at this
  exact h this
theorem dot_times (k : Int) (a b : T3) : dot a (times k b) = k * dot a b := by
  simp only [dot, times]
  grind
theorem dot_neg (a b : T3) : dot a (neg b) = -dot a b := by
  simp only [dot, neg]
  grind
theorem dot_least (a b : T3) : dot a b = gcd3 b * dot a (least b) := by
  rw [← dot_times, times_least]
theorem sgn_mul {k i : Int} (hk : 0 < k) : sgn (k * i) = sgn i := by
  unfold sgn
  by_cases h : 0 < i
  · rw [if_pos h, if_pos (Int.mul_pos hk h)]
  · by_cases h0 : i = 0
    · subst h0
      rw [Int.mul_zero]
    · have : k * i < 0 := Int.mul_neg_of_pos_of_neg hk (by omega)
      rw [if_neg h, if_neg h0, if_neg (by omega), if_neg (by omega)]
theorem sgn_opp {a b : T3} (hb : b ≠ z3) : sgn (dot a (neg (least b))) = 0 - sgn (dot a b) := by
  rw [dot_neg, dot_least a b, sgn_mul (gcd3_pos hb)]
  unfold sgn
  generalize dot a (least b) = i
  by_cases h : 0 < i
  · rw [if_neg (by omega), if_neg (by omega), if_pos h]
    rfl
  · by_cases h0 : i = 0
    · subst h0
      rfl
    · rw [if_pos (by omega), if_neg h, if_neg h0]
      rfl
/-! ### between -/
theorem btw_yes {a b : T3} {k l : Int} (hk : 0 < k) (hl : 0 < l) (n : cross a b ≠ z3) : between a (plus (times k a) (times l b)) b = true := by
  have p := sq_pos n
  have e := dot_self (cross a b)
  have h0 : dot (cross a b) (plus (times k a) (times l b)) = 0 := by
    simp only [dot, cross, plus, times]
    grind
  have h1 : dot (cross a (plus (times k a) (times l b))) (cross a b) = l * (sq (cross a b) : Int) := by
    rw [← e]
    simp only [dot, cross, plus, times]
    grind
  have h2 : dot (cross (plus (times k a) (times l b)) b) (cross a b) = k * (sq (cross a b) : Int) := by
    rw [← e]
    simp only [dot, cross, plus, times]
    grind
  have q1 : 0 < l * (sq (cross a b) : Int) := Int.mul_pos hl (by omega)
  have q2 : 0 < k * (sq (cross a b) : Int) := Int.mul_pos hk (by omega)
  unfold between
  rw [h0, h1, h2, decide_eq_false n, decide_eq_true q1, decide_eq_true q2]
  rfl
theorem cross_swap (a b : T3) : cross b a = neg (cross a b) := by
  simp only [cross, neg, Prod.mk.injEq]
  grind
theorem plus_comm (a b : T3) : plus a b = plus b a := by
  simp only [plus, Prod.mk.injEq]
  grind
theorem btw_yes' {a b : T3} {k l : Int} (hk : 0 < k) (hl : 0 < l) (n : cross a b ≠ z3) : between b (plus (times k a) (times l b)) a = true := by
  rw [plus_comm]
  exact btw_yes hl hk (by rw [cross_swap]; exact neg_ne n)
theorem mid_ne {a b : T3} {k l : Int} (hl : 0 < l) (n : cross a b ≠ z3) : plus (times k a) (times l b) ≠ z3 := by
  intro h
  apply n
  have e : times l (cross a b) = cross a (plus (times k a) (times l b)) := by
    simp only [cross, plus, times, Prod.mk.injEq]
    grind
  rw [h] at e
  have e2 : times l (cross a b) = z3 := by
    rw [e]
    simp only [cross, Prod.mk.injEq]
    grind
  generalize cross a b = x at e2
  obtain ⟨x, y, z⟩ := x
  simp only [times, Prod.mk.injEq] at e2 ⊢
  exact ⟨(Int.mul_eq_zero.mp e2.1).resolve_left (by omega), (Int.mul_eq_zero.mp e2.2.1).resolve_left (by omega), (Int.mul_eq_zero.mp e2.2.2).resolve_left (by omega)⟩
theorem btw_opp {a b : T3} {k l : Int} (hk : 0 < k) (hl : 0 < l) (n : cross a b ≠ z3) : between a (neg (least (plus (times k a) (times l b)))) b = false := by
  have m := mid_ne (k := k) hl n
  have p := sq_pos n
  have e := dot_self (cross a b)
  have h1 : dot (cross a (plus (times k a) (times l b))) (cross a b) = l * (sq (cross a b) : Int) := by
    rw [← e]
    simp only [dot, cross, plus, times]
    grind
  generalize plus (times k a) (times l b) = x at *
  have g := gcd3_pos m
  have h2 : gcd3 x * dot (cross a (neg (least x))) (cross a b) = -(l * (sq (cross a b) : Int)) := by
    rw [← h1]
    conv => rhs; rw [← times_least x]
    simp only [dot, cross, neg, times]
    grind
  have q1 : 0 < l * (sq (cross a b) : Int) := Int.mul_pos hl (by omega)
  have q2 : ¬ 0 < dot (cross a (neg (least x))) (cross a b) := fun z => by
    have := Int.mul_pos g z
    omega
  unfold between
  rw [decide_eq_false q2]
  simp
theorem btw_out {a b : T3} {k l : Int} (hk : 0 < k) (hl : 0 < l) (n : cross a b ≠ z3) : between (plus (times k a) (times l b)) a b = false := by
  have p := sq_pos n
  have e := dot_self (cross a b)
  have h2 : dot (cross (plus (times k a) (times l b)) a) (cross (plus (times k a) (times l b)) b) = -(k * l * (sq (cross a b) : Int)) := by
    rw [← e]
    simp only [dot, cross, plus, times]
    grind
  have q1 : 0 < k * l * (sq (cross a b) : Int) := Int.mul_pos (Int.mul_pos hk hl) (by omega)
  have q2 : ¬ 0 < dot (cross (plus (times k a) (times l b)) a) (cross (plus (times k a) (times l b)) b) := by omega
  unfold between
  rw [decide_eq_false q2]
  simp
theorem btw_end (a b : T3) : between a a b = false := by
  have h : dot (cross a a) (cross a b) = 0 := by
    simp only [dot, cross]
    grind
  unfold between
  rw [h]
  simp
theorem btw_normal {a b : T3} (n : cross a b ≠ z3) : between a (cross a b) b = false := by
  have p := sq_pos n
  unfold between
  rw [dot_self, beq_eq_false_iff_ne.mpr (by omega : (sq (cross a b) : Int) ≠ 0)]
  simp
/-! ### alike -/
theorem times_ne {k : Int} (hk : 0 < k) {a : T3} (h : a ≠ z3) : times k a ≠ z3 := by
  intro e
  have := sq_times k a
  rw [e] at this
  have p := Nat.mul_pos (Nat.mul_pos (show 0 < k.natAbs by omega) (show 0 < k.natAbs by omega)) (sq_pos h)
  have : sq z3 = 0 := rfl
  omega
theorem alike_times {a b : T3} {k : Int} (ha : a ≠ z3) (hb : b ≠ z3) (hk : 0 < k) : alike a b (times k a) (times 2 b) = true := by
  have d : dot (times k a) (times 2 b) = 2 * k * dot a b := by
    simp only [dot, times]
    grind
  have kn : (k.natAbs : Int) = k := by omega
  have n2 : ((2 : Int).natAbs : Int) = 2 := rfl
  have s0 : 0 ≤ dot a b * dot a b := by
    rcases Int.le_total 0 (dot a b) with h | h
    · exact Int.mul_nonneg h h
    · exact Int.mul_nonneg_of_nonpos_of_nonpos h h
  have c1 : ¬ (dot a b * dot (times k a) (times 2 b) < 0) := by
    rw [d]
    have : 0 ≤ (2 * k) * (dot a b * dot a b) := Int.mul_nonneg (by omega) s0
    have e : dot a b * (2 * k * dot a b) = (2 * k) * (dot a b * dot a b) := by grind
    omega
  have c2 : dot a b * dot a b * (sq (times k a) : Int) * (sq (times 2 b) : Int) = dot (times k a) (times 2 b) * dot (times k a) (times 2 b) * ((sq a : Int) * (sq b : Int)) := by
    rw [d, sq_times, sq_times]
    simp only [Int.natCast_mul, kn, n2]
    grind
  unfold alike
  rw [if_neg (fun z => z.elim c1 fun z => z c2), ratio_times ha hk, ratio_times hb (by omega : (0 : Int) < 2), d]
  simp only [beq_iff_eq]
  grind
theorem alike_swap {a b : T3} (ha : a ≠ z3) (hb : b ≠ z3) {p : Int × Int} (h : ratio a b = some p) : alike a b b a = true := by
  have s0 : 0 ≤ dot a b * dot a b := by
    rcases Int.le_total 0 (dot a b) with h | h
    · exact Int.mul_nonneg h h
    · exact Int.mul_nonneg_of_nonpos_of_nonpos h h
  have d := dot_comm b a
  unfold alike
  rw [d, if_neg (fun z => z.elim (by omega) fun z => z (by grind)), h, ratio_swap ha hb h]
  simp only [beq_iff_eq]
  grind
theorem alike_opp {a b : T3} (hb : b ≠ z3) (n : dot a b ≠ 0) : alike a b a (neg (least b)) = false := by
  have g := gcd3_pos hb
  have e := dot_least a b
  have c1 : dot a b * dot a (neg (least b)) < 0 := by
    rw [dot_neg]
    conv => lhs; rw [e]
    have nz : dot a (least b) ≠ 0 := fun z => n (by rw [e, z, Int.mul_zero])
    have : 0 < dot a (least b) * dot a (least b) := by
      rcases Int.lt_or_gt_of_ne nz with h | h
      · exact Int.mul_pos_of_neg_of_neg h h
      · exact Int.mul_pos h h
    have q := Int.mul_pos g this
    have : gcd3 b * dot a (least b) * -dot a (least b) = -(gcd3 b * (dot a (least b) * dot a (least b))) := by grind
    omega
  unfold alike
  rw [if_pos (.inl c1)]
end Lw

set_option Elab.async false
set_option linter.all false
set_option maxRecDepth 100000
set_option maxHeartbeats 4000000
set_option autoImplicit false
namespace Lw
open PySem L2 Sk
section
variable {ns : List Int} {env : Sk.Env} {A B : DS} {P : Sk.Flow → Prop}
/-- goes on, and Q holds of the names -/
def Nx (Q : Sk.Env → Prop) : Sk.Flow → Prop := fun fl => ∃ e, fl = .next e ∧ Q e
theorem Ev.seq {Q : Sk.Env → Prop} (hA : Ev ns (A env) (Nx Q)) (hB : ∀ e, Q e → Ev ns (B e) P) : Ev ns (sSeq A B env) P := by
  refine Ev.bind hA fun fl p => ?_
  obtain ⟨e, rfl, q⟩ := p
  exact hB e q
theorem Ev.asg {e' : Sk.Env} (hA : A env = M.pure (.next e')) (hB : Ev ns (B e') P) : Ev ns (sSeq A B env) P := by
  unfold sSeq
  rw [hA, bind_pure]
  exact hB
theorem Ev.guard {T : DB} (hT : T env = M.pure false) (hB : Ev ns (B env) P) : Ev ns (sSeq (sIf T A sNext) B env) P := by
  refine Ev.asg (e' := env) ?_ hB
  unfold sIf
  rw [hT, bind_pure, if_neg (by decide)]
  rfl
theorem Ev.guardE {T : DB} (hT : T env = M.pure false) (h : P (.next env)) : Ev ns (sIf T A sNext env) P := by
  unfold sIf
  rw [hT, bind_pure, if_neg (by decide)]
  exact Ev.pure h
theorem Ev.ite {T : DB} (b : Bool) (hT : T env = M.pure b) (h1 : b = true → Ev ns (A env) P) (h2 : b = false → Ev ns (B env) P) : Ev ns (sIf T A B env) P := by
  unfold sIf
  rw [hT, bind_pure]
  cases b with
  | true => exact h1 rfl
  | false => exact h2 rfl
theorem Ev.for {di : DI} {dg : DG} {xs : List D} {I : Sk.Env → Prop} (hi : di env = M.pure xs) (h : ∀ x ∈ xs, ∀ e, I e → ∃ e', dg x e = some e' ∧ Ev ns (A e') (Nx I)) (i : I env) : Ev ns (sFor di dg A env) (Nx I) := by
  unfold sFor
  rw [hi, bind_pure]
  refine Ev.mono (Ev.forLoop (I := I) (R := fun _ => False) xs env (fun x hx e p => ?_) i) fun fl p => ?_
  · obtain ⟨e', g, w⟩ := h x hx e p
    rw [g, lift_some, bind_pure]
    refine Ev.mono w fun fl p => ?_
    obtain ⟨e2, rfl, q⟩ := p
    exact q
  · cases fl with
    | next e => exact ⟨e, rfl, p⟩
    | cont e => cases p
    | brk e => cases p
    | ret d => cases p
theorem Ev.asgB {a : DE} {dg : DG} {Q : D → Prop} {R : Sk.Env → Prop} (h : Ev ns (a env) Q) (g : ∀ d, Q d → ∃ e, dg d env = some e ∧ R e) : Ev ns (sAsg a dg env) (Nx R) := by
  refine Ev.bind h fun d q => ?_
  obtain ⟨e, w, r⟩ := g d q
  rw [w, lift_some, bind_pure]
  exact Ev.pure ⟨e, rfl, r⟩
end
theorem law_of {ns : List Int} {k : Nat} {B : DS} (h : Ev ns (M.bind (B (.shr (.scr ns) :: .shr (.cel 0) :: List.replicate k .no)) endOf) (fun d => d = .bl true)) : ∃ S', runDef (k + 2) (sSeq (sNewCel 1 (dLst (dCons (dVar 0) (dCons (dC (.int 0)) dNil)))) B) [.scr ns] [] = .ok (.bl true) S' := by
  obtain ⟨d, c', e, rfl⟩ := h 0
  have st {α β : Type} {p : M α} {g : α → M β} {S S' : Store} {a : α} (x : p S = .ok a S') : (M.bind p g) S = g a S' := by
    show (match p S with | .ok a S' => g a S' | .exc c fs S' => .exc c fs S' | .stuck => .stuck) = _
    rw [x]
  refine ⟨_, Eq.trans ?_ e⟩
  have e1 : (sNewCel 1 (dLst (dCons (dVar 0) (dCons (dC (.int 0)) dNil))) ([D.scr ns].map Slot.shr ++ List.replicate (k + 2 - 1) .no)) [] = .ok (.next (.shr (.scr ns) :: .shr (.cel 0) :: List.replicate k .no)) (Dw ns 0) := rfl
  unfold runDef sSeq
  rw [bind_assoc]
  exact st e1
theorem oTuple_tD (a : T3) : oTuple (tD a) = M.pure (tD a) := rfl
theorem oNe_z3 (a : T3) : oNe (tD a) (.tup [.int 0, .int 0, .int 0]) = M.pure (.bl (!decide (a = z3))) := oNe_t3 a z3
theorem oNe_bl (x y : Bool) : oNe (.bl x) (.bl y) = M.pure (.bl (!(x == y))) := by cases x <;> cases y <;> rfl
theorem oEq_bl (x y : Bool) : oEq (.bl x) (.bl y) = M.pure (.bl (x == y)) := by cases x <;> cases y <;> rfl
theorem oNe_pair (a b c d : Int) : oNe (.tup [.int a, .int b]) (.tup [.int c, .int d]) = M.pure (.bl (!(a == c && (b == d && true)))) := rfl
theorem lc_map {f : D → M (List D)} (g : D → D) : ∀ (xs : List D), (∀ x ∈ xs, f x = M.pure [g x]) → lcLoop f xs = M.pure (xs.map g)
  | [], _ => rfl
  | x :: xs, h => by
    show M.bind (f x) _ = _
    rw [h x (.head _), bind_pure, lc_map g xs fun y hy => h y (.tail _ hy), bind_pure]
    rfl
end Lw

set_option Elab.async false
set_option linter.all false
set_option maxRecDepth 100000
set_option maxHeartbeats 4000000
set_option autoImplicit false
namespace Lw
open PySem L2 Sk
def I48 (ns : List Int) (e : Sk.Env) : Prop := ∃ s2 s3 s4 s5 s6 s7 s8 s9 s10 s11 s12 s13 s14 : Slot, e = [.shr (.scr ns), .shr (.cel 0), s2, s3, s4, s5, s6, s7, s8, s9, s10, s11, s12, s13, s14]
theorem lc_skies {ns : List Int} (hns : ns.length ≤ 63) {env : Sk.Env} {v c : Nat} (hc : (wipeE env [v])[c]? = some (.shr (.cel 0))) (hvc : v ≠ c) : Ev ns (dLc [v] (iRange1 (dC (.int 4))) (gSet v) tYesD (dCall f__law_sky (dCons (dVar c) dNil)) env) fun d => ∃ a1 a2 a3 a4, Sky a1 ∧ Sky a2 ∧ Sky a3 ∧ Sky a4 ∧ d = .lst [tD a1, tD a2, tD a3, tD a4] := by
  refine Ev.mono (Ev.dLc (R := fun _ d => ∃ a, Sky a ∧ d = tD a) (xs := rangeD 0 4) rfl (by decide) fun x hx => ⟨_, rfl, ?_⟩) fun d p => ?_
  · have e : dVar c ((wipeE env [v]).set v (.shr x)) = M.pure (.cel 0) := by
      unfold dVar
      rw [List.getElem?_set_ne hvc, hc]
    simp only [dCall, dCons, dNil, e, bind_pure]
    exact f_sky hns
  · obtain ⟨ys, rfl, al⟩ := p
    rw [show rangeD 0 4 = [.int 0, .int 1, .int 2, .int 3] from rfl] at al
    cases al with
    | cons h1 al =>
    cases al with
    | cons h2 al =>
    cases al with
    | cons h3 al =>
    cases al with
    | cons h4 al =>
    cases al
    obtain ⟨a1, q1, rfl⟩ := h1
    obtain ⟨a2, q2, rfl⟩ := h2
    obtain ⟨a3, q3, rfl⟩ := h3
    obtain ⟨a4, q4, rfl⟩ := h4
    exact ⟨a1, a2, a3, a4, q1, q2, q3, q4, rfl⟩
theorem roots_eq {env : Sk.Env} : (dLc [14] (iRange1 (dC (.int 17))) (gSet 14) tYesD (dCall f_root (dCons (dVar 14) dNil))) env = M.pure (.lst [.int 0, .int 1, .non, .non, .int 2, .non, .non, .non, .non, .int 3, .non, .non, .non, .non, .non, .non, .int 4]) ∨ env.length ≤ 14 := by
  by_cases hl : env.length ≤ 14
  · exact .inr hl
  · left
    have r : ∀ k : Nat, k < 17 → f_root [.int (0 + (k : Int))] = M.pure (optD (rootN k)) := by
      intro k hk
      rw [Int.zero_add]
      exact f_root_eq (Nat.lt_of_lt_of_le hk (by decide))
    have w : (wipeE env [14]).length = env.length := by
      simp only [wipeE, List.length_set]
    have m := lc_map (f := fun x => Sk.noX (lcTurn (wipeE env [14]) (gSet 14) tYesD (dCall f_root (dCons (dVar 14) dNil)) x)) (fun x => match x with | .int i => optD (rootN i.toNat) | _ => .non) (rangeD 0 17) (by
      intro x hx
      unfold rangeD at hx
      obtain ⟨k, hk, rfl⟩ := List.mem_map.mp hx
      have hk' : k < 17 := by simpa using hk
      have e : ∀ d, dVar 14 ((wipeE env [14]).set 14 (.shr d)) = M.pure d := by
        intro d
        unfold dVar
        rw [List.getElem?_set_self (by omega)]
      have z : (0 + (k : Int)).toNat = k := by omega
      simp only [lcTurn, gSet, lift_some, bind_pure, tYesD, if_true, dCall, dCons, dNil, e, r k hk', noX_pure, z])
    have hx : (iRange1 (dC (.int 17))) env = M.pure (rangeD 0 17) := rfl
    unfold dLc
    rw [hx, bind_pure, if_pos (by decide), m, bind_pure]
    have q : (rangeD 0 17).map (fun x => match x with | .int i => optD (rootN i.toNat) | _ => .non) = [.int 0, .int 1, .non, .non, .int 2, .non, .non, .non, .non, .int 3, .non, .non, .non, .non, .non, .non, .int 4] := by
      rfl
    rw [q]
theorem atN0 {α : Type} (x : α) (r : List α) : atI (x :: r) 0 = some x := atI0 x r
theorem body48 {ns : List Int} (hns : ns.length ≤ 63) {B : DS} (hB : d_law = B) : True := trivial
theorem law_true (ns : List Int) (hns : ns.length ≤ 63) : ∃ S', f_law [.scr ns] [] = .ok (.bl true) S' := by
  unfold f_law d_law
  refine law_of (k := 13) ?_
  show Ev ns (M.bind (sSeq _ _ [.shr (.scr ns), .shr (.cel 0), .no, .no, .no, .no, .no, .no, .no, .no, .no, .no, .no, .no, .no]) endOf) _
  refine Ev.bind (Q := fun fl => fl = .ret (.bl true)) (Ev.seq (Q := I48 ns) (Ev.for (xs := rangeD 0 12) rfl (fun x hx e he => ?_) ⟨_, _, _, _, _, _, _, _, _, _, _, _, _, rfl⟩) fun e he => ?_) fun fl p => ?_
  · obtain ⟨s2, s3, s4, s5, s6, s7, s8, s9, s10, s11, s12, s13, s14, rfl⟩ := he
    refine ⟨_, rfl, ?_⟩
    refine Ev.seq (Q := fun e => ∃ a b c d, Sky a ∧ Sky b ∧ Sky c ∧ Sky d ∧ e = [.shr (.scr ns), .shr (.cel 0), .shr x, s3, s4, .shr (tD a), .shr (tD b), .shr (tD c), .shr (tD d), s9, s10, s11, s12, s13, s14]) (Ev.asgB (lc_skies hns rfl (by decide)) fun d p => ?_) fun e p => ?_
    · obtain ⟨a, b, c, d, q1, q2, q3, q4, rfl⟩ := p
      exact ⟨_, rfl, a, b, c, d, q1, q2, q3, q4, rfl⟩
    obtain ⟨a, b, c, d, ha, hb, hc, hd, rfl⟩ := p
    have na := ha.ne
    have nb := hb.ne
    have nc := hc.ne
    have nd := hd.ne
    have Ba := ha.B
    have Bb := hb.B
    have Bc := hc.B
    have Bd := hd.B
    have Bm : Bi 1 (0 - 1) := by unfold Bi; decide
    have B2 : Bi 2 2 := by unfold Bi; decide
    have B3 : Bi 2 3 := by unfold Bi; decide
    have e_1 := f_cross_eq Ba Bb (by omega) (by omega)
    have e_2 := f_cross_eq Bc Bd (by omega) (by omega)
    have b_3 : B 9 (cross a b) := (B.cross Ba Bb)
    have b_4 : B 9 (cross c d) := (B.cross Bc Bd)
    have e_5 := f_dot_eq b_3 b_4 (by omega) (by omega)
    have e_6 := f_dot_eq Ba Bc (by omega) (by omega)
    have e_7 := f_dot_eq Bb Bd (by omega) (by omega)
    have b_8 : Bi 10 (dot a c) := (B.dot Ba Bc)
    have b_9 : Bi 10 (dot b d) := (B.dot Bb Bd)
    have e_10 := oMul_b b_8 b_9 (by omega) (by omega)
    have e_11 := f_dot_eq Ba Bd (by omega) (by omega)
    have e_12 := f_dot_eq Bb Bc (by omega) (by omega)
    have b_13 : Bi 10 (dot a d) := (B.dot Ba Bd)
    have b_14 : Bi 10 (dot b c) := (B.dot Bb Bc)
    have e_15 := oMul_b b_13 b_14 (by omega) (by omega)
    have e_16 := f_dot_eq b_3 Ba (by omega) (by omega)
    have e_17 := f_cross_eq Bb Ba (by omega) (by omega)
    have b_18 : B 9 (cross b a) := (B.cross Bb Ba)
    have e_19 := f_times_eq Bm b_18 (by omega) (by omega)
    refine Ev.guard ?_ ?_
    · have t1 : (dot (cross a b) (cross c d) == dot a c * dot b d - dot a d * dot b c) = true := beq_iff_eq.mpr (lagrange a b c d)
      have t2 : (dot (cross a b) a == 0) = true := beq_iff_eq.mpr (cross_perp a b)
      have t3 : decide (cross a b = times (0 - 1) (cross b a)) = true := decide_eq_true (cross_anti a b)
      simp only [e_1, e_2, e_5, e_6, e_7, e_10, e_11, e_12, e_15, e_16, e_17, e_19, oNe_int, oTuple_tD, oNe_t3, t1, t2, t3, bind_pure, lift_some, noX_pure, runDef, sNext, sSeq, sExpr, sRet, sRetN, sIf, sAsg, sPar2, sPar3, sAug, sOwn, sAppend, sFreeze, endOf, dVar, bVar, dC, dUn, dBin, dNil, dCons, dTup, dLst, dCall, asB, tVal, tAndD, tOrD, tNotD, dOfT, dIf, dAndV, dOrV, dNotV, oAdd, oAddI, oSub, oMod, oNeg, oLt, oLe, oGt, oGe, oIsNone, oNotNone, oIsN2, oNotN2, oAll, oAny, oSum, oLen, oList, oAbs, oInt, oIx, asBs, asIs, wipeE, itemsOf, iVal, lcLoop, lcTurn, dLc, tYesD, gSet, gAll, gTupD, zipD, Sk.iZip, List.zip_cons_cons, List.zip_nil_right, List.zip_nil_left, List.map_cons, List.map_nil, List.length_cons, List.length_nil, List.replicate_succ, List.replicate_zero, List.cons_append, List.nil_append, List.append_nil, List.getElem?_cons_zero, List.getElem?_cons_succ, List.set_cons_zero, List.set_cons_succ, Option.map_some, Option.bind_some, Nat.reduceAdd, Nat.reduceSub, Nat.reduceLeDiff, ite_true, ite_false, Bool.false_eq_true, Bool.not_true, Bool.not_false, if_true, if_false, reduceIte, reduceCtorEq, List.sum_cons, List.sum_nil, List.all_cons, List.all_nil, List.any_cons, List.any_nil, id_eq, Bool.and_true, Bool.true_and, Bool.or_false, Bool.false_or, Bool.and_self, Bool.false_and, Bool.and_false, Bool.true_or, Bool.or_true, Int.cast_ofNat_Int, beq_self_eq_true, Int.reduceBEq, Int.reduceLT, Int.reduceLE, decide_true, decide_false]
    refine Ev.guard ?_ ?_
    · skip
      have e_20 := f_cross_eq Bb Bc (by omega) (by omega)
      have b_21 : B 9 (cross b c) := (B.cross Bb Bc)
      have e_22 := f_cross_eq Ba b_21 (by omega) (by omega)
      have e_23 := f_cross_eq Bc Ba (by omega) (by omega)
      have b_24 : B 9 (cross c a) := (B.cross Bc Ba)
      have e_25 := f_cross_eq Bb b_24 (by omega) (by omega)
      have b_26 : B 14 (cross a (cross b c)) := (B.cross Ba b_21)
      have b_27 : B 14 (cross b (cross c a)) := (B.cross Bb b_24)
      have e_28 := f_plus_eq (a := (cross a (cross b c))) (b := (cross b (cross c a)))
      have e_29 := f_cross_eq Bc b_3 (by omega) (by omega)
      have b_30 : B 15 (plus (cross a (cross b c)) (cross b (cross c a))) := (B.plus (B.mono (m := 14) b_26 (by omega)) (B.mono (m := 14) b_27 (by omega)))
      have b_31 : B 14 (cross c (cross a b)) := (B.cross Bc b_3)
      have e_32 := f_plus_eq (a := (plus (cross a (cross b c)) (cross b (cross c a)))) (b := (cross c (cross a b)))
      have e_33 := f_det_eq Ba Bb Bc (by omega) (by omega)
      have e_34 := f_det_eq Bb Bc Ba (by omega) (by omega)
      have e_35 := f_det_eq Bb Ba Bc (by omega) (by omega)
      have e_36 := f_times_eq B3 Ba (by omega) (by omega)
      have b_37 : B 6 (times 3 a) := (B.times B3 Ba)
      have e_38 := f_plus_eq (a := c) (b := (times 3 a))
      have b_39 : B 7 (plus c (times 3 a)) := (B.plus (B.mono (m := 6) Bc (by omega)) (B.mono (m := 6) b_37 (by omega)))
      have e_40 := f_det_eq Ba Bb b_39 (by omega) (by omega)
      have t1 : decide (plus (plus (cross a (cross b c)) (cross b (cross c a))) (cross c (cross a b)) = z3) = true := decide_eq_true (jacobi a b c)
      have t2 : (det a b c == det b c a) = true := beq_iff_eq.mpr (det_rot a b c)
      have t3 : (det a b c == 0 - det b a c) = true := beq_iff_eq.mpr (det_swap a b c)
      have t4 : (det a b (plus c (times 3 a)) == det a b c) = true := beq_iff_eq.mpr (det_add a b c 3)
      simp only [e_1, e_2, e_5, e_6, e_7, e_10, e_11, e_12, e_15, e_16, e_17, e_19, e_20, e_22, e_23, e_25, e_28, e_29, e_32, e_33, e_34, e_35, e_36, e_38, e_40, oNe_int, oTuple_tD, oNe_t3, oNe_z3, t1, t2, t3, t4, bind_pure, lift_some, noX_pure, runDef, sNext, sSeq, sExpr, sRet, sRetN, sIf, sAsg, sPar2, sPar3, sAug, sOwn, sAppend, sFreeze, endOf, dVar, bVar, dC, dUn, dBin, dNil, dCons, dTup, dLst, dCall, asB, tVal, tAndD, tOrD, tNotD, dOfT, dIf, dAndV, dOrV, dNotV, oAdd, oAddI, oSub, oMod, oNeg, oLt, oLe, oGt, oGe, oIsNone, oNotNone, oIsN2, oNotN2, oAll, oAny, oSum, oLen, oList, oAbs, oInt, oIx, asBs, asIs, wipeE, itemsOf, iVal, lcLoop, lcTurn, dLc, tYesD, gSet, gAll, gTupD, zipD, Sk.iZip, List.zip_cons_cons, List.zip_nil_right, List.zip_nil_left, List.map_cons, List.map_nil, List.length_cons, List.length_nil, List.replicate_succ, List.replicate_zero, List.cons_append, List.nil_append, List.append_nil, List.getElem?_cons_zero, List.getElem?_cons_succ, List.set_cons_zero, List.set_cons_succ, Option.map_some, Option.bind_some, Nat.reduceAdd, Nat.reduceSub, Nat.reduceLeDiff, ite_true, ite_false, Bool.false_eq_true, Bool.not_true, Bool.not_false, if_true, if_false, reduceIte, reduceCtorEq, List.sum_cons, List.sum_nil, List.all_cons, List.all_nil, List.any_cons, List.any_nil, id_eq, Bool.and_true, Bool.true_and, Bool.or_false, Bool.false_or, Bool.and_self, Bool.false_and, Bool.and_false, Bool.true_or, Bool.or_true, Int.cast_ofNat_Int, beq_self_eq_true, Int.reduceBEq, Int.reduceLT, Int.reduceLE, decide_true, decide_false]
    have hbit : sq a * sq b < 2 ^ 4000 := Nat.lt_of_lt_of_le (Nat.mul_lt_mul'' Ba.sq Bb.sq) (by decide)
    have e_41 := f_dot_eq Ba Bb (by omega) (by omega)
    have b_42 : Bi 10 (dot a b) := (B.dot Ba Bb)
    have e_43 := oMul_b b_42 b_42 (by omega) (by omega)
    have e_44 := f_dot_eq b_3 b_3 (by omega) (by omega)
    refine Ev.asg (e' := [.shr (.scr ns), .shr (.cel 0), .shr x, .shr (.int ((sq a * sq b : Nat) : Int)), s4, .shr (tD a), .shr (tD b), .shr (tD c), .shr (tD d), s9, s10, s11, s12, s13, s14]) ?_ ?_
    · simp only [e_1, e_2, e_5, e_6, e_7, e_10, e_11, e_12, e_15, e_16, e_17, e_19, e_41, e_43, e_44, ← whole_eq, bind_pure, lift_some, noX_pure, runDef, sNext, sSeq, sExpr, sRet, sRetN, sIf, sAsg, sPar2, sPar3, sAug, sOwn, sAppend, sFreeze, endOf, dVar, bVar, dC, dUn, dBin, dNil, dCons, dTup, dLst, dCall, asB, tVal, tAndD, tOrD, tNotD, dOfT, dIf, dAndV, dOrV, dNotV, oAdd, oAddI, oSub, oMod, oNeg, oLt, oLe, oGt, oGe, oIsNone, oNotNone, oIsN2, oNotN2, oAll, oAny, oSum, oLen, oTuple, oList, oAbs, oInt, oIx, asBs, asIs, wipeE, itemsOf, iVal, lcLoop, lcTurn, dLc, tYesD, gSet, gAll, gTupD, zipD, Sk.iZip, List.zip_cons_cons, List.zip_nil_right, List.zip_nil_left, List.map_cons, List.map_nil, List.length_cons, List.length_nil, List.replicate_succ, List.replicate_zero, List.cons_append, List.nil_append, List.append_nil, List.getElem?_cons_zero, List.getElem?_cons_succ, List.set_cons_zero, List.set_cons_succ, Option.map_some, Option.bind_some, Nat.reduceAdd, Nat.reduceSub, Nat.reduceLeDiff, ite_true, ite_false, Bool.false_eq_true, Bool.not_true, Bool.not_false, if_true, if_false, reduceIte, reduceCtorEq, List.sum_cons, List.sum_nil, List.all_cons, List.all_nil, List.any_cons, List.any_nil, id_eq, Bool.and_true, Bool.true_and, Bool.or_false, Bool.false_or, Bool.and_self, Bool.false_and, Bool.and_false, Bool.true_or, Bool.or_true, Int.cast_ofNat_Int, beq_self_eq_true, Int.reduceBEq, Int.reduceLT, Int.reduceLE, decide_true, decide_false]
    refine Ev.guard ?_ ?_
    · skip
      have e_45 := f_is_on_line_eq Ba Bb (by omega) (by omega)
      have e_46 := f_dot_eq Ba Ba (by omega) (by omega)
      have e_47 := f_dot_eq Bb Bb (by omega) (by omega)
      have e_48 := f_ratio_eq Ba Bb (by omega) na nb
      have m1 : oMul (.int (dot a a)) (.int (dot b b)) = M.pure (.int ((sq a * sq b : Nat) : Int)) := by
        rw [dot_self, dot_self]
        exact oMul_n (Nat.lt_of_lt_of_le Ba.sq (Nat.pow_le_pow_right (by omega) (by omega))) (Nat.lt_of_lt_of_le Bb.sq (Nat.pow_le_pow_right (by omega) (by omega)))
      have er := f_root_eq hbit
      have t1 := line_eq a b
      have hra : ratio a b = (rootN (sq a * sq b)).map fun (r : Nat) => lowN (r : Int) (sq b : Int) := rfl
      cases hr : rootN (sq a * sq b) with
      | none => simp only [e_1, e_2, e_5, e_6, e_7, e_10, e_11, e_12, e_15, e_16, e_17, e_19, e_41, e_43, e_44, e_45, e_46, e_47, e_48, hra, hr, er, m1, t1, optD, ratD, oNe_int, oEq_int, oNe_bl, Option.map_none, bind_pure, lift_some, noX_pure, runDef, sNext, sSeq, sExpr, sRet, sRetN, sIf, sAsg, sPar2, sPar3, sAug, sOwn, sAppend, sFreeze, endOf, dVar, bVar, dC, dUn, dBin, dNil, dCons, dTup, dLst, dCall, asB, tVal, tAndD, tOrD, tNotD, dOfT, dIf, dAndV, dOrV, dNotV, oAdd, oAddI, oSub, oMod, oNeg, oLt, oLe, oGt, oGe, oIsNone, oNotNone, oIsN2, oNotN2, oAll, oAny, oSum, oLen, oTuple, oList, oAbs, oInt, oIx, asBs, asIs, wipeE, itemsOf, iVal, lcLoop, lcTurn, dLc, tYesD, gSet, gAll, gTupD, zipD, Sk.iZip, List.zip_cons_cons, List.zip_nil_right, List.zip_nil_left, List.map_cons, List.map_nil, List.length_cons, List.length_nil, List.replicate_succ, List.replicate_zero, List.cons_append, List.nil_append, List.append_nil, List.getElem?_cons_zero, List.getElem?_cons_succ, List.set_cons_zero, List.set_cons_succ, Option.map_some, Option.bind_some, Nat.reduceAdd, Nat.reduceSub, Nat.reduceLeDiff, ite_true, ite_false, Bool.false_eq_true, Bool.not_true, Bool.not_false, if_true, if_false, reduceIte, reduceCtorEq, List.sum_cons, List.sum_nil, List.all_cons, List.all_nil, List.any_cons, List.any_nil, id_eq, Bool.and_true, Bool.true_and, Bool.or_false, Bool.false_or, Bool.and_self, Bool.false_and, Bool.and_false, Bool.true_or, Bool.or_true, Int.cast_ofNat_Int, beq_self_eq_true, Int.reduceBEq, Int.reduceLT, Int.reduceLE, decide_true, decide_false]
      | some r => simp only [e_1, e_2, e_5, e_6, e_7, e_10, e_11, e_12, e_15, e_16, e_17, e_19, e_41, e_43, e_44, e_45, e_46, e_47, e_48, hra, hr, er, m1, t1, optD, ratD, oNe_int, oEq_int, oNe_bl, bind_pure, lift_some, noX_pure, runDef, sNext, sSeq, sExpr, sRet, sRetN, sIf, sAsg, sPar2, sPar3, sAug, sOwn, sAppend, sFreeze, endOf, dVar, bVar, dC, dUn, dBin, dNil, dCons, dTup, dLst, dCall, asB, tVal, tAndD, tOrD, tNotD, dOfT, dIf, dAndV, dOrV, dNotV, oAdd, oAddI, oSub, oMod, oNeg, oLt, oLe, oGt, oGe, oIsNone, oNotNone, oIsN2, oNotN2, oAll, oAny, oSum, oLen, oTuple, oList, oAbs, oInt, oIx, asBs, asIs, wipeE, itemsOf, iVal, lcLoop, lcTurn, dLc, tYesD, gSet, gAll, gTupD, zipD, Sk.iZip, List.zip_cons_cons, List.zip_nil_right, List.zip_nil_left, List.map_cons, List.map_nil, List.length_cons, List.length_nil, List.replicate_succ, List.replicate_zero, List.cons_append, List.nil_append, List.append_nil, List.getElem?_cons_zero, List.getElem?_cons_succ, List.set_cons_zero, List.set_cons_succ, Option.map_some, Option.bind_some, Nat.reduceAdd, Nat.reduceSub, Nat.reduceLeDiff, ite_true, ite_false, Bool.false_eq_true, Bool.not_true, Bool.not_false, if_true, if_false, reduceIte, reduceCtorEq, List.sum_cons, List.sum_nil, List.all_cons, List.all_nil, List.any_cons, List.any_nil, id_eq, Bool.and_true, Bool.true_and, Bool.or_false, Bool.false_or, Bool.and_self, Bool.false_and, Bool.and_false, Bool.true_or, Bool.or_true, Int.cast_ofNat_Int, beq_self_eq_true, Int.reduceBEq, Int.reduceLT, Int.reduceLE, decide_true, decide_false]
    have e_49 := f_ratio_eq Ba Bb (by omega) na nb
    have e_50 := f_ratio_eq Bb Bc (by omega) nb nc
    have e_51 := f_ratio_eq Ba Bc (by omega) na nc
    have e_52 := f_ratio_eq Bb Ba (by omega) nb na
    have e_53 := f_times_eq B2 Ba (by omega) (by omega)
    have b_54 : B 6 (times 2 a) := (B.times B2 Ba)
    have e_55 := f_ratio_eq b_54 Bb (by omega) (times_ne (by omega) na) nb
    have e_56 := f_dot_eq Ba Ba (by omega) (by omega)
    have e_57 := f_dot_eq Bb Bb (by omega) (by omega)
    refine Ev.asg (e' := [.shr (.scr ns), .shr (.cel 0), .shr x, .shr (.int ((sq a * sq b : Nat) : Int)), s4, .shr (tD a), .shr (tD b), .shr (tD c), .shr (tD d), .shr (ratD (ratio a b)), .shr (ratD (ratio b c)), .shr (ratD (ratio a c)), s12, s13, s14]) ?_ ?_
    · simp only [e_1, e_2, e_5, e_6, e_7, e_10, e_11, e_12, e_15, e_16, e_17, e_19, e_41, e_43, e_44, e_49, e_50, e_51, e_52, e_53, e_55, e_56, e_57, bind_pure, lift_some, noX_pure, runDef, sNext, sSeq, sExpr, sRet, sRetN, sIf, sAsg, sPar2, sPar3, sAug, sOwn, sAppend, sFreeze, endOf, dVar, bVar, dC, dUn, dBin, dNil, dCons, dTup, dLst, dCall, asB, tVal, tAndD, tOrD, tNotD, dOfT, dIf, dAndV, dOrV, dNotV, oAdd, oAddI, oSub, oMod, oNeg, oLt, oLe, oGt, oGe, oIsNone, oNotNone, oIsN2, oNotN2, oAll, oAny, oSum, oLen, oTuple, oList, oAbs, oInt, oIx, asBs, asIs, wipeE, itemsOf, iVal, lcLoop, lcTurn, dLc, tYesD, gSet, gAll, gTupD, zipD, Sk.iZip, List.zip_cons_cons, List.zip_nil_right, List.zip_nil_left, List.map_cons, List.map_nil, List.length_cons, List.length_nil, List.replicate_succ, List.replicate_zero, List.cons_append, List.nil_append, List.append_nil, List.getElem?_cons_zero, List.getElem?_cons_succ, List.set_cons_zero, List.set_cons_succ, Option.map_some, Option.bind_some, Nat.reduceAdd, Nat.reduceSub, Nat.reduceLeDiff, ite_true, ite_false, Bool.false_eq_true, Bool.not_true, Bool.not_false, if_true, if_false, reduceIte, reduceCtorEq, List.sum_cons, List.sum_nil, List.all_cons, List.all_nil, List.any_cons, List.any_nil, id_eq, Bool.and_true, Bool.true_and, Bool.or_false, Bool.false_or, Bool.and_self, Bool.false_and, Bool.and_false, Bool.true_or, Bool.or_true, Int.cast_ofNat_Int, beq_self_eq_true, Int.reduceBEq, Int.reduceLT, Int.reduceLE, decide_true, decide_false]
    refine Ev.guard ?_ ?_
    · cases hp : ratio a b with
      | none => simp only [ratD, bind_pure, lift_some, noX_pure, runDef, sNext, sSeq, sExpr, sRet, sRetN, sIf, sAsg, sPar2, sPar3, sAug, sOwn, sAppend, sFreeze, endOf, dVar, bVar, dC, dUn, dBin, dNil, dCons, dTup, dLst, dCall, asB, tVal, tAndD, tOrD, tNotD, dOfT, dIf, dAndV, dOrV, dNotV, oAdd, oAddI, oSub, oMod, oNeg, oLt, oLe, oGt, oGe, oIsNone, oNotNone, oIsN2, oNotN2, oAll, oAny, oSum, oLen, oTuple, oList, oAbs, oInt, oIx, asBs, asIs, wipeE, itemsOf, iVal, lcLoop, lcTurn, dLc, tYesD, gSet, gAll, gTupD, zipD, Sk.iZip, List.zip_cons_cons, List.zip_nil_right, List.zip_nil_left, List.map_cons, List.map_nil, List.length_cons, List.length_nil, List.replicate_succ, List.replicate_zero, List.cons_append, List.nil_append, List.append_nil, List.getElem?_cons_zero, List.getElem?_cons_succ, List.set_cons_zero, List.set_cons_succ, Option.map_some, Option.bind_some, Nat.reduceAdd, Nat.reduceSub, Nat.reduceLeDiff, ite_true, ite_false, Bool.false_eq_true, Bool.not_true, Bool.not_false, if_true, if_false, reduceIte, reduceCtorEq, List.sum_cons, List.sum_nil, List.all_cons, List.all_nil, List.any_cons, List.any_nil, id_eq, Bool.and_true, Bool.true_and, Bool.or_false, Bool.false_or, Bool.and_self, Bool.false_and, Bool.and_false, Bool.true_or, Bool.or_true, Int.cast_ofNat_Int, beq_self_eq_true, Int.reduceBEq, Int.reduceLT, Int.reduceLE, decide_true, decide_false]
      | some p =>
        cases hq : ratio b c with
        | none => simp only [ratD, bind_pure, lift_some, noX_pure, runDef, sNext, sSeq, sExpr, sRet, sRetN, sIf, sAsg, sPar2, sPar3, sAug, sOwn, sAppend, sFreeze, endOf, dVar, bVar, dC, dUn, dBin, dNil, dCons, dTup, dLst, dCall, asB, tVal, tAndD, tOrD, tNotD, dOfT, dIf, dAndV, dOrV, dNotV, oAdd, oAddI, oSub, oMod, oNeg, oLt, oLe, oGt, oGe, oIsNone, oNotNone, oIsN2, oNotN2, oAll, oAny, oSum, oLen, oTuple, oList, oAbs, oInt, oIx, asBs, asIs, wipeE, itemsOf, iVal, lcLoop, lcTurn, dLc, tYesD, gSet, gAll, gTupD, zipD, Sk.iZip, List.zip_cons_cons, List.zip_nil_right, List.zip_nil_left, List.map_cons, List.map_nil, List.length_cons, List.length_nil, List.replicate_succ, List.replicate_zero, List.cons_append, List.nil_append, List.append_nil, List.getElem?_cons_zero, List.getElem?_cons_succ, List.set_cons_zero, List.set_cons_succ, Option.map_some, Option.bind_some, Nat.reduceAdd, Nat.reduceSub, Nat.reduceLeDiff, ite_true, ite_false, Bool.false_eq_true, Bool.not_true, Bool.not_false, if_true, if_false, reduceIte, reduceCtorEq, List.sum_cons, List.sum_nil, List.all_cons, List.all_nil, List.any_cons, List.any_nil, id_eq, Bool.and_true, Bool.true_and, Bool.or_false, Bool.false_or, Bool.and_self, Bool.false_and, Bool.and_false, Bool.true_or, Bool.or_true, Int.cast_ofNat_Int, beq_self_eq_true, Int.reduceBEq, Int.reduceLT, Int.reduceLE, decide_true, decide_false]
        | some q =>
          obtain ⟨t, ht, e⟩ := ratio_chain nb nc hp hq
          obtain ⟨bp1, bp2⟩ := rat_B Ba Bb hp nb
          obtain ⟨bq1, bq2⟩ := rat_B Bb Bc hq nc
          obtain ⟨bt1, bt2⟩ := rat_B Ba Bc ht nc
          have e_58 := oMul_b bt1 bp2 (by omega) (by omega)
          have b_59 : Bi 30 (t.1 * p.2) := (Bi.mul bt1 bp2)
          have e_60 := oMul_b b_59 bq2 (by omega) (by omega)
          have e_61 := oMul_b bp1 bq1 (by omega) (by omega)
          have b_62 : Bi 40 (p.1 * q.1) := (Bi.mul bp1 bq1)
          have e_63 := oMul_b b_62 bt2 (by omega) (by omega)
          have t1 : (t.1 * p.2 * q.2 == p.1 * q.1 * t.2) = true := beq_iff_eq.mpr e
          simp only [e_1, e_2, e_5, e_6, e_7, e_10, e_11, e_12, e_15, e_16, e_17, e_19, e_41, e_43, e_44, e_49, e_50, e_51, e_52, e_53, e_55, e_56, e_57, e_58, e_60, e_61, e_63, ht, ratD, oNe_int, atI0, atI1, t1, bind_pure, lift_some, noX_pure, runDef, sNext, sSeq, sExpr, sRet, sRetN, sIf, sAsg, sPar2, sPar3, sAug, sOwn, sAppend, sFreeze, endOf, dVar, bVar, dC, dUn, dBin, dNil, dCons, dTup, dLst, dCall, asB, tVal, tAndD, tOrD, tNotD, dOfT, dIf, dAndV, dOrV, dNotV, oAdd, oAddI, oSub, oMod, oNeg, oLt, oLe, oGt, oGe, oIsNone, oNotNone, oIsN2, oNotN2, oAll, oAny, oSum, oLen, oTuple, oList, oAbs, oInt, oIx, asBs, asIs, wipeE, itemsOf, iVal, lcLoop, lcTurn, dLc, tYesD, gSet, gAll, gTupD, zipD, Sk.iZip, List.zip_cons_cons, List.zip_nil_right, List.zip_nil_left, List.map_cons, List.map_nil, List.length_cons, List.length_nil, List.replicate_succ, List.replicate_zero, List.cons_append, List.nil_append, List.append_nil, List.getElem?_cons_zero, List.getElem?_cons_succ, List.set_cons_zero, List.set_cons_succ, Option.map_some, Option.bind_some, Nat.reduceAdd, Nat.reduceSub, Nat.reduceLeDiff, ite_true, ite_false, Bool.false_eq_true, Bool.not_true, Bool.not_false, if_true, if_false, reduceIte, reduceCtorEq, List.sum_cons, List.sum_nil, List.all_cons, List.all_nil, List.any_cons, List.any_nil, id_eq, Bool.and_true, Bool.true_and, Bool.or_false, Bool.false_or, Bool.and_self, Bool.false_and, Bool.and_false, Bool.true_or, Bool.or_true, Int.cast_ofNat_Int, beq_self_eq_true, Int.reduceBEq, Int.reduceLT, Int.reduceLE, decide_true, decide_false]
    refine Ev.guard ?_ ?_
    · cases hp : ratio a b with
      | none => simp only [ratD, bind_pure, lift_some, noX_pure, runDef, sNext, sSeq, sExpr, sRet, sRetN, sIf, sAsg, sPar2, sPar3, sAug, sOwn, sAppend, sFreeze, endOf, dVar, bVar, dC, dUn, dBin, dNil, dCons, dTup, dLst, dCall, asB, tVal, tAndD, tOrD, tNotD, dOfT, dIf, dAndV, dOrV, dNotV, oAdd, oAddI, oSub, oMod, oNeg, oLt, oLe, oGt, oGe, oIsNone, oNotNone, oIsN2, oNotN2, oAll, oAny, oSum, oLen, oTuple, oList, oAbs, oInt, oIx, asBs, asIs, wipeE, itemsOf, iVal, lcLoop, lcTurn, dLc, tYesD, gSet, gAll, gTupD, zipD, Sk.iZip, List.zip_cons_cons, List.zip_nil_right, List.zip_nil_left, List.map_cons, List.map_nil, List.length_cons, List.length_nil, List.replicate_succ, List.replicate_zero, List.cons_append, List.nil_append, List.append_nil, List.getElem?_cons_zero, List.getElem?_cons_succ, List.set_cons_zero, List.set_cons_succ, Option.map_some, Option.bind_some, Nat.reduceAdd, Nat.reduceSub, Nat.reduceLeDiff, ite_true, ite_false, Bool.false_eq_true, Bool.not_true, Bool.not_false, if_true, if_false, reduceIte, reduceCtorEq, List.sum_cons, List.sum_nil, List.all_cons, List.all_nil, List.any_cons, List.any_nil, id_eq, Bool.and_true, Bool.true_and, Bool.or_false, Bool.false_or, Bool.and_self, Bool.false_and, Bool.and_false, Bool.true_or, Bool.or_true, Int.cast_ofNat_Int, beq_self_eq_true, Int.reduceBEq, Int.reduceLT, Int.reduceLE, decide_true, decide_false]
      | some p =>
        have hs := ratio_swap na nb hp
        obtain ⟨t, ht, e⟩ := ratio_twice nb hp
        obtain ⟨bp1, bp2⟩ := rat_B Ba Bb hp nb
        obtain ⟨bt1, bt2⟩ := rat_B (show B 6 (times 2 a) by assumption) Bb ht nb
        have e_64 := oMul_b bt1 bp2 (by omega) (by omega)
        have e_65 := oMul_b B2 bp1 (by omega) (by omega)
        have b_66 : Bi 22 (2 * p.1) := (Bi.mul B2 bp1)
        have e_67 := oMul_b b_66 bt2 (by omega) (by omega)
        have e_68 := oMul_b bp1 bp1 (by omega) (by omega)
        have b_69 : Bi 40 (p.1 * p.1) := (Bi.mul bp1 bp1)
        have b_70 : Bi 10 (dot b b) := (B.dot Bb Bb)
        have e_71 := oMul_b b_69 b_70 (by omega) (by omega)
        have e_72 := oMul_b bp2 bp2 (by omega) (by omega)
        have b_73 : Bi 20 (p.2 * p.2) := (Bi.mul bp2 bp2)
        have b_74 : Bi 10 (dot a a) := (B.dot Ba Ba)
        have e_75 := oMul_b b_73 b_74 (by omega) (by omega)
        have t1 : (t.1 * p.2 == 2 * p.1 * t.2) = true := beq_iff_eq.mpr e
        have t2 : (p.1 * p.1 * dot b b == p.2 * p.2 * dot a a) = true := beq_iff_eq.mpr (by rw [dot_self, dot_self]; exact ratio_sq nb hp)
        simp only [e_1, e_2, e_5, e_6, e_7, e_10, e_11, e_12, e_15, e_16, e_17, e_19, e_41, e_43, e_44, e_49, e_50, e_51, e_52, e_53, e_55, e_56, e_57, e_64, e_65, e_67, e_68, e_71, e_72, e_75, hs, ht, ratD, oNe_int, oNe_pair, atI0, atI1, t1, t2, bind_pure, lift_some, noX_pure, runDef, sNext, sSeq, sExpr, sRet, sRetN, sIf, sAsg, sPar2, sPar3, sAug, sOwn, sAppend, sFreeze, endOf, dVar, bVar, dC, dUn, dBin, dNil, dCons, dTup, dLst, dCall, asB, tVal, tAndD, tOrD, tNotD, dOfT, dIf, dAndV, dOrV, dNotV, oAdd, oAddI, oSub, oMod, oNeg, oLt, oLe, oGt, oGe, oIsNone, oNotNone, oIsN2, oNotN2, oAll, oAny, oSum, oLen, oTuple, oList, oAbs, oInt, oIx, asBs, asIs, wipeE, itemsOf, iVal, lcLoop, lcTurn, dLc, tYesD, gSet, gAll, gTupD, zipD, Sk.iZip, List.zip_cons_cons, List.zip_nil_right, List.zip_nil_left, List.map_cons, List.map_nil, List.length_cons, List.length_nil, List.replicate_succ, List.replicate_zero, List.cons_append, List.nil_append, List.append_nil, List.getElem?_cons_zero, List.getElem?_cons_succ, List.set_cons_zero, List.set_cons_succ, Option.map_some, Option.bind_some, Nat.reduceAdd, Nat.reduceSub, Nat.reduceLeDiff, ite_true, ite_false, Bool.false_eq_true, Bool.not_true, Bool.not_false, if_true, if_false, reduceIte, reduceCtorEq, List.sum_cons, List.sum_nil, List.all_cons, List.all_nil, List.any_cons, List.any_nil, id_eq, Bool.and_true, Bool.true_and, Bool.or_false, Bool.false_or, Bool.and_self, Bool.false_and, Bool.and_false, Bool.true_or, Bool.or_true, Int.cast_ofNat_Int, beq_self_eq_true, Int.reduceBEq, Int.reduceLT, Int.reduceLE, decide_true, decide_false]
    refine Ev.seq (Q := fun e => ∃ k : Int, 0 < k ∧ k < 7 ∧ e = [.shr (.scr ns), .shr (.cel 0), .shr x, .shr (.int ((sq a * sq b : Nat) : Int)), .shr (.int k), .shr (tD a), .shr (tD b), .shr (tD c), .shr (tD d), .shr (ratD (ratio a b)), .shr (ratD (ratio b c)), .shr (ratD (ratio a c)), s12, s13, s14]) (Ev.asgB (Q := fun d => ∃ k : Int, 0 < k ∧ k < 7 ∧ d = .int k) ?_ fun d p => ?_) fun e p => ?_
    · simp only [bind_pure, lift_some, noX_pure, runDef, sNext, sSeq, sExpr, sRet, sRetN, sIf, sAsg, sPar2, sPar3, sAug, sOwn, sAppend, sFreeze, endOf, dVar, bVar, dC, dUn, dBin, dNil, dCons, dTup, dLst, dCall, asB, tVal, tAndD, tOrD, tNotD, dOfT, dIf, dAndV, dOrV, dNotV, oAdd, oAddI, oSub, oMod, oNeg, oLt, oLe, oGt, oGe, oIsNone, oNotNone, oIsN2, oNotN2, oAll, oAny, oSum, oLen, oTuple, oList, oAbs, oInt, oIx, asBs, asIs, wipeE, itemsOf, iVal, lcLoop, lcTurn, dLc, tYesD, gSet, gAll, gTupD, zipD, Sk.iZip, List.zip_cons_cons, List.zip_nil_right, List.zip_nil_left, List.map_cons, List.map_nil, List.length_cons, List.length_nil, List.replicate_succ, List.replicate_zero, List.cons_append, List.nil_append, List.append_nil, List.getElem?_cons_zero, List.getElem?_cons_succ, List.set_cons_zero, List.set_cons_succ, Option.map_some, Option.bind_some, Nat.reduceAdd, Nat.reduceSub, Nat.reduceLeDiff, ite_true, ite_false, Bool.false_eq_true, Bool.not_true, Bool.not_false, if_true, if_false, reduceIte, reduceCtorEq, List.sum_cons, List.sum_nil, List.all_cons, List.all_nil, List.any_cons, List.any_nil, id_eq, Bool.and_true, Bool.true_and, Bool.or_false, Bool.false_or, Bool.and_self, Bool.false_and, Bool.and_false, Bool.true_or, Bool.or_true, Int.cast_ofNat_Int, beq_self_eq_true, Int.reduceBEq, Int.reduceLT, Int.reduceLE, decide_true, decide_false]
      refine Ev.bind (f_take hns (by omega)) fun d p => ?_
      obtain ⟨n, rfl, h0, h1⟩ := p
      exact Ev.pure ⟨1 + n, by omega, by omega, rfl⟩
    · obtain ⟨k, h0, h1, rfl⟩ := p
      exact ⟨_, rfl, k, h0, h1, rfl⟩
    obtain ⟨k, k0, k1, rfl⟩ := p
    have Bk : Bi 3 k := by
      unfold Bi
      omega
    have nka := times_ne k0 na
    have nn := neg_ne (least_ne na)
    refine Ev.guard ?_ ?_
    · skip
      have e_76 := f_times_eq Bk Ba (by omega) (by omega)
      have b_77 : B 7 (times k a) := (B.times Bk Ba)
      have e_78 := f_least_eq b_77 (by omega) nka
      have e_79 := f_least_eq Ba (by omega) na
      have e_80 := f_is_same_eq b_77 Ba (by omega) (by omega) nka na
      have e_81 := f_opposite_eq Ba (by omega) na
      have b_82 : B 4 (neg (least a)) := (B.neg (B.least Ba na))
      have e_83 := f_least_eq b_82 (by omega) nn
      have e_84 := f_opposite_eq b_82 (by omega) nn
      have e_85 := f_opposite_eq Bb (by omega) nb
      have b_86 : B 4 (neg (least b)) := (B.neg (B.least Bb nb))
      have e_87 := f_angle_sign_eq Ba b_86 (by omega) (by omega) na (neg_ne (least_ne nb))
      have e_88 := f_angle_sign_eq Ba Bb (by omega) (by omega) na nb
      have t1 := least_times k0 a
      have t2 := least_opp na
      have t3 := sgn_opp (a := a) nb
      simp only [e_1, e_2, e_5, e_6, e_7, e_10, e_11, e_12, e_15, e_16, e_17, e_19, e_41, e_43, e_44, e_49, e_50, e_51, e_52, e_53, e_55, e_56, e_57, e_76, e_78, e_79, e_80, e_81, e_83, e_84, e_85, e_87, e_88, oNe_t3, oNe_int, t1, t2, t3, neg_neg, bind_pure, lift_some, noX_pure, runDef, sNext, sSeq, sExpr, sRet, sRetN, sIf, sAsg, sPar2, sPar3, sAug, sOwn, sAppend, sFreeze, endOf, dVar, bVar, dC, dUn, dBin, dNil, dCons, dTup, dLst, dCall, asB, tVal, tAndD, tOrD, tNotD, dOfT, dIf, dAndV, dOrV, dNotV, oAdd, oAddI, oSub, oMod, oNeg, oLt, oLe, oGt, oGe, oIsNone, oNotNone, oIsN2, oNotN2, oAll, oAny, oSum, oLen, oTuple, oList, oAbs, oInt, oIx, asBs, asIs, wipeE, itemsOf, iVal, lcLoop, lcTurn, dLc, tYesD, gSet, gAll, gTupD, zipD, Sk.iZip, List.zip_cons_cons, List.zip_nil_right, List.zip_nil_left, List.map_cons, List.map_nil, List.length_cons, List.length_nil, List.replicate_succ, List.replicate_zero, List.cons_append, List.nil_append, List.append_nil, List.getElem?_cons_zero, List.getElem?_cons_succ, List.set_cons_zero, List.set_cons_succ, Option.map_some, Option.bind_some, Nat.reduceAdd, Nat.reduceSub, Nat.reduceLeDiff, ite_true, ite_false, Bool.false_eq_true, Bool.not_true, Bool.not_false, if_true, if_false, reduceIte, reduceCtorEq, List.sum_cons, List.sum_nil, List.all_cons, List.all_nil, List.any_cons, List.any_nil, id_eq, Bool.and_true, Bool.true_and, Bool.or_false, Bool.false_or, Bool.and_self, Bool.false_and, Bool.and_false, Bool.true_or, Bool.or_true, Int.cast_ofNat_Int, beq_self_eq_true, Int.reduceBEq, Int.reduceLT, Int.reduceLE, decide_true, decide_false]
    refine Ev.ite (!decide (cross a b = z3)) ?_ (fun hl => ?_) (fun hl => Ev.pure ⟨_, rfl, _, _, _, _, _, _, _, _, _, _, _, _, _, rfl⟩)
    · skip
      have e_89 := f_is_on_line_eq Ba Bb (by omega) (by omega)
      simp only [e_1, e_2, e_5, e_6, e_7, e_10, e_11, e_12, e_15, e_16, e_17, e_19, e_41, e_43, e_44, e_49, e_50, e_51, e_52, e_53, e_55, e_56, e_57, e_89, bind_pure, lift_some, noX_pure, runDef, sNext, sSeq, sExpr, sRet, sRetN, sIf, sAsg, sPar2, sPar3, sAug, sOwn, sAppend, sFreeze, endOf, dVar, bVar, dC, dUn, dBin, dNil, dCons, dTup, dLst, dCall, asB, tVal, tAndD, tOrD, tNotD, dOfT, dIf, dAndV, dOrV, dNotV, oAdd, oAddI, oSub, oMod, oNeg, oLt, oLe, oGt, oGe, oIsNone, oNotNone, oIsN2, oNotN2, oAll, oAny, oSum, oLen, oTuple, oList, oAbs, oInt, oIx, asBs, asIs, wipeE, itemsOf, iVal, lcLoop, lcTurn, dLc, tYesD, gSet, gAll, gTupD, zipD, Sk.iZip, List.zip_cons_cons, List.zip_nil_right, List.zip_nil_left, List.map_cons, List.map_nil, List.length_cons, List.length_nil, List.replicate_succ, List.replicate_zero, List.cons_append, List.nil_append, List.append_nil, List.getElem?_cons_zero, List.getElem?_cons_succ, List.set_cons_zero, List.set_cons_succ, Option.map_some, Option.bind_some, Nat.reduceAdd, Nat.reduceSub, Nat.reduceLeDiff, ite_true, ite_false, Bool.false_eq_true, Bool.not_true, Bool.not_false, if_true, if_false, reduceIte, reduceCtorEq, List.sum_cons, List.sum_nil, List.all_cons, List.all_nil, List.any_cons, List.any_nil, id_eq, Bool.and_true, Bool.true_and, Bool.or_false, Bool.false_or, Bool.and_self, Bool.false_and, Bool.and_false, Bool.true_or, Bool.or_true, Int.cast_ofNat_Int, beq_self_eq_true, Int.reduceBEq, Int.reduceLT, Int.reduceLE, decide_true, decide_false]
    have n : cross a b ≠ z3 := by simpa using hl
    have e_90 := f_times_eq Bk Ba (by omega) (by omega)
    have e_91 := f_times_eq Bk Bb (by omega) (by omega)
    have e_92 := f_times_eq B2 Bb (by omega) (by omega)
    refine Ev.seq (Q := fun e => ∃ l : Int, 0 < l ∧ l < 7 ∧ e = [.shr (.scr ns), .shr (.cel 0), .shr x, .shr (.int ((sq a * sq b : Nat) : Int)), .shr (.int k), .shr (tD a), .shr (tD b), .shr (tD c), .shr (tD d), .shr (ratD (ratio a b)), .shr (ratD (ratio b c)), .shr (ratD (ratio a c)), .shr (tD (plus (times k a) (times l b))), s13, s14]) (Ev.asgB (Q := fun d => ∃ l : Int, 0 < l ∧ l < 7 ∧ d = tD (plus (times k a) (times l b))) ?_ fun d p => ?_) fun e p => ?_
    · simp only [e_1, e_2, e_5, e_6, e_7, e_10, e_11, e_12, e_15, e_16, e_17, e_19, e_41, e_43, e_44, e_49, e_50, e_51, e_52, e_53, e_55, e_56, e_57, e_90, e_91, e_92, bind_pure, lift_some, noX_pure, runDef, sNext, sSeq, sExpr, sRet, sRetN, sIf, sAsg, sPar2, sPar3, sAug, sOwn, sAppend, sFreeze, endOf, dVar, bVar, dC, dUn, dBin, dNil, dCons, dTup, dLst, dCall, asB, tVal, tAndD, tOrD, tNotD, dOfT, dIf, dAndV, dOrV, dNotV, oAdd, oAddI, oSub, oMod, oNeg, oLt, oLe, oGt, oGe, oIsNone, oNotNone, oIsN2, oNotN2, oAll, oAny, oSum, oLen, oTuple, oList, oAbs, oInt, oIx, asBs, asIs, wipeE, itemsOf, iVal, lcLoop, lcTurn, dLc, tYesD, gSet, gAll, gTupD, zipD, Sk.iZip, List.zip_cons_cons, List.zip_nil_right, List.zip_nil_left, List.map_cons, List.map_nil, List.length_cons, List.length_nil, List.replicate_succ, List.replicate_zero, List.cons_append, List.nil_append, List.append_nil, List.getElem?_cons_zero, List.getElem?_cons_succ, List.set_cons_zero, List.set_cons_succ, Option.map_some, Option.bind_some, Nat.reduceAdd, Nat.reduceSub, Nat.reduceLeDiff, ite_true, ite_false, Bool.false_eq_true, Bool.not_true, Bool.not_false, if_true, if_false, reduceIte, reduceCtorEq, List.sum_cons, List.sum_nil, List.all_cons, List.all_nil, List.any_cons, List.any_nil, id_eq, Bool.and_true, Bool.true_and, Bool.or_false, Bool.false_or, Bool.and_self, Bool.false_and, Bool.and_false, Bool.true_or, Bool.or_true, Int.cast_ofNat_Int, beq_self_eq_true, Int.reduceBEq, Int.reduceLT, Int.reduceLE, decide_true, decide_false, bind_assoc]
      refine Ev.bind (f_take hns (by omega)) fun d p => ?_
      obtain ⟨n, rfl, h0, h1⟩ := p
      have Bl : Bi 3 (1 + n) := by
        unfold Bi
        omega
      have e_93 := f_times_eq Bl Bb (by omega) (by omega)
      have b_94 : B 7 (times k a) := (B.times Bk Ba)
      have b_95 : B 7 (times (1 + n) b) := (B.times Bl Bb)
      have e_96 := f_plus_eq (a := (times k a)) (b := (times (1 + n) b))
      simp only [e_1, e_2, e_5, e_6, e_7, e_10, e_11, e_12, e_15, e_16, e_17, e_19, e_41, e_43, e_44, e_49, e_50, e_51, e_52, e_53, e_55, e_56, e_57, e_90, e_91, e_92, e_93, e_96, bind_pure, lift_some, noX_pure, runDef, sNext, sSeq, sExpr, sRet, sRetN, sIf, sAsg, sPar2, sPar3, sAug, sOwn, sAppend, sFreeze, endOf, dVar, bVar, dC, dUn, dBin, dNil, dCons, dTup, dLst, dCall, asB, tVal, tAndD, tOrD, tNotD, dOfT, dIf, dAndV, dOrV, dNotV, oAdd, oAddI, oSub, oMod, oNeg, oLt, oLe, oGt, oGe, oIsNone, oNotNone, oIsN2, oNotN2, oAll, oAny, oSum, oLen, oTuple, oList, oAbs, oInt, oIx, asBs, asIs, wipeE, itemsOf, iVal, lcLoop, lcTurn, dLc, tYesD, gSet, gAll, gTupD, zipD, Sk.iZip, List.zip_cons_cons, List.zip_nil_right, List.zip_nil_left, List.map_cons, List.map_nil, List.length_cons, List.length_nil, List.replicate_succ, List.replicate_zero, List.cons_append, List.nil_append, List.append_nil, List.getElem?_cons_zero, List.getElem?_cons_succ, List.set_cons_zero, List.set_cons_succ, Option.map_some, Option.bind_some, Nat.reduceAdd, Nat.reduceSub, Nat.reduceLeDiff, ite_true, ite_false, Bool.false_eq_true, Bool.not_true, Bool.not_false, if_true, if_false, reduceIte, reduceCtorEq, List.sum_cons, List.sum_nil, List.all_cons, List.all_nil, List.any_cons, List.any_nil, id_eq, Bool.and_true, Bool.true_and, Bool.or_false, Bool.false_or, Bool.and_self, Bool.false_and, Bool.and_false, Bool.true_or, Bool.or_true, Int.cast_ofNat_Int, beq_self_eq_true, Int.reduceBEq, Int.reduceLT, Int.reduceLE, decide_true, decide_false]
      exact Ev.pure ⟨1 + n, by omega, by omega, rfl⟩
    · obtain ⟨l, h0, h1, rfl⟩ := p
      exact ⟨_, rfl, l, h0, h1, rfl⟩
    obtain ⟨l, l0, l1, rfl⟩ := p
    have Bl : Bi 3 l := by
      unfold Bi
      omega
    have nm : plus (times k a) (times l b) ≠ z3 := mid_ne l0 n
    refine Ev.guard ?_ ?_
    · skip
      have e_97 := f_times_eq Bl Bb (by omega) (by omega)
      have b_98 : B 7 (times k a) := (B.times Bk Ba)
      have b_99 : B 7 (times l b) := (B.times Bl Bb)
      have e_100 := f_plus_eq (a := (times k a)) (b := (times l b))
      have b_101 : B 8 (plus (times k a) (times l b)) := (B.plus (B.mono (m := 7) b_98 (by omega)) (B.mono (m := 7) b_99 (by omega)))
      have e_102 := f_is_between_eq Ba b_101 Bb (by omega)
      have e_103 := f_is_between_eq Bb b_101 Ba (by omega)
      have e_104 := f_opposite_eq b_101 (by omega) nm
      have b_105 : B 8 (neg (least (plus (times k a) (times l b)))) := (B.neg (B.least b_101 nm))
      have e_106 := f_is_between_eq Ba b_105 Bb (by omega)
      have e_107 := f_is_between_eq b_101 Ba Bb (by omega)
      have e_108 := f_is_between_eq Ba Ba Bb (by omega)
      have e_109 := f_is_between_eq Ba b_3 Bb (by omega)
      simp only [e_1, e_2, e_5, e_6, e_7, e_10, e_11, e_12, e_15, e_16, e_17, e_19, e_41, e_43, e_44, e_49, e_50, e_51, e_52, e_53, e_55, e_56, e_57, e_90, e_91, e_92, e_97, e_100, e_102, e_103, e_104, e_106, e_107, e_108, e_109, btw_yes k0 l0 n, btw_yes' k0 l0 n, btw_opp k0 l0 n, btw_out k0 l0 n, btw_end, btw_normal n, bind_pure, lift_some, noX_pure, runDef, sNext, sSeq, sExpr, sRet, sRetN, sIf, sAsg, sPar2, sPar3, sAug, sOwn, sAppend, sFreeze, endOf, dVar, bVar, dC, dUn, dBin, dNil, dCons, dTup, dLst, dCall, asB, tVal, tAndD, tOrD, tNotD, dOfT, dIf, dAndV, dOrV, dNotV, oAdd, oAddI, oSub, oMod, oNeg, oLt, oLe, oGt, oGe, oIsNone, oNotNone, oIsN2, oNotN2, oAll, oAny, oSum, oLen, oTuple, oList, oAbs, oInt, oIx, asBs, asIs, wipeE, itemsOf, iVal, lcLoop, lcTurn, dLc, tYesD, gSet, gAll, gTupD, zipD, Sk.iZip, List.zip_cons_cons, List.zip_nil_right, List.zip_nil_left, List.map_cons, List.map_nil, List.length_cons, List.length_nil, List.replicate_succ, List.replicate_zero, List.cons_append, List.nil_append, List.append_nil, List.getElem?_cons_zero, List.getElem?_cons_succ, List.set_cons_zero, List.set_cons_succ, Option.map_some, Option.bind_some, Nat.reduceAdd, Nat.reduceSub, Nat.reduceLeDiff, ite_true, ite_false, Bool.false_eq_true, Bool.not_true, Bool.not_false, if_true, if_false, reduceIte, reduceCtorEq, List.sum_cons, List.sum_nil, List.all_cons, List.all_nil, List.any_cons, List.any_nil, id_eq, Bool.and_true, Bool.true_and, Bool.or_false, Bool.false_or, Bool.and_self, Bool.false_and, Bool.and_false, Bool.true_or, Bool.or_true, Int.cast_ofNat_Int, beq_self_eq_true, Int.reduceBEq, Int.reduceLT, Int.reduceLE, decide_true, decide_false]
    refine Ev.guardE ?_ ⟨_, rfl, _, _, _, _, _, _, _, _, _, _, _, _, _, rfl⟩
    have e_110 := f_opposite_eq Bb (by omega) nb
    have b_111 : B 7 (times k a) := (B.times Bk Ba)
    have b_112 : B 6 (times 2 b) := (B.times B2 Bb)
    have e_113 := f_are_alike_eq (B.mono (m := 7) Ba (by omega)) (B.mono (m := 7) Bb (by omega)) (B.mono (m := 7) b_111 (by omega)) (B.mono (m := 7) b_112 (by omega)) (by omega) na nb nka (times_ne (by omega) nb)
    have e_114 := f_are_alike_eq (B.mono (m := 4) Ba (by omega)) (B.mono (m := 4) Bb (by omega)) (B.mono (m := 4) Bb (by omega)) (B.mono (m := 4) Ba (by omega)) (by omega) na nb nb na
    have b_115 : B 4 (neg (least b)) := (B.neg (B.least Bb nb))
    have e_116 := f_are_alike_eq (B.mono (m := 4) Ba (by omega)) (B.mono (m := 4) Bb (by omega)) (B.mono (m := 4) Ba (by omega)) (B.mono (m := 4) b_115 (by omega)) (by omega) na nb na (neg_ne (least_ne nb))
    have t1 := alike_times na nb k0
    have z0 : ∀ y : Bool, tOrD (tAndD (fun _ => M.pure true) (fun _ => M.pure y)) (fun _ => M.pure y) [] = M.pure y := by
      intro y
      cases y <;> rfl
    cases hr : ratio a b with
    | none =>
      by_cases hd : dot a b = 0
      · cases hx : alike a b b a <;> cases hy : alike a b a (neg (least b)) <;> simp only [e_1, e_2, e_5, e_6, e_7, e_10, e_11, e_12, e_15, e_16, e_17, e_19, e_41, e_43, e_44, e_49, e_50, e_51, e_52, e_53, e_55, e_56, e_57, e_90, e_91, e_92, e_110, e_113, e_114, e_116, t1, hr, hd, hx, hy, ratD, oNe_int, bind_pure, lift_some, noX_pure, runDef, sNext, sSeq, sExpr, sRet, sRetN, sIf, sAsg, sPar2, sPar3, sAug, sOwn, sAppend, sFreeze, endOf, dVar, bVar, dC, dUn, dBin, dNil, dCons, dTup, dLst, dCall, asB, tVal, tAndD, tOrD, tNotD, dOfT, dIf, dAndV, dOrV, dNotV, oAdd, oAddI, oSub, oMod, oNeg, oLt, oLe, oGt, oGe, oIsNone, oNotNone, oIsN2, oNotN2, oAll, oAny, oSum, oLen, oTuple, oList, oAbs, oInt, oIx, asBs, asIs, wipeE, itemsOf, iVal, lcLoop, lcTurn, dLc, tYesD, gSet, gAll, gTupD, zipD, Sk.iZip, List.zip_cons_cons, List.zip_nil_right, List.zip_nil_left, List.map_cons, List.map_nil, List.length_cons, List.length_nil, List.replicate_succ, List.replicate_zero, List.cons_append, List.nil_append, List.append_nil, List.getElem?_cons_zero, List.getElem?_cons_succ, List.set_cons_zero, List.set_cons_succ, Option.map_some, Option.bind_some, Nat.reduceAdd, Nat.reduceSub, Nat.reduceLeDiff, ite_true, ite_false, Bool.false_eq_true, Bool.not_true, Bool.not_false, if_true, if_false, reduceIte, reduceCtorEq, List.sum_cons, List.sum_nil, List.all_cons, List.all_nil, List.any_cons, List.any_nil, id_eq, Bool.and_true, Bool.true_and, Bool.or_false, Bool.false_or, Bool.and_self, Bool.false_and, Bool.and_false, Bool.true_or, Bool.or_true, Int.cast_ofNat_Int, beq_self_eq_true, Int.reduceBEq, Int.reduceLT, Int.reduceLE, decide_true, decide_false]
      · have t2 := alike_opp nb hd
        cases hx : alike a b b a <;> simp only [e_1, e_2, e_5, e_6, e_7, e_10, e_11, e_12, e_15, e_16, e_17, e_19, e_41, e_43, e_44, e_49, e_50, e_51, e_52, e_53, e_55, e_56, e_57, e_90, e_91, e_92, e_110, e_113, e_114, e_116, t1, t2, hr, hx, ratD, oNe_int, bind_pure, lift_some, noX_pure, runDef, sNext, sSeq, sExpr, sRet, sRetN, sIf, sAsg, sPar2, sPar3, sAug, sOwn, sAppend, sFreeze, endOf, dVar, bVar, dC, dUn, dBin, dNil, dCons, dTup, dLst, dCall, asB, tVal, tAndD, tOrD, tNotD, dOfT, dIf, dAndV, dOrV, dNotV, oAdd, oAddI, oSub, oMod, oNeg, oLt, oLe, oGt, oGe, oIsNone, oNotNone, oIsN2, oNotN2, oAll, oAny, oSum, oLen, oTuple, oList, oAbs, oInt, oIx, asBs, asIs, wipeE, itemsOf, iVal, lcLoop, lcTurn, dLc, tYesD, gSet, gAll, gTupD, zipD, Sk.iZip, List.zip_cons_cons, List.zip_nil_right, List.zip_nil_left, List.map_cons, List.map_nil, List.length_cons, List.length_nil, List.replicate_succ, List.replicate_zero, List.cons_append, List.nil_append, List.append_nil, List.getElem?_cons_zero, List.getElem?_cons_succ, List.set_cons_zero, List.set_cons_succ, Option.map_some, Option.bind_some, Nat.reduceAdd, Nat.reduceSub, Nat.reduceLeDiff, ite_true, ite_false, Bool.false_eq_true, Bool.not_true, Bool.not_false, if_true, if_false, reduceIte, reduceCtorEq, List.sum_cons, List.sum_nil, List.all_cons, List.all_nil, List.any_cons, List.any_nil, id_eq, Bool.and_true, Bool.true_and, Bool.or_false, Bool.false_or, Bool.and_self, Bool.false_and, Bool.and_false, Bool.true_or, Bool.or_true, Int.cast_ofNat_Int, beq_self_eq_true, Int.reduceBEq, Int.reduceLT, Int.reduceLE, decide_true, decide_false]
    | some p =>
      have t3 := alike_swap na nb hr
      by_cases hd : dot a b = 0
      · cases hy : alike a b a (neg (least b)) <;> simp only [e_1, e_2, e_5, e_6, e_7, e_10, e_11, e_12, e_15, e_16, e_17, e_19, e_41, e_43, e_44, e_49, e_50, e_51, e_52, e_53, e_55, e_56, e_57, e_90, e_91, e_92, e_110, e_113, e_114, e_116, t1, t3, hd, hy, ratD, oNe_int, bind_pure, lift_some, noX_pure, runDef, sNext, sSeq, sExpr, sRet, sRetN, sIf, sAsg, sPar2, sPar3, sAug, sOwn, sAppend, sFreeze, endOf, dVar, bVar, dC, dUn, dBin, dNil, dCons, dTup, dLst, dCall, asB, tVal, tAndD, tOrD, tNotD, dOfT, dIf, dAndV, dOrV, dNotV, oAdd, oAddI, oSub, oMod, oNeg, oLt, oLe, oGt, oGe, oIsNone, oNotNone, oIsN2, oNotN2, oAll, oAny, oSum, oLen, oTuple, oList, oAbs, oInt, oIx, asBs, asIs, wipeE, itemsOf, iVal, lcLoop, lcTurn, dLc, tYesD, gSet, gAll, gTupD, zipD, Sk.iZip, List.zip_cons_cons, List.zip_nil_right, List.zip_nil_left, List.map_cons, List.map_nil, List.length_cons, List.length_nil, List.replicate_succ, List.replicate_zero, List.cons_append, List.nil_append, List.append_nil, List.getElem?_cons_zero, List.getElem?_cons_succ, List.set_cons_zero, List.set_cons_succ, Option.map_some, Option.bind_some, Nat.reduceAdd, Nat.reduceSub, Nat.reduceLeDiff, ite_true, ite_false, Bool.false_eq_true, Bool.not_true, Bool.not_false, if_true, if_false, reduceIte, reduceCtorEq, List.sum_cons, List.sum_nil, List.all_cons, List.all_nil, List.any_cons, List.any_nil, id_eq, Bool.and_true, Bool.true_and, Bool.or_false, Bool.false_or, Bool.and_self, Bool.false_and, Bool.and_false, Bool.true_or, Bool.or_true, Int.cast_ofNat_Int, beq_self_eq_true, Int.reduceBEq, Int.reduceLT, Int.reduceLE, decide_true, decide_false]
      · have t2 := alike_opp nb hd
        simp only [e_1, e_2, e_5, e_6, e_7, e_10, e_11, e_12, e_15, e_16, e_17, e_19, e_41, e_43, e_44, e_49, e_50, e_51, e_52, e_53, e_55, e_56, e_57, e_90, e_91, e_92, e_110, e_113, e_114, e_116, t1, t2, t3, ratD, oNe_int, bind_pure, lift_some, noX_pure, runDef, sNext, sSeq, sExpr, sRet, sRetN, sIf, sAsg, sPar2, sPar3, sAug, sOwn, sAppend, sFreeze, endOf, dVar, bVar, dC, dUn, dBin, dNil, dCons, dTup, dLst, dCall, asB, tVal, tAndD, tOrD, tNotD, dOfT, dIf, dAndV, dOrV, dNotV, oAdd, oAddI, oSub, oMod, oNeg, oLt, oLe, oGt, oGe, oIsNone, oNotNone, oIsN2, oNotN2, oAll, oAny, oSum, oLen, oTuple, oList, oAbs, oInt, oIx, asBs, asIs, wipeE, itemsOf, iVal, lcLoop, lcTurn, dLc, tYesD, gSet, gAll, gTupD, zipD, Sk.iZip, List.zip_cons_cons, List.zip_nil_right, List.zip_nil_left, List.map_cons, List.map_nil, List.length_cons, List.length_nil, List.replicate_succ, List.replicate_zero, List.cons_append, List.nil_append, List.append_nil, List.getElem?_cons_zero, List.getElem?_cons_succ, List.set_cons_zero, List.set_cons_succ, Option.map_some, Option.bind_some, Nat.reduceAdd, Nat.reduceSub, Nat.reduceLeDiff, ite_true, ite_false, Bool.false_eq_true, Bool.not_true, Bool.not_false, if_true, if_false, reduceIte, reduceCtorEq, List.sum_cons, List.sum_nil, List.all_cons, List.all_nil, List.any_cons, List.any_nil, id_eq, Bool.and_true, Bool.true_and, Bool.or_false, Bool.false_or, Bool.and_self, Bool.false_and, Bool.and_false, Bool.true_or, Bool.or_true, Int.cast_ofNat_Int, beq_self_eq_true, Int.reduceBEq, Int.reduceLT, Int.reduceLE, decide_true, decide_false]
  · obtain ⟨s2, s3, s4, s5, s6, s7, s8, s9, s10, s11, s12, s13, s14, rfl⟩ := he
    have e := (roots_eq (env := [.shr (.scr ns), .shr (.cel 0), s2, s3, s4, s5, s6, s7, s8, s9, s10, s11, s12, s13, s14])).resolve_right (by simp)
    have q : oEq (.lst [.int 0, .int 1, .non, .non, .int 2, .non, .non, .non, .non, .int 3, .non, .non, .non, .non, .non, .non, .int 4]) (.lst [.int 0, .int 1, .non, .non, .int 2, .non, .non, .non, .non, .int 3, .non, .non, .non, .non, .non, .non, .int 4]) = M.pure (.bl true) := rfl
    unfold sRet
    unfold dBin
    rw [e]
    simp only [bind_pure, lift_some, noX_pure, runDef, sNext, sSeq, sExpr, sRet, sRetN, sIf, sAsg, sPar2, sPar3, sAug, sOwn, sAppend, sFreeze, endOf, dVar, bVar, dC, dUn, dBin, dNil, dCons, dTup, dLst, dCall, asB, tVal, tAndD, tOrD, tNotD, dOfT, dIf, dAndV, dOrV, dNotV, oAdd, oAddI, oSub, oMod, oNeg, oLt, oLe, oGt, oGe, oIsNone, oNotNone, oIsN2, oNotN2, oAll, oAny, oSum, oLen, oTuple, oList, oAbs, oInt, oIx, asBs, asIs, wipeE, itemsOf, iVal, lcLoop, lcTurn, dLc, tYesD, gSet, gAll, gTupD, zipD, Sk.iZip, List.zip_cons_cons, List.zip_nil_right, List.zip_nil_left, List.map_cons, List.map_nil, List.length_cons, List.length_nil, List.replicate_succ, List.replicate_zero, List.cons_append, List.nil_append, List.append_nil, List.getElem?_cons_zero, List.getElem?_cons_succ, List.set_cons_zero, List.set_cons_succ, Option.map_some, Option.bind_some, Nat.reduceAdd, Nat.reduceSub, Nat.reduceLeDiff, ite_true, ite_false, Bool.false_eq_true, Bool.not_true, Bool.not_false, if_true, if_false, reduceIte, reduceCtorEq, List.sum_cons, List.sum_nil, List.all_cons, List.all_nil, List.any_cons, List.any_nil, id_eq, Bool.and_true, Bool.true_and, Bool.or_false, Bool.false_or, Bool.and_self, Bool.false_and, Bool.and_false, Bool.true_or, Bool.or_true, Int.cast_ofNat_Int, beq_self_eq_true, Int.reduceBEq, Int.reduceLT, Int.reduceLE, decide_true, decide_false, q]
    exact Ev.pure rfl
  · subst p
    exact Ev.pure rfl
end Lw

open PySem PySem.W PySem.Calls PyProof.Rows Sk
set_option maxRecDepth 100000 in
set_option maxHeartbeats 8000000 in
theorem PySem.Challenge.cw_skyplaced_k48_numbers_of_triples_holds : PySem.Challenge.rw_skyplaced_k48_numbers_of_triples.Holds := by
  w_on; o_law
  refine HandSHeadRun.head_any (r := OpenLaw.row PySem.Challenge.rw_skyplaced_k48_numbers_of_triples) (q := view (OpenLaw.row PySem.Challenge.rw_skyplaced_k48_numbers_of_triples).prog [30]) (H := Lw.hk) (ob := Lw.ob) (M := 6000) (loose := ["SkyError", "BadPart", "is_integer", "common", "lowest", "is_triple", "check_triple", "least", "is_same", "opposite", "dot", "cross", "det", "plus", "times", "is_on_line", "root", "ratio", "are_alike", "size_of", "angle_sign", "is_between", "_law_number", "_law_take", "_law_pick", "_law_sky"]) (d := HandSHeadRun.topDef (OpenLaw.row PySem.Challenge.rw_skyplaced_k48_numbers_of_triples).prog 30) (kwd := []) Lw.ob_eq
    (by kernel_rfl) (fun s => by kernel_rfl) Lw.run (by kernel_rfl) (by kernel_rfl) (by kernel_rfl) (by rfl) (by first | assumption | decide +kernel) (by decide +kernel) ⟨rfl, rfl, rfl, rfl, rfl, by decide +kernel⟩ ?hw ?hc
  case hw => w_witness2
  case hc =>
    refine Sk.walk_M (l := PySem.Challenge.rw_skyplaced_k48_numbers_of_triples) (k := 6) rfl (by kernel_rfl) ⟨rfl, by decide, by decide⟩ Lw.f_law ?F Lw.law_true
    intro w mg fa h Y G hmg0
    obtain ⟨K, KX, c⟩ := Y
    have hmg : mg ("law" : PySem.Str) = some (.ref fa) := by
      have e : (HandSHeadRun.topDef (OpenLaw.row PySem.Challenge.rw_skyplaced_k48_numbers_of_triples).prog 30).name = ("law" : PySem.Str) := by kernel_rfl
      rw [← e]
      exact hmg0
    obtain ⟨fd, hb, hF⟩ := Lw.facts (P := (PySem.Challenge.rw_skyplaced_k48_numbers_of_triples).prog) (w := w) (L := ⟨fun _ => 0, fun _ => []⟩) KX G hmg c
    exact ⟨K, _, fd, KX, hb, hF⟩
